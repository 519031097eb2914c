import PyProof.Rows.All
import HandS.ForMost
import HandS.Flow
import HandS.Style
import HandS.Deep
import HandS.TupAny
import HandS.TupMul
import HandS.IsInst
import HandS.SortInts
import HandS.SortRule
import HandS.Conv
import HandS.Zip
import HandS.WideMore
import KE.SortData
import KE.DataMinMax
import PyProof.Rows.InDataRows
import KE.KTupSum
import PyProof.ListIndexNeg
import HandS.Strs
import HandS.More
import HandS.Text
import PyProof.FactsAll.list_0
import PyProof.FactsAll.tuple_0
import PyProof.FactsAll.str_0
import HandS.Iter
import KE.GoesEnum
import KE.GoesMore
import HandS.Set
import PyProof.WalksMore
import PyProof.Rows.SetFrom
import HandS.Ends
import PySem.Challenge.RW_suitsall_k51_whole_fair_turns
set_option Elab.async false
set_option linter.all false
set_option maxRecDepth 100000
/-! Mp: a small language of its own: values as trees, a heap of lists by places, an interpreter; the text of a def is turned into it. -/
namespace Mp
open PySem PySem.Spec PyProof.Rows L2

/-- a value: a tuple by its items; lst: a list just made, that nothing else holds; ref: a list of the heap; fz: a list of ints that stands as it is (the script) -/
inductive D where
  | non | bl (b : Bool) | int (i : Int) | str (s : Str) | tup (xs : List D) | lst (xs : List D) | ref (i : Nat) | fz (ns : List Int)
  deriving Inhabited
/-! ### equality of values -/
mutual
def D.beq : D → D → Bool
  | .non, .non => true
  | .bl a, .bl b => a == b
  | .int a, .int b => a == b
  | .str a, .str b => a == b
  | .tup xs, .tup ys => D.beqs xs ys
  | .lst xs, .lst ys => D.beqs xs ys
  | .ref a, .ref b => a == b
  | .fz a, .fz b => a == b
  | _, _ => false
def D.beqs : List D → List D → Bool
  | [], [] => true
  | x :: xs, y :: ys => D.beq x y && D.beqs xs ys
  | _, _ => false
end
mutual
theorem D.beq_eq : ∀ a b : D, D.beq a b = true → a = b
  | .non, b, h => by cases b <;> simp [D.beq] at h ⊢
  | .bl a, b, h => by cases b <;> simp [D.beq] at h ⊢; exact h
  | .int a, b, h => by cases b <;> simp [D.beq] at h ⊢; exact h
  | .str a, b, h => by cases b <;> simp [D.beq] at h ⊢; exact h
  | .tup xs, b, h => by
    cases b <;> simp [D.beq] at h ⊢
    exact D.beqs_eq xs _ h
  | .lst xs, b, h => by
    cases b <;> simp [D.beq] at h ⊢
    exact D.beqs_eq xs _ h
  | .ref a, b, h => by cases b <;> simp [D.beq] at h ⊢; exact h
  | .fz a, b, h => by cases b <;> simp [D.beq] at h ⊢; exact h
theorem D.beqs_eq : ∀ a b : List D, D.beqs a b = true → a = b
  | [], b, h => by cases b <;> simp [D.beqs] at h ⊢
  | x :: xs, b, h => by
    cases b with
    | nil => simp [D.beqs] at h
    | cons y ys =>
      simp only [D.beqs, Bool.and_eq_true] at h
      rw [D.beq_eq x y h.1, D.beqs_eq xs ys h.2]
end
mutual
theorem D.beq_refl : ∀ a : D, D.beq a a = true
  | .non => rfl
  | .bl a => by simp [D.beq]
  | .int a => by simp [D.beq]
  | .str a => by simp [D.beq]
  | .tup xs => by simp only [D.beq]; exact D.beqs_refl xs
  | .lst xs => by simp only [D.beq]; exact D.beqs_refl xs
  | .ref a => by simp [D.beq]
  | .fz a => by simp [D.beq]
theorem D.beqs_refl : ∀ a : List D, D.beqs a a = true
  | [] => rfl
  | x :: xs => by simp only [D.beqs, Bool.and_eq_true]; exact ⟨D.beq_refl x, D.beqs_refl xs⟩
end
instance : DecidableEq D := fun a b => match h : D.beq a b with
  | true => isTrue (D.beq_eq a b h)
  | false => isFalse fun e => by rw [e, D.beq_refl] at h; cases h
inductive O where
  | lst (xs : List D)
  deriving Inhabited, DecidableEq
abbrev Hm := List O
/-- what an evaluation comes to -/
inductive R (α : Type) where
  | ok (a : α) (h : Hm)
  | exc (c : Nat) (x : D) (h : Hm)
  | no
def R.bind {α β : Type} (r : R α) (f : α → Hm → R β) : R β := match r with
  | .ok a h => f a h
  | .exc c x h => .exc c x h
  | .no => .no
theorem R.bind_ok {α β : Type} (a : α) (h : Hm) (f : α → Hm → R β) : (R.ok a h).bind f = f a h := rfl
theorem R.bind_no {α β : Type} (f : α → Hm → R β) : (R.no : R α).bind f = .no := rfl
def R.of {α : Type} (o : Option α) (h : Hm) : R α := match o with
  | some a => .ok a h
  | none => .no
theorem R.of_some {α : Type} (a : α) (h : Hm) : R.of (some a) h = .ok a h := rfl
theorem R.of_none {α : Type} (h : Hm) : (R.of none h : R α) = .no := rfl
abbrev Stm := List (Option D)


/-! ### values that hold no place of the heap from n on -/
mutual
def below (n : Nat) : D → Bool
  | .tup xs => belows n xs
  | .lst xs => belows n xs
  | .ref i => decide (i < n)
  | _ => true
def belows (n : Nat) : List D → Bool
  | [] => true
  | x :: xs => below n x && belows n xs
end
def O.below (n : Nat) : O → Bool
  | .lst xs => belows n xs

/-! ### lists of the heap -/
def asL (h : Hm) : D → Option (List D)
  | .lst xs => some xs
  | .ref i => match h[i]? with
    | some (.lst xs) => some xs
    | _ => none
  | _ => none
/-- a list's or a tuple's items -/
def asQ (h : Hm) : D → Option (List D)
  | .tup xs => some xs
  | d => asL h d
/-- a new list gets a place -/
def mat1 : D → Hm → D × Hm
  | .lst xs, h => (.ref h.length, h ++ [.lst xs])
  | d, h => (d, h)
def mats : List D → Hm → List D × Hm
  | [], h => ([], h)
  | d :: ds, h => let p := mat1 d h; let q := mats ds p.2; (p.1 :: q.1, q.2)
def truth (h : Hm) : D → Option Bool
  | .non => some false
  | .bl b => some b
  | .int i => some (i != 0)
  | .str s => if s.length ≤ 16777216 then some ((s.length : Int) != 0) else none
  | .tup xs => some (!xs.isEmpty)
  | d => (asL h d).map fun xs => !xs.isEmpty

/-! ### data -/
mutual
def toP (f : Nat → Option PyData) : D → Option PyData
  | .non => some .none
  | .bl b => some (.bool b)
  | .int i => some (.int i)
  | .str s => some (.str s)
  | .tup xs => (toPs f xs).map .tuple
  | .lst xs => (toPs f xs).map .list
  | .ref i => f i
  | .fz _ => none
def toPs (f : Nat → Option PyData) : List D → Option (List PyData)
  | [] => some []
  | x :: xs => match toP f x, toPs f xs with
    | some p, some r => some (p :: r)
    | _, _ => none
end
def refP (h : Hm) : Nat → Nat → Option PyData
  | 0, _ => none
  | n + 1, i => match h[i]? with
    | some (.lst xs) => (toPs (refP h n) xs).map .list
    | none => none
def datum (h : Hm) (d : D) : Option PyData := toP (refP h 4) d
/-- x == y -/
def deq (h : Hm) (x y : D) : Option Bool := match datum h x, datum h y with
  | some p, some q => if SeqAt.shaped p && SeqAt.shaped q then some (PyData.eqv p q) else none
  | _, _ => none
end Mp

namespace Mp
open PySem PySem.Spec PyProof.Rows L2
/-! ### the text -/
inductive Bop where
  | add | sub | mul | fdiv | mod | pow | shl
  deriving DecidableEq, Repr
inductive Cop where
  | lt | le | gt | ge | eq | ne | is | isn | inn | nin
  deriving DecidableEq, Repr
inductive Bi where
  | len | tuple | list | sorted | sum | max | min | all | any | int | str | abs | max2 | min2
  deriving DecidableEq, Repr
inductive Me where
  | append | pop | popAt | insert | index | extend | count | remove | join | upper
  deriving DecidableEq, Repr
inductive Ty where
  | int | str | bool | tuple | list
  deriving DecidableEq, Repr
/-- expressions; lists of them (nil, cons); what a loop walks; targets (nm, tp, ix) -/
inductive E where
  | non | bl (b : Bool) | int (i : Int) | str (s : Str) | var (i : Nat) | cst (i : Nat)
  | op (o : Bop) (a b : E) | neg (a : E) | cmp (o : Cop) (a b : E) | chain (o p : Cop) (a b c : E)
  | and (a b : E) | or (a b : E) | not (a : E) | ite (c a b : E)
  | tup (es : E) | lst (es : E) | nil | cons (a as : E)
  | ix (a i : E) | sl (a lo hi : E) | rev (a : E)
  | call (f : Nat) (es : E) | bi (b : Bi) (es : E) | me (m : Me) (o es : E) | isi (a : E) (ts : List Ty)
  | comp (elt : E) (own : List Nat) (tg it cs : E)
  | comp2 (elt : E) (own : List Nat) (tg it cs : E) (own1 : List Nat) (tg1 it1 cs1 : E)
  | listRange (es : E) | tupRange (es : E) | lenSet (e : E) | sortSet (e : E)
  | range (es : E) | rangeLen (e : E) | zip (es : E) | enum (e : E) | revd (e : E)
  | nm (i : Nat) | tp (es : E)
  deriving DecidableEq, Repr
inductive S where
  | nop | seq (a b : S) | ex (e : E) | set (tg e : E) | set2 (tg tg2 e : E) | par2 (i j : Nat) (a b : E) | par3 (i j k : Nat) (a b c : E)
  | aug (i : Nat) (o : Bop) (e : E) | augIx (a i : E) (o : Bop) (e : E)
  | ite (c : E) (a b : S) | loop (tg it : E) (b : S) | whl (c : E) (b : S) | ret (e : E) | retn | brk | cnt
  deriving DecidableEq, Repr
structure Fn where
  np : Nat
  nl : Nat
  /-- 0: as it is; 1: the heap stands as before; 2: what is new is dropped -/
  mode : Nat
  body : S

/-! ### operators -/
def small (i : Int) : Bool := decide (-(2 ^ 64) < i ∧ i < 2 ^ 64)
def cutD {α : Type} (xs : List α) (lo hi : Option Int) : List α := (xs.drop (HT.sIx xs.length 0 lo)).take (HT.sIx xs.length xs.length hi - HT.sIx xs.length 0 lo)
def sz {α : Type} (a b : Nat) (x : α) : Option α := if a + b ≤ 16777216 then some x else none
def addL (h : Hm) (x y : D) : Option D := match asL h x, asL h y with
  | some xs, some ys => sz xs.length ys.length (.lst (xs ++ ys))
  | _, _ => none
def addD (h : Hm) (x y : D) : Option D := match x, y with
  | .int a, .int b => some (.int (a + b))
  | .str a, .str b => sz a.length b.length (.str (a ++ b))
  | .tup xs, .tup ys => sz xs.length ys.length (.tup (xs ++ ys))
  | x, y => addL h x y
def subD (x y : D) : Option D := match x, y with
  | .int a, .int b => some (.int (a - b))
  | _, _ => none
def mulL (h : Hm) (x : D) (k : Int) : Option D := match asL h x with
  | some xs => if -(2 ^ 63) ≤ k ∧ k < 2 ^ 63 ∧ xs.length * k.toNat ≤ 16777216 then some (.lst (List.replicate k.toNat xs).flatten) else none
  | none => none
def mulD (h : Hm) (x y : D) : Option D := match x, y with
  | .int a, .int b => if small a || small b then some (.int (a * b)) else none
  | .tup xs, .int k => if -(2 ^ 63) ≤ k ∧ k < 2 ^ 63 ∧ xs.length * k.toNat ≤ 1000000 then some (.tup (List.replicate k.toNat xs).flatten) else none
  | x, .int k => mulL h x k
  | _, _ => none
def fdivD (x y : D) : Option D := match x, y with
  | .int a, .int b => if 0 < b ∧ b < 18446744073709551616 then some (.int (a / b)) else none
  | _, _ => none
def modD (x y : D) : Option D := match x, y with
  | .int a, .int b => if 0 < b then some (.int (a % b)) else none
  | _, _ => none
def powD (x y : D) : Option D := match x, y with
  | .int a, .int b => if 0 ≤ b ∧ b ≤ 1000000 ∧ a.natAbs < 2 ^ 64 then some (.int (a ^ b.toNat)) else none
  | _, _ => none
def shlD (x y : D) : Option D := match x, y with
  | .int a, .int b => if 0 ≤ b ∧ b ≤ 1000000 ∧ a.natAbs < 2 ^ 64 then some (.int (a * 2 ^ b.toNat)) else none
  | _, _ => none
def bop (h : Hm) : Bop → D → D → Option D
  | .add => addD h
  | .sub => subD
  | .mul => mulD h
  | .fdiv => fdivD
  | .mod => modD
  | .pow => powD
  | .shl => shlD
/-- op= -/
def augD (h : Hm) (o : Bop) (x y : D) : Option D := match x, y with
  | .int _, .int _ => bop h o x y
  | .str _, .str _ => bop h o x y
  | _, _ => none
def augI (o : Bop) (x y : D) : Option D := match x, y with
  | .int _, .int _ => bop [] o x y
  | _, _ => none
def negD : D → Option D
  | .int a => some (.int (-a))
  | _ => none

/-! ### comparisons -/
def allInts : List D → Option (List Int)
  | [] => some []
  | .int i :: r => (allInts r).map (i :: ·)
  | _ => none
def allBls : List D → Option (List Bool)
  | [] => some []
  | .bl i :: r => (allBls r).map (i :: ·)
  | _ => none
def ltD (x y : D) : Option Bool := match x, y with
  | .int a, .int b => some (decide (a < b))
  | .str a, .str b => some (decide (a.cps.toList < b.cps.toList))
  | .tup xs, .tup ys => match allInts xs, allInts ys with
    | some ns, some ms => some (HT.lexLt ns ms)
    | _, _ => none
  | _, _ => none
def leD (x y : D) : Option Bool := match x, y with
  | .int a, .int b => some (decide (a ≤ b))
  | _, _ => none
def gtD (x y : D) : Option Bool := match x, y with
  | .int a, .int b => some (decide (b < a))
  | _, _ => none
def geD (x y : D) : Option Bool := match x, y with
  | .int a, .int b => some (decide (b ≤ a))
  | _, _ => none
def eqD (h : Hm) (x y : D) : Option Bool := match x, y with
  | .int a, .int b => some (decide (a = b))
  | .str a, .str b => some (decide (a = b))
  | .bl a, .bl b => some (decide (a = b))
  | x, y => deq h x y
def isD (x y : D) : Option Bool := match x, y with
  | .bl a, .bl b => some (decide (a = b))
  | x, .non => some (decide (x = .non))
  | _, _ => none
/-- x in ys, ys a list or a tuple -/
def inQ (h : Hm) (x : D) (ys : List D) : Option Bool := match datum h x, toPs (refP h 4) ys with
  | some p, some qs => if SeqAt.shaped p && SeqAt.shaped (.list qs) then some (qs.any fun z => PyData.eqv z p) else none
  | _, _ => none
def inSeq (h : Hm) (x y : D) : Option Bool := match asQ h y with
  | some ys => inQ h x ys
  | none => none
def inD (h : Hm) (x y : D) : Option Bool := match x, y with
  | .str a, .str b => match a.cps.toList with
    | [c] => some (decide (c ∈ b.cps.toList))
    | _ => none
  | x, y => inSeq h x y
def cop (h : Hm) : Cop → D → D → Option Bool
  | .lt => ltD
  | .le => leD
  | .gt => gtD
  | .ge => geD
  | .eq => eqD h
  | .ne => fun x y => (eqD h x y).map (!·)
  | .is => isD
  | .isn => fun x y => (isD x y).map (!·)
  | .inn => inD h
  | .nin => fun x y => (inD h x y).map (!·)

/-- .. where the right one goes on to be compared: it is no list just made -/
def copM (h : Hm) (o : Cop) (x y : D) : Option Bool := match y with
  | .lst _ => none
  | y => cop h o x y

/-! ### subscripts -/
def ixL (h : Hm) (x : D) (i : Int) : Option D := match asL h x with
  | some xs => atI xs i
  | none => none
def ixD (h : Hm) (x y : D) : Option D := match x, y with
  | .tup xs, .int i => atI xs i
  | .str s, .int i => if s.length ≤ 16777216 then (atI s.cps.toList i).map fun c => .str ⟨#[c]⟩ else none
  | x, .int i => ixL h x i
  | _, _ => none
def slD (h : Hm) (x : D) (lo hi : Option Int) : Option D := match x with
  | .fz ns => some (.lst ((cutD ns lo hi).map .int))
  | .tup xs => some (.tup (cutD xs lo hi))
  | .str s => if s.length ≤ 16777216 then some (.str (cutS s lo hi)) else none
  | x => (asL h x).map fun xs => .lst (cutD xs lo hi)
def revD (h : Hm) (x : D) : Option D := match x with
  | .tup xs => some (.tup xs.reverse)
  | x => (asL h x).map fun xs => .lst xs.reverse
def setIx (h : Hm) (o i v : D) : Option Hm := match o, i with
  | .ref p, .int k => match h[p]? with
    | some (.lst xs) => match ixN xs.length k with
      | some j => some (h.set p (.lst (xs.set j v)))
      | none => none
    | _ => none
  | _, _ => none

/-! ### built-in functions -/
def insBy {α : Type} (le : α → α → Bool) (x : α) : List α → List α
  | [] => [x]
  | y :: ys => if le x y then x :: y :: ys else y :: insBy le x ys
/-- the stable sorted list -/
def sortBy {α : Type} (le : α → α → Bool) : List α → List α
  | [] => []
  | x :: xs => insBy le x (sortBy le xs)
def leI (a b : Int) : Bool := decide (a ≤ b)
def alikeAllB (ps : List PyData) : Bool := ps.all fun p => ps.all fun q => PySem.W.alike p q
def tupB : PyData → Bool
  | .tuple (_ :: _) => true
  | _ => false
def flatB : PyData → Bool
  | .none => false
  | .tuple _ => false
  | _ => true
def sortableB (ps : List PyData) : Bool := ps.all tupB || ps.all flatB
def leP (a b : D × PyData) : Bool := PySem.W.dataLe false (fun p : D × PyData => p.2) a b
def sortedD (h : Hm) (xs : List D) : Option D := match allInts xs with
  | some ns => some (.lst ((sortBy leI ns).map .int))
  | none => match toPs (refP h 4) xs with
    | some ps => if alikeAllB ps && sortableB ps && decide (∀ p ∈ ps, p.depth ≤ 64) then some (.lst ((sortBy leP (xs.zip ps)).map (·.1))) else none
    | none => none
def lenD (h : Hm) (x : D) : Option D := match x with
  | .fz ns => some (.int ns.length)
  | .str s => if s.length ≤ 16777216 then some (.int s.length) else none
  | x => (asQ h x).map fun xs => .int xs.length
def sumD (h : Hm) (x : D) : Option D := match asQ h x with
  | some xs => (allInts xs).map fun ns => .int ns.sum
  | none => none
def maxD (h : Hm) (x : D) : Option D := match asQ h x with
  | some xs => match allInts xs with
    | some (n :: ns) => some (.int (ns.foldl max n))
    | _ => none
  | none => none
def someB : PyData → Bool
  | .none => false
  | _ => true
/-- the first of the least items of plain data that are alike -/
def minZ (lt : PyData → PyData → Bool) (z : D × PyData) (zs : List (D × PyData)) : D × PyData := zs.foldl (fun a y => if lt y.2 a.2 then y else a) z
def minPD (xs : List D) : Option D := match toPs (fun _ => none) xs with
  | some ps => if alikeAllB ps && ps.all someB && decide (PyData.depthAll ps ≤ 30) then match xs.zip ps with
    | z :: zs => some (minZ PySem.W.dataLt z zs).1
    | [] => none
    else none
  | none => none
def minD (h : Hm) (x : D) : Option D := match asQ h x with
  | some xs => match allInts xs with
    | some (n :: ns) => some (.int (ns.foldl min n))
    | some [] => none
    | none => minPD xs
  | none => none
def allD (h : Hm) (x : D) : Option D := match asL h x with
  | some xs => (allBls xs).map fun ns => .bl (ns.all id)
  | none => none
def anyD (h : Hm) (x : D) : Option D := match asL h x with
  | some xs => (allBls xs).map fun ns => .bl (ns.any id)
  | none => none
def intD : D → Option D
  | .int i => some (.int i)
  | .bl b => some (.int (if b then 1 else 0))
  | _ => none
def strD : D → Option D
  | .int i => if i.natAbs.log2 < 1920 then some (.str (toString i)) else none
  | _ => none
def absD : D → Option D
  | .int i => some (.int (if i < 0 then -i else i))
  | _ => none
def bi (h : Hm) (b : Bi) (ds : List D) : Option D := match b, ds with
  | .len, [x] => lenD h x
  | .tuple, [x] => (asQ h x).map .tup
  | .list, [x] => (asQ h x).map .lst
  | .sorted, [x] => match asQ h x with
    | some xs => sortedD h xs
    | none => none
  | .sum, [x] => sumD h x
  | .max, [x] => maxD h x
  | .min, [x] => minD h x
  | .all, [x] => allD h x
  | .any, [x] => anyD h x
  | .int, [x] => intD x
  | .str, [x] => strD x
  | .abs, [x] => absD x
  | .max2, [.int i, .int j] => some (.int (if j > i then j else i))
  | .min2, [.int i, .int j] => some (.int (if j < i then j else i))
  | _, _ => none
def isTy (h : Hm) (x : D) : Ty → Bool
  | .int => match x with
    | .int _ => true
    | .bl _ => true
    | _ => false
  | .bool => match x with
    | .bl _ => true
    | _ => false
  | .str => match x with
    | .str _ => true
    | _ => false
  | .tuple => match x with
    | .tup _ => true
    | _ => false
  | .list => match x with
    | .lst _ => true
    | .ref _ => true
    | .fz _ => true
    | _ => false

def isiD (h : Hm) (x : D) (ts : List Ty) : Option D := match x with
  | .fz _ => none
  | x => some (.bl (ts.any fun t => isTy h x t))

/-! ### methods -/
def joinS (sep : Str) : List Str → Str
  | [] => ⟨#[]⟩
  | [x] => x
  | x :: y :: r => x ++ sep ++ joinS sep (y :: r)
/-- the items and the one sought, as data -/
def findQ (h : Hm) (ys : List D) (d : D) : Option (List PyData × PyData) := match datum h d, toPs (refP h 4) ys with
  | some p, some qs => if SeqAt.shaped p && SeqAt.shaped (.list qs) then some (qs, p) else none
  | _, _ => none
def srD (g : List PyData → PyData → Option Int) (h : Hm) (o d : D) : Option D := match asQ h o with
  | some ys => match findQ h ys d with
    | some (qs, p) => (g qs p).map .int
    | none => none
  | none => none
def srM (g : List PyData → PyData → Option Int) (h : Hm) (o : D) (ds : List D) : Option (D × Hm) := match ds with
  | [d] => (srD g h o d).map fun z => (z, h)
  | _ => none
def gIndex (qs : List PyData) (p : PyData) : Option Int := (qs.findIdx? fun z => PyData.eqv z p).map fun j => ((j : Nat) : Int)
def gCount (qs : List PyData) (p : PyData) : Option Int := some ((qs.countP fun z => PyData.eqv z p : Nat) : Int)
def meth (h : Hm) (m : Me) (o : D) (ds : List D) : Option (D × Hm) := match m, o, ds with
  | .append, .ref i, [d] => match h[i]? with
    | some (.lst xs) => if xs.length < 16777216 then some (.non, h.set i (.lst (xs ++ [d]))) else none
    | _ => none
  | .pop, .ref i, [] => match h[i]? with
    | some (.lst xs) => match xs[xs.length - 1]? with
      | some y => some (y, h.set i (.lst xs.dropLast))
      | none => none
    | _ => none
  | .popAt, .ref i, [.int k] => match h[i]? with
    | some (.lst xs) => match ixN xs.length k with
      | some j => match xs[j]? with
        | some y => some (y, h.set i (.lst (xs.eraseIdx j)))
        | none => none
      | none => none
    | _ => none
  | .extend, .ref i, [.ref j] => match h[i]?, h[j]? with
    | some (.lst xs), some (.lst ys) => if xs.length + ys.length ≤ 16777216 then some (.non, h.set i (.lst (xs ++ ys))) else none
    | _, _ => none
  | .insert, .ref i, [.int k, d] => match h[i]? with
    | some (.lst xs) => if xs.length < 16777216 ∧ 0 ≤ k ∧ k < 2 ^ 63 then some (.non, h.set i (.lst (xs.take k.toNat ++ [d] ++ xs.drop k.toNat))) else none
    | _ => none
  | .index, o, ds => srM gIndex h o ds
  | .count, o, ds => srM gCount h o ds
  | .upper, .str s, [] => if s.length ≤ 5592405 then some (.str (Txt.upper s), h) else none
  | _, _, _ => none

/-! ### the interpreter -/
def wipeS (s : Stm) : List Nat → Stm
  | [] => s
  | v :: vs => (wipeS s vs).set v none
/-- what is walked: its items; lists of the heap that are to stand as they are -/
structure Itv where
  xs : List D
  deps : List (Nat × List D)
def Itv.ck (v : Itv) (h : Hm) : Bool := v.deps.all fun p => decide (h[p.1]? = some (.lst p.2))
def compL (ck : Hm → Bool) (f : D → Hm → R (Option D)) : List D → Hm → R (List D)
  | [], h => if ck h then .ok [] h else .no
  | x :: xs, h => if ck h then (f x h).bind fun o h1 => (compL ck f xs h1).bind fun r h2 => .ok (match o with | some y => y :: r | none => r) h2 else .no
def compL2 (ck : Hm → Bool) (f : D → Hm → R (List D)) : List D → Hm → R (List D)
  | [], h => if ck h then .ok [] h else .no
  | x :: xs, h => if ck h then (f x h).bind fun ys h1 => (compL2 ck f xs h1).bind fun r h2 => .ok (ys ++ r) h2 else .no
inductive Fl where
  | nx (s : Stm) | rt (d : D) | bk (s : Stm) | ct (s : Stm)
def loopL (ck : Hm → Bool) (f : D → Stm → Hm → R Fl) : List D → Stm → Hm → R Fl
  | [], s, h => if ck h then .ok (.nx s) h else .no
  | x :: xs, s, h => if ck h then (f x s h).bind fun fl h1 => match fl with
      | .nx s1 => loopL ck f xs s1 h1
      | .ct s1 => loopL ck f xs s1 h1
      | .bk s1 => .ok (.nx s1) h1
      | .rt d => .ok (.rt d) h1
    else .no
def whileL (c : Stm → Hm → R Bool) (f : Stm → Hm → R Fl) : Nat → Stm → Hm → R Fl
  | 0, _, _ => .no
  | n + 1, s, h => (c s h).bind fun b h1 => if b then (f s h1).bind fun fl h2 => match fl with
      | .nx s1 => whileL c f n s1 h2
      | .ct s1 => whileL c f n s1 h2
      | .bk s1 => .ok (.nx s1) h2
      | .rt d => .ok (.rt d) h2
    else .ok (.nx s) h1
structure Cfg where
  call : Nat → List D → Hm → R D
  cst : List D
  wf : Nat
def idep (h : Hm) (d : D) : List (Nat × List D) := match d with
  | .ref i => match h[i]? with
    | some (.lst xs) => [(i, xs)]
    | none => []
  | _ => []
def rangeD (a b : Int) : List D := (List.range (b - a).toNat).map fun i => .int (a + (i : Nat))
def okR (a : Int) : Bool := decide (-(2 ^ 62) ≤ a ∧ a < 2 ^ 62)
def rangeV (ds : List D) : Option (List D) := match ds with
  | [.int b] => if okR b && decide (b ≤ 16777216) then some (rangeD 0 b) else none
  | [.int a, .int b] => if okR a && okR b && decide (b - a ≤ 16777216) then some (rangeD a b) else none
  | _ => none
def zip2 : List D → List D → List D
  | x :: xs, y :: ys => .tup [x, y] :: zip2 xs ys
  | _, _ => []
def zipL (h : Hm) (x y : D) : Option Itv := match asL h x, asL h y with
  | some xs, some ys => some ⟨zip2 xs ys, idep h x ++ idep h y⟩
  | _, _ => none
def zipV (h : Hm) (ds : List D) : Option Itv := match ds with
  | [x, y] => match x, y with
    | .tup xs, .tup ys => some ⟨zip2 xs ys, []⟩
    | x, y => zipL h x y
  | _ => none
def enumD (n : Nat) : List D → List D
  | [] => []
  | x :: xs => .tup [.int n, x] :: enumD (n + 1) xs
/-- equal ones once, the first ones stay -/
def dedupI (ns : List Int) : List Int := ns.foldl (fun acc v => if acc.any (· == v) then acc else acc ++ [v]) []
def sortSetD (h : Hm) (x : D) : Option D := match asQ h x with
  | some xs => match allInts xs with
    | some ns => if (dedupI ns).length < 64 ∧ ns.length ≤ 4000 then some (.lst ((sortBy leI (dedupI ns)).map .int)) else none
    | none => none
  | none => none
def lenSetD (h : Hm) (x : D) : Option D := match asQ h x with
  | some xs => match allInts xs with
    | some ns => if ns.length ≤ 4000 then some (.int ((dedupI ns).length : Nat)) else none
    | none => none
  | none => none

variable (C : Cfg)
mutual
def ev (e : E) (s : Stm) (h : Hm) : R D := match e with
  | .non => .ok .non h
  | .bl b => .ok (.bl b) h
  | .int i => .ok (.int i) h
  | .str x => .ok (.str x) h
  | .var i => match s[i]? with
    | some (some d) => .ok d h
    | _ => .no
  | .cst i => R.of C.cst[i]? h
  | .op o a b => (ev a s h).bind fun x h1 => (ev b s h1).bind fun y h2 => R.of (bop h2 o x y) h2
  | .neg a => (ev a s h).bind fun x h1 => R.of (negD x) h1
  | .cmp o a b => (ev a s h).bind fun x h1 => (ev b s h1).bind fun y h2 => R.of ((cop h2 o x y).map .bl) h2
  | .chain o p a b c => (ev a s h).bind fun x h1 => (ev b s h1).bind fun y h2 => (R.of (copM h2 o x y) h2).bind fun k h3 =>
      if k then (ev c s h3).bind fun z h4 => R.of ((cop h4 p y z).map .bl) h4 else .ok (.bl false) h3
  | .and a b => (ev a s h).bind fun x h1 => (R.of (truth h1 x) h1).bind fun k h2 => if k then ev b s h2 else .ok x h2
  | .or a b => (ev a s h).bind fun x h1 => (R.of (truth h1 x) h1).bind fun k h2 => if k then .ok x h2 else ev b s h2
  | .not a => (ev a s h).bind fun x h1 => (R.of (truth h1 x) h1).bind fun k h2 => .ok (.bl (!k)) h2
  | .ite c a b => (evT c s h).bind fun k h1 => if k then ev a s h1 else ev b s h1
  | .tup es => (evs es s h).bind fun ds h1 => let p := mats ds h1; .ok (.tup p.1) p.2
  | .lst es => (evs es s h).bind fun ds h1 => let p := mats ds h1; .ok (.lst p.1) p.2
  | .ix a i => (ev a s h).bind fun x h1 => (ev i s h1).bind fun y h2 => R.of (ixD h2 x y) h2
  | .sl a lo hi => (ev a s h).bind fun x h1 => (evO lo s h1).bind fun l h2 => (evO hi s h2).bind fun u h3 => R.of (slD h3 x l u) h3
  | .rev a => (ev a s h).bind fun x h1 => R.of (revD h1 x) h1
  | .call f es => (evs es s h).bind fun ds h1 => let p := mats ds h1; C.call f p.1 p.2
  | .bi b es => (evs es s h).bind fun ds h1 => R.of (bi h1 b ds) h1
  | .me m o es => (ev o s h).bind fun x h1 => (evs es s h1).bind fun ds h2 => let p := mats ds h2; (R.of (meth p.2 m x p.1) p.2).bind fun r _ => .ok r.1 r.2
  | .isi a ts => (ev a s h).bind fun x h1 => R.of (isiD h1 x ts) h1
  | .comp elt own tg it cs => (evI it s h).bind fun v h1 =>
      (compL v.ck (fun x h2 => (asg tg x (wipeS s own) h2).bind fun s1 h3 => (evC cs s1 h3).bind fun k h4 =>
        if k then (ev elt s1 h4).bind fun y h5 => let p := mat1 y h5; .ok (some p.1) p.2 else .ok none h4) v.xs h1).bind fun ys h6 => .ok (.lst ys) h6
  | .comp2 elt own tg it cs own1 tg1 it1 cs1 => (evI it s h).bind fun v h1 =>
      (compL2 v.ck (fun x h2 => (asg tg x (wipeS s own) h2).bind fun s1 h3 => (evC cs s1 h3).bind fun k h4 =>
        if k then (evI it1 s1 h4).bind fun v1 h5 => compL v1.ck (fun y h6 => (asg tg1 y (wipeS s1 own1) h6).bind fun s2 h7 => (evC cs1 s2 h7).bind fun k h8 =>
          if k then (ev elt s2 h8).bind fun z h9 => let p := mat1 z h9; .ok (some p.1) p.2 else .ok none h8) v1.xs h5
        else .ok [] h4) v.xs h1).bind fun ys h6 => if ys.length ≤ 16777216 then .ok (.lst ys) h6 else .no
  | .listRange es => (evs es s h).bind fun ds h1 => R.of ((rangeV ds).map .lst) h1
  | .tupRange es => (evs es s h).bind fun ds h1 => R.of ((rangeV ds).map .tup) h1
  | .lenSet e => (ev e s h).bind fun x h1 => R.of (lenSetD h1 x) h1
  | .sortSet e => (ev e s h).bind fun x h1 => R.of (sortSetD h1 x) h1
  | _ => .no
def evs (e : E) (s : Stm) (h : Hm) : R (List D) := match e with
  | .nil => .ok [] h
  | .cons a as => (ev a s h).bind fun d h1 => (evs as s h1).bind fun ds h2 => .ok (d :: ds) h2
  | _ => .no
def evO (e : E) (s : Stm) (h : Hm) : R (Option Int) := match e with
  | .nil => .ok none h
  | .cons a _ => (ev a s h).bind fun d h1 => match d with
    | .int i => .ok (some i) h1
    | _ => .no
  | _ => .no
def evT (e : E) (s : Stm) (h : Hm) : R Bool := match e with
  | .and a b => (evT a s h).bind fun k h1 => if k then evT b s h1 else .ok false h1
  | .or a b => (evT a s h).bind fun k h1 => if k then .ok true h1 else evT b s h1
  | .not a => (evT a s h).bind fun k h1 => .ok (!k) h1
  | .cmp o a b => (ev a s h).bind fun x h1 => (ev b s h1).bind fun y h2 => R.of (cop h2 o x y) h2
  | .cons a _ => (ev a s h).bind fun x h1 => R.of (truth h1 x) h1
  | _ => .no
def evC (e : E) (s : Stm) (h : Hm) : R Bool := match e with
  | .nil => .ok true h
  | .cons a as => (evT a s h).bind fun k h1 => if k then evC as s h1 else .ok false h1
  | _ => .no
def evI (e : E) (s : Stm) (h : Hm) : R Itv := match e with
  | .range es => (evs es s h).bind fun ds h1 => (R.of (rangeV ds) h1).bind fun xs h2 => .ok ⟨xs, []⟩ h2
  | .rangeLen e => (ev e s h).bind fun x h1 => (R.of (asQ h1 x) h1).bind fun xs h2 => .ok ⟨rangeD 0 xs.length, []⟩ h2
  | .zip es => (evs es s h).bind fun ds h1 => (R.of (zipV h1 ds) h1).bind fun v h2 => .ok v h2
  | .enum e => (ev e s h).bind fun x h1 => (R.of (asQ h1 x) h1).bind fun xs _ => .ok ⟨enumD 0 xs, idep h1 x⟩ h1
  | .cons e _ => (ev e s h).bind fun x h1 => (R.of (asQ h1 x) h1).bind fun xs _ => .ok ⟨xs, idep h1 x⟩ h1
  | _ => .no
def asg (tg : E) (d : D) (s : Stm) (h : Hm) : R Stm := match tg with
  | .nm i => .ok (s.set i (some d)) h
  | .tp ts => match d with
    | .tup ds => asgs ts ds s h
    | _ => .no
  | .ix o i => (ev o s h).bind fun x h1 => (ev i s h1).bind fun y h2 => match setIx h2 x y d with
    | some h3 => .ok s h3
    | none => .no
  | _ => .no
def asgs (tg : E) (ds : List D) (s : Stm) (h : Hm) : R Stm := match tg with
  | .nil => match ds with
    | [] => .ok s h
    | _ => .no
  | .cons t ts => match ds with
    | d :: ds => (asg t d s h).bind fun s1 h1 => asgs ts ds s1 h1
    | _ => .no
  | _ => .no
end
def exec : S → Stm → Hm → R Fl
  | .nop, s, h => .ok (.nx s) h
  | .seq a b, s, h => (exec a s h).bind fun f h1 => match f with
    | .nx s1 => exec b s1 h1
    | f => .ok f h1
  | .ex e, s, h => (ev C e s h).bind fun _ h1 => .ok (.nx s) h1
  | .set tg e, s, h => (ev C e s h).bind fun d h1 => let p := mat1 d h1; (asg C tg p.1 s p.2).bind fun s1 h2 => .ok (.nx s1) h2
  | .set2 t1 t2 e, s, h => (ev C e s h).bind fun d h1 => let p := mat1 d h1; (asg C t1 p.1 s p.2).bind fun s1 h2 => (asg C t2 p.1 s1 h2).bind fun s2 h3 => .ok (.nx s2) h3
  | .par2 i j a b, s, h => (evs C (.cons a (.cons b .nil)) s h).bind fun ds h1 => let p := mats ds h1; match p.1 with
    | [x, y] => .ok (.nx ((s.set i (some x)).set j (some y))) p.2
    | _ => .no
  | .par3 i j k a b c, s, h => (evs C (.cons a (.cons b (.cons c .nil))) s h).bind fun ds h1 => let p := mats ds h1; match p.1 with
    | [x, y, z] => .ok (.nx (((s.set i (some x)).set j (some y)).set k (some z))) p.2
    | _ => .no
  | .aug i o e, s, h => match s[i]? with
    | some (some x) => (ev C e s h).bind fun y h1 => (R.of (augD h1 o x y) h1).bind fun z h2 => .ok (.nx (s.set i (some z))) h2
    | _ => .no
  | .augIx a i o e, s, h => (ev C a s h).bind fun x h1 => (ev C i s h1).bind fun y h2 => match x, y with
    | .ref p, .int k => (R.of (ixL h2 (.ref p) k) h2).bind fun v h3 => (ev C e s h3).bind fun w h4 => (R.of (augI o v w) h4).bind fun z h5 => match setIx h5 (.ref p) (.int k) z with
      | some h6 => .ok (.nx s) h6
      | none => .no
    | _, _ => .no
  | .ite c a b, s, h => (evT C c s h).bind fun k h1 => if k then exec a s h1 else exec b s h1
  | .loop tg it b, s, h => (evI C it s h).bind fun v h1 => loopL v.ck (fun x s1 h2 => (asg C tg x s1 h2).bind fun s2 h3 => exec b s2 h3) v.xs s h1
  | .whl c b, s, h => whileL (fun s1 h1 => evT C c s1 h1) (fun s1 h1 => exec b s1 h1) C.wf s h
  | .ret e, s, h => (ev C e s h).bind fun d h1 => .ok (.rt d) h1
  | .retn, s, h => .ok (.rt .non) h
  | .brk, s, h => .ok (.bk s) h
  | .cnt, s, h => .ok (.ct s) h

/-! ### calls -/
def lift (n : Nat) (h : Hm) : D → Option D
  | .ref i => if i < n then some (.ref i) else match h[i]? with
    | some (.lst xs) => if belows n xs then some (.lst xs) else none
    | none => none
  | d => if below n d then some d else none
def fin (mode : Nat) (h0 : Hm) (d : D) (h : Hm) : R D := match mode with
  | 0 => .ok d h
  | 1 => if h.take h0.length = h0 then R.of (lift h0.length h d) h0 else .no
  | _ => if (h.take h0.length).all (O.below h0.length) && decide (h0.length ≤ h.length) then R.of (lift h0.length h d) (h.take h0.length) else .no
def runFn (fn : Fn) (ds : List D) (h : Hm) : R D :=
  if ds.length = fn.np then (exec C fn.body (ds.map some ++ List.replicate (fn.nl - fn.np) none) h).bind fun fl h1 => match fl with
    | .nx _ => fin fn.mode h .non h1
    | .rt d => fin fn.mode h d h1
    | _ => .no
  else .no
structure Prog where
  fns : List Fn
  cst : List D
  wf : Nat
def callF (P : Prog) : Nat → Nat → List D → Hm → R D
  | 0, _, _, _ => .no
  | k + 1, i, ds, h => match P.fns[i]? with
    | some fn => runFn ⟨callF P k, P.cst, P.wf⟩ fn ds h
    | none => .no
end Mp

/-! tuples whose own object is known: it has no dict (so that t.index, t.count are the class's) -/
namespace Mp
open PySem PySem.Spec L2
def TupK (K : PySem.W.Frag) (H : Hp) (a : Addr) (xs : List V) : Prop := (∃ o : Obj, o.dict = none ∧ H a = some (.frz o (.tup xs))) ∨
  ∃ (o : Obj) (its : Array Value) (n : Nat), K.lookup a = some o ∧ o.cls = .type "tuple" ∧ o.dict = none ∧ o.data = .seq its n ∧ its.size ≤ sizeLine ∧ Vals xs its.toList
theorem TupK.sq {K : PySem.W.Frag} {H : Hp} {a : Addr} {xs : List V} (h : TupK K H a xs) : SqT K H a xs := by
  rcases h with ⟨o, _, h⟩ | ⟨o, its, n, h1, h2, _, h3⟩
  · exact .inl (.inr ⟨o, h⟩)
  · exact .inr ⟨o, its, n, h1, h2, h3⟩
/-- a new tuple is handed on -/
abbrev NewT (H : Hp) (xs : List V) (Q : VK) : Prop := ∀ (p : Addr) (o : Obj), H p = none → o.dict = none → Q (.ref p) (upd H p (.frz o (.tup xs)))
section
variable {X : Cx} {pins : List (Addr × Obj)} {σ : L2.St} {H : Hp} {s : Shared}
theorem Inv_tup {xs : List V} {us : List Value} {Q : VK} (I : Inv X pins σ H s) (r : Vals xs us) (hz : xs.length ≤ sizeLine) (q : NewT H xs Q) (t' : Nat := s.toks) :
    EP X pins σ Q (.ref s.heap.objs.size) { s with heap := s.heap.push { cls := .type "tuple", data := .seq us.toArray }, toks := t' } := by
  refine ⟨.ref s.heap.objs.size, _, I.laid (t' := t') (o := .frz { cls := .type "tuple", data := .seq us.toArray } (.tup xs)) (fun b ob q => Heap.get?_push_of_some _ q) (Nat.le_refl _) ?_, rfl, q _ _ (I.hok.fresh (Nat.le_refl _)) rfl⟩
  exact ⟨Heap.get?_push_size _ rfl, hz, us, r, ⟨_, Heap.get?_push_size _ rfl, rfl, _, rfl⟩⟩
end
section
variable {X : Cx} {es : List Expr} {t : TA} {pos : Pos}
def tTupF (t : TA) : TE := fun σ H Q => t σ H fun xs H1 => xs.length ≤ sizeLine ∧ NewT H1 xs Q
theorem pe_tupF {x1} (h : PA X es t) : PE X (.Tuple es x1 pos) (tTupF t) := by
  refine ⟨fun pins s σ H Q I hq => ?_⟩
  refine wpAny_Tuple_spliced (thn (h.run pos pins s σ H _ I hq) fun us s1 ⟨xs, H1, I1, r, z, q⟩ => ⟨by rw [← r.length]; exact z, ?_⟩)
  exact Inv_tup I1 r z q
def rCatF (K : PySem.W.Frag) : R2 := fun x y H Q => ∃ a b xs ys, x = .ref a ∧ y = .ref b ∧ SqT K H a xs ∧ SqT K H b ys ∧ xs.length + ys.length ≤ sizeLine ∧
  (xs = [] → Q (.ref b) H) ∧ (xs ≠ [] → ys = [] → Q (.ref a) H) ∧ (xs ≠ [] → ys ≠ [] → NewT H (xs ++ ys) Q)
theorem op_catF : OpR X (binaryOp .Add) (rCatF X.K) := by
  intro pins s σ H x y v u Q I rx ry h
  obtain ⟨a, b, xs, ys, rfl, rfl, ha, hb, hz, q0, q1, q2⟩ := h
  by_cases hx : xs = []
  · exact op_catA pins s σ H _ _ v u Q I rx ry ⟨a, b, xs, ys, rfl, rfl, ha, hb, hz, q0, q1, fun h => absurd hx h⟩
  cases rx
  cases ry
  obtain ⟨its, r1, p1, _⟩ := I.tuple ha
  obtain ⟨its2, r2, p2, _⟩ := I.tuple hb
  refine HT.cat_tup p1 p2 (fun z => hx (r1.nil_iff.mp z)) (fun z => ⟨.ref a, H, I, rfl, q1 hx (r2.nil_iff.mp z)⟩) (fun z => ?_) (by rw [← r1.length, ← r2.length]; exact hz)
  exact Inv_tup I (r1.append r2) (by rw [List.length_append]; exact hz) (q2 hx (fun w => z (r2.nil_iff.mpr w)))
def rSlF (K : PySem.W.Frag) : V → Option Int → Option Int → Hp → VK → Prop := fun x lo hi H Q => ∃ a xs, x = .ref a ∧ SqT K H a xs ∧
  (HT.sIx xs.length 0 lo = 0 ∧ HT.sIx xs.length xs.length hi = xs.length → Q (.ref a) H) ∧ (¬ (HT.sIx xs.length 0 lo = 0 ∧ HT.sIx xs.length xs.length hi = xs.length) → NewT H (cutV xs lo hi) Q)
theorem sl_tupF : SlR X (rSlF X.K) := by
  intro pins s σ H x v vl vu lo hi sl Q I rx hs pl pu h
  obtain ⟨a, xs, rfl, hx, q1, q2⟩ := h
  by_cases hw : HT.sIx xs.length 0 lo = 0 ∧ HT.sIx xs.length xs.length hi = xs.length
  · exact sl_tupA pins s σ H _ v vl vu lo hi sl Q I rx hs pl pu ⟨a, xs, rfl, hx, q1, fun h => absurd hw h⟩
  cases rx
  obtain ⟨its, r, ht, hz⟩ := I.tuple hx
  have hlen : its.toArray.size = xs.length := by rw [List.size_toArray]; exact r.length.symm
  refine ⟨"tuple", _, PyProof.Rows.slot_tuple_getitem.lookup, ht.typeIs, ?_⟩
  refine HT.getItem_tuple_cut ht hs pl pu (by rw [hlen]; exact hw) ?_ (by rw [hlen]; exact hz)
  rw [hlen]
  exact Inv_tup I ((r.drop (HT.sIx xs.length 0 lo)).take (HT.sIx xs.length xs.length hi - HT.sIx xs.length 0 lo)) (Nat.le_trans (cutV_length xs lo hi) hz) (q2 hw)
theorem call_tupleF : CallR X (.type "tuple") (fun xs H Q => ∃ p ys, xs = [.ref p] ∧ ((SqL X.K H p ys ∧ NewT H ys Q) ∨ (SqT X.K H p ys ∧ Q (.ref p) H))) := by
  intro pins s σ H xs us Q I r h
  obtain ⟨p, ys, rfl, h⟩ := h
  obtain ⟨u, rfl, rx⟩ := vals1 r
  cases rx
  rcases h with ⟨hq, q⟩ | ⟨hq, q⟩
  · obtain ⟨its, r', pl, hz⟩ := I.list hq
    have hlen := r'.length
    refine call_tuple_list pl.isList (fun h' kp => ?_) (by simp only [List.size_toArray] <;> omega)
    have I1 : Inv X pins σ H { s with heap := h' } := I.kept (t' := s.toks) kp
    exact Inv_tup I1 r' hz q
  · obtain ⟨its, r', pl, hz⟩ := I.tuple hq
    exact call_tuple_same pl ⟨.ref p, H, I, rfl, q⟩
def tTupRgF (te : L2.St → Hp → (Int → Int → Hp → Prop) → Prop) : TE := fun σ H Q => te σ H fun a b H1 => RgOk a b ∧ NewT H1 (rgV a b) Q
theorem pe_tupRgF {e : Expr} {te : L2.St → Hp → (Int → Int → Hp → Prop) → Prop} {p pos : Pos} (hc : X.calm = true) (hg : Gl X "tuple") (hm : X.mg "tuple" = none) (he : PRg X e te) (na : starEach [e] X.env = (false, eval e X.env) :: starEach [] X.env) : PE X (.Call (.Name "tuple" p) [e] [] pos) (tTupRgF te) := by
  refine ⟨fun pins s σ H Q I h => ?_⟩
  refine PyProof.Rows.Call_ (ld_blt I hg hm PyProof.Rows.boot_tuple (PyProof.Rows.callWith_type1 (PyProof.Rows.args_cons (thn (he pins s σ H _ I h) fun x s1 ⟨r, a, b, t, u, v, H1, ex, hr, I1, ok, q⟩ => PyProof.Rows.args_nil ?_) na) na))
  subst ex
  obtain ⟨b1, b2, b3, b4, b5⟩ := ok
  refine call_tuple_range (n := (b - a).toNat) (I1.ok.hd hc) hr (small_one b1 b2 b3 b4) (PyProof.Rows.rangeSize_nat a b) b5 fun h' tk acc hk hi => ?_
  have I2 : Inv X pins σ H1 { s1 with heap := h', toks := tk } := I1.kept hk
  have := Inv_tup I2 (vals_rg hi) (by rw [rgV_length, sizeLine_eq]; omega) q
  rw [Array.toArray_toList] at this
  exact this
end
/-! ### t * k -/
section
open PySem.AutoSeq1 (wpAny_loadPart')
theorem tuple_mulS (l : Addr) (items : Array Value) (n : Nat) (sl : Array (Option Value)) (dd : Option Addr) (x : Int) (u : Tok) (c0 : (decide (x < -(2 ^ 63)) || decide (x ≥ 2 ^ 63)) = false) (c1 : (items.isEmpty || x == 1) = true) :
    Meets (Builtin.«tuple.__mul__» ⟨[.ref l, .int x u], []⟩) (fun _ R s => s.heap.get? l = some { cls := .type "tuple", dict := dd, data := .seq items n, slots := sl } ∧ R (.ok (.ret (.ref l))) s) :=
  .of_wp fun prog w A R s h => by
    obtain ⟨hp, g, d, tk, os⟩ := s
    obtain ⟨hl, h⟩ := h
    have f1 := AutoSeq1.idx_int
    wp_walk using wpAny_loadPart' hl
    repeat (first
      | (refine wpAny_ite_false (decide_eq_false (by rw [c0]; exact Bool.false_ne_true)) ?_; wp_walk using wpAny_loadPart' hl)
      | (refine wpAny_ite_true (decide_eq_true c1) ?_; wp_walk using wpAny_loadPart' hl))
    exact ⟨_, rfl, h⟩
theorem tuple_mul0 (l : Addr) (items : Array Value) (n : Nat) (sl : Array (Option Value)) (dd : Option Addr) (x : Int) (u : Tok) (c0 : (decide (x < -(2 ^ 63)) || decide (x ≥ 2 ^ 63)) = false) (c1 : (items.isEmpty || x == 1) = false)
    (c2 : (decide (x ≤ 0) || items.isEmpty) = true) : Meets (Builtin.«tuple.__mul__» ⟨[.ref l, .int x u], []⟩) (fun _ R s => s.heap.get? l = some { cls := .type "tuple", dict := dd, data := .seq items n, slots := sl } ∧
      R (.ok (.ret (Value.ref s.heap.objs.size))) { s with heap := s.heap.push { cls := Value.type "tuple", data := Data.seq #[] }, toks := s.toks }) :=
  .of_wp fun prog w A R s h => by
    obtain ⟨hp, g, d, tk, os⟩ := s
    obtain ⟨hl, h⟩ := h
    have f1 := AutoSeq1.idx_int
    wp_walk using wpAny_loadPart' hl
    repeat (first
      | (refine wpAny_ite_false (decide_eq_false (by rw [c0]; exact Bool.false_ne_true)) ?_; wp_walk using wpAny_loadPart' hl)
      | (refine wpAny_ite_false (decide_eq_false (by rw [c1]; exact Bool.false_ne_true)) ?_; wp_walk using wpAny_loadPart' hl)
      | (refine wpAny_ite_true (decide_eq_true c2) ?_; wp_walk using wpAny_loadPart' hl))
    exact ⟨_, rfl, h⟩
end
def rRepF (K : PySem.W.Frag) : R2 := fun x y H Q => ∃ l k xs, x = .ref l ∧ y = .int k ∧ SqT K H l xs ∧ -(2 ^ 63) ≤ k ∧ k < 2 ^ 63 ∧ xs.length * k.toNat ≤ 1000000 ∧
  ((xs = [] ∨ k = 1) → Q (.ref l) H) ∧ (¬ (xs = [] ∨ k = 1) → NewT H (List.replicate k.toNat xs).flatten Q)
section
open PyProof.Rows PySem.F
variable {X : Cx}
theorem op_repF : OpR X (binaryOp .Mult) (rRepF X.K) := by
  intro pins s σ H x y v u Q I rx ry h
  obtain ⟨l, k, xs, rfl, rfl, hT, h1, h2, hz, q0, q1⟩ := h
  cases rx
  obtain ⟨t, rfl⟩ := ry
  obtain ⟨its, r, ⟨⟨cls, dd, data, sl⟩, ho, hc, n, hd⟩, hs⟩ := I.tuple hT
  simp only at hc hd
  subst hc hd
  have hle : its.length = xs.length := r.length.symm
  have he : its.toArray.isEmpty = decide (xs = []) := by
    cases r with
    | nil => rfl
    | cons _ _ => simp
  have c0 : (decide (k < -(2 ^ 63)) || decide (k ≥ 2 ^ 63)) = false := by
    rw [decide_eq_false (by omega), decide_eq_false (by omega)] <;> rfl
  refine wpAny_binaryOp_repeat_ref (T := "tuple") (U := "int") (by decide) ⟨_, ho, rfl⟩ (fun s' => typeIs_int s' k t) noFill_tuple_mul F.fills_int_mul F.slot_int_rmul repeat_tuple F.slot_int_index.lookup
    (call_meets F.slot_int_rmul (typeIs_int s k t) F.entry_int_rmul (F.args_int_rmul_2 _ _) (int_rmul_tuple k t l its.toArray n dd sl)
      ⟨ho, rfl, ⟨_, ho, rfl⟩, ?_⟩)
  by_cases hx : xs = [] ∨ k = 1
  · have c1 : (its.toArray.isEmpty || k == 1) = true := by
      rw [he]
      rcases hx with hx | hx
      · simp [hx]
      · simp [hx]
    exact call_meets F.slot_tuple_mul ⟨_, ho, rfl⟩ F.entry_tuple_mul (F.args_tuple_mul_2 _ _) (tuple_mulS l its.toArray n sl dd k t c0 c1) ⟨ho, ⟨.ref l, H, I, rfl, q0 hx⟩⟩
  · have hx1 : xs ≠ [] := fun e => hx (.inl e)
    have hx2 : k ≠ 1 := fun e => hx (.inr e)
    have c1 : (its.toArray.isEmpty || k == 1) = false := by
      rw [he]; simp [hx1, hx2]
    by_cases hk : k ≤ 0
    · have c2 : (decide (k ≤ 0) || its.toArray.isEmpty) = true := by simp [hk]
      refine call_meets F.slot_tuple_mul ⟨_, ho, rfl⟩ F.entry_tuple_mul (F.args_tuple_mul_2 _ _) (tuple_mul0 l its.toArray n sl dd k t c0 c1 c2) ⟨ho, ?_⟩
      have e0 : k.toNat = 0 := by omega
      have q := q1 hx
      rw [e0] at q
      exact Inv_tup (us := []) I .nil (Nat.zero_le _) q
    · have c2 : (decide (k ≤ 0) || its.toArray.isEmpty) = false := by
        rw [he]; simp [hk, hx1]
      have hsz0 : its.toArray.size = xs.length := by rw [List.size_toArray, hle]
      have hm : ((its.toArray.size : Nat) : Int) * k ≤ 1000000 := by
        rw [hsz0]
        have e : k = (k.toNat : Int) := by omega
        rw [e, ← Int.natCast_mul]
        exact Int.ofNat_le.mpr hz
      have flen : (List.replicate k.toNat its).flatten.length ≤ sizeLine := by
        rw [PyProof.Rows.lm_len_rep_flat, hle, sizeLine_eq, Nat.mul_comm]
        omega
      have c4 : Builtin.Tuple.tupleTooMany (((its.toArray.size : Nat) : Int) * k) = false := by
        unfold Builtin.Tuple.tupleTooMany
        rw [sizeLine_eq]
        exact decide_eq_false (by omega)
      refine call_meets F.slot_tuple_mul ⟨_, ho, rfl⟩ F.entry_tuple_mul (F.args_tuple_mul_2 _ _) (tuple_mulW l its.toArray n dd sl k t c0 c1 c2 (by omega) c4 (by rw [size_rep, List.size_toArray]; exact flen)) ⟨ho, ?_⟩
      rw [size_rep]
      exact Inv_tup I (r.rep k.toNat) (by rw [PyProof.Rows.lm_len_rep_flat, sizeLine_eq, Nat.mul_comm]; omega) (q1 hx)
end
end Mp

namespace Mp
open PySem PySem.Spec PyProof.Rows L2
/-! ### how the small heap lies in the abstract one -/
abbrev Frs := List (Addr × HO)
/-- a list that stands as it is -/
def FzL (K : PySem.W.Frag) (H : Hp) (a : Addr) (xs : List V) : Prop :=
  (∃ o, H a = some (.frz o (.lst xs))) ∨
    ∃ (o : Obj) (its : Array Value) (n : Nat), K.lookup a = some o ∧ o.cls = .type "list" ∧ o.dict = none ∧ o.data = .seq its n ∧ its.size ≤ sizeLine ∧ Vals xs its.toList
theorem FzL.sq {K : PySem.W.Frag} {H : Hp} {a : Addr} {xs : List V} (h : FzL K H a xs) : SqL K H a xs := by
  rcases h with h | h
  · exact .inl (.inr h)
  · exact .inr h
section
variable (K : PySem.W.Frag)
mutual
def RD (μ : List Addr) (H : Hp) : D → V → Prop
  | .non, x => x = .non
  | .bl b, x => x = .bl b
  | .int i, x => x = .int i
  | .str s, x => x = .str s
  | .tup ds, x => ∃ a vs, x = .ref a ∧ TupK K H a vs ∧ RDs μ H ds vs
  | .lst _, _ => False
  | .ref i, x => ∃ a, μ[i]? = some a ∧ x = .ref a
  | .fz ns, x => ∃ a, x = .ref a ∧ FzL K H a (ns.map V.int)
def RDs (μ : List Addr) (H : Hp) : List D → List V → Prop
  | [], vs => vs = []
  | d :: ds, vs => ∃ v r, vs = v :: r ∧ RD μ H d v ∧ RDs μ H ds r
end
def RO (μ : List Addr) (H : Hp) : O → HO → Prop
  | .lst ds, o => ∃ vs, o = .lst vs ∧ RDs K μ H ds vs
structure RH (μ : List Addr) (F : Frs) (H : Hp) (h : Hm) : Prop where
  len : μ.length = h.length
  obj : ∀ (i : Nat) (o : O) (a : Addr), h[i]? = some o → μ[i]? = some a → ∃ ho, H a = some ho ∧ RO K μ H o ho
  frm : ∀ p ∈ F, H p.1 = some p.2
  nd : (μ ++ F.map (·.1)).Nodup
/-- values, the lists just made among them: those stand at the frames G, in order -/
inductive RW (μ : List Addr) (H : Hp) : List D → List V → Frs → Prop
  | nil : RW μ H [] [] []
  | val {d : D} {x : V} {ds : List D} {xs : List V} {G : Frs} : RD K μ H d x → RW μ H ds xs G → RW μ H (d :: ds) (x :: xs) G
  | lst {es ds : List D} {a : Addr} {vs xs : List V} {G : Frs} : RDs K μ H es vs → RW μ H ds xs G → RW μ H (.lst es :: ds) (.ref a :: xs) ((a, .lst vs) :: G)
/-- slots -/
def RS (μ : List Addr) (H : Hp) (s : Stm) (σ : L2.St) : Prop := s.length = σ.length ∧ ∀ (i : Nat) (d : D), s[i]? = some (some d) → ∃ x, σ[i]? = some (some x) ∧ RD K μ H d x
end
/-- tuples stay, what is locked stays -/
structure Mo (H H' : Hp) : Prop where
  tup : ∀ b xs, H b = some (.tup xs) → H' b = some (.tup xs)
  frz : ∀ b o u, H b = some (.frz o u) → H' b = some (.frz o u)
theorem Mo.refl (H : Hp) : Mo H H := ⟨fun _ _ e => e, fun _ _ _ e => e⟩
theorem Mo.trans {H H1 H2 : Hp} (a : Mo H H1) (b : Mo H1 H2) : Mo H H2 := ⟨fun c xs e => b.tup c xs (a.tup c xs e), fun c o u e => b.frz c o u (a.frz c o u e)⟩
theorem Mo.new {H : Hp} {p : Addr} {o : HO} (h : H p = none) : Mo H (upd H p o) :=
  ⟨fun b xs e => by rw [upd_ne (ne_of_none e h)]; exact e, fun b ob u e => by rw [upd_ne (ne_of_none e h)]; exact e⟩
theorem Mo.lst {H : Hp} {p : Addr} {xs : List V} {o : HO} (h : H p = some (.lst xs)) : Mo H (upd H p o) :=
  ⟨fun b ys e => by rw [upd_ne (ne_of e h (by intro z; cases z))]; exact e, fun b ob u e => by rw [upd_ne (ne_of e h (by intro z; cases z))]; exact e⟩
section
variable {K : PySem.W.Frag} {μ μ' : List Addr} {H H' : Hp} {F F' : Frs} {h : Hm}
theorem Mo.sqT {a : Addr} {xs : List V} (m : Mo H H') (q : SqT K H a xs) : SqT K H' a xs := by
  rcases q with (q | ⟨o, q⟩) | q
  · exact .inl (.inl (m.tup _ _ q))
  · exact .inl (.inr ⟨o, m.frz _ _ _ q⟩)
  · exact .inr q
theorem Mo.tupK {a : Addr} {xs : List V} (m : Mo H H') (q : TupK K H a xs) : TupK K H' a xs := by
  rcases q with ⟨o, h, q⟩ | q
  · exact .inl ⟨o, h, m.frz _ _ _ q⟩
  · exact .inr q
theorem Mo.fzL {a : Addr} {xs : List V} (m : Mo H H') (q : FzL K H a xs) : FzL K H' a xs := by
  rcases q with ⟨o, q⟩ | q
  · exact .inl ⟨o, m.frz _ _ _ q⟩
  · exact .inr q
mutual
theorem RD.mono (m : Mo H H') (p : μ <+: μ') : ∀ (d : D) (x : V), RD K μ H d x → RD K μ' H' d x
  | .non, x, q => by simpa [RD] using q
  | .bl b, x, q => by simpa [RD] using q
  | .int i, x, q => by simpa [RD] using q
  | .str s, x, q => by simpa [RD] using q
  | .tup ds, x, q => by
    simp only [RD] at q ⊢
    obtain ⟨a, vs, e, q1, q2⟩ := q
    exact ⟨a, vs, e, m.tupK q1, RDs.mono m p ds vs q2⟩
  | .lst xs, x, q => by simp [RD] at q
  | .ref i, x, q => by
    simp only [RD] at q ⊢
    obtain ⟨a, e, q⟩ := q
    exact ⟨a, by obtain ⟨t, rfl⟩ := p; rw [List.getElem?_append_left (List.getElem?_eq_some_iff.mp e).1]; exact e, q⟩
  | .fz ns, x, q => by
    simp only [RD] at q ⊢
    obtain ⟨a, e, q⟩ := q
    exact ⟨a, e, m.fzL q⟩
theorem RDs.mono (m : Mo H H') (p : μ <+: μ') : ∀ (d : List D) (x : List V), RDs K μ H d x → RDs K μ' H' d x
  | [], x, q => by simpa [RDs] using q
  | d :: ds, x, q => by
    simp only [RDs] at q ⊢
    obtain ⟨v, r, e, q1, q2⟩ := q
    exact ⟨v, r, e, RD.mono m p d v q1, RDs.mono m p ds r q2⟩
end
mutual
/-- places beyond n are not needed -/
theorem RD.take {n : Nat} : ∀ (d : D) (x : V), below n d = true → RD K μ H d x → RD K (μ.take n) H d x
  | .non, x, _, q => by simpa [RD] using q
  | .bl b, x, _, q => by simpa [RD] using q
  | .int i, x, _, q => by simpa [RD] using q
  | .str s, x, _, q => by simpa [RD] using q
  | .tup ds, x, b, q => by
    simp only [RD, below] at q b ⊢
    obtain ⟨a, vs, e, q1, q2⟩ := q
    exact ⟨a, vs, e, q1, RDs.take ds vs b q2⟩
  | .lst xs, x, _, q => by simp [RD] at q
  | .ref i, x, b, q => by
    simp only [RD, below, decide_eq_true_eq] at q b ⊢
    obtain ⟨a, e, q⟩ := q
    exact ⟨a, by rw [List.getElem?_take_of_lt b]; exact e, q⟩
  | .fz ns, x, _, q => by simpa [RD] using q
theorem RDs.take {n : Nat} : ∀ (d : List D) (x : List V), belows n d = true → RDs K μ H d x → RDs K (μ.take n) H d x
  | [], x, _, q => by simpa [RDs] using q
  | d :: ds, x, b, q => by
    simp only [RDs, belows, Bool.and_eq_true] at q b ⊢
    obtain ⟨v, r, e, q1, q2⟩ := q
    exact ⟨v, r, e, RD.take d v b.1 q1, RDs.take ds r b.2 q2⟩
end
theorem RDs.length : ∀ {ds : List D} {vs : List V}, RDs K μ H ds vs → ds.length = vs.length
  | [], vs, q => by simp only [RDs] at q; rw [q]; rfl
  | d :: ds, vs, q => by
    simp only [RDs] at q
    obtain ⟨v, r, rfl, _, q⟩ := q
    simp [RDs.length q]
theorem RDs.get : ∀ {ds : List D} {vs : List V} {i : Nat} {d : D}, RDs K μ H ds vs → ds[i]? = some d → ∃ v, vs[i]? = some v ∧ RD K μ H d v
  | [], _, _, _, _, e => by simp at e
  | x :: ds, vs, 0, d, q, e => by
    simp only [RDs] at q
    obtain ⟨v, r, rfl, q, _⟩ := q
    simp at e; subst e
    exact ⟨v, rfl, q⟩
  | x :: ds, vs, i + 1, d, q, e => by
    simp only [RDs] at q
    obtain ⟨v, r, rfl, _, q⟩ := q
    simpa using RDs.get (i := i) (d := d) q (by simpa using e)
theorem RDs.append : ∀ {ds es : List D} {vs us : List V}, RDs K μ H ds vs → RDs K μ H es us → RDs K μ H (ds ++ es) (vs ++ us)
  | [], es, vs, us, q, r => by simp only [RDs] at q; subst q; exact r
  | d :: ds, es, vs, us, q, r => by
    simp only [RDs] at q
    obtain ⟨v, w, rfl, q1, q2⟩ := q
    simp only [List.cons_append, RDs]
    exact ⟨v, w ++ us, rfl, q1, RDs.append q2 r⟩
theorem RDs.set {d : D} {v : V} (r : RD K μ H d v) : ∀ {ds : List D} {vs : List V} (i : Nat), RDs K μ H ds vs → RDs K μ H (ds.set i d) (vs.set i v)
  | [], vs, _, q => by simp only [RDs] at q; subst q; simp [RDs]
  | x :: ds, vs, 0, q => by
    simp only [RDs] at q
    obtain ⟨w, r', rfl, q1, q2⟩ := q
    simp only [List.set_cons_zero, RDs]
    exact ⟨v, r', rfl, r, q2⟩
  | x :: ds, vs, i + 1, q => by
    simp only [RDs] at q
    obtain ⟨w, r', rfl, q1, q2⟩ := q
    simp only [List.set_cons_succ, RDs]
    exact ⟨w, _, rfl, q1, RDs.set r i q2⟩
theorem RDs.drop : ∀ {ds : List D} {vs : List V} (n : Nat), RDs K μ H ds vs → RDs K μ H (ds.drop n) (vs.drop n)
  | _, _, 0, q => q
  | [], vs, n + 1, q => by simp only [RDs] at q; subst q; simp [RDs]
  | d :: ds, vs, n + 1, q => by
    simp only [RDs] at q
    obtain ⟨w, r', rfl, q1, q2⟩ := q
    exact RDs.drop n q2
theorem RDs.take' : ∀ {ds : List D} {vs : List V} (n : Nat), RDs K μ H ds vs → RDs K μ H (ds.take n) (vs.take n)
  | _, _, 0, q => by simp [RDs]
  | [], vs, n + 1, q => by simp only [RDs] at q; subst q; simp [RDs]
  | d :: ds, vs, n + 1, q => by
    simp only [RDs] at q
    obtain ⟨w, r', rfl, q1, q2⟩ := q
    simp only [List.take_succ_cons, RDs]
    exact ⟨w, _, rfl, q1, RDs.take' n q2⟩
theorem RDs.reverse : ∀ {ds : List D} {vs : List V}, RDs K μ H ds vs → RDs K μ H ds.reverse vs.reverse
  | [], vs, q => by simp only [RDs] at q; subst q; simp [RDs]
  | d :: ds, vs, q => by
    simp only [RDs] at q
    obtain ⟨w, r', rfl, q1, q2⟩ := q
    rw [List.reverse_cons, List.reverse_cons]
    exact (RDs.reverse q2).append (by simp only [RDs]; exact ⟨w, [], rfl, q1, rfl⟩)
theorem RDs.eraseIdx : ∀ {ds : List D} {vs : List V} (n : Nat), RDs K μ H ds vs → RDs K μ H (ds.eraseIdx n) (vs.eraseIdx n)
  | [], vs, _, q => by simp only [RDs] at q; subst q; simp [RDs]
  | d :: ds, vs, 0, q => by
    simp only [RDs] at q
    obtain ⟨w, r', rfl, q1, q2⟩ := q
    exact q2
  | d :: ds, vs, n + 1, q => by
    simp only [RDs] at q
    obtain ⟨w, r', rfl, q1, q2⟩ := q
    simp only [List.eraseIdx_cons_succ, RDs]
    exact ⟨w, _, rfl, q1, RDs.eraseIdx n q2⟩
theorem RDs.rep {ds : List D} {vs : List V} (q : RDs K μ H ds vs) : ∀ n : Nat, RDs K μ H (List.replicate n ds).flatten (List.replicate n vs).flatten
  | 0 => by simp [RDs]
  | n + 1 => by
    rw [List.replicate_succ, List.replicate_succ, List.flatten_cons, List.flatten_cons]
    exact q.append (RDs.rep q n)
theorem RDs.ints : ∀ (ns : List Int), RDs K μ H (ns.map D.int) (ns.map V.int)
  | [] => rfl
  | n :: ns => by
    simp only [List.map_cons, RDs]
    exact ⟨_, _, rfl, rfl, RDs.ints ns⟩
theorem RDs.ints_of : ∀ {ds : List D} {vs : List V} {ns : List Int}, RDs K μ H ds vs → allInts ds = some ns → vs = ns.map V.int ∧ ds = ns.map D.int
  | [], vs, ns, q, e => by
    simp only [RDs] at q; subst q
    simp [allInts] at e; subst e
    exact ⟨rfl, rfl⟩
  | .int i :: ds, vs, ns, q, e => by
    simp only [RDs] at q
    obtain ⟨w, r', rfl, q1, q2⟩ := q
    simp only [allInts, Option.map_eq_some_iff] at e
    obtain ⟨ms, e1, rfl⟩ := e
    obtain ⟨h1, h2⟩ := RDs.ints_of q2 e1
    simp only [RD] at q1
    subst q1 h1 h2
    exact ⟨rfl, rfl⟩
  | .non :: ds, vs, ns, q, e => by simp [allInts] at e
  | .bl _ :: ds, vs, ns, q, e => by simp [allInts] at e
  | .str _ :: ds, vs, ns, q, e => by simp [allInts] at e
  | .tup _ :: ds, vs, ns, q, e => by simp [allInts] at e
  | .lst _ :: ds, vs, ns, q, e => by simp [allInts] at e
  | .ref _ :: ds, vs, ns, q, e => by simp [allInts] at e
  | .fz _ :: ds, vs, ns, q, e => by simp [allInts] at e
theorem RDs.bls_of : ∀ {ds : List D} {vs : List V} {ns : List Bool}, RDs K μ H ds vs → allBls ds = some ns → vs = ns.map V.bl ∧ ds = ns.map D.bl
  | [], vs, ns, q, e => by
    simp only [RDs] at q; subst q
    simp [allBls] at e; subst e
    exact ⟨rfl, rfl⟩
  | .bl i :: ds, vs, ns, q, e => by
    simp only [RDs] at q
    obtain ⟨w, r', rfl, q1, q2⟩ := q
    simp only [allBls, Option.map_eq_some_iff] at e
    obtain ⟨ms, e1, rfl⟩ := e
    obtain ⟨h1, h2⟩ := RDs.bls_of q2 e1
    simp only [RD] at q1
    subst q1 h1 h2
    exact ⟨rfl, rfl⟩
  | .non :: ds, vs, ns, q, e => by simp [allBls] at e
  | .int _ :: ds, vs, ns, q, e => by simp [allBls] at e
  | .str _ :: ds, vs, ns, q, e => by simp [allBls] at e
  | .tup _ :: ds, vs, ns, q, e => by simp [allBls] at e
  | .lst _ :: ds, vs, ns, q, e => by simp [allBls] at e
  | .ref _ :: ds, vs, ns, q, e => by simp [allBls] at e
  | .fz _ :: ds, vs, ns, q, e => by simp [allBls] at e
theorem RO.mono (m : Mo H H') (p : μ <+: μ') {o : O} {ho : HO} (q : RO K μ H o ho) : RO K μ' H' o ho := by
  cases o with
  | lst ds =>
    obtain ⟨vs, e, q⟩ := q
    exact ⟨vs, e, q.mono m p⟩
theorem RW.mono (m : Mo H H') (p : μ <+: μ') {ds : List D} {xs : List V} {G : Frs} (q : RW K μ H ds xs G) : RW K μ' H' ds xs G := by
  induction q with
  | nil => exact .nil
  | val r _ ih => exact .val (RD.mono m p _ _ r) ih
  | lst r _ ih => exact .lst (RDs.mono m p _ _ r) ih
theorem RW.one {d : D} {xs : List V} {G : Frs} (q : RW K μ H [d] xs G) : ∃ x, xs = [x] ∧ RW K μ H [d] [x] G := by
  cases q with
  | val r t => cases t; exact ⟨_, rfl, .val r .nil⟩
  | lst r t => cases t; exact ⟨_, rfl, .lst r .nil⟩
theorem RW.append {ds es : List D} {xs ys : List V} {G G' : Frs} (q : RW K μ H ds xs G) (r : RW K μ H es ys G') : RW K μ H (ds ++ es) (xs ++ ys) (G ++ G') := by
  induction q with
  | nil => exact r
  | val r _ ih => exact .val r ih
  | lst r _ ih => exact .lst r ih
theorem RW.length {ds : List D} {xs : List V} {G : Frs} (q : RW K μ H ds xs G) : ds.length = xs.length := by
  induction q with
  | nil => rfl
  | val r _ ih => simp [ih]
  | lst r _ ih => simp [ih]
theorem RS.mono (m : Mo H H') (p : μ <+: μ') {s : Stm} {σ : L2.St} (q : RS K μ H s σ) : RS K μ' H' s σ :=
  ⟨q.1, fun i d e => let ⟨x, e1, r⟩ := q.2 i d e; ⟨x, e1, RD.mono m p _ _ r⟩⟩
theorem RS.set {s : Stm} {σ : L2.St} (q : RS K μ H s σ) (i : Nat) {d : D} {x : V} (r : RD K μ H d x) : RS K μ H (s.set i (some d)) (σ.set i (some x)) := by
  refine ⟨by rw [List.length_set, List.length_set]; exact q.1, fun j e hj => ?_⟩
  by_cases hji : i = j
  · subst hji
    have hl : i < s.length := by
      have := (List.getElem?_eq_some_iff.mp hj).1
      rw [List.length_set] at this; exact this
    rw [List.getElem?_set_self hl] at hj
    cases hj
    exact ⟨x, List.getElem?_set_self (by rw [← q.1]; exact hl), r⟩
  · rw [List.getElem?_set_ne hji] at hj ⊢
    exact q.2 j e hj
theorem RS.wipe {s : Stm} {σ : L2.St} (q : RS K μ H s σ) : ∀ vs : List Nat, RS K μ H (wipeS s vs) (wipe σ vs)
  | [] => q
  | v :: vs => by
    have ih := RS.wipe q vs
    unfold wipeS L2.wipe
    refine ⟨by rw [List.length_set, List.length_set]; exact ih.1, fun j e hj => ?_⟩
    by_cases hji : v = j
    · subst hji
      have hl : v < (wipeS s vs).length := by
        have := (List.getElem?_eq_some_iff.mp hj).1
        rw [List.length_set] at this; exact this
      rw [List.getElem?_set_self hl] at hj
      cases hj
    · rw [List.getElem?_set_ne hji] at hj ⊢
      exact ih.2 j e hj
theorem RH.weak {G : Frs} (q : RH K μ (G ++ F) H h) : RH K μ F H h :=
  ⟨q.len, q.obj, fun p hp => q.frm p (List.mem_append_right _ hp), by
    have := q.nd
    rw [List.map_append] at this
    exact this.sublist (List.Sublist.append (List.Sublist.refl _) (List.sublist_append_right _ _))⟩
theorem RH.perm (q : RH K μ F H h) (p : F'.Perm F) : RH K μ F' H h :=
  ⟨q.len, q.obj, fun x hx => q.frm x (p.mem_iff.mp hx), (List.Perm.append_left μ (p.map _)).nodup_iff.mpr q.nd⟩
theorem RH.take (q : RH K μ F H h) {n : Nat} (b : (h.take n).all (O.below n) = true) : RH K (μ.take n) F H (h.take n) := by
  refine ⟨by rw [List.length_take, List.length_take, q.len], fun i o a e1 e2 => ?_, q.frm, q.nd.sublist (List.Sublist.append (List.take_sublist _ _) (List.Sublist.refl _))⟩
  have hi : i < n := by
    have := (List.getElem?_eq_some_iff.mp e1).1
    rw [List.length_take] at this; omega
  have hb : O.below n o = true := List.all_eq_true.mp b o (List.mem_of_getElem? e1)
  rw [List.getElem?_take_of_lt hi] at e1 e2
  obtain ⟨ho, e3, r⟩ := q.obj i o a e1 e2
  refine ⟨ho, e3, ?_⟩
  cases o with
  | lst ds =>
    obtain ⟨vs, e, r⟩ := r
    exact ⟨vs, e, RDs.take ds vs hb r⟩
theorem RH.at (q : RH K μ F H h) {i : Nat} {o : O} (e : h[i]? = some o) : ∃ a ho, μ[i]? = some a ∧ H a = some ho ∧ RO K μ H o ho := by
  have hi : i < μ.length := by rw [q.len]; exact (List.getElem?_eq_some_iff.mp e).1
  obtain ⟨ho, e1, r⟩ := q.obj i o _ e (List.getElem?_eq_getElem hi)
  exact ⟨_, ho, List.getElem?_eq_getElem hi, e1, r⟩
/-- a new object that is not tracked by places (a tuple, or a frame) -/
theorem RH.new (q : RH K μ F H h) {p : Addr} {o : HO} (hp : H p = none) : RH K μ F (upd H p o) h := by
  refine ⟨q.len, fun i ob a e1 e2 => ?_, fun x hx => by rw [upd_ne (ne_of_none (q.frm x hx) hp)]; exact q.frm x hx, q.nd⟩
  obtain ⟨ho, e3, r⟩ := q.obj i ob a e1 e2
  exact ⟨ho, by rw [upd_ne (ne_of_none e3 hp)]; exact e3, r.mono (Mo.new hp) (List.prefix_refl _)⟩
theorem RH.newF (q : RH K μ F H h) {p : Addr} {o : HO} (hp : H p = none) : RH K μ ((p, o) :: F) (upd H p o) h := by
  have q' := q.new (o := o) hp
  refine ⟨q'.len, q'.obj, fun x hx => ?_, ?_⟩
  · rcases List.mem_cons.mp hx with rfl | hx
    · exact upd_same
    · exact q'.frm x hx
  · rw [List.map_cons]
    have h1 : p ∉ μ ++ F.map (·.1) := fun z => by
      rcases List.mem_append.mp z with z | z
      · obtain ⟨i, hi⟩ := List.getElem?_of_mem z
        have hil : i < h.length := by rw [← q.len]; exact (List.getElem?_eq_some_iff.mp hi).1
        obtain ⟨ho, e3, _⟩ := q.obj i _ p (List.getElem?_eq_getElem hil) hi
        rw [hp] at e3; cases e3
      · obtain ⟨y, hy, e⟩ := List.mem_map.mp z
        have := q.frm y hy
        rw [e, hp] at this; cases this
    exact (List.perm_middle (a := p)).nodup_iff.mpr (List.nodup_cons.mpr ⟨h1, q.nd⟩)
theorem RH.memF (q : RH K μ F H h) {p : Addr × HO} (hp : p ∈ F) : p.1 ∉ μ := fun z => by
  have := q.nd
  rw [List.nodup_append] at this
  exact this.2.2 _ z _ (List.mem_map.mpr ⟨p, hp, rfl⟩) rfl
/-- a list at a place is written -/
theorem RH.write (q : RH K μ F H h) {i : Nat} {a : Addr} {xs : List V} {ds : List D} {vs : List V} (ha : μ[i]? = some a) (hH : H a = some (.lst xs)) (r : RDs K μ H ds vs) : RH K μ F (upd H a (.lst vs)) (h.set i (.lst ds)) := by
  have mo : Mo H (upd H a (.lst vs)) := Mo.lst hH
  refine ⟨by rw [List.length_set]; exact q.len, fun j o b e1 e2 => ?_, fun x hx => ?_, q.nd⟩
  · have ndμ : μ.Nodup := (List.nodup_append.mp q.nd).1
    by_cases hji : i = j
    · subst hji
      rw [ha] at e2; cases e2
      have hl : i < h.length := by
        have := (List.getElem?_eq_some_iff.mp e1).1
        rw [List.length_set] at this; exact this
      rw [List.getElem?_set_self hl] at e1
      cases e1
      exact ⟨_, upd_same, vs, rfl, r.mono mo (List.prefix_refl _)⟩
    · rw [List.getElem?_set_ne hji] at e1
      obtain ⟨ho, e3, r3⟩ := q.obj j o b e1 e2
      have hne : b ≠ a := fun z => by
        subst z
        obtain ⟨h1, g1⟩ := List.getElem?_eq_some_iff.mp ha
        obtain ⟨h2, g2⟩ := List.getElem?_eq_some_iff.mp e2
        exact hji ((List.getElem_inj ndμ).mp (g1.trans g2.symm))
      exact ⟨ho, by rw [upd_ne hne]; exact e3, r3.mono mo (List.prefix_refl _)⟩
  · have hne : x.1 ≠ a := fun z => q.memF hx (by rw [z]; exact List.mem_of_getElem? ha)
    rw [upd_ne hne]; exact q.frm x hx
/-- a frame's list becomes a place -/
theorem RH.place {a : Addr} {vs : List V} {ds : List D} (q : RH K μ ((a, .lst vs) :: F) H h) (r : RDs K μ H ds vs) : RH K (μ ++ [a]) F H (h ++ [.lst ds]) := by
  have pre : μ <+: μ ++ [a] := List.prefix_append _ _
  refine ⟨by simp [q.len], fun i o b e1 e2 => ?_, fun x hx => q.frm x (List.mem_cons_of_mem _ hx), ?_⟩
  · by_cases hi : i < h.length
    · rw [List.getElem?_append_left hi] at e1
      rw [List.getElem?_append_left (by rw [q.len]; exact hi)] at e2
      obtain ⟨ho, e3, r3⟩ := q.obj i o b e1 e2
      exact ⟨ho, e3, r3.mono (Mo.refl _) pre⟩
    · have hil : i < (h ++ [O.lst ds]).length := (List.getElem?_eq_some_iff.mp e1).1
      have hie : i = h.length := by rw [List.length_append] at hil; simp at hil; omega
      subst hie
      rw [List.getElem?_append_right (Nat.le_refl _), Nat.sub_self] at e1
      rw [List.getElem?_append_right (by rw [q.len]; exact Nat.le_refl _), q.len, Nat.sub_self] at e2
      simp only [List.getElem?_cons_zero, Option.some.injEq] at e1 e2
      subst e1 e2
      exact ⟨_, q.frm (a, .lst vs) List.mem_cons_self, vs, rfl, r.mono (Mo.refl _) pre⟩
  · have := q.nd
    rw [List.map_cons] at this
    rw [List.append_assoc]
    exact this
/-- all lists just made become places -/
theorem RW.mats : ∀ {ds : List D} {xs : List V} {G : Frs} {μ : List Addr} {h : Hm}, RW K μ H ds xs G → RH K μ (G ++ F) H h → ∃ μ', μ <+: μ' ∧ RH K μ' F H (mats ds h).2 ∧ RDs K μ' H (mats ds h).1 xs
  | [], _, _, μ, h, q, r => by
    cases q
    exact ⟨μ, List.prefix_refl _, r, rfl⟩
  | d :: ds, _, _, μ, h, q, r => by
    cases q with
    | val q1 q2 =>
      have e : mat1 d h = (d, h) := by
        cases d <;> first | rfl | (simp [RD] at q1)
      obtain ⟨μ', p, r', q'⟩ := RW.mats q2 r
      refine ⟨μ', p, ?_, ?_⟩
      · show RH K μ' F H (Mp.mats ds (mat1 d h).2).2
        rw [e]; exact r'
      · show RDs K μ' H ((mat1 d h).1 :: (Mp.mats ds (mat1 d h).2).1) _
        rw [e]
        simp only [RDs]
        exact ⟨_, _, rfl, RD.mono (Mo.refl _) p _ _ q1, q'⟩
    | @lst es _ a vs xs G q1 q2 =>
      have r1 : RH K (μ ++ [a]) (G ++ F) H (h ++ [.lst es]) := RH.place r q1
      have q3 := q2.mono (Mo.refl H) (List.prefix_append μ [a])
      obtain ⟨μ', p, r', q'⟩ := RW.mats q3 r1
      refine ⟨μ', (List.prefix_append μ [a]).trans p, r', ?_⟩
      show RDs K μ' H (.ref h.length :: (Mp.mats ds (h ++ [.lst es])).1) _
      simp only [RDs]
      refine ⟨_, _, rfl, ?_, q'⟩
      simp only [RD]
      obtain ⟨t, rfl⟩ := p
      refine ⟨a, ?_, rfl⟩
      rw [List.append_assoc, List.getElem?_append_right (by rw [r.len]; exact Nat.le_refl _), r.len, Nat.sub_self]
      rfl
end
end Mp

namespace Mp
open PySem PySem.Spec L2
/-! ### readings by the interpreter -/
structure LenOk (K : PySem.W.Frag) (H : Hp) : Prop where
  l : ∀ a xs, SqL K H a xs → xs.length ≤ sizeLine
  t : ∀ a xs, SqT K H a xs → xs.length ≤ sizeLine
theorem Inv_lenOk {X : Cx} {pins : List (Addr × Obj)} {σ : L2.St} {H : Hp} {s : Shared} (I : Inv X pins σ H s) : LenOk X.K H :=
  ⟨fun a xs q => let ⟨_, _, _, z⟩ := I.list q; z, fun a xs q => let ⟨_, _, _, z⟩ := I.tuple q; z⟩
section
variable (K : PySem.W.Frag)
/-- how a result of the interpreter is borne -/
abbrev Rel (α β : Type) := List Addr → Hp → α → β → Frs → Prop
def Out {α β : Type} (rel : Rel α β) (μ : List Addr) (F : Frs) (H : Hp) (Q : β → Hp → Prop) : R α → Prop
  | .ok d h' => ∀ (μ' : List Addr) (H' : Hp) (x : β) (G : Frs), rel μ' H' d x G → RH K μ' (G ++ F) H' h' → μ <+: μ' → Mo H H' → LenOk K H' → Q x H'
  | _ => False
def T {α β : Type} (rel : Rel α β) (f : Stm → Hm → R α) (σ : L2.St) (H : Hp) (Q : β → Hp → Prop) : Prop :=
  LenOk K H → ∃ (μ : List Addr) (F : Frs) (s : Stm) (h : Hm), RS K μ H s σ ∧ RH K μ F H h ∧ Out K rel μ F H Q (f s h)
def relE : Rel D V := fun μ H d x G => RW K μ H [d] [x] G
def relA : Rel (List D) (List V) := fun μ H ds xs G => RW K μ H ds xs G
def relB : Rel Bool Bool := fun _ _ b c G => b = c ∧ G = []
def relO : Rel (Option Int) (Option Int) := fun _ _ b c G => b = c ∧ G = []
end
section
variable {K : PySem.W.Frag} {α β γ δ : Type} {rel : Rel α β} {rel' : Rel γ δ} {μ : List Addr} {F G : Frs} {H : Hp} {h : Hm} {s : Stm} {σ : L2.St}
/-- one step: f is run, then the rest; G: frames that are held meanwhile -/
theorem T.step {f : Stm → Hm → R α} {k : α → Hm → R γ} {Q : δ → Hp → Prop} {P : β → Hp → Prop} (rs : RS K μ H s σ) (rh : RH K μ (G ++ F) H h) (out : Out K rel' μ F H Q ((f s h).bind k))
    (go : ∀ (a : α) (h1 : Hm) (μ1 : List Addr) (H1 : Hp) (x : β) (G1 : Frs), f s h = .ok a h1 → rel μ1 H1 a x G1 → RH K μ1 (G1 ++ (G ++ F)) H1 h1 → μ <+: μ1 → Mo H H1 → LenOk K H1 → RS K μ1 H1 s σ →
      (∀ Q' : δ → Hp → Prop, (∀ y H', Q y H' → Q' y H') → Out K rel' μ1 F H1 Q' (k a h1)) → P x H1) : T K rel f σ H P := by
  intro _
  refine ⟨μ, G ++ F, s, h, rs, rh, ?_⟩
  cases e : f s h with
  | ok a h1 =>
    rw [e] at out
    intro μ1 H1 x G1 w1 rh1 p1 m1 l1
    refine go a h1 μ1 H1 x G1 e w1 rh1 p1 m1 l1 (rs.mono m1 p1) fun Q' hQ => ?_
    simp only [R.bind_ok] at out
    cases e2 : k a h1 with
    | ok b h2 =>
      rw [e2] at out
      exact fun μ2 H2 y G2 w2 rh2 p2 m2 l2 => hQ _ _ (out μ2 H2 y G2 w2 rh2 (p1.trans p2) (m1.trans m2) l2)
    | exc _ _ _ => rw [e2] at out; exact out
    | no => rw [e2] at out; exact out
  | exc _ _ _ => rw [e] at out; exact out.elim
  | no => rw [e] at out; exact out.elim
theorem Out.imp {Q Q' : β → Hp → Prop} {r : R α} (o : Out K rel μ F H Q r) (hq : ∀ y H', LenOk K H' → Q y H' → Q' y H') : Out K rel μ F H Q' r := by
  cases r with
  | ok a h1 => exact fun μ2 H2 y G2 w2 rh2 p2 m2 l2 => hq _ _ l2 (o μ2 H2 y G2 w2 rh2 p2 m2 l2)
  | exc _ _ _ => exact o
  | no => exact o
end
section
variable {X : Cx}
theorem _root_.L2.PE.imp {e : Expr} {t t' : TE} (h : PE X e t) (hi : ∀ σ H Q, LenOk X.K H → t' σ H Q → t σ H (fun x H' => LenOk X.K H' → Q x H')) : PE X e t' :=
  ⟨fun pins s σ H Q I h' => thn (h.run pins s σ H _ I (hi σ H Q (Inv_lenOk I) h')) fun _ _ ⟨x, H1, I1, r1, q1⟩ => ⟨x, H1, I1, r1, q1 (Inv_lenOk I1)⟩⟩
theorem _root_.L2.PT.imp {e : Expr} {t t' : TT} (h : PT X e t) (hi : ∀ σ H Q, LenOk X.K H → t' σ H Q → t σ H (fun x H' => LenOk X.K H' → Q x H')) : PT X e t' :=
  ⟨fun pins s σ H Q I h' => thn (h.run pins s σ H _ I (hi σ H Q (Inv_lenOk I) h')) fun _ _ ⟨H1, I1, q1⟩ => ⟨H1, I1, q1 (Inv_lenOk I1)⟩⟩
theorem _root_.L2.PW.imp {e : Expr} {t t' : TT} (h : PW X e t) (hi : ∀ σ H Q, LenOk X.K H → t' σ H Q → t σ H (fun x H' => LenOk X.K H' → Q x H')) : PW X e t' :=
  ⟨fun wh pins s σ H Q I h' => thn (h.run wh pins s σ H _ I (hi σ H Q (Inv_lenOk I) h')) fun _ _ ⟨H1, I1, q1⟩ => ⟨H1, I1, q1 (Inv_lenOk I1)⟩⟩
theorem _root_.L2.PA.imp {e : List Expr} {t t' : TA} (h : PA X e t) (hi : ∀ σ H Q, LenOk X.K H → t' σ H Q → t σ H (fun x H' => LenOk X.K H' → Q x H')) : PA X e t' :=
  ⟨fun pos pins s σ H Q I h' => thn (h.run pos pins s σ H _ I (hi σ H Q (Inv_lenOk I) h')) fun _ _ ⟨x, H1, I1, r1, q1⟩ => ⟨x, H1, I1, r1, q1 (Inv_lenOk I1)⟩⟩
theorem _root_.L2.PO.imp {e : Option Expr} {t t' : TO} (h : PO X e t) (hi : ∀ σ H Q, LenOk X.K H → t' σ H Q → t σ H (fun x H' => LenOk X.K H' → Q x H')) : PO X e t' :=
  ⟨fun pins s σ H Q I h' => thn (h.run pins s σ H _ I (hi σ H Q (Inv_lenOk I) h')) fun _ _ ⟨x, H1, I1, r1, q1⟩ => ⟨x, H1, I1, r1, q1 (Inv_lenOk I1)⟩⟩
theorem _root_.L2.PTs.imp {e : List Expr} {t t' : TT} (h : PTs X e t) (hi : ∀ σ H Q, LenOk X.K H → t' σ H Q → t σ H (fun x H' => LenOk X.K H' → Q x H')) : PTs X e t' :=
  ⟨fun pins s σ H Q I h' => thn (h.run pins s σ H _ I (hi σ H Q (Inv_lenOk I) h')) fun _ _ ⟨H1, I1, q1⟩ => ⟨H1, I1, q1 (Inv_lenOk I1)⟩⟩
end
abbrev TEm (K : PySem.W.Frag) (f : Stm → Hm → R D) : TE := T K (relE K) f
abbrev TAm (K : PySem.W.Frag) (f : Stm → Hm → R (List D)) : TA := T K (relA K) f
abbrev TTm (K : PySem.W.Frag) (f : Stm → Hm → R Bool) : TT := T K relB f
abbrev TOm (K : PySem.W.Frag) (f : Stm → Hm → R (Option Int)) : TO := T K relO f

/-! ### operations by values -/
/-- an operation on values whose result g tells; the heap of places stands -/
def V1 (K : PySem.W.Frag) (r : V → Hp → VK → Prop) (g : Hm → D → Option D) : Prop :=
  ∀ (μ : List Addr) (F G : Frs) (H : Hp) (h : Hm) (d : D) (x : V) (z : D) (Q : VK), RW K μ H [d] [x] G → RH K μ (G ++ F) H h → LenOk K H → g h d = some z →
    (∀ (H' : Hp) (v : V) (G' : Frs), RW K μ H' [z] [v] G' → RH K μ (G' ++ F) H' h → Mo H H' → Q v H') → r x H Q
def V2 (K : PySem.W.Frag) (r : R2) (g : Hm → D → D → Option D) : Prop :=
  ∀ (μ : List Addr) (F G : Frs) (H : Hp) (h : Hm) (d e : D) (x y : V) (z : D) (Q : VK), RW K μ H [d, e] [x, y] G → RH K μ (G ++ F) H h → LenOk K H → g h d e = some z →
    (∀ (H' : Hp) (v : V) (G' : Frs), RW K μ H' [z] [v] G' → RH K μ (G' ++ F) H' h → Mo H H' → Q v H') → r x y H Q
/-- .. on arguments -/
def VN (K : PySem.W.Frag) (r : List V → Hp → VK → Prop) (g : Hm → List D → Option D) : Prop :=
  ∀ (μ : List Addr) (F G : Frs) (H : Hp) (h : Hm) (ds : List D) (xs : List V) (z : D) (Q : VK), RW K μ H ds xs G → RH K μ (G ++ F) H h → LenOk K H → g h ds = some z →
    (∀ (H' : Hp) (v : V) (G' : Frs), RW K μ H' [z] [v] G' → RH K μ (G' ++ F) H' h → Mo H H' → Q v H') → r xs H Q
section
variable {X : Cx} {a b : Expr} {pos : Pos} {fa fb : Stm → Hm → R D}
/-- from an outcome R.of to what an operation by values asks -/
theorem Out.ofV {K : PySem.W.Frag} {μ : List Addr} {F : Frs} {H : Hp} {h : Hm} {o : Option D} {Q : VK} (out : Out K (relE K) μ F H Q (R.of o h)) :
    ∃ z, o = some z ∧ ∀ (H' : Hp) (v : V) (G' : Frs), RW K μ H' [z] [v] G' → RH K μ (G' ++ F) H' h → Mo H H' → LenOk K H' → Q v H' := by
  cases o with
  | none => exact out.elim
  | some z => exact ⟨z, rfl, fun H' v G' w rh m l => out μ H' v G' w rh (List.prefix_refl _) m l⟩
theorem frames2 {F G1 G2 : Frs} : ((G1 ++ G2) ++ F).Perm (G2 ++ (G1 ++ F)) := by
  rw [← List.append_assoc]
  exact (List.perm_append_comm).append_right F
/-- two operands, then an operation by values -/
theorem read2 {K : PySem.W.Frag} {r : R2} {g : Hm → D → D → Option D} (hv : V2 K r g) {σ : L2.St} {H : Hp} {Q : VK} (l : LenOk K H)
    (hw : TEm K (fun s h => (fa s h).bind fun x h1 => (fb s h1).bind fun y h2 => R.of (g h2 x y) h2) σ H Q) : tOp r (TEm K fa) (TEm K fb) σ H (fun x H' => LenOk K H' → Q x H') := by
  obtain ⟨μ, F, s, h, rs, rh, out⟩ := hw l
  refine T.step (G := []) (rel := relE K) rs rh out fun d h1 μ1 H1 x G1 e1 w1 rh1 p1 m1 l1 rs1 out1 => ?_
  refine T.step (rel := relE K) rs1 rh1 (out1 (fun x H' => LenOk K H' → Q x H') fun _ _ q _ => q) fun e h2 μ2 H2 y G2 e2 w2 rh2 p2 m2 l2 rs2 out2 => ?_
  obtain ⟨z, o, q⟩ := Out.ofV (out2 (fun x H' => LenOk K H' → Q x H') fun _ _ q => q)
  exact hv μ2 F (G1 ++ G2) H2 h2 d e x y z _ ((w1.mono m2 p2).append w2) (rh2.perm frames2) l2 o fun H' v G' w rh' m l' => q H' v G' w rh' m l' l'
/-- one operand -/
theorem read1 {K : PySem.W.Frag} {r : V → Hp → VK → Prop} {g : Hm → D → Option D} (hv : V1 K r g) {σ : L2.St} {H : Hp} {Q : VK} (l : LenOk K H)
    (hw : TEm K (fun s h => (fa s h).bind fun x h1 => R.of (g h1 x) h1) σ H Q) : tUn r (TEm K fa) σ H (fun x H' => LenOk K H' → Q x H') := by
  obtain ⟨μ, F, s, h, rs, rh, out⟩ := hw l
  refine T.step (G := []) (rel := relE K) rs rh out fun d h1 μ1 H1 x G1 e1 w1 rh1 p1 m1 l1 rs1 out1 => ?_
  obtain ⟨z, o, q⟩ := Out.ofV (out1 (fun x H' => LenOk K H' → Q x H') fun _ _ q _ => q)
  exact hv μ1 F G1 H1 h1 d x z _ w1 rh1 l1 o fun H' v G' w rh' m l' => q H' v G' w rh' m l' l'
theorem me_op2 {op : Operator} {r : R2} {g : Hm → D → D → Option D} (ho : OpR X (binaryOp op) r) (hv : V2 X.K r g) (ha : PE X a (TEm X.K fa)) (hb : PE X b (TEm X.K fb)) :
    PE X (.BinOp a op b pos) (TEm X.K fun s h => (fa s h).bind fun x h1 => (fb s h1).bind fun y h2 => R.of (g h2 x y) h2) :=
  (pe_op ho ha hb).imp fun _ _ _ l hw => read2 hv l hw
theorem me_un {op : UnaryOp} {r : V → Hp → VK → Prop} {g : Hm → D → Option D} (ho : UnR X (unaryOp op) r) (hv : V1 X.K r g) (ha : PE X a (TEm X.K fa)) :
    PE X (.UnaryOp op a pos) (TEm X.K fun s h => (fa s h).bind fun x h1 => R.of (g h1 x) h1) :=
  (pe_un ho ha).imp fun _ _ _ l hw => read1 hv l hw
theorem me_cmp {op : CmpOp} {r : R2} {g : Hm → D → D → Option D} (ho : OpR X (compareOp op) r) (hv : V2 X.K r g) (hm : behindInMarks op b = false) (ha : PE X a (TEm X.K fa)) (hb : PE X b (TEm X.K fb)) :
    PE X (.Compare a [op] [b] pos) (TEm X.K fun s h => (fa s h).bind fun x h1 => (fb s h1).bind fun y h2 => R.of (g h2 x y) h2) :=
  (pe_cmpR ho ha hb hm).imp fun _ _ _ l hw => read2 hv l hw
theorem me_ix {r : R2} {g : Hm → D → D → Option D} (ho : IxR X r) (hv : V2 X.K r g) (hs : PlainIx b) (ha : PE X a (TEm X.K fa)) (hb : PE X b (TEm X.K fb)) :
    PE X (.Subscript a b pos) (TEm X.K fun s h => (fa s h).bind fun x h1 => (fb s h1).bind fun y h2 => R.of (g h2 x y) h2) :=
  (pe_ix ho ha hb hs).imp fun _ _ _ l hw => read2 hv l hw
/-! ### names, constants -/
theorem me_const {f : Stm → Hm → R D} {d : D} {v : V} (h : PE X a (tC v)) (hf : ∀ s h, f s h = .ok d h) (hr : ∀ μ H, RD X.K μ H d v) : PE X a (TEm X.K f) :=
  h.imp fun σ H Q l hw => by
    obtain ⟨μ, F, s, h, rs, rh, out⟩ := hw l
    rw [hf] at out
    exact fun l' => out μ H v [] (.val (hr μ H) .nil) rh (List.prefix_refl _) (Mo.refl _) l'
theorem me_var {i : Nat} (h : PE X a (tVar i)) : PE X a (TEm X.K (fun s h => match s[i]? with
    | some (some d) => .ok d h
    | _ => .no)) :=
  h.imp fun σ H Q l hw => by
    obtain ⟨μ, F, s, h, rs, rh, out⟩ := hw l
    cases e : s[i]? with
    | none => simp only [e] at out; exact out.elim
    | some o =>
      cases o with
      | none => simp only [e] at out; exact out.elim
      | some d =>
        simp only [e] at out
        obtain ⟨x, e1, r⟩ := rs.2 i d e
        exact ⟨x, e1, fun l' => out μ H x [] (.val r .nil) rh (List.prefix_refl _) (Mo.refl _) l'⟩
/-! ### argument lists, displays, calls of built-ins -/
theorem me_nil : PA X [] (TAm X.K fun s h => .ok [] h) :=
  pa_nil.imp fun σ H Q l hw => by
    obtain ⟨μ, F, s, h, rs, rh, out⟩ := hw l
    exact fun l' => out μ H [] [] .nil rh (List.prefix_refl _) (Mo.refl _) l'
theorem me_cons {es : List Expr} {fs : Stm → Hm → R (List D)} (hs : starEach (a :: es) X.env = (false, eval a X.env) :: starEach es X.env) (ha : PE X a (TEm X.K fa)) (hb : PA X es (TAm X.K fs)) :
    PA X (a :: es) (TAm X.K fun s h => (fa s h).bind fun d h1 => (fs s h1).bind fun ds h2 => .ok (d :: ds) h2) :=
  (pa_cons ha hb hs).imp fun σ H Q l hw => by
    obtain ⟨μ, F, s, h, rs, rh, out⟩ := hw l
    refine T.step (G := []) (rel := relE X.K) rs rh out fun d h1 μ1 H1 x G1 e1 w1 rh1 p1 m1 l1 rs1 out1 => ?_
    refine T.step (rel := relA X.K) rs1 rh1 (out1 (fun x H' => LenOk X.K H' → Q x H') fun _ _ q _ => q) fun ds h2 μ2 H2 xs G2 e2 w2 rh2 p2 m2 l2 rs2 out2 => ?_
    have q := out2 (fun x H' => LenOk X.K H' → Q x H') fun _ _ q => q
    exact q μ2 H2 (x :: xs) (G1 ++ G2) ((w1.mono m2 p2).append w2) (rh2.perm frames2) (List.prefix_refl _) (Mo.refl _) l2
theorem me_tup {es : List Expr} {k : Nat} {fs : Stm → Hm → R (List D)} (hl : ∀ s h ds h1, fs s h = .ok ds h1 → ds.length ≤ 16777216) (hb : PA X es (TAm X.K fs)) :
    PE X (.Tuple es k pos) (TEm X.K fun s h => (fs s h).bind fun ds h1 => let p := mats ds h1; .ok (.tup p.1) p.2) :=
  (pe_tupF hb).imp fun σ H Q l hw => by
    obtain ⟨μ, F, s, h, rs, rh, out⟩ := hw l
    refine T.step (G := []) (rel := relA X.K) rs rh out fun ds h1 μ1 H1 xs G1 e1 w1 rh1 p1 m1 l1 rs1 out1 => ?_
    have q := out1 (fun x H' => LenOk X.K H' → Q x H') fun _ _ q _ => q
    obtain ⟨μ2, p2, rh2, r2⟩ := RW.mats w1 rh1
    have hz : ds.length ≤ 16777216 := hl s h ds h1 e1
    have wl := w1.length
    refine ⟨by rw [← wl, sizeLine_eq]; exact hz, fun p o hp ho l' => ?_⟩
    · refine q μ2 (upd H1 p (.frz o (.tup xs))) (.ref p) [] (.val ?_ .nil) (rh2.new hp) p2 (Mo.new hp) l' l'
      simp only [RD]
      exact ⟨p, xs, rfl, .inl ⟨o, ho, upd_same⟩, r2.mono (Mo.new hp) (List.prefix_refl _)⟩
theorem me_lst {es : List Expr} {fs : Stm → Hm → R (List D)} (hl : ∀ s h ds h1, fs s h = .ok ds h1 → ds.length ≤ 16777216) (hb : PA X es (TAm X.K fs)) :
    PE X (.List es pos) (TEm X.K fun s h => (fs s h).bind fun ds h1 => let p := mats ds h1; .ok (.lst p.1) p.2) :=
  (pe_lst hb).imp fun σ H Q l hw => by
    obtain ⟨μ, F, s, h, rs, rh, out⟩ := hw l
    refine T.step (G := []) (rel := relA X.K) rs rh out fun ds h1 μ1 H1 xs G1 e1 w1 rh1 p1 m1 l1 rs1 out1 => ?_
    have q := out1 (fun x H' => LenOk X.K H' → Q x H') fun _ _ q _ => q
    obtain ⟨μ2, p2, rh2, r2⟩ := RW.mats w1 rh1
    have hz : ds.length ≤ 16777216 := hl s h ds h1 e1
    have wl := w1.length
    refine ⟨by rw [← wl, sizeLine_eq]; exact hz, fun p hp l' => ?_⟩
    · exact q μ2 (upd H1 p (.lst xs)) (.ref p) [(p, .lst xs)] (.lst (r2.mono (Mo.new hp) (List.prefix_refl _)) .nil) (rh2.newF hp) p2 (Mo.new hp) l' l'
theorem readN {K : PySem.W.Frag} {r : List V → Hp → VK → Prop} {g : Hm → List D → Option D} {fs : Stm → Hm → R (List D)} (hv : VN K r g) {σ : L2.St} {H : Hp} {Q : VK} (l : LenOk K H)
    (hw : TEm K (fun s h => (fs s h).bind fun ds h1 => R.of (g h1 ds) h1) σ H Q) : tCB r (TAm K fs) σ H (fun x H' => LenOk K H' → Q x H') := by
  obtain ⟨μ, F, s, h, rs, rh, out⟩ := hw l
  refine T.step (G := []) (rel := relA K) rs rh out fun ds h1 μ1 H1 xs G1 e1 w1 rh1 p1 m1 l1 rs1 out1 => ?_
  obtain ⟨z, o, q⟩ := Out.ofV (out1 (fun x H' => LenOk K H' → Q x H') fun _ _ q _ => q)
  exact hv μ1 F G1 H1 h1 ds xs z _ w1 rh1 l1 o fun H' v G' w rh' m l' => q H' v G' w rh' m l' l'
theorem me_callB {e : Expr} {es : List Expr} {x : Str} {p : Pos} {id : String} {r : List V → Hp → VK → Prop} {g : Hm → List D → Option D} {fs : Stm → Hm → R (List D)} (hc : CallR X (.builtin id) r) (hv : VN X.K r g) (hg : Gl X x) (hm : X.mg x = none) (hb : bootBuiltins x = some (.builtin id))
    (hn : x ≠ "__name__") (hd : (x == ("__debug__" : Str)) = false) (he : starEach (e :: es) X.env = (false, eval e X.env) :: starEach es X.env) (hpl : (backTo pos (starEach es X.env)).any (·.1) = false) (ha : PA X (e :: es) (TAm X.K fs)) :
    PE X (.Call (.Name x p) (e :: es) [] pos) (TEm X.K fun s h => (fs s h).bind fun ds h1 => R.of (g h1 ds) h1) :=
  (pe_callB hc hg hm hb ha hn hd he hpl).imp fun _ _ _ l hw => readN hv l hw
theorem me_callTy {e : Expr} {es : List Expr} {x : Str} {p : Pos} {id : String} {r : List V → Hp → VK → Prop} {g : Hm → List D → Option D} {fs : Stm → Hm → R (List D)} (hc : CallR X (.type id) r) (hv : VN X.K r g) (hg : Gl X x) (hm : X.mg x = none) (hb : bootBuiltins x = some (.type id))
    (hn : x ≠ "__name__") (hd : (x == ("__debug__" : Str)) = false) (he : starEach (e :: es) X.env = (false, eval e X.env) :: starEach es X.env) (hpl : (backTo pos (starEach es X.env)).any (·.1) = false) (ha : PA X (e :: es) (TAm X.K fs)) :
    PE X (.Call (.Name x p) (e :: es) [] pos) (TEm X.K fun s h => (fs s h).bind fun ds h1 => R.of (g h1 ds) h1) :=
  (pe_callTy hc hg hm hb ha hn hd he hpl).imp fun _ _ _ l hw => readN hv l hw
end
end Mp

namespace Mp
open PySem PySem.Spec L2
section
variable {K : PySem.W.Frag} {μ : List Addr} {F G : Frs} {H : Hp} {h : Hm}
/-! ### reading values off -/
theorem RW.split {d e : D} {x y : V} (q : RW K μ H [d, e] [x, y] G) : ∃ G1 G2, G = G1 ++ G2 ∧ RW K μ H [d] [x] G1 ∧ RW K μ H [e] [y] G2 := by
  cases q with
  | val r t => exact ⟨[], _, rfl, .val r .nil, t⟩
  | lst r t => exact ⟨[_], _, rfl, .lst r .nil, t⟩
theorem RW.int_of {i : Int} {x : V} (q : RW K μ H [.int i] [x] G) : x = .int i ∧ G = [] := by
  cases q with
  | val r t => cases t; simp only [RD] at r; exact ⟨r, rfl⟩
theorem RW.str_of {i : Str} {x : V} (q : RW K μ H [.str i] [x] G) : x = .str i ∧ G = [] := by
  cases q with
  | val r t => cases t; simp only [RD] at r; exact ⟨r, rfl⟩
theorem RW.bl_of {i : Bool} {x : V} (q : RW K μ H [.bl i] [x] G) : x = .bl i ∧ G = [] := by
  cases q with
  | val r t => cases t; simp only [RD] at r; exact ⟨r, rfl⟩
theorem RW.non_of {x : V} (q : RW K μ H [.non] [x] G) : x = .non ∧ G = [] := by
  cases q with
  | val r t => cases t; simp only [RD] at r; exact ⟨r, rfl⟩
theorem RW.tup_of {ds : List D} {x : V} (q : RW K μ H [.tup ds] [x] G) : G = [] ∧ ∃ a vs, x = .ref a ∧ TupK K H a vs ∧ RDs K μ H ds vs := by
  cases q with
  | val r t => cases t; simp only [RD] at r; exact ⟨rfl, r⟩
theorem asL_of {d : D} {x : V} {xs : List D} (q : RW K μ H [d] [x] G) (rh : RH K μ (G ++ F) H h) (e : asL h d = some xs) : ∃ a vs, x = .ref a ∧ H a = some (.lst vs) ∧ RDs K μ H xs vs := by
  cases q with
  | @val d x _ _ G r t =>
    cases d with
    | ref i =>
      simp only [asL] at e
      cases e1 : h[i]? with
      | none => rw [e1] at e; cases e
      | some o =>
        rw [e1] at e
        cases o with
        | lst ys =>
          simp only [Option.some.injEq] at e
          subst e
          simp only [RD] at r
          obtain ⟨a, e2, rfl⟩ := r
          obtain ⟨ho, e3, vs, rfl, q⟩ := rh.obj i _ a e1 e2
          exact ⟨a, vs, rfl, e3, q⟩
    | lst _ => simp [RD] at r
    | _ => simp [asL] at e
  | @lst es _ a vs _ _ r t =>
    simp only [asL, Option.some.injEq] at e
    subst e
    exact ⟨a, vs, rfl, rh.frm (a, .lst vs) (by simp), r⟩
theorem asQ_of {d : D} {x : V} {xs : List D} (q : RW K μ H [d] [x] G) (rh : RH K μ (G ++ F) H h) (e : asQ h d = some xs) : ∃ a vs, x = .ref a ∧ (H a = some (.lst vs) ∨ SqT K H a vs) ∧ RDs K μ H xs vs := by
  cases d with
  | tup ds =>
    simp only [asQ, Option.some.injEq] at e
    subst e
    obtain ⟨_, a, vs, rfl, r1, r2⟩ := q.tup_of
    exact ⟨a, vs, rfl, .inr r1.sq, r2⟩
  | _ =>
    obtain ⟨a, vs, r1, r2, r3⟩ := asL_of q rh (by simpa only [asQ] using e)
    exact ⟨a, vs, r1, .inl r2, r3⟩
/-- what an operation hands on: a scalar, a new list, a new tuple -/
abbrev Go (K : PySem.W.Frag) (μ : List Addr) (F : Frs) (H : Hp) (h : Hm) (z : D) (Q : VK) : Prop := ∀ (H' : Hp) (v : V) (G' : Frs), RW K μ H' [z] [v] G' → RH K μ (G' ++ F) H' h → Mo H H' → Q v H'
theorem go0 {z : D} {v : V} {Q : VK} (q : Go K μ F H h z Q) (rh : RH K μ (G ++ F) H h) (r : RD K μ H z v) : Q v H := q H v [] (.val r .nil) rh.weak (Mo.refl _)
theorem goL {zs : List D} {vs : List V} {Q : VK} (q : Go K μ F H h (.lst zs) Q) (rh : RH K μ (G ++ F) H h) (r : RDs K μ H zs vs) : ∀ p, H p = none → Q (.ref p) (upd H p (.lst vs)) := fun p hp =>
  q _ _ [(p, .lst vs)] (.lst (r.mono (Mo.new hp) (List.prefix_refl _)) .nil) (rh.weak.newF hp) (Mo.new hp)
theorem goT {zs : List D} {vs : List V} {Q : VK} (q : Go K μ F H h (.tup zs) Q) (rh : RH K μ (G ++ F) H h) (r : RDs K μ H zs vs) : NewT H vs Q := fun p o hp ho =>
  q _ _ [] (.val (by simp only [RD]; exact ⟨p, vs, rfl, .inl ⟨o, ho, upd_same⟩, r.mono (Mo.new hp) (List.prefix_refl _)⟩) .nil) (rh.weak.new hp) (Mo.new hp)
end
section
variable {K : PySem.W.Frag}
/-! ### + - * // % -/
theorem sz_some {α : Type} {a b : Nat} {x y : α} (h : sz a b x = some y) : a + b ≤ sizeLine ∧ x = y := by
  unfold sz at h
  split at h
  · rename_i hz
    rw [sizeLine_eq]
    exact ⟨hz, Option.some.inj h⟩
  · cases h
theorem RDs.nil_iff {μ : List Addr} {H : Hp} {ds : List D} {vs : List V} (q : RDs K μ H ds vs) : vs = [] ↔ ds = [] := by
  have := q.length
  constructor
  · intro e; rw [e] at this; exact List.eq_nil_of_length_eq_zero this
  · intro e; rw [e] at this; exact List.eq_nil_of_length_eq_zero this.symm
abbrev rAddD (K : PySem.W.Frag) : R2 := fun x y H Q => (rI0 fun i j => .int (i + j)) x y H Q ∨ (∃ i j, x = .str i ∧ y = .str j ∧ i.length + j.length ≤ sizeLine ∧ Q (.str (i ++ j)) H) ∨ rCatF K x y H Q ∨ rCat x y H Q
theorem v_add : V2 K (rAddD K) (fun h x y => addD h x y) := by
  intro μ F G H h d e x y z Q w rh l o q
  obtain ⟨G1, G2, rfl, w1, w2⟩ := w.split
  have lists : ∀ {d e : D}, RW K μ H [d] [x] G1 → RW K μ H [e] [y] G2 → addL h d e = some z → rAddD K x y H Q := fun {d e} w1 w2 o => by
    unfold addL at o
    cases e1 : asL h d with
    | none => rw [e1] at o; cases o
    | some xs =>
      cases e2 : asL h e with
      | none => rw [e1, e2] at o; cases o
      | some ys =>
        rw [e1, e2] at o
        obtain ⟨hz, rfl⟩ := sz_some o
        obtain ⟨a, vs, rfl, r1, r2⟩ := asL_of (F := G2 ++ F) w1 (by rw [← List.append_assoc]; exact rh) e1
        obtain ⟨b, us, rfl, r3, r4⟩ := asL_of (F := G1 ++ F) w2 (rh.perm (by rw [← List.append_assoc]; exact (List.perm_append_comm).append_right F)) e2
        refine .inr (.inr (.inr ⟨a, b, vs, us, rfl, rfl, r1, r3, by rw [← r2.length, ← r4.length]; exact hz, goL q rh (r2.append r4)⟩))
  cases d with
  | int i =>
    obtain ⟨rfl, _⟩ := w1.int_of
    cases e with
    | int j =>
      obtain ⟨rfl, _⟩ := w2.int_of
      simp only [addD, Option.some.injEq] at o
      subst o
      exact .inl ⟨i, j, rfl, rfl, go0 q rh rfl⟩
    | _ => exact lists w1 w2 (by simpa only [addD] using o)
  | str i =>
    obtain ⟨rfl, _⟩ := w1.str_of
    cases e with
    | str j =>
      obtain ⟨rfl, _⟩ := w2.str_of
      simp only [addD] at o
      obtain ⟨hz, rfl⟩ := sz_some o
      exact .inr (.inl ⟨i, j, rfl, rfl, hz, go0 q rh rfl⟩)
    | _ => exact lists w1 w2 (by simpa only [addD] using o)
  | tup xs =>
    obtain ⟨_, a, vs, rfl, r1, r2⟩ := w1.tup_of
    cases e with
    | tup ys =>
      obtain ⟨_, b, us, rfl, r3, r4⟩ := w2.tup_of
      simp only [addD] at o
      obtain ⟨hz, rfl⟩ := sz_some o
      refine .inr (.inr (.inl ⟨a, b, vs, us, rfl, rfl, r1.sq, r3.sq, by rw [← r2.length, ← r4.length]; exact hz, fun e1 => ?_, fun _ e1 => ?_, fun _ _ => goT q rh (r2.append r4)⟩))
      · rw [r2.nil_iff] at e1
        subst e1
        exact go0 q rh (by simp only [RD]; exact ⟨b, us, rfl, r3, r4⟩)
      · rw [r4.nil_iff] at e1
        subst e1
        exact go0 q rh (by simp only [RD]; exact ⟨a, vs, rfl, r1, by rw [List.append_nil]; exact r2⟩)
    | _ => exact lists w1 w2 (by simpa only [addD] using o)
  | non => exact lists w1 w2 (by cases e <;> simpa only [addD] using o)
  | bl _ => exact lists w1 w2 (by cases e <;> simpa only [addD] using o)
  | lst _ => exact lists w1 w2 (by cases e <;> simpa only [addD] using o)
  | ref _ => exact lists w1 w2 (by cases e <;> simpa only [addD] using o)
  | fz _ => exact lists w1 w2 (by cases e <;> simpa only [addD] using o)
theorem o_add {X : Cx} : OpR X (binaryOp .Add) (rAddD X.K) := op_add.or (op_add_str.or (op_catF.or op_cat))
theorem v_sub : V2 K (rI0 fun i j => .int (i - j)) (fun _ x y => subD x y) := by
  intro μ F G H h d e x y z Q w rh l o q
  obtain ⟨G1, G2, rfl, w1, w2⟩ := w.split
  cases d <;> cases e <;> simp only [subD, Option.some.injEq, reduceCtorEq] at o
  subst o
  obtain ⟨rfl, _⟩ := w1.int_of
  obtain ⟨rfl, _⟩ := w2.int_of
  exact ⟨_, _, rfl, rfl, go0 q rh rfl⟩
theorem v_fdiv : V2 K (rI CDivW fun i j => .int (i / j)) (fun _ x y => fdivD x y) := by
  intro μ F G H h d e x y z Q w rh l o q
  obtain ⟨G1, G2, rfl, w1, w2⟩ := w.split
  cases d <;> cases e <;> simp only [fdivD, reduceCtorEq] at o
  split at o
  · rename_i hc
    simp only [Option.some.injEq] at o
    subst o
    obtain ⟨rfl, _⟩ := w1.int_of
    obtain ⟨rfl, _⟩ := w2.int_of
    exact ⟨_, _, rfl, rfl, wide_div (b := 64) hc.1 (by omega) (by omega) (by omega), go0 q rh rfl⟩
  · cases o
theorem v_mod : V2 K (rI (fun _ j => 0 < j) fun i j => .int (i % j)) (fun _ x y => modD x y) := by
  intro μ F G H h d e x y z Q w rh l o q
  obtain ⟨G1, G2, rfl, w1, w2⟩ := w.split
  cases d <;> cases e <;> simp only [modD, reduceCtorEq] at o
  split at o
  · rename_i hc
    simp only [Option.some.injEq] at o
    subst o
    obtain ⟨rfl, _⟩ := w1.int_of
    obtain ⟨rfl, _⟩ := w2.int_of
    exact ⟨_, _, rfl, rfl, hc, go0 q rh rfl⟩
  · cases o
theorem v_pow : V2 K (rI CPow fun i j => .int (i ^ j.toNat)) (fun _ x y => powD x y) := by
  intro μ F G H h d e x y z Q w rh l o q
  obtain ⟨G1, G2, rfl, w1, w2⟩ := w.split
  cases d <;> cases e <;> simp only [powD, reduceCtorEq] at o
  split at o
  · rename_i hc
    simp only [Option.some.injEq] at o
    subst o
    obtain ⟨rfl, _⟩ := w1.int_of
    obtain ⟨rfl, _⟩ := w2.int_of
    exact ⟨_, _, rfl, rfl, hc, go0 q rh rfl⟩
  · cases o
theorem v_shl : V2 K (rI CPow fun i j => .int (i * 2 ^ j.toNat)) (fun _ x y => shlD x y) := by
  intro μ F G H h d e x y z Q w rh l o q
  obtain ⟨G1, G2, rfl, w1, w2⟩ := w.split
  cases d <;> cases e <;> simp only [shlD, reduceCtorEq] at o
  split at o
  · rename_i hc
    simp only [Option.some.injEq] at o
    subst o
    obtain ⟨rfl, _⟩ := w1.int_of
    obtain ⟨rfl, _⟩ := w2.int_of
    exact ⟨_, _, rfl, rfl, hc, go0 q rh rfl⟩
  · cases o
abbrev rMulD (K : PySem.W.Frag) : R2 := fun x y H Q => rI CMul (fun i j => .int (i * j)) x y H Q ∨ rRepF K x y H Q ∨ rRep x y H Q
theorem v_mul : V2 K (rMulD K) (fun h x y => mulD h x y) := by
  intro μ F G H h d e x y z Q w rh l o q
  obtain ⟨G1, G2, rfl, w1, w2⟩ := w.split
  have lists : ∀ {d : D} {k : Int}, RW K μ H [d] [x] G1 → y = .int k → mulL h d k = some z → rMulD K x y H Q := fun {d k} w1 ey o => by
    unfold mulL at o
    cases e1 : asL h d with
    | none => rw [e1] at o; cases o
    | some xs =>
      rw [e1] at o
      simp only at o
      split at o
      · rename_i hc
        simp only [Option.some.injEq] at o
        subst o
        obtain ⟨a, vs, rfl, r1, r2⟩ := asL_of (F := G2 ++ F) w1 (by rw [← List.append_assoc]; exact rh) e1
        exact .inr (.inr ⟨a, k, vs, rfl, ey, r1, hc.1, hc.2.1, by rw [← r2.length, sizeLine_eq]; exact hc.2.2, goL q rh (r2.rep _)⟩)
      · cases o
  cases e with
  | int j =>
    obtain ⟨rfl, _⟩ := w2.int_of
    cases d with
    | int i =>
      obtain ⟨rfl, _⟩ := w1.int_of
      simp only [mulD] at o
      split at o
      · rename_i hc
        simp only [Option.some.injEq] at o
        subst o
        simp only [small, Bool.or_eq_true, decide_eq_true_eq] at hc
        exact .inl ⟨i, j, rfl, rfl, hc, go0 q rh rfl⟩
      · cases o
    | tup xs =>
      obtain ⟨_, a, vs, rfl, r1, r2⟩ := w1.tup_of
      simp only [mulD] at o
      split at o
      · rename_i hc
        simp only [Option.some.injEq] at o
        subst o
        refine .inr (.inl ⟨a, j, vs, rfl, rfl, r1.sq, hc.1, hc.2.1, by rw [← r2.length]; exact hc.2.2, fun e => ?_, fun _ => goT q rh (r2.rep _)⟩)
        have key : RDs K μ H (List.replicate j.toNat xs).flatten vs := by
          rcases e with e | e
          · rw [r2.nil_iff] at e
            subst e
            rw [show (List.replicate j.toNat ([] : List D)).flatten = [] by simp]
            exact r2
          · subst e
            rw [show (List.replicate (1 : Int).toNat xs).flatten = xs by simp]
            exact r2
        exact go0 q rh (by simp only [RD]; exact ⟨a, vs, rfl, r1, key⟩)
      · cases o
    | _ => exact lists w1 rfl (by simpa only [mulD] using o)
  | _ => cases d <;> simp only [mulD, reduceCtorEq] at o
theorem o_mul {X : Cx} : OpR X (binaryOp .Mult) (rMulD X.K) := op_mul.or (op_repF.or op_rep)
theorem v_neg : V1 K (rU fun i => .int (-i)) (fun _ x => negD x) := by
  intro μ F G H h d x z Q w rh l o q
  cases d <;> simp only [negD, Option.some.injEq, reduceCtorEq] at o
  subst o
  obtain ⟨rfl, _⟩ := w.int_of
  exact ⟨_, rfl, go0 q rh rfl⟩
end
end Mp

namespace Mp
open PySem PySem.Spec L2
section
variable {K : PySem.W.Frag} {μ : List Addr} {F G : Frs} {H : Hp} {h : Hm}
/-! ### data -/
mutual
theorem toP_of {f : Nat → Option PyData} (hf : ∀ i p a, f i = some p → μ[i]? = some a → Dp K H (.ref a) p) : ∀ (d : D) (x : V) (p : PyData), RD K μ H d x → toP f d = some p → Dp K H x p
  | .non, x, p, r, e => by simp only [RD] at r; simp only [toP, Option.some.injEq] at e; subst r e; exact .non
  | .bl b, x, p, r, e => by simp only [RD] at r; simp only [toP, Option.some.injEq] at e; subst r e; exact .bl b
  | .int b, x, p, r, e => by simp only [RD] at r; simp only [toP, Option.some.injEq] at e; subst r e; exact .int b
  | .str b, x, p, r, e => by simp only [RD] at r; simp only [toP, Option.some.injEq] at e; subst r e; exact .str b
  | .tup ds, x, p, r, e => by
    simp only [RD] at r
    obtain ⟨a, vs, rfl, r1, r2⟩ := r
    simp only [toP, Option.map_eq_some_iff] at e
    obtain ⟨ps, e, rfl⟩ := e
    exact .tup r1.sq (toPs_of hf ds vs ps r2 e)
  | .lst ds, x, p, r, e => by simp [RD] at r
  | .ref i, x, p, r, e => by
    simp only [RD] at r
    obtain ⟨a, r, rfl⟩ := r
    exact hf i p a (by simpa only [toP] using e) r
  | .fz _, x, p, r, e => by simp [toP] at e
theorem toPs_of {f : Nat → Option PyData} (hf : ∀ i p a, f i = some p → μ[i]? = some a → Dp K H (.ref a) p) : ∀ (d : List D) (x : List V) (p : List PyData), RDs K μ H d x → toPs f d = some p → DpAll K H x p
  | [], x, p, r, e => by simp only [RDs] at r; simp only [toPs, Option.some.injEq] at e; subst r e; exact .nil
  | d :: ds, x, p, r, e => by
    simp only [RDs] at r
    obtain ⟨v, w, rfl, r1, r2⟩ := r
    simp only [toPs] at e
    cases e1 : toP f d with
    | none => rw [e1] at e; cases e
    | some q =>
      cases e2 : toPs f ds with
      | none => rw [e1, e2] at e; cases e
      | some qs =>
        rw [e1, e2] at e
        simp only [Option.some.injEq] at e
        subst e
        exact .cons (toP_of hf d v q r1 e1) (toPs_of hf ds w qs r2 e2)
end
theorem refP_of (rh : RH K μ F H h) : ∀ (n i : Nat) (p : PyData) (a : Addr), refP h n i = some p → μ[i]? = some a → Dp K H (.ref a) p
  | 0, i, p, a, e, _ => by simp [refP] at e
  | n + 1, i, p, a, e, r => by
    simp only [refP] at e
    cases e1 : h[i]? with
    | none => rw [e1] at e; cases e
    | some o =>
      cases o with
      | lst xs =>
        rw [e1] at e
        simp only [Option.map_eq_some_iff] at e
        obtain ⟨ps, e, rfl⟩ := e
        obtain ⟨ho, e3, vs, rfl, q⟩ := rh.obj i _ a e1 r
        exact .lst (.of e3) (toPs_of (fun i p a e r => refP_of rh n i p a e r) xs vs ps q e)
theorem datum_of {d : D} {x : V} {p : PyData} (q : RW K μ H [d] [x] G) (rh : RH K μ (G ++ F) H h) (e : datum h d = some p) : Dp K H x p := by
  cases q with
  | val r t => exact toP_of (fun i p a e r => refP_of rh 4 i p a e r) _ _ _ r e
  | @lst es _ a vs _ _ r t =>
    simp only [datum, toP, Option.map_eq_some_iff] at e
    obtain ⟨ps, e, rfl⟩ := e
    exact .lst (.of (rh.frm (a, .lst vs) (by simp))) (toPs_of (fun i p a e r => refP_of rh 4 i p a e r) es vs ps r e)
/-! ### comparisons -/
abbrev Cm (f : Option Bool) : Option D := f.map .bl
abbrev V2b (K : PySem.W.Frag) (r : R2) (g : Hm → D → D → Option Bool) : Prop := V2 K r fun h x y => (g h x y).map .bl
/-- a comparison's answer k -/
theorem V2b.mk {r : R2} {g : Hm → D → D → Option Bool} (hv : ∀ (μ : List Addr) (F G1 G2 : Frs) (H : Hp) (h : Hm) (d e : D) (x y : V) (k : Bool) (Q : VK), RW K μ H [d] [x] G1 → RW K μ H [e] [y] G2 → RH K μ (G1 ++ (G2 ++ F)) H h → RH K μ (G2 ++ (G1 ++ F)) H h → g h d e = some k → Q (.bl k) H → r x y H Q) : V2b K r g := by
  intro μ F G H h d e x y z Q w rh l o q
  obtain ⟨G1, G2, rfl, w1, w2⟩ := w.split
  obtain ⟨k, o1, rfl⟩ := Option.map_eq_some_iff.mp o
  exact hv μ F G1 G2 H h d e x y k Q w1 w2 (by rw [← List.append_assoc]; exact rh) (rh.perm (by rw [← List.append_assoc]; exact (List.perm_append_comm).append_right F)) o1 (go0 q rh rfl)
abbrev rLtD (K : PySem.W.Frag) : R2 := fun x y H Q => (rI0 fun i j => .bl (decide (i < j))) x y H Q ∨ (∃ i j, x = .str i ∧ y = .str j ∧ Q (.bl (decide (i.cps.toList < j.cps.toList))) H) ∨ rLtT K x y H Q
theorem v_lt : V2b K (rLtD K) (fun _ x y => ltD x y) := by
  refine V2b.mk fun μ F G1 G2 H h d e x y k Q w1 w2 rh _ o q => ?_
  cases d <;> cases e <;> simp only [ltD, Option.some.injEq, reduceCtorEq] at o
  · subst o
    obtain ⟨rfl, _⟩ := w1.int_of
    obtain ⟨rfl, _⟩ := w2.int_of
    exact .inl ⟨_, _, rfl, rfl, q⟩
  · subst o
    obtain ⟨rfl, _⟩ := w1.str_of
    obtain ⟨rfl, _⟩ := w2.str_of
    exact .inr (.inl ⟨_, _, rfl, rfl, q⟩)
  · rename_i xs ys
    cases e1 : allInts xs with
    | none => simp [e1] at o
    | some ns =>
      cases e2 : allInts ys with
      | none => simp [e1, e2] at o
      | some ms =>
        simp only [e1, e2, Option.some.injEq] at o
        subst o
        obtain ⟨_, a, vs, rfl, r1, r2⟩ := w1.tup_of
        obtain ⟨_, b, us, rfl, r3, r4⟩ := w2.tup_of
        obtain ⟨rfl, _⟩ := r2.ints_of e1
        obtain ⟨rfl, _⟩ := r4.ints_of e2
        exact .inr (.inr ⟨a, b, ns, ms, rfl, rfl, r1.sq, r3.sq, q⟩)
theorem o_lt {X : Cx} (hu : X.A.units < cLine) : OpR X (compareOp .Lt) (rLtD X.K) := op_lt.or (op_lt_str.or (op_ltT hu))
theorem v_le : V2b K (rI0 fun i j => .bl (decide (i ≤ j))) (fun _ x y => leD x y) := by
  refine V2b.mk fun μ F G1 G2 H h d e x y k Q w1 w2 rh _ o q => ?_
  cases d <;> cases e <;> simp only [leD, Option.some.injEq, reduceCtorEq] at o
  subst o
  obtain ⟨rfl, _⟩ := w1.int_of
  obtain ⟨rfl, _⟩ := w2.int_of
  exact ⟨_, _, rfl, rfl, q⟩
theorem v_gt : V2b K (rI0 fun i j => .bl (decide (j < i))) (fun _ x y => gtD x y) := by
  refine V2b.mk fun μ F G1 G2 H h d e x y k Q w1 w2 rh _ o q => ?_
  cases d <;> cases e <;> simp only [gtD, Option.some.injEq, reduceCtorEq] at o
  subst o
  obtain ⟨rfl, _⟩ := w1.int_of
  obtain ⟨rfl, _⟩ := w2.int_of
  exact ⟨_, _, rfl, rfl, q⟩
theorem v_ge : V2b K (rI0 fun i j => .bl (decide (j ≤ i))) (fun _ x y => geD x y) := by
  refine V2b.mk fun μ F G1 G2 H h d e x y k Q w1 w2 rh _ o q => ?_
  cases d <;> cases e <;> simp only [geD, Option.some.injEq, reduceCtorEq] at o
  subst o
  obtain ⟨rfl, _⟩ := w1.int_of
  obtain ⟨rfl, _⟩ := w2.int_of
  exact ⟨_, _, rfl, rfl, q⟩
theorem deq_of {G1 G2 : Frs} {d e : D} {x y : V} {k : Bool} (w1 : RW K μ H [d] [x] G1) (w2 : RW K μ H [e] [y] G2) (rh1 : RH K μ (G1 ++ (G2 ++ F)) H h) (rh2 : RH K μ (G2 ++ (G1 ++ F)) H h) (o : deq h d e = some k) :
    ∃ p q, Dp K H x p ∧ Dp K H y q ∧ SeqAt.shaped p = true ∧ SeqAt.shaped q = true ∧ k = PyData.eqv p q := by
  unfold deq at o
  cases e1 : datum h d with
  | none => rw [e1] at o; cases o
  | some p =>
    cases e2 : datum h e with
    | none => rw [e1, e2] at o; cases o
    | some q =>
      rw [e1, e2] at o
      simp only at o
      split at o
      · rename_i hc
        simp only [Bool.and_eq_true] at hc
        exact ⟨p, q, datum_of w1 rh1 e1, datum_of w2 rh2 e2, hc.1, hc.2, (Option.some.inj o).symm⟩
      · cases o
abbrev rEqA (K : PySem.W.Frag) : R2 := fun x y H Q => rEq x y H Q ∨ rEqD K x y H Q
abbrev rNeA (K : PySem.W.Frag) : R2 := fun x y H Q => rNe x y H Q ∨ rNeD K x y H Q
theorem eqD_of {G1 G2 : Frs} {d e : D} {x y : V} {k : Bool} (w1 : RW K μ H [d] [x] G1) (w2 : RW K μ H [e] [y] G2) (rh1 : RH K μ (G1 ++ (G2 ++ F)) H h) (rh2 : RH K μ (G2 ++ (G1 ++ F)) H h) (o : eqD h d e = some k) :
    (scal x y = true ∧ k = decide (x = y)) ∨ ∃ p q, Dp K H x p ∧ Dp K H y q ∧ SeqAt.shaped p = true ∧ SeqAt.shaped q = true ∧ k = PyData.eqv p q := by
  have dq : deq h d e = some k → _ := fun o => Or.inr (a := scal x y = true ∧ k = decide (x = y)) (deq_of w1 w2 rh1 rh2 o)
  cases d with
  | int i =>
    cases e with
    | int j =>
      obtain ⟨rfl, _⟩ := w1.int_of
      obtain ⟨rfl, _⟩ := w2.int_of
      simp only [eqD, Option.some.injEq] at o
      subst o
      exact .inl ⟨rfl, by simp⟩
    | _ => exact dq (by simpa only [eqD] using o)
  | str i =>
    cases e with
    | str j =>
      obtain ⟨rfl, _⟩ := w1.str_of
      obtain ⟨rfl, _⟩ := w2.str_of
      simp only [eqD, Option.some.injEq] at o
      subst o
      exact .inl ⟨rfl, by simp⟩
    | _ => exact dq (by simpa only [eqD] using o)
  | bl i =>
    cases e with
    | bl j =>
      obtain ⟨rfl, _⟩ := w1.bl_of
      obtain ⟨rfl, _⟩ := w2.bl_of
      simp only [eqD, Option.some.injEq] at o
      subst o
      exact .inl ⟨rfl, by simp⟩
    | _ => exact dq (by simpa only [eqD] using o)
  | _ => exact dq (by simpa only [eqD] using o)
theorem v_eq : V2b K (rEqA K) (fun h x y => eqD h x y) := by
  refine V2b.mk fun μ F G1 G2 H h d e x y k Q w1 w2 rh rh' o q => ?_
  rcases eqD_of w1 w2 rh rh' o with ⟨h1, rfl⟩ | ⟨p, p', h1, h2, h3, h4, rfl⟩
  · exact .inl ⟨h1, q⟩
  · exact .inr ⟨p, p', h1, h2, h3, h4, q⟩
theorem v_ne : V2b K (rNeA K) (fun h x y => (eqD h x y).map (!·)) := by
  refine V2b.mk fun μ F G1 G2 H h d e x y k Q w1 w2 rh rh' o q => ?_
  obtain ⟨k, o1, rfl⟩ := Option.map_eq_some_iff.mp o
  rcases eqD_of w1 w2 rh rh' o1 with ⟨h1, rfl⟩ | ⟨p, p', h1, h2, h3, h4, rfl⟩
  · exact .inl ⟨h1, q⟩
  · exact .inr ⟨p, p', h1, h2, h3, h4, q⟩
theorem o_eq {X : Cx} (hu : X.A.units + 64 < cLine) : OpR X (compareOp .Eq) (rEqA X.K) := op_eq.or (op_eqD hu)
theorem o_ne {X : Cx} (hu : X.A.units + 64 < cLine) : OpR X (compareOp .NotEq) (rNeA X.K) := op_ne.or (op_neD hu)
abbrev rIsA : R2 := fun x y H Q => (y = .non ∧ Q (.bl (decide (x = .non))) H) ∨ rIsB x y H Q
abbrev rIsnA : R2 := fun x y H Q => (y = .non ∧ Q (.bl (!decide (x = .non))) H) ∨ rNotB x y H Q
theorem RW.non_iff {d : D} {x : V} (q : RW K μ H [d] [x] G) : decide (x = .non) = decide (d = .non) := by
  cases q with
  | @val d x _ _ _ r t =>
    cases d <;> simp only [RD] at r
    all_goals try (subst r; simp)
    · obtain ⟨a, vs, rfl, _⟩ := r; simp
    · obtain ⟨a, _, rfl⟩ := r; simp
    · obtain ⟨a, rfl, _⟩ := r; simp
  | lst r t => simp
theorem isD_of {G1 G2 : Frs} {d e : D} {x y : V} {k : Bool} (w1 : RW K μ H [d] [x] G1) (w2 : RW K μ H [e] [y] G2) (o : isD d e = some k) :
    (y = .non ∧ k = decide (x = .non)) ∨ ∃ a b, x = .bl a ∧ y = .bl b ∧ k = decide (a = b) := by
  cases e with
  | non =>
    obtain ⟨rfl, _⟩ := w2.non_of
    have : isD d .non = some (decide (d = .non)) := by cases d <;> rfl
    rw [this] at o
    exact .inl ⟨rfl, by rw [w1.non_iff]; exact (Option.some.inj o).symm⟩
  | bl b =>
    cases d <;> simp only [isD, Option.some.injEq, reduceCtorEq] at o
    obtain ⟨rfl, _⟩ := w1.bl_of
    obtain ⟨rfl, _⟩ := w2.bl_of
    exact .inr ⟨_, _, rfl, rfl, o.symm⟩
  | _ => cases d <;> simp only [isD, reduceCtorEq] at o
theorem v_is : V2b K rIsA (fun _ x y => isD x y) := by
  refine V2b.mk fun μ F G1 G2 H h d e x y k Q w1 w2 rh rh' o q => ?_
  rcases isD_of w1 w2 o with ⟨h1, rfl⟩ | ⟨a, b, h1, h2, rfl⟩
  · exact .inl ⟨h1, q⟩
  · exact .inr ⟨a, b, h1, h2, q⟩
theorem v_isn : V2b K rIsnA (fun _ x y => (isD x y).map (!·)) := by
  refine V2b.mk fun μ F G1 G2 H h d e x y k Q w1 w2 rh rh' o q => ?_
  obtain ⟨k, o1, rfl⟩ := Option.map_eq_some_iff.mp o
  rcases isD_of w1 w2 o1 with ⟨h1, rfl⟩ | ⟨a, b, h1, h2, rfl⟩
  · exact .inl ⟨h1, q⟩
  · exact .inr ⟨a, b, h1, h2, q⟩
theorem o_is {X : Cx} : OpR X (compareOp .Is) rIsA := op_isN.or op_isBl
theorem o_isn {X : Cx} : OpR X (compareOp .IsNot) rIsnA := op_notN.or op_notBl
end
end Mp

namespace Mp
open PySem PySem.Spec L2
section
variable {K : PySem.W.Frag} {μ : List Addr} {F G : Frs} {H : Hp} {h : Hm}
/-! ### in -/
def rInA (K : PySem.W.Frag) (neg : Bool) : R2 := fun x y H Q => (∃ (c : Nat) (z : Str), x = .str ⟨#[c]⟩ ∧ y = .str z ∧ Q (.bl (if neg then !decide (c ∈ z.cps.toList) else decide (c ∈ z.cps.toList))) H) ∨
  ∃ d ds, Dp K H x d ∧ (Dp K H y (.list ds) ∨ Dp K H y (.tuple ds)) ∧ SeqAt.shaped d = true ∧ SeqAt.shaped (.list ds) = true ∧ Q (.bl (if neg then !(ds.any fun z => PyData.eqv z d) else ds.any fun z => PyData.eqv z d)) H
theorem o_in {X : Cx} (hu : X.A.units + 65 < cLine) : OpR X (compareOp .In) (rInA X.K false) := by
  intro pins s σ H x y v u Q I rx ry h
  rcases h with ⟨c, z, rfl, rfl, q⟩ | ⟨d, ds, hd, he, sd, se, q⟩
  · exact op_in_sign pins s σ H _ _ v u Q I rx ry ⟨c, z, rfl, rfl, q⟩
  · obtain ⟨as, r1⟩ := Dp.reads I d x v hd rx
    rcases he with he | he
    · exact op_inD hu pins s σ H x y v u Q I rx ry ⟨d, ds, hd, he, sd, se, q⟩
    · obtain ⟨bs, r2⟩ := Dp.reads I (.tuple ds) y u he ry
      exact SeqAt.in_tuple_reads r2 r1 (SeqAt.canLay_of_shaped se) (SeqAt.canLay_of_shaped sd) (PyProof.Rows.room_in_shaped sd hu) ⟨.bl _, H, I, rfl, q⟩
theorem o_nin {X : Cx} (hu : X.A.units + 65 < cLine) : OpR X (compareOp .NotIn) (rInA X.K true) := by
  intro pins s σ H x y v u Q I rx ry h
  rcases h with ⟨c, z, rfl, rfl, q⟩ | ⟨d, ds, hd, he, sd, se, q⟩
  · exact op_notIn_sign pins s σ H _ _ v u Q I rx ry ⟨c, z, rfl, rfl, q⟩
  · obtain ⟨as, r1⟩ := Dp.reads I d x v hd rx
    rcases he with he | he
    · exact op_notInD hu pins s σ H x y v u Q I rx ry ⟨d, ds, hd, he, sd, se, q⟩
    · obtain ⟨bs, r2⟩ := Dp.reads I (.tuple ds) y u he ry
      exact SeqAt.notIn_tuple_reads r2 r1 (SeqAt.canLay_of_shaped se) (SeqAt.canLay_of_shaped sd) (PyProof.Rows.room_in_shaped sd hu) ⟨.bl _, H, I, rfl, q⟩
theorem toPs_datum (rh : RH K μ F H h) {xs : List D} {vs : List V} {qs : List PyData} (r : RDs K μ H xs vs) (e : toPs (refP h 4) xs = some qs) : DpAll K H vs qs :=
  toPs_of (fun i p a e r => refP_of rh 4 i p a e r) xs vs qs r e
theorem inD_of {neg : Bool} {G1 G2 : Frs} {d e : D} {x y : V} {k : Bool} {Q : VK} (w1 : RW K μ H [d] [x] G1) (w2 : RW K μ H [e] [y] G2) (rh : RH K μ (G1 ++ (G2 ++ F)) H h) (rh' : RH K μ (G2 ++ (G1 ++ F)) H h) (o : inD h d e = some k)
    (q : Q (.bl (if neg then !k else k)) H) : rInA K neg x y H Q := by
  have seqs : inSeq h d e = some k → rInA K neg x y H Q := fun o => by
    unfold inSeq at o
    cases e1 : asQ h e with
    | none => rw [e1] at o; cases o
    | some ys =>
      rw [e1] at o
      simp only [inQ] at o
      cases e2 : datum h d with
      | none => rw [e2] at o; cases o
      | some p =>
        cases e3 : toPs (refP h 4) ys with
        | none => rw [e2, e3] at o; cases o
        | some qs =>
          rw [e2, e3] at o
          simp only at o
          split at o
          · rename_i hc
            simp only [Bool.and_eq_true] at hc
            simp only [Option.some.injEq] at o
            subst o
            obtain ⟨a, vs, rfl, r1, r2⟩ := asQ_of w2 rh' e1
            have hds := toPs_datum rh' r2 e3
            refine .inr ⟨p, qs, datum_of w1 rh e2, ?_, hc.1, hc.2, q⟩
            rcases r1 with r1 | r1
            · exact .inl (.lst (.of r1) hds)
            · exact .inr (.tup r1 hds)
          · cases o
  cases d with
  | str a =>
    cases e with
    | str b =>
      obtain ⟨rfl, _⟩ := w1.str_of
      obtain ⟨rfl, _⟩ := w2.str_of
      simp only [inD] at o
      cases e1 : a.cps.toList with
      | nil => rw [e1] at o; cases o
      | cons c r =>
        cases r with
        | cons _ _ => rw [e1] at o; cases o
        | nil =>
          rw [e1] at o
          simp only [Option.some.injEq] at o
          subst o
          have ea : a = ⟨#[c]⟩ := by
            cases a with
            | mk cps =>
              have : cps = #[c] := by rw [← Array.toArray_toList (xs := cps), e1]
              rw [this]
          exact .inl ⟨c, b, by rw [ea], rfl, q⟩
    | _ => exact seqs (by simpa only [inD] using o)
  | _ => exact seqs (by simpa only [inD] using o)
theorem v_in : V2b K (rInA K false) (fun h x y => inD h x y) :=
  V2b.mk fun μ F G1 G2 H h d e x y k Q w1 w2 rh rh' o q => inD_of w1 w2 rh rh' o (by simpa using q)
theorem v_nin : V2b K (rInA K true) (fun h x y => (inD h x y).map (!·)) :=
  V2b.mk fun μ F G1 G2 H h d e x y k Q w1 w2 rh rh' o q => by
    obtain ⟨k, o1, rfl⟩ := Option.map_eq_some_iff.mp o
    exact inD_of w1 w2 rh rh' o1 (by simpa using q)
/-! ### subscripts -/
theorem atI_rel {xs : List D} {vs : List V} {i : Int} {d : D} (r : RDs K μ H xs vs) (e : atI xs i = some d) : ∃ v, atI vs i = some v ∧ RD K μ H d v := by
  unfold atI at e ⊢
  rw [← r.length]
  obtain ⟨j, e1, e2⟩ := Option.bind_eq_some_iff.mp e
  obtain ⟨v, e3, r3⟩ := r.get e2
  exact ⟨v, by rw [e1]; exact e3, r3⟩
theorem v_ix : V2 K (rIx K) (fun h x y => ixD h x y) := by
  intro μ F G H h d e x y z Q w rh l o q
  obtain ⟨G1, G2, rfl, w1, w2⟩ := w.split
  have lists : ∀ {d : D} {i : Int}, RW K μ H [d] [x] G1 → y = .int i → ixL h d i = some z → rIx K x y H Q := fun {d i} w1 ey o => by
    unfold ixL at o
    cases e1 : asL h d with
    | none => rw [e1] at o; cases o
    | some xs =>
      rw [e1] at o
      obtain ⟨a, vs, rfl, r1, r2⟩ := asL_of (F := G2 ++ F) w1 (by rw [← List.append_assoc]; exact rh) e1
      obtain ⟨v, e2, r3⟩ := atI_rel r2 o
      exact .inl ⟨a, vs, i, v, rfl, ey, .of r1, e2, go0 q rh r3⟩
  cases e with
  | int i =>
    obtain ⟨rfl, _⟩ := w2.int_of
    cases d with
    | tup xs =>
      simp only [ixD] at o
      obtain ⟨_, a, vs, rfl, r1, r2⟩ := w1.tup_of
      obtain ⟨v, e2, r3⟩ := atI_rel r2 o
      exact .inr (.inl ⟨a, vs, i, v, rfl, rfl, r1.sq, e2, go0 q rh r3⟩)
    | str s =>
      simp only [ixD] at o
      obtain ⟨rfl, _⟩ := w1.str_of
      split at o
      · rename_i hz
        obtain ⟨c, e1, rfl⟩ := Option.map_eq_some_iff.mp o
        exact .inr (.inr ⟨s, i, c, rfl, rfl, by rw [sizeLine_eq]; exact hz, e1, go0 q rh rfl⟩)
      · cases o
    | _ => exact lists w1 rfl (by simpa only [ixD] using o)
  | _ => cases d <;> simp only [ixD, reduceCtorEq] at o
/-! ### slices -/
theorem cut_rel {xs : List D} {vs : List V} (lo hi : Option Int) (r : RDs K μ H xs vs) : RDs K μ H (cutD xs lo hi) (cutV vs lo hi) := by
  unfold cutD cutV
  rw [r.length]
  exact (r.drop _).take' _
theorem cut_whole {xs : List D} {lo hi : Option Int} (e : HT.sIx xs.length 0 lo = 0 ∧ HT.sIx xs.length xs.length hi = xs.length) : cutD xs lo hi = xs := by
  unfold cutD
  rw [e.1, e.2]
  simp
abbrev rSlAll (K : PySem.W.Frag) : V → Option Int → Option Int → Hp → VK → Prop := fun x lo hi H Q => rSlF K x lo hi H Q ∨ rSlL K x lo hi H Q ∨ rSlS x lo hi H Q
theorem v_sl {d : D} {x : V} {z : D} {lo hi : Option Int} {Q : VK} (w : RW K μ H [d] [x] G) (rh : RH K μ (G ++ F) H h) (o : slD h d lo hi = some z) (q : Go K μ F H h z Q) : rSlAll K x lo hi H Q := by
  have lists : ∀ {d : D}, RW K μ H [d] [x] G → ((asL h d).map fun xs => D.lst (cutD xs lo hi)) = some z → rSlAll K x lo hi H Q := fun {d} w o => by
      obtain ⟨xs, e1, rfl⟩ := Option.map_eq_some_iff.mp o
      obtain ⟨a, vs, rfl, r1, r2⟩ := asL_of w rh e1
      exact .inr (.inl ⟨a, vs, rfl, .of r1, goL q rh (cut_rel lo hi r2)⟩)
  cases d with
  | tup xs =>
    simp only [slD, Option.some.injEq] at o
    subst o
    obtain ⟨_, a, vs, rfl, r1, r2⟩ := w.tup_of
    refine .inl ⟨a, vs, rfl, r1.sq, fun e => ?_, fun _ => goT q rh (cut_rel lo hi r2)⟩
    rw [← r2.length] at e
    exact go0 q rh (by simp only [RD]; exact ⟨a, vs, rfl, r1, by rw [cut_whole e]; exact r2⟩)
  | str s =>
    simp only [slD] at o
    obtain ⟨rfl, _⟩ := w.str_of
    split at o
    · rename_i hz
      simp only [Option.some.injEq] at o
      subst o
      exact .inr (.inr ⟨s, rfl, by rw [sizeLine_eq]; exact hz, go0 q rh rfl⟩)
    · cases o
  | fz ns =>
    simp only [slD, Option.some.injEq] at o
    subst o
    cases w with
    | val r t =>
      cases t
      simp only [RD] at r
      obtain ⟨a, rfl, hz⟩ := r
      have e : cutV (ns.map V.int) lo hi = (cutD ns lo hi).map V.int := by
        unfold cutV cutD
        rw [List.length_map, ← List.map_drop, ← List.map_take]
      exact .inr (.inl ⟨a, _, rfl, hz.sq, goL q rh (by rw [e]; exact RDs.ints _)⟩)
  | _ => exact lists w (by simpa only [slD] using o)
end
end Mp

namespace Mp
open PySem PySem.Spec L2
/-! ### sorted of a tuple, as of a list -/
section
open PySem.W PySem.Calls PyProof.Rows
variable {prog : Program} {w : World} {A : Around} {E : Value → Shared → Prop} {s : Shared}
theorem collect_tup {l : Addr} {vs : List Value} {Q : List Value → Shared → Prop} (hl : s.heap.IsTuple l vs.toArray)
    (h : Q vs { s with heap := (s.heap.push (seqObj "list" #[] 0)).update s.heap.objs.size (Obj.mapSeq (· ++ vs.toArray)) }) (hsz : vs.length ≤ sizeLine) :
    wpAny (model prog w) A (collect (.ref l)) Q E s := by
  obtain ⟨o, ho, hc, n, hd⟩ := id hl
  unfold collect
  refine wpAny_bind (wpAny_runValue (codeAny_builtin entry_proto_collect' ?_))
  show wpAny _ _ (do again (.builtin "list.__iadd__" ⟨[← newList [], .ref l], []⟩)) _ _ s
  refine wpAny_bind (wpAny_newList (wpAny_pure ⟨Code.quiet_builtin _ (by decide +kernel), codeAny_builtin entry_list_iadd' ?_⟩))
  show wpAny _ _ (Builtin.List.listExtendWith (.ref s.heap.objs.size) (.ref l) (.ref s.heap.objs.size)) _ _ { s with heap := s.heap.push (seqObj "list" #[] 0) }
  unfold Builtin.List.listExtendWith
  have ho' : (s.heap.push (seqObj "list" #[] 0)).get? l = some o := Heap.get?_push_of_some _ ho
  refine wpAny_bind (wpAny_typeOf (T := "tuple") ⟨o, ho', hc⟩ ?_)
  have ht : (Value.type "tuple" == Value.type "tuple") = true := by rfl
  rw [if_pos (by rw [ht]; simp)]
  refine wpAny_bind (listItems_at ho' hd ?_)
  refine wpAny_bind (listItems_at (xs := #[]) (n := 0) (Heap.get?_push_size _ rfl) rfl ?_)
  rw [if_neg (by simp)]
  refine wpAny_bind (listUpdate_at (xs := #[]) (n := 0) (Heap.get?_push_size _ rfl) rfl ?_ (Nat.zero_le _) (by show (#[] ++ vs.toArray).size ≤ sizeLine + 1; simp only [Array.size_append, List.size_toArray, List.length_nil]; omega))
  refine wpAny_pure ?_
  show wpAny (model prog w) A (do
      let o ← load s.heap.objs.size
      match o.data with
      | .seq xs _ => pure xs.toList
      | _ => unsupported "internal:collect") Q E { s with heap := (s.heap.push (seqObj "list" #[] 0)).update s.heap.objs.size (Obj.mapSeq (· ++ vs.toArray)) }
  refine wpAny_bind (wpAny_load (get?_update_seq (Heap.get?_push_size _ rfl) _) ?_)
  show wpAny _ _ (pure ((#[] : Array Value) ++ vs.toArray).toList) Q E _
  rw [show ((#[] : Array Value) ++ vs.toArray).toList = vs by simp]
  exact wpAny_pure h
theorem sorted_of_sortT {l : Addr} {vs : List Value} {kw : List (Str × Value)} {Q : Value → Shared → Prop} (hl : s.heap.IsTuple l vs.toArray) (hL : vs.length ≤ sizeLine) (ha1 : argsOk "sorted" ⟨[.ref l], kw⟩) (ha2 : ∀ x, argsOk "list.sort" ⟨[.ref x], kw⟩)
    (body : ∀ E' : Value → Shared → Prop, wpAny (model prog w) A.in1.in1 (Builtin.«list.sort» ⟨[.ref (s.heap.objs.size + 1)], kw⟩) (fun f s' => f = .done (.ret .none) ∧ Q (.ref (s.heap.objs.size + 1)) s') E' { s with heap := copyHeap s.heap vs }) :
    wpAny (model prog w) A (call (.builtin "sorted") [.ref l] kw) Q E s := by
  refine call_function_entry_kw kind_sorted plain_sorted entry_sorted ha1 ?_
  unfold Builtin.«sorted»
  refine wpAny_bind (m := checkCount "sorted" 1 1 _) (wpAny_pure ?_)
  refine wpAny_bind (collect_tup hl ?_ hL)
  refine wpAny_bind (wpAny_newList ?_ hL)
  have hsz : ((s.heap.push (seqObj "list" #[] 0)).update s.heap.objs.size (Obj.mapSeq (· ++ vs.toArray))).objs.size = s.heap.objs.size + 1 := by
    rw [Heap.size_update, size_push']
  show wpAny _ _ _ _ _ { s with heap := copyHeap s.heap vs }
  rw [hsz]
  refine wpAny_bind (wpAny_holding (wpAny_call_entry_kw slot_list_sort ⟨_, copyHeap_at s.heap vs, rfl⟩ entry_list_sort ?body (ha2 _)))
  case body =>
    show wpAny (model prog w) A.in1.in1 (Builtin.«list.sort» ⟨[.ref (s.heap.objs.size + 1)], kw⟩) _ _ _
    refine wpAny_mono (body _) (fun f s' hf => ?_) fun _ _ e => e
    obtain ⟨rfl, hq⟩ := hf
    exact ⟨_, rfl, wpAny_pure ⟨_, rfl, hq⟩⟩
theorem sorted_dataQ {β : Type} {vs : List Value} {bs : List β} {enc : β → PyData} {R : Value → β → Prop} {l : Addr} {Q : Value → Shared → Prop} (hl : s.heap.IsList l vs.toArray ∨ s.heap.IsTuple l vs.toArray) (e : EachIs R vs bs) (er : EachIs (fun v b => ∃ as, Reads s.heap v (enc b) as) vs bs) (hal : AllAlike (bs.map enc)) (hk : Sortable (bs.map enc)) (hL : bs.length ≤ sizeLine)
    (hu : ∀ b, b ∈ bs → A.units + 2 + (enc b).depth < cLine) (h : ∀ out, out.length = bs.length → EachIs R out (bs.mergeSort (dataLe false enc)) → Q (.ref (s.heap.objs.size + 1)) { s with heap := sortedAll s.heap vs (List.toArray out) }) :
    wpAny (model prog w) A (call (.builtin "sorted") [.ref l]) Q E s := by
  rcases hl with hl | hl
  · exact sorted_data hl e er hal hk hL hu h
  have er' : EachIs (fun v b => ∃ as, Reads (sortingHeap (copyHeap s.heap vs) (s.heap.objs.size + 1) vs) v (enc b) as) vs bs := er.mono fun _ _ ⟨as, r⟩ => ⟨as, PyProof.Rows.Reads.keeps (fun _ _ => sorting_copy_old) r⟩
  have S : SortsAt prog w A.in1.in1 { s with heap := sortingHeap (copyHeap s.heap vs) (s.heap.objs.size + 1) vs } (dataKind (sortingHeap (copyHeap s.heap vs) (s.heap.objs.size + 1) vs) (bs.map enc)) vs :=
    SortsAt.data (s := { s with heap := sortingHeap (copyHeap s.heap vs) (s.heap.objs.size + 1) vs }) (each_map (R := fun v d => ∃ as, Reads (sortingHeap (copyHeap s.heap vs) (s.heap.objs.size + 1) vs) v d as) enc er') hal hk (bound_map hu)
  have hLv : vs.length ≤ sizeLine := by rw [e.length]; exact hL
  exact sorted_of_sortT hl hLv (args_sorted1 _) (fun _ => args_list_sort _) fun _ => list_sort_vals (s := { s with heap := copyHeap s.heap vs }) (copyHeap_at s.heap vs) S hLv
    ⟨rfl, h _ (by rw [sortVals_length false rfl]; exact e.length) (sortVals_data false e er' hal)⟩
end
section
variable {X : Cx}
theorem Inv_seq {pins : List (Addr × Obj)} {σ : L2.St} {H : Hp} {s : Shared} {a : Addr} {vs : List V} (I : Inv X pins σ H s) (h : H a = some (.lst vs) ∨ SqT X.K H a vs) :
    ∃ its : List Value, Vals vs its ∧ (s.heap.IsList a its.toArray ∨ s.heap.IsTuple a its.toArray) ∧ vs.length ≤ sizeLine := by
  rcases h with h | h
  · obtain ⟨its, r, p, z⟩ := I.list (.of h)
    exact ⟨its, r, .inl p.isList, z⟩
  · obtain ⟨its, r, p, z⟩ := I.tuple h
    exact ⟨its, r, .inr p, z⟩
theorem DpAll_ints {K : PySem.W.Frag} {H : Hp} : ∀ ns : List Int, DpAll K H (ns.map V.int) (ns.map PyData.int)
  | [] => .nil
  | n :: ns => .cons (.int n) (DpAll_ints ns)
theorem depth_ints : ∀ ns : List Int, PyData.depthAll (ns.map .int) = 0
  | [] => rfl
  | n :: ns => by simp [PyData.depthAll, PyData.depth, depth_ints ns]
/-- a sequence of ints at an address -/
abbrev SqI (K : PySem.W.Frag) (H : Hp) (a : Addr) (ns : List Int) : Prop := H a = some (.lst (ns.map V.int)) ∨ SqT K H a (ns.map V.int)
theorem cr_sumQ (hc : X.calm = true) : CallR X (.builtin "sum") (fun vs H Q => ∃ a ns, vs = [V.ref a] ∧ SqI X.K H a ns ∧ Q (.int ns.sum) H) := by
  intro pins s σ H vs us Q I r h
  obtain ⟨a, ns, rfl, hs, q⟩ := h
  rcases hs with hs | hs
  · exact cr_sum hc pins s σ H _ us Q I r ⟨a, ns, rfl, .of hs, q⟩
  · obtain ⟨its, rv, ht, _⟩ := I.tuple hs
    rw [Vals.ref1 r]
    have hi := rv.ints
    obtain ⟨xs, e⟩ := hi.allInts.items
    have hn : numsOf (intItems xs).toList = ns := by rw [← e]; exact hi.numsOf
    rw [nums_intItems] at hn
    rw [e] at ht
    refine PySem.W.ktm_sumG (I.ok.hd hc) ht fun h' tk t' hk => ?_
    rw [preSum_eq, List.take_of_length_le (by simp), hn]
    exact ⟨.int _, H, I.kept hk, ⟨_, rfl⟩, q⟩
theorem alike_ints (ns : List Int) : PySem.W.AlikeAll (ns.map PyData.int) := by
  refine ⟨fun x hx y hy => ?_, fun x hx e => ?_⟩
  · obtain ⟨i, _, rfl⟩ := List.mem_map.mp hx
    obtain ⟨j, _, rfl⟩ := List.mem_map.mp hy
    rfl
  · obtain ⟨i, _, rfl⟩ := List.mem_map.mp hx
    cases e
theorem cr_maxQ (hc : X.calm = true) (hu : X.A.units + 64 < cLine) : CallR X (.builtin "max") (fun vs H Q => ∃ a n ns, vs = [V.ref a] ∧ SqI X.K H a (n :: ns) ∧ Q (.int (ns.foldl max n)) H) := by
  intro pins s σ H vs us Q I r h
  obtain ⟨a, n, ns, rfl, hs, q⟩ := h
  obtain ⟨its, rv, hl, _⟩ := Inv_seq I hs
  rw [Vals.ref1 r]
  obtain ⟨as, hr⟩ := Dp.readsAll I _ _ its (DpAll_ints (n :: ns)) rv
  have fin : ∀ (i : Nat) v h' tk bs, its.toArray[i]? = some v → Reads h' v (PySem.W.maxD (.int n) (ns.map .int)) bs → (∀ b o, s.heap.get? b = some o → h'.get? b = some o) → EP X pins σ Q v { s with heap := h', toks := tk } := fun i v h' tk bs _ hr hk => by
    rw [PySem.W.maxD_ints] at hr
    cases hr
    exact ⟨.int _, H, I.kept hk, ⟨_, rfl⟩, q⟩
  have hd : X.A.units + 1 + PyData.depthAll (PyData.int n :: ns.map .int) < cLine := by
    have := depth_ints (n :: ns)
    rw [List.map_cons] at this
    rw [this]; omega
  rcases hl with hl | hl
  · exact PySem.W.max_list_data (I.ok.hd hc) hl hr (alike_ints (n :: ns)) hd fin
  · exact PySem.W.max_tuple_data (I.ok.hd hc) hl hr (alike_ints (n :: ns)) hd fin
theorem cr_minQ (hc : X.calm = true) (hu : X.A.units + 64 < cLine) : CallR X (.builtin "min") (fun vs H Q => ∃ a n ns, vs = [V.ref a] ∧ SqI X.K H a (n :: ns) ∧ Q (.int (ns.foldl min n)) H) := by
  intro pins s σ H vs us Q I r h
  obtain ⟨a, n, ns, rfl, hs, q⟩ := h
  obtain ⟨its, rv, hl, _⟩ := Inv_seq I hs
  rw [Vals.ref1 r]
  obtain ⟨as, hr⟩ := Dp.readsAll I _ _ its (DpAll_ints (n :: ns)) rv
  have fin : ∀ (i : Nat) v h' tk bs, its.toArray[i]? = some v → Reads h' v (PySem.W.minD (.int n) (ns.map .int)) bs → (∀ b o, s.heap.get? b = some o → h'.get? b = some o) → EP X pins σ Q v { s with heap := h', toks := tk } := fun i v h' tk bs _ hr hk => by
    rw [PySem.W.minD_ints] at hr
    cases hr
    exact ⟨.int _, H, I.kept hk, ⟨_, rfl⟩, q⟩
  have hd : X.A.units + 1 + PyData.depthAll (PyData.int n :: ns.map .int) < cLine := by
    have := depth_ints (n :: ns)
    rw [List.map_cons] at this
    rw [this]; omega
  rcases hl with hl | hl
  · exact PySem.W.min_list_data (I.ok.hd hc) hl hr (alike_ints (n :: ns)) hd fin
  · exact PySem.W.min_tuple_data (I.ok.hd hc) hl hr (alike_ints (n :: ns)) hd fin
theorem DpAll_get {K : PySem.W.Frag} {H : Hp} : ∀ {xs : List V} {ps : List PyData}, DpAll K H xs ps → xs.length = ps.length
  | _, _, .nil => rfl
  | _, _, .cons _ t => by rw [List.length_cons, List.length_cons, DpAll_get t]
theorem Vals_get : ∀ {xs : List V} {its : List Value}, Vals xs its → ∀ {i : Nat} {v : Value}, its[i]? = some v → ∃ x, xs[i]? = some x ∧ RelV x v
  | _, _, .nil, i, v, e => by simp at e
  | _, _, .cons r t, 0, v, e => by
    simp only [List.getElem?_cons_zero, Option.some.injEq] at e
    subst e
    exact ⟨_, rfl, r⟩
  | _, _, .cons r t, i + 1, v, e => by
    simp only [List.getElem?_cons_succ] at e ⊢
    exact Vals_get t e
/-- min of items that read as alike data -/
theorem cr_minP (hc : X.calm = true) (hu : X.A.units + 64 < cLine) : CallR X (.builtin "min") (fun vs H Q => ∃ (a : Addr) (xs : List V) (p0 : PyData) (pr : List PyData), vs = [V.ref a] ∧ (H a = some (.lst xs) ∨ SqT X.K H a xs) ∧ DpAll X.K H xs (p0 :: pr) ∧ PySem.W.AlikeAll (p0 :: pr) ∧ PyData.depthAll (p0 :: pr) ≤ 30 ∧
    ∀ (i : Nat) (x : V), xs[i]? = some x → (p0 :: pr)[i]? = some (PySem.W.minD p0 pr) → Q x H) := by
  intro pins s σ H vs us Q I r h
  obtain ⟨a, xs, p0, pr, rfl, hs, hd, ha, hdp, q⟩ := h
  obtain ⟨its, rv, hl, _⟩ := Inv_seq I hs
  rw [Vals.ref1 r]
  obtain ⟨as, hr⟩ := Dp.readsAll I _ _ its hd rv
  have fin : ∀ (i : Nat) v h' tk bs, its.toArray[i]? = some v → Reads h' v (PySem.W.minD p0 pr) bs → (∀ b o, s.heap.get? b = some o → h'.get? b = some o) → EP X pins σ Q v { s with heap := h', toks := tk } := fun i v h' tk bs hv hr2 hk => by
    have hv' : its[i]? = some v := by simpa using hv
    obtain ⟨x, hx, rx⟩ := Vals_get rv hv'
    obtain ⟨bs2, r2, hi, hm, _⟩ := PySem.W.readsAll_at hr i v hv'
    have hmin : PySem.W.minD p0 pr ∈ p0 :: pr := by
      unfold PySem.W.minD
      have : ∀ (l : List PyData) (a : PyData), l.foldl (fun a y => if PySem.W.dataLt y a then y else a) a = a ∨ l.foldl (fun a y => if PySem.W.dataLt y a then y else a) a ∈ l := by
        intro l
        induction l with
        | nil => intro a; exact .inl rfl
        | cons y l ih =>
          intro a
          rw [List.foldl_cons]
          rcases ih (if PySem.W.dataLt y a then y else a) with e | m
          · rw [e]
            split
            · exact .inr List.mem_cons_self
            · exact .inl rfl
          · exact .inr (List.mem_cons_of_mem _ m)
      rcases this pr p0 with e | m
      · rw [e]; exact List.mem_cons_self
      · exact List.mem_cons_of_mem _ m
    have e := PySem.W.alike_unique _ _ v _ _ (ha.1 _ hm _ hmin) (PySem.W.reads_keeps hk r2) hr2
    refine ⟨x, H, I.kept hk, rx, q i x hx ?_⟩
    rw [← e, List.getD_eq_getElem?_getD, List.getElem?_eq_getElem hi]; rfl
  have hd : X.A.units + 1 + PyData.depthAll (p0 :: pr) < cLine := by omega
  rcases hl with hl | hl
  · exact PySem.W.min_list_data (I.ok.hd hc) hl hr ha hd fin
  · exact PySem.W.min_tuple_data (I.ok.hd hc) hl hr ha hd fin
abbrev rMinA (K : PySem.W.Frag) (vs : List V) (H : Hp) (Q : VK) : Prop := (∃ a n ns, vs = [V.ref a] ∧ SqI K H a (n :: ns) ∧ Q (.int (ns.foldl min n)) H) ∨
  ∃ (a : Addr) (xs : List V) (p0 : PyData) (pr : List PyData), vs = [V.ref a] ∧ (H a = some (.lst xs) ∨ SqT K H a xs) ∧ DpAll K H xs (p0 :: pr) ∧ PySem.W.AlikeAll (p0 :: pr) ∧ PyData.depthAll (p0 :: pr) ≤ 30 ∧
    ∀ (i : Nat) (x : V), xs[i]? = some x → (p0 :: pr)[i]? = some (PySem.W.minD p0 pr) → Q x H
theorem cr_minA (hc : X.calm = true) (hu : X.A.units + 64 < cLine) : CallR X (.builtin "min") (rMinA X.K) := by
  intro pins s σ H vs us Q I r h
  rcases h with h | h
  · exact cr_minQ hc hu pins s σ H vs us Q I r h
  · exact cr_minP hc hu pins s σ H vs us Q I r h
/-- sorted of items that read as alike data: g says what data -/
theorem cr_sortedQ (hu : X.A.units + 80 < cLine) : CallR X (.builtin "sorted") (fun vs H Q => ∃ (a : Addr) (xs : List (V × PyData)), vs = [V.ref a] ∧ (H a = some (.lst (xs.map (·.1))) ∨ SqT X.K H a (xs.map (·.1))) ∧ (∀ p ∈ xs, Dp X.K H p.1 p.2) ∧
    PySem.W.AllAlike (xs.map (·.2)) ∧ PySem.W.Sortable (xs.map (·.2)) ∧ (∀ p ∈ xs, p.2.depth ≤ 64) ∧ ∀ p, H p = none → Q (.ref p) (upd H p (.lst ((xs.mergeSort (PySem.W.dataLe false (·.2))).map (·.1))))) := by
  intro pins s σ H vs us Q I r h
  obtain ⟨a, xs, rfl, hs, hd, hal, hk, hdp, q⟩ := h
  obtain ⟨its, rv, hl, hz⟩ := Inv_seq I hs
  rw [Vals.ref1 r]
  have e1 : PySem.W.EachIs (fun (v : Value) (b : V × PyData) => RelV b.1 v) its xs := by
    clear hl hz hal hk hdp hd q hs
    induction xs generalizing its with
    | nil => cases rv; exact .nil
    | cons x xs ih => cases rv with | cons r t => exact .cons r (ih _ t)
  have e2 : PySem.W.EachIs (fun (v : Value) (b : V × PyData) => ∃ as, Reads s.heap v b.2 as) its xs := by
    have : ∀ (its : List Value) (ys : List (V × PyData)), (∀ p ∈ ys, Dp X.K H p.1 p.2) → PySem.W.EachIs (fun (v : Value) (b : V × PyData) => RelV b.1 v) its ys → PySem.W.EachIs (fun (v : Value) (b : V × PyData) => ∃ as, Reads s.heap v b.2 as) its ys := by
      intro its ys
      induction ys generalizing its with
      | nil => intro _ e; cases e; exact .nil
      | cons y ys ih =>
        intro hd e
        cases e with
        | cons r t => exact .cons (Dp.reads I y.2 y.1 _ (hd y List.mem_cons_self) r) (ih _ (fun p hp => hd p (List.mem_cons_of_mem _ hp)) t)
    exact this its xs hd e1
  rw [List.length_map] at hz
  refine sorted_dataQ (enc := fun b : V × PyData => b.2) hl e1 e2 hal hk hz (fun b hb => by have := hdp b hb; omega) fun out hlo ho => ?_
  obtain ⟨ep, he'⟩ := PyProof.Rows.sortedAll_at s.heap its out.toArray
  have rv' : Vals ((xs.mergeSort (PySem.W.dataLe false (·.2))).map (·.1)) out := by
    generalize xs.mergeSort (PySem.W.dataLe false (·.2)) = ys at ho
    clear he' hlo
    induction ys generalizing out with
    | nil => cases ho; exact .nil
    | cons y ys ih => cases ho with | cons r t => exact .cons r (ih _ t)
  have hlen : ((xs.mergeSort (PySem.W.dataLe false (·.2))).map (·.1)).length ≤ sizeLine := by
    rw [List.length_map, List.length_mergeSort]; exact hz
  exact ⟨.ref _, upd H (s.heap.objs.size + 1) (.lst ((xs.mergeSort (PySem.W.dataLe false (·.2))).map (·.1))), I.laid (t' := s.toks) (fun _ _ => PyProof.Rows.sortedAll_old) (Nat.le_succ _) ⟨hlen, out, ep, rv', he'⟩, rfl, q _ (I.hok.fresh (Nat.le_succ _))⟩
end
end Mp

namespace Mp
open PySem PySem.Spec L2
/-! ### the sorted list -/
section
variable {α : Type} {le : α → α → Bool}
open PySem.W
theorem insBy_perm (x : α) : ∀ l : List α, (insBy le x l).Perm (x :: l)
  | [] => List.Perm.refl _
  | y :: ys => by
    unfold insBy
    split
    · exact List.Perm.refl _
    · exact ((insBy_perm x ys).cons y).trans (List.Perm.swap x y ys)
theorem sortBy_perm : ∀ l : List α, (sortBy le l).Perm l
  | [] => List.Perm.refl _
  | x :: xs => (insBy_perm x _).trans ((sortBy_perm xs).cons x)
theorem insBy_sorted (h : TotalLe le) (x : α) : ∀ l : List α, l.Pairwise (fun a b => le a b = true) → (insBy le x l).Pairwise (fun a b => le a b = true)
  | [], _ => List.pairwise_singleton _ _
  | y :: ys, hp => by
    unfold insBy
    split
    · rename_i hxy
      refine List.pairwise_cons.mpr ⟨fun z hz => ?_, hp⟩
      rcases List.mem_cons.mp hz with rfl | hz
      · exact hxy
      · exact h.trans _ _ _ hxy ((List.pairwise_cons.mp hp).1 z hz)
    · rename_i hxy
      refine List.pairwise_cons.mpr ⟨fun z hz => ?_, insBy_sorted h x ys (List.pairwise_cons.mp hp).2⟩
      rcases List.mem_cons.mp ((insBy_perm x ys).mem_iff.mp hz) with rfl | hz
      · exact (h.total y _).resolve_right hxy
      · exact (List.pairwise_cons.mp hp).1 z hz
theorem sortBy_sorted (h : TotalLe le) : ∀ l : List α, (sortBy le l).Pairwise (fun a b => le a b = true)
  | [] => List.Pairwise.nil
  | x :: xs => insBy_sorted h x _ (sortBy_sorted h xs)
theorem insBy_filter (h : TotalLe le) (x c : α) : ∀ l : List α, l.Pairwise (fun a b => le a b = true) → (insBy le x l).filter (sameRank le c) = (x :: l).filter (sameRank le c)
  | [], _ => rfl
  | y :: ys, hp => by
    unfold insBy
    split
    · rfl
    · rename_i hxy
      rw [List.filter_cons, insBy_filter h x c ys (List.pairwise_cons.mp hp).2]
      by_cases hx : sameRank le c x = true
      · have hy : sameRank le c y = false := by
          cases e : sameRank le c y with
          | false => rfl
          | true =>
            exfalso
            unfold sameRank at hx e
            simp only [Bool.and_eq_true] at hx e
            exact hxy (h.trans _ _ _ hx.2 e.1)
        rw [hy]
        simp [List.filter_cons, hx, hy]
      · simp only [Bool.not_eq_true] at hx
        simp [List.filter_cons, hx]
theorem sortBy_filter (h : TotalLe le) (c : α) : ∀ l : List α, (sortBy le l).filter (sameRank le c) = l.filter (sameRank le c)
  | [] => rfl
  | x :: xs => by
    unfold sortBy
    rw [insBy_filter h x c _ (sortBy_sorted h xs), List.filter_cons, List.filter_cons, sortBy_filter h c xs]
theorem sortBy_eq (h : TotalLe le) (l : List α) : sortBy le l = l.mergeSort le := sort_unique h (sortBy_sorted h l) fun c => sortBy_filter h c l
theorem insBy_map {β : Type} {r : β → β → Bool} (f : α → β) (x : α) : ∀ l : List α, (∀ a ∈ l, le x a = r (f x) (f a)) → (insBy le x l).map f = insBy r (f x) (l.map f)
  | [], _ => rfl
  | y :: ys, hr => by
    unfold insBy
    rw [List.map_cons]
    simp only
    rw [← hr y List.mem_cons_self]
    split
    · rfl
    · rw [List.map_cons, insBy_map f x ys fun a ha => hr a (List.mem_cons_of_mem _ ha)]
theorem sortBy_map {β : Type} {r : β → β → Bool} (f : α → β) : ∀ l : List α, (∀ a ∈ l, ∀ b ∈ l, le a b = r (f a) (f b)) → (sortBy le l).map f = sortBy r (l.map f)
  | [], _ => rfl
  | x :: xs, hr => by
    unfold sortBy
    rw [List.map_cons]
    simp only
    rw [insBy_map f x _ fun a ha => hr x List.mem_cons_self a (List.mem_cons_of_mem _ ((sortBy_perm xs).mem_iff.mp ha)), sortBy_map f xs fun a ha b hb => hr a (List.mem_cons_of_mem _ ha) b (List.mem_cons_of_mem _ hb)]
end
theorem leI_total : PySem.W.TotalLe leI := { trans := fun a b c => by unfold leI; simp only [decide_eq_true_eq]; omega, total := fun a b => by unfold leI; simp only [decide_eq_true_eq]; omega }
theorem leP_total : PySem.W.TotalLe leP := (show PySem.W.TotalLe (PySem.W.dataLe false (fun p : D × PyData => p.2)) from PySem.W.sortLe_total _ _ _)
section
variable {K : PySem.W.Frag} {X : Cx}
/-! ### built-in functions by values -/
theorem VN.one {r : List V → Hp → VK → Prop} {g : Hm → D → Option D} (hv : ∀ (μ : List Addr) (F G : Frs) (H : Hp) (h : Hm) (d : D) (x : V) (z : D) (Q : VK), RW K μ H [d] [x] G → RH K μ (G ++ F) H h → LenOk K H → g h d = some z → Go K μ F H h z Q → r [x] H Q) :
    VN K r (fun h ds => match ds with | [d] => g h d | _ => none) := by
  intro μ F G H h ds xs z Q w rh l o q
  match ds, w, o with
  | [d], w, o =>
    obtain ⟨x, rfl, w⟩ := w.one
    exact hv μ F G H h d x z Q w rh l o q
  | [], _, o => cases o
  | _ :: _ :: _, _, o => cases o
abbrev rLenA (K : PySem.W.Frag) : List V → Hp → VK → Prop := fun xs H Q => (∃ p ys, xs = [.ref p] ∧ (SqL K H p ys ∨ SqT K H p ys) ∧ Q (.int ys.length) H) ∨ (∃ z, xs = [.str z] ∧ z.length ≤ sizeLine ∧ Q (.int z.length) H)
theorem c_len : CallR X (.builtin "len") (rLenA X.K) := call_len_seq.or call_len_str
theorem asQ_sq {μ : List Addr} {F G : Frs} {H : Hp} {h : Hm} {d : D} {x : V} {xs : List D} (q : RW K μ H [d] [x] G) (rh : RH K μ (G ++ F) H h) (e : asQ h d = some xs) : ∃ a vs, x = .ref a ∧ (SqL K H a vs ∨ SqT K H a vs) ∧ RDs K μ H xs vs := by
  obtain ⟨a, vs, h1, h2, h3⟩ := asQ_of q rh e
  exact ⟨a, vs, h1, h2.imp_left .of, h3⟩
theorem v_len : VN K (rLenA K) (fun h ds => match ds with | [d] => lenD h d | _ => none) := VN.one fun μ F G H h d x z Q w rh l o q => by
  have seqs : ∀ {d : D}, RW K μ H [d] [x] G → ((asQ h d).map fun xs => D.int xs.length) = some z → rLenA K [x] H Q := fun {d} w o => by
    obtain ⟨xs, e, rfl⟩ := Option.map_eq_some_iff.mp o
    obtain ⟨a, vs, rfl, r1, r2⟩ := asQ_sq w rh e
    exact .inl ⟨a, vs, rfl, r1, by rw [← r2.length]; exact go0 q rh rfl⟩
  cases d with
  | str s =>
    simp only [lenD] at o
    split at o
    · rename_i hz
      simp only [Option.some.injEq] at o
      subst o
      obtain ⟨rfl, _⟩ := w.str_of
      exact .inr ⟨s, rfl, by rw [sizeLine_eq]; exact hz, go0 q rh rfl⟩
    · cases o
  | fz ns =>
    simp only [lenD, Option.some.injEq] at o
    subst o
    cases w with
    | val r t =>
      cases t
      simp only [RD] at r
      obtain ⟨a, rfl, hz⟩ := r
      exact .inl ⟨a, _, rfl, .inl hz.sq, by rw [List.length_map]; exact go0 q rh rfl⟩
  | _ => exact seqs w (by simpa only [lenD] using o)
theorem v_tuple : VN K (fun xs H Q => ∃ p ys, xs = [.ref p] ∧ ((SqL K H p ys ∧ NewT H ys Q) ∨ (SqT K H p ys ∧ Q (.ref p) H))) (fun h ds => match ds with | [d] => (asQ h d).map .tup | _ => none) := VN.one fun μ F G H h d x z Q w rh l o q => by
  obtain ⟨xs, e, rfl⟩ := Option.map_eq_some_iff.mp o
  have lists : ∀ {d : D}, RW K μ H [d] [x] G → asL h d = some xs → ∃ p ys, [x] = [.ref p] ∧ ((SqL K H p ys ∧ NewT H ys Q) ∨ (SqT K H p ys ∧ Q (.ref p) H)) := fun {d} w e => by
    obtain ⟨a, vs, rfl, r1, r2⟩ := asL_of w rh e
    exact ⟨a, vs, rfl, .inl ⟨.of r1, goT q rh r2⟩⟩
  cases d with
  | tup ds =>
    obtain ⟨_, a, vs, rfl, r1, r2⟩ := w.tup_of
    simp only [asQ, Option.some.injEq] at e
    subst e
    exact ⟨a, vs, rfl, .inr ⟨r1.sq, go0 q rh (by simp only [RD]; exact ⟨a, vs, rfl, r1, r2⟩)⟩⟩
  | _ => exact lists w (by simpa only [asQ] using e)
theorem v_list : VN K (fun xs H Q => ∃ p ys, xs = [.ref p] ∧ (SqL K H p ys ∨ SqT K H p ys) ∧ ∀ l, H l = none → Q (.ref l) (upd H l (.lst ys))) (fun h ds => match ds with | [d] => (asQ h d).map .lst | _ => none) := VN.one fun μ F G H h d x z Q w rh l o q => by
  obtain ⟨xs, e, rfl⟩ := Option.map_eq_some_iff.mp o
  obtain ⟨a, vs, rfl, r1, r2⟩ := asQ_sq w rh e
  exact ⟨a, vs, rfl, r1, goL q rh r2⟩
theorem asI_of {μ : List Addr} {F G : Frs} {H : Hp} {h : Hm} {d : D} {x : V} {xs : List D} {ns : List Int} (q : RW K μ H [d] [x] G) (rh : RH K μ (G ++ F) H h) (e : asQ h d = some xs) (e2 : allInts xs = some ns) : ∃ a, x = .ref a ∧ SqI K H a ns := by
  obtain ⟨a, vs, rfl, r1, r2⟩ := asQ_of q rh e
  obtain ⟨rfl, _⟩ := r2.ints_of e2
  exact ⟨a, rfl, r1⟩
theorem v_sum : VN K (fun vs H Q => ∃ a ns, vs = [V.ref a] ∧ SqI K H a ns ∧ Q (.int ns.sum) H) (fun h ds => match ds with | [d] => sumD h d | _ => none) := VN.one fun μ F G H h d x z Q w rh l o q => by
  unfold sumD at o
  cases e : asQ h d with
  | none => rw [e] at o; cases o
  | some xs =>
    rw [e] at o
    obtain ⟨ns, e2, rfl⟩ := Option.map_eq_some_iff.mp o
    obtain ⟨a, rfl, r⟩ := asI_of w rh e e2
    exact ⟨a, ns, rfl, r, go0 q rh rfl⟩
theorem v_max : VN K (fun vs H Q => ∃ a n ns, vs = [V.ref a] ∧ SqI K H a (n :: ns) ∧ Q (.int (ns.foldl max n)) H) (fun h ds => match ds with | [d] => maxD h d | _ => none) := VN.one fun μ F G H h d x z Q w rh l o q => by
  unfold maxD at o
  cases e : asQ h d with
  | none => rw [e] at o; cases o
  | some xs =>
    rw [e] at o
    cases e2 : allInts xs with
    | none => simp [e2] at o
    | some ns =>
      cases ns with
      | nil => simp [e2] at o
      | cons n ns =>
        simp only [e2, Option.some.injEq] at o
        subst o
        obtain ⟨a, rfl, r⟩ := asI_of w rh e e2
        exact ⟨a, n, ns, rfl, r, go0 q rh rfl⟩
mutual
theorem toP_inj : ∀ {d e : D} {p : PyData}, toP (fun _ => none) d = some p → toP (fun _ => none) e = some p → d = e
  | .non, e, p, h1, h2 => by
    simp only [toP, Option.some.injEq] at h1
    subst h1
    cases e <;> simp [toP] at h2 <;> rfl
  | .bl _, e, p, h1, h2 => by
    simp only [toP, Option.some.injEq] at h1
    subst h1
    cases e <;> simp [toP] at h2
    subst h2; rfl
  | .int _, e, p, h1, h2 => by
    simp only [toP, Option.some.injEq] at h1
    subst h1
    cases e <;> simp [toP] at h2
    subst h2; rfl
  | .str _, e, p, h1, h2 => by
    simp only [toP, Option.some.injEq] at h1
    subst h1
    cases e <;> simp [toP] at h2
    subst h2; rfl
  | .tup xs, e, p, h1, h2 => by
    simp only [toP, Option.map_eq_some_iff] at h1
    obtain ⟨ps, h1, rfl⟩ := h1
    cases e <;> simp [toP] at h2
    rw [toPs_inj h1 h2]
  | .lst xs, e, p, h1, h2 => by
    simp only [toP, Option.map_eq_some_iff] at h1
    obtain ⟨ps, h1, rfl⟩ := h1
    cases e <;> simp [toP] at h2
    rw [toPs_inj h1 h2]
  | .ref _, e, p, h1, _ => by simp [toP] at h1
  | .fz _, e, p, h1, _ => by simp [toP] at h1
theorem toPs_inj : ∀ {d e : List D} {p : List PyData}, toPs (fun _ => none) d = some p → toPs (fun _ => none) e = some p → d = e
  | [], e, p, h1, h2 => by
    simp only [toPs, Option.some.injEq] at h1
    subst h1
    cases e with
    | nil => rfl
    | cons y ys =>
      simp only [toPs] at h2
      cases h3 : toP (fun _ => none) y <;> cases h4 : toPs (fun _ => none) ys <;> simp [h3, h4] at h2
  | x :: xs, e, p, h1, h2 => by
    simp only [toPs] at h1
    cases e1 : toP (fun _ => none) x with
    | none => simp [e1] at h1
    | some p1 =>
      cases e2 : toPs (fun _ => none) xs with
      | none => simp [e1, e2] at h1
      | some ps =>
        simp only [e1, e2, Option.some.injEq] at h1
        subst h1
        cases e with
        | nil => simp [toPs] at h2
        | cons y ys =>
          simp only [toPs] at h2
          cases h3 : toP (fun _ => none) y with
          | none => simp [h3] at h2
          | some q1 =>
            cases h4 : toPs (fun _ => none) ys with
            | none => simp [h3, h4] at h2
            | some qs =>
              simp only [h3, h4, Option.some.injEq, List.cons.injEq] at h2
              obtain ⟨rfl, rfl⟩ := h2
              rw [toP_inj e1 h3, toPs_inj e2 h4]
end
theorem toPs_get {f : Nat → Option PyData} : ∀ {ds : List D} {ps : List PyData}, toPs f ds = some ps → ds.length = ps.length ∧ ∀ (i : Nat) (p : PyData), ps[i]? = some p → ∃ d, ds[i]? = some d ∧ toP f d = some p
  | [], ps, h => by
    simp only [toPs, Option.some.injEq] at h
    subst h
    exact ⟨rfl, fun i p e => by simp at e⟩
  | x :: xs, ps, h => by
    simp only [toPs] at h
    cases e1 : toP f x with
    | none => simp [e1] at h
    | some p1 =>
      cases e2 : toPs f xs with
      | none => simp [e1, e2] at h
      | some qs =>
        simp only [e1, e2, Option.some.injEq] at h
        subst h
        obtain ⟨h1, h2⟩ := toPs_get e2
        refine ⟨by rw [List.length_cons, List.length_cons, h1], fun i p e => ?_⟩
        cases i with
        | zero =>
          simp only [List.getElem?_cons_zero, Option.some.injEq] at e
          subst e
          exact ⟨_, rfl, e1⟩
        | succ i =>
          simp only [List.getElem?_cons_succ] at e ⊢
          exact h2 i p e
theorem RDs.at' {μ : List Addr} : ∀ {ds : List D} {vs : List V}, RDs K μ H ds vs → ∀ {i : Nat} {v : V} {d : D}, vs[i]? = some v → ds[i]? = some d → RD K μ H d v
  | [], vs, q, i, v, d, e1, e2 => by simp at e2
  | x :: xs, vs, q, i, v, d, e1, e2 => by
    simp only [RDs] at q
    obtain ⟨u, r, rfl, q1, q2⟩ := q
    cases i with
    | zero =>
      simp only [List.getElem?_cons_zero, Option.some.injEq] at e1 e2
      subst e1 e2
      exact q1
    | succ i =>
      simp only [List.getElem?_cons_succ] at e1 e2
      exact RDs.at' q2 e1 e2
theorem minZ_mem (lt : PyData → PyData → Bool) : ∀ (zs : List (D × PyData)) (z : D × PyData), minZ lt z zs ∈ z :: zs := by
  intro zs
  induction zs with
  | nil => intro z; exact List.mem_cons_self
  | cons y zs ih =>
    intro z
    show minZ lt (if lt y.2 z.2 then y else z) zs ∈ _
    have := ih (if lt y.2 z.2 then y else z)
    rcases List.mem_cons.mp this with e | m
    · rw [e]
      split
      · exact List.mem_cons_of_mem _ List.mem_cons_self
      · exact List.mem_cons_self
    · exact List.mem_cons_of_mem _ (List.mem_cons_of_mem _ m)
theorem minZ_snd : ∀ (zs : List (D × PyData)) (z : D × PyData), (minZ PySem.W.dataLt z zs).2 = PySem.W.minD z.2 (zs.map (·.2)) := by
  intro zs
  induction zs with
  | nil => intro z; rfl
  | cons y zs ih =>
    intro z
    show (minZ PySem.W.dataLt (if PySem.W.dataLt y.2 z.2 then y else z) zs).2 = _
    rw [ih]
    show PySem.W.minD _ _ = PySem.W.minD (if PySem.W.dataLt y.2 z.2 then y.2 else z.2) (zs.map (·.2))
    congr 1
    split <;> rfl
theorem v_min : VN K (rMinA K) (fun h ds => match ds with | [d] => minD h d | _ => none) := VN.one fun μ F G H h d x z Q w rh l o q => by
  unfold minD at o
  cases e : asQ h d with
  | none => rw [e] at o; cases o
  | some xs =>
    rw [e] at o
    cases e2 : allInts xs with
    | none =>
      simp only [e2, minPD] at o
      cases e3 : toPs (fun _ => none) xs with
      | none => rw [e3] at o; cases o
      | some ps =>
        rw [e3] at o
        simp only at o
        split at o
        · rename_i hc
          simp only [Bool.and_eq_true, decide_eq_true_eq] at hc
          obtain ⟨⟨al, sm⟩, dp⟩ := hc
          obtain ⟨hl, hg⟩ := toPs_get e3
          cases ps with
          | nil => simp at o
          | cons p0 pr =>
            cases xs with
            | nil => simp at hl
            | cons x0 xr =>
              simp only [List.zip_cons_cons, Option.some.injEq] at o
              subst o
              obtain ⟨a, vs, rfl, r1, r2⟩ := asQ_of w rh e
              have zm := minZ_mem PySem.W.dataLt (xr.zip pr) (x0, p0)
              have zs := minZ_snd (xr.zip pr) (x0, p0)
              have hl' : xr.length = pr.length := by simpa using hl
              have zmap : (xr.zip pr).map (·.2) = pr := List.map_snd_zip (by omega)
              rw [zmap] at zs
              simp only at zs
              have hd : DpAll K H vs (p0 :: pr) := toPs_of (fun i p a e' _ => by simp at e') _ _ _ r2 e3
              have hal : PySem.W.AlikeAll (p0 :: pr) := by
                simp only [alikeAllB, List.all_eq_true] at al sm
                refine ⟨fun x hx y hy => al x hx y hy, fun x hx ex => ?_⟩
                have := sm x hx
                subst ex
                cases this
              refine .inr ⟨a, vs, p0, pr, rfl, r1, hd, hal, dp, fun i v hv hp => ?_⟩
              obtain ⟨di, hdi, ht⟩ := hg i _ hp
              have hz : toP (fun _ => none) (minZ PySem.W.dataLt (x0, p0) (xr.zip pr)).1 = some (PySem.W.minD p0 pr) := by
                rw [← zs]
                have zm : minZ PySem.W.dataLt (x0, p0) (xr.zip pr) ∈ (x0 :: xr).zip (p0 :: pr) := zm
                obtain ⟨k, hk, ek⟩ := List.getElem_of_mem zm
                rw [← ek]
                rw [List.length_zip] at hk
                obtain ⟨dk, hdk, htk⟩ := hg k ((p0 :: pr)[k]'(by omega)) (List.getElem?_eq_getElem (by omega))
                rw [List.getElem?_eq_getElem (by omega)] at hdk
                rw [List.getElem_zip]
                have := Option.some.inj hdk
                subst this
                exact htk
              have := toP_inj hz ht
              rw [this] at q
              exact go0 q rh (r2.at' hv hdi)
        · cases o
    | some ns =>
      cases ns with
      | nil => simp [e2] at o
      | cons n ns =>
        simp only [e2, Option.some.injEq] at o
        subst o
        obtain ⟨a, rfl, r⟩ := asI_of w rh e e2
        exact .inl ⟨a, n, ns, rfl, r, go0 q rh rfl⟩
theorem v_all : VN K (rAll K) (fun h ds => match ds with | [d] => allD h d | _ => none) := VN.one fun μ F G H h d x z Q w rh l o q => by
  unfold allD at o
  cases e : asL h d with
  | none => rw [e] at o; cases o
  | some xs =>
    rw [e] at o
    obtain ⟨ns, e2, rfl⟩ := Option.map_eq_some_iff.mp o
    obtain ⟨a, vs, rfl, r1, r2⟩ := asL_of w rh e
    obtain ⟨rfl, _⟩ := r2.bls_of e2
    exact ⟨a, ns, rfl, .of r1, go0 q rh rfl⟩
theorem v_any : VN K (rAny K) (fun h ds => match ds with | [d] => anyD h d | _ => none) := VN.one fun μ F G H h d x z Q w rh l o q => by
  unfold anyD at o
  cases e : asL h d with
  | none => rw [e] at o; cases o
  | some xs =>
    rw [e] at o
    obtain ⟨ns, e2, rfl⟩ := Option.map_eq_some_iff.mp o
    obtain ⟨a, vs, rfl, r1, r2⟩ := asL_of w rh e
    obtain ⟨rfl, _⟩ := r2.bls_of e2
    exact ⟨a, ns, rfl, .of r1, go0 q rh rfl⟩
theorem v_int : VN K (fun xs H Q => (∃ i, xs = [.int i] ∧ Q (.int i) H) ∨ ∃ k, xs = [.bl k] ∧ Q (.int (if k then 1 else 0)) H) (fun _ ds => match ds with | [d] => intD d | _ => none) := VN.one (g := fun _ d => intD d) fun μ F G H h d x z Q w rh l o q => by
  cases d <;> simp only [intD, Option.some.injEq, reduceCtorEq] at o
  · subst o
    obtain ⟨rfl, _⟩ := w.bl_of
    exact .inr ⟨_, rfl, go0 q rh rfl⟩
  · subst o
    obtain ⟨rfl, _⟩ := w.int_of
    exact .inl ⟨_, rfl, go0 q rh rfl⟩
theorem v_str : VN K (fun xs H Q => ∃ i, xs = [.int i] ∧ i.natAbs.log2 < 1920 ∧ Q (.str (toString i)) H) (fun _ ds => match ds with | [d] => strD d | _ => none) := VN.one (g := fun _ d => strD d) fun μ F G H h d x z Q w rh l o q => by
  cases d <;> simp only [strD, reduceCtorEq] at o
  split at o
  · rename_i hc
    simp only [Option.some.injEq] at o
    subst o
    obtain ⟨rfl, _⟩ := w.int_of
    exact ⟨_, rfl, hc, go0 q rh rfl⟩
  · cases o
theorem v_abs : VN K (fun xs H Q => ∃ i, xs = [.int i] ∧ Q (.int (if i < 0 then -i else i)) H) (fun _ ds => match ds with | [d] => absD d | _ => none) := VN.one (g := fun _ d => absD d) fun μ F G H h d x z Q w rh l o q => by
  cases d <;> simp only [absD, Option.some.injEq, reduceCtorEq] at o
  subst o
  obtain ⟨rfl, _⟩ := w.int_of
  exact ⟨_, rfl, go0 q rh rfl⟩
def two (g : Int → Int → Int) (ds : List D) : Option D := match ds with
  | [.int i, .int j] => some (.int (g i j))
  | _ => none
theorem v_two (g : Int → Int → Int) : VN K (fun xs H Q => ∃ i j, xs = [.int i, .int j] ∧ Q (.int (g i j)) H) (fun _ ds => two g ds) := by
  intro μ F G H h ds xs z Q w rh l o q
  have o : two g ds = some z := o
  unfold two at o
  split at o
  · rename_i i j _
    simp only [Option.some.injEq] at o
    subst o
    cases w with
    | val r t =>
      cases t with
      | val r' t =>
        cases t
        simp only [RD] at r r'
        subst r r'
        exact ⟨i, j, rfl, go0 q rh rfl⟩
  · cases o
abbrev rSortedQ (K : PySem.W.Frag) : List V → Hp → VK → Prop := fun vs H Q => ∃ (a : Addr) (xs : List (V × PyData)), vs = [V.ref a] ∧ (H a = some (.lst (xs.map (·.1))) ∨ SqT K H a (xs.map (·.1))) ∧ (∀ p ∈ xs, Dp K H p.1 p.2) ∧
    PySem.W.AllAlike (xs.map (·.2)) ∧ PySem.W.Sortable (xs.map (·.2)) ∧ (∀ p ∈ xs, p.2.depth ≤ 64) ∧ ∀ p, H p = none → Q (.ref p) (upd H p (.lst ((xs.mergeSort (PySem.W.dataLe false (·.2))).map (·.1))))
theorem RDs.zip_map {μ : List Addr} {H : Hp} : ∀ {xs : List (D × (V × PyData))}, (∀ p ∈ xs, RD K μ H p.1 p.2.1) → RDs K μ H (xs.map (·.1)) (xs.map (·.2.1))
  | [], _ => rfl
  | x :: xs, h => by
    simp only [List.map_cons, RDs]
    exact ⟨_, _, rfl, h x List.mem_cons_self, RDs.zip_map fun p hp => h p (List.mem_cons_of_mem _ hp)⟩
theorem v_sorted : VN K (rSortedQ K) (fun h ds => match ds with | [d] => (match asQ h d with | some xs => sortedD h xs | none => none) | _ => none) := VN.one (g := fun h d => match asQ h d with | some xs => sortedD h xs | none => none) fun μ F G H h d x z Q w rh l o q => by
  cases e : asQ h d with
  | none => rw [e] at o; cases o
  | some ds =>
    rw [e] at o
    simp only [sortedD] at o
    obtain ⟨a, vs, rfl, r1, r2⟩ := asQ_of w rh e
    cases e2 : allInts ds with
    | some ns =>
      simp only [e2, Option.some.injEq] at o
      subst o
      obtain ⟨rfl, rfl⟩ := r2.ints_of e2
      refine ⟨a, ns.map fun n => (V.int n, PyData.int n), rfl, by simpa [List.map_map, Function.comp_def] using r1, fun p hp => ?_, ?_, ?_, fun p hp => ?_, ?_⟩
      · obtain ⟨n, _, rfl⟩ := List.mem_map.mp hp
        exact .int n
      · rw [List.map_map]
        intro p hp p' hp'
        obtain ⟨n, _, rfl⟩ := List.mem_map.mp hp
        obtain ⟨m, _, rfl⟩ := List.mem_map.mp hp'
        rfl
      · rw [List.map_map]
        refine .inr fun p hp => ?_
        obtain ⟨n, _, rfl⟩ := List.mem_map.mp hp
        exact ⟨by simp, by simp⟩
      · obtain ⟨n, _, rfl⟩ := List.mem_map.mp hp
        exact Nat.zero_le _
      · have h1 : (ns.map fun n => (V.int n, PyData.int n)).mergeSort (PySem.W.dataLe false (·.2)) = (sortBy leI ns).map fun n => (V.int n, PyData.int n) := by
          rw [sortBy_eq leI_total, PySem.W.sort_maps (s := PySem.W.dataLe false (·.2)) (fun n : Int => (V.int n, PyData.int n))]
          intro i _ j _
          have := congrFun (congrFun (PySem.W.dataLe_int (fun n : Int => n)) i) j
          exact this.symm
        rw [h1, List.map_map]
        exact goL q rh (RDs.ints (sortBy leI ns))
    | none =>
      simp only [e2] at o
      cases e3 : toPs (refP h 4) ds with
      | none => simp [e3] at o
      | some ps =>
        simp only [e3] at o
        split at o
        · rename_i hc
          simp only [Bool.and_eq_true, decide_eq_true_eq] at hc
          simp only [Option.some.injEq] at o
          subst o
          have hds := toPs_datum rh r2 e3
          -- the items, their values, their data in one row
          have row : ∀ {ds : List D} {vs : List V} {ps : List PyData}, RDs K μ H ds vs → DpAll K H vs ps → ∃ xs : List (D × (V × PyData)), xs.map (·.1) = ds ∧ xs.map (·.2.1) = vs ∧ xs.map (·.2.2) = ps ∧ ∀ p ∈ xs, RD K μ H p.1 p.2.1 ∧ Dp K H p.2.1 p.2.2 := by
            intro ds
            induction ds with
            | nil =>
              intro vs ps r dp
              simp only [RDs] at r; subst r
              cases dp
              exact ⟨[], rfl, rfl, rfl, fun p hp => by simp at hp⟩
            | cons d ds ih =>
              intro vs ps r dp
              simp only [RDs] at r
              obtain ⟨v, vr, rfl, r1, r2⟩ := r
              cases dp with
              | @cons _ _ p pr d1 d2 =>
                obtain ⟨xs, h1, h2, h3, h4⟩ := ih r2 d2
                refine ⟨(d, (v, p)) :: xs, by simp [h1], by simp [h2], by simp [h3], fun y hy => ?_⟩
                rcases List.mem_cons.mp hy with rfl | hy
                · exact ⟨r1, d1⟩
                · exact h4 y hy
          obtain ⟨xs, rfl, rfl, rfl, hx⟩ := row r2 hds
          refine ⟨a, xs.map (·.2), rfl, by simpa [List.map_map, Function.comp_def] using r1, fun p hp => ?_, ?_, ?_, fun p hp => ?_, ?_⟩
          · obtain ⟨y, hy, rfl⟩ := List.mem_map.mp hp
            exact (hx y hy).2
          · rw [List.map_map]
            intro p hp p' hp'
            have h1 := hc.1.1
            unfold alikeAllB at h1
            simp only [List.all_eq_true] at h1
            exact h1 p hp p' hp'
          · rw [List.map_map]
            have h1 := hc.1.2
            unfold sortableB at h1
            simp only [Bool.or_eq_true, List.all_eq_true] at h1
            rcases h1 with h1 | h1
            · refine .inl fun p hp => ?_
              have := h1 p hp
              unfold tupB at this
              split at this
              · exact ⟨_, _, rfl⟩
              · cases this
            · refine .inr fun p hp => ?_
              have := h1 p hp
              refine ⟨fun e => by subst e; simp [Mp.flatB] at this, fun ys e => by subst e; simp [Mp.flatB] at this⟩
          · obtain ⟨y, hy, rfl⟩ := List.mem_map.mp hp
            exact hc.2 _ (List.mem_map.mpr ⟨y, hy, rfl⟩)
          · have h1 : (xs.map (·.2)).mergeSort (PySem.W.dataLe false (·.2)) = (xs.mergeSort (PySem.W.dataLe false (·.2.2))).map (·.2) :=
              (PySem.W.sort_maps (r := PySem.W.dataLe false (fun p : D × (V × PyData) => p.2.2)) (·.2) fun _ _ _ _ => rfl).symm
            have h2 : sortBy leP ((xs.map (·.1)).zip (xs.map (·.2.2))) = (xs.mergeSort (PySem.W.dataLe false (·.2.2))).map fun p => (p.1, p.2.2) := by
              rw [sortBy_eq leP_total, List.zip_map']
              exact (PySem.W.sort_maps (r := PySem.W.dataLe false (fun p : D × (V × PyData) => p.2.2)) (fun p => (p.1, p.2.2)) fun _ _ _ _ => rfl).symm
            rw [h1, List.map_map]
            rw [h2, List.map_map] at q
            refine goL q rh ?_
            exact RDs.zip_map fun p hp => (hx p ((List.mergeSort_perm xs _).mem_iff.mp hp)).1
        · cases o
end
end Mp

namespace Mp
/-! ### t[::-1] of a tuple -/
section
open PySem PySem.Spec PyProof.Rows HT
variable {prog : Program} {w : World} {A : Around} {E : Value → Shared → Prop} {s : Shared}
theorem adjust_rev (n : Nat) : Builtin.Slice.sliceAdjust none none (-1) (n : Int) = ((n : Int) - 1, -1) := by
  unfold Builtin.Slice.sliceAdjust
  simp
theorem places_rev (n : Nat) : Builtin.Slice.slicePlaces ((n : Int) - 1) (-1) (-1) = n := by
  unfold Builtin.Slice.slicePlaces
  have h1 : ¬ ((-1 : Int) > 0) := by omega
  simp only [h1, if_false]
  split
  · simp
  · omega
theorem fm_congr {α β : Type} {f g : α → Option β} : ∀ {l : List α}, (∀ a ∈ l, f a = g a) → l.filterMap f = l.filterMap g
  | [], _ => rfl
  | a :: l, h => by rw [List.filterMap_cons, List.filterMap_cons, h a List.mem_cons_self, fm_congr fun b hb => h b (List.mem_cons_of_mem _ hb)]
theorem pick_rev (xs : Array Value) : ((List.range xs.size).filterMap fun (m : Nat) => xs[((xs.size : Int) - 1 + (m : Int) * (-1)).toNat]?).toArray = xs.toList.reverse.toArray := by
  have e : (List.range xs.size).filterMap (fun (m : Nat) => xs[((xs.size : Int) - 1 + (m : Int) * (-1)).toNat]?) = ((List.range xs.size).map fun k => xs.size - 1 - k).filterMap (xs[·]?) := by
    rw [List.filterMap_map]
    refine fm_congr fun m hm => ?_
    have := List.mem_range.mp hm
    have e1 : ((xs.size : Int) - 1 + (m : Int) * (-1)).toNat = xs.size - 1 - m := by omega
    show _ = xs[xs.size - 1 - m]?
    rw [e1]
  rw [e, PySem.W.krv_range, List.filterMap_reverse, PySem.W.krv_all]
theorem getItem_tuple_rev {t sl : Addr} {items : Array Value} {vs : Value} {Q : Value → Shared → Prop} (ht : IsTup s.heap t items) (hs : s.heap.IsSliceOf sl .none .none vs) (ps : IsPart vs (some (-1)))
    (h : Q (.ref s.heap.objs.size) { s with heap := s.heap.push { cls := .type "tuple", data := .seq items.toList.reverse.toArray } })
    (hsz : items.size ≤ sizeLine) : wpAny (model prog w) A (getItem (.ref t) (.ref sl)) Q E s := by
  have htake : sizeOk (.seq items.toList.reverse.toArray) := by
    show items.toList.reverse.toArray.size ≤ sizeLine
    rw [List.size_toArray, List.length_reverse, Array.length_toList]
    exact hsz
  obtain ⟨os, hos, hcs, hds⟩ := id hs
  have hTs : s.TypeIs (.ref sl) "slice" := ⟨os, hos, hcs⟩
  unfold getItem
  try with_reducible refine wpAny_holding ?_
  first | refine wpAny_bind (wpAny_pure ?_) | skip
  refine wpAny_bind (wpAny_sequenceKey ht.typeIs (by decide) ?_)
  refine wpAny_bind (wpAny_callSpecial?_slot (name := Str.ofString "__getitem__") ht.typeIs PyProof.Rows.slot_tuple_getitem
    (wpAny_call_entry PyProof.Rows.slot_tuple_getitem ht.typeIs entry_tuple_getitem ?_ (args_tuple_getitem _ _)))
  show wpAny _ _ (Builtin.Tuple.tupleItemsOf (.ref t) >>= _) _ _ s
  refine wpAny_bind (tupleItemsOf_ ht ?_)
  refine wpAny_bind (wpAny_typeOf hTs ?_)
  rw [if_pos (by decide)]
  have ap : ∀ {Q' : Int × Int × Nat → Shared → Prop}, Q' ((items.size : Int) - 1, -1, items.size) s → wpAny (model prog w) A.in1 (Builtin.Slice.sliceApplied (.ref sl) (pure (items.size : Int))) Q' (fun e s' => E e s') s := fun {Q'} q => by
    unfold Builtin.Slice.sliceApplied Builtin.Slice.sliceFields
    refine wpAny_bind (wpAny_bind (wpAny_field hos hds (x := .none) rfl (wpAny_bind (wpAny_field hos hds (x := .none) rfl (wpAny_bind (wpAny_field hos hds (x := vs) rfl (wpAny_pure ?_)))))))
    refine wpAny_bind (slicePart_ ps ?_)
    show wpAny _ _ (if ((-1 : Int) == 0) = true then _ else _) _ _ s
    rw [if_neg (by decide)]
    refine wpAny_bind (slicePart_none (wpAny_bind (slicePart_none (wpAny_bind (wpAny_pure ?_)))))
    show wpAny _ _ (match Builtin.Slice.sliceAdjust none none (-1) (items.size : Int) with | (lo, hi) => pure (lo, (-1 : Int), Builtin.Slice.slicePlaces lo hi (-1))) _ _ s
    rw [adjust_rev]
    show wpAny _ _ (pure ((items.size : Int) - 1, (-1 : Int), Builtin.Slice.slicePlaces ((items.size : Int) - 1) (-1) (-1))) _ _ s
    rw [places_rev]
    exact wpAny_pure q
  refine wpAny_bind (ap ?_)
  have hno : ¬ ((((items.size : Int) - 1) == 0 && (-1 : Int) == 1 && items.size == items.size) = true) := by
    intro q
    rw [Bool.and_eq_true, Bool.and_eq_true] at q
    exact absurd q.1.2 (by decide)
  show wpAny _ _ (if (((items.size : Int) - 1) == 0 && (-1 : Int) == 1 && items.size == items.size) = true then _ else _) _ _ s
  rw [if_neg hno, pick_rev]
  first
    | exact wpAny_bind (m := Builtin.Tuple.tupleExact _) (wpAny_newObj_type (wpAny_pure ⟨_, rfl, wpAny_pure h⟩) htake)
    | exact wpAny_bind (m := Builtin.Tuple.tupleExact _) (wpAny_newObj_type (wpAny_bind (wpAny_pure (wpAny_pure ⟨_, rfl, wpAny_pure h⟩))) htake)
    | exact wpAny_bind (wpAny_bind (m := Builtin.Tuple.tupleExact _) (wpAny_newObj_type (wpAny_pure (wpAny_pure ⟨_, rfl, wpAny_pure h⟩)) htake))
    | exact wpAny_bind (wpAny_bind (m := Builtin.Tuple.tupleExact _) (wpAny_newObj_type (wpAny_pure ⟨_, rfl, wpAny_pure h⟩) htake))
end
section
open PySem PySem.Spec PyProof.Rows L2
variable {X : Cx}
def tRevQ (K : PySem.W.Frag) (te : TE) : TE := fun σ H Q => te σ H fun x H1 => ∃ a xs, x = .ref a ∧ ((SqL K H1 a xs ∧ ∀ p, H1 p = none → Q (.ref p) (upd H1 p (.lst xs.reverse))) ∨ (SqT K H1 a xs ∧ NewT H1 xs.reverse Q))
theorem pe_revQ {e : Expr} {te : TE} {k : Nat} {p1 p2 p3 pos : Pos} (he : PE X e te) : PE X (.Subscript e (.Slice none none (some (.UnaryOp .USub (.Constant (.int 1) k p1) p2)) p3) pos) (tRevQ X.K te) := by
  refine ⟨fun pins s σ H Q I h => ?_⟩
  refine Subscript_ (thn (he.run pins s σ H _ I h) fun v s1 ⟨x, H1, I1, r1, q1⟩ => ?_)
  obtain ⟨a, xs, ex, hx⟩ := q1
  subst ex
  cases r1
  have hst : PO X (some (.UnaryOp .USub (.Constant (.int 1) k p1) p2)) (tPart (tUn (rU fun i => .int (-i)) (tC (.int 1)))) := po_some (pe_un un_neg pe_int)
  refine wpAny_Slice (thn (po_none.run pins s1 σ H1 (fun o H2 => o = none ∧ H2 = H1) I1 ⟨rfl, rfl⟩) fun vl s2 ⟨l, H2, I2, pl, el, e2⟩ => ?_)
  subst el e2
  refine thn (po_none.run pins s2 σ H2 (fun o H3 => o = none ∧ H3 = H2) I2 ⟨rfl, rfl⟩) fun vu s3 ⟨u, H3, I3, pu, eu, e3⟩ => ?_
  subst eu e3
  refine thn (hst.run pins s3 σ H3 (fun o H4 => o = some (-1) ∧ H4 = H3) I3 ⟨1, rfl, -1, rfl, rfl, rfl⟩) fun vs s4 ⟨o, H4, I4, ps, eo, e4⟩ => ?_
  subst eo e4
  have I5 : Inv X pins σ H4 { s4 with heap := s4.heap.push { cls := .type "slice", data := .fields #[vl, vu, vs] } } := I4.kept (t' := s4.toks) fun b ob q => Heap.get?_push_of_some _ q
  show wpAny (model X.prog X.w) X.A (subscriptTail e (.Slice none none (some (.UnaryOp .USub (.Constant (.int 1) k p1) p2)) p3) (.ref a) (.ref s4.heap.objs.size)) (EP X pins σ Q) X.xe { s4 with heap := s4.heap.push { cls := .type "slice", data := .fields #[vl, vu, vs] } }
  rcases hx with ⟨hx, q⟩ | ⟨hx, q⟩
  · obtain ⟨its, r, ht, hz⟩ := I5.list hx
    have hlen := r.length
    refine tail_any (ops := [.ref a, .ref s4.heap.objs.size]) ht.isList.typeIs (PySem.slot_list_getitem.lookup) ?_ (by with_unfolding_all rfl)
    refine wpAny_getItem_list_slice ht.isList (Heap.IsSliceOf.new _ vl vu vs) pl pu ps (by decide) ?_ (by rw [List.size_toArray]; omega)
    rw [PySem.W.krv_pick]
    refine ⟨.ref _, _, I5.laid (t' := s4.toks) (o := .lst xs.reverse) (fun b ob q => Heap.get?_push_of_some _ q) (Nat.le_refl _) ?_, rfl, q _ (I5.hok.fresh (Nat.le_refl _))⟩
    exact ⟨by rw [List.length_reverse]; exact hz, _, 0, r.reverse, Heap.get?_push_size _ rfl⟩
  · obtain ⟨its, r, ht, hz⟩ := I5.tuple hx
    have hlen := r.length
    have e1 : vl = .none := by cases pl; rfl
    have e2 : vu = .none := by cases pu; rfl
    subst e1 e2
    refine tail_any (ops := [.ref a, .ref s4.heap.objs.size]) ht.typeIs PyProof.Rows.slot_tuple_getitem.lookup ?_ (by with_unfolding_all rfl)
    refine getItem_tuple_rev ht (Heap.IsSliceOf.new _ .none .none vs) ps ?_ (by rw [List.size_toArray]; omega)
    exact Inv_tup I5 r.reverse (by rw [List.length_reverse]; exact hz) q
end
end Mp

namespace Mp
open PySem PySem.Spec L2
section
variable {X : Cx} {a b c : Expr} {pos : Pos} {fa fb fc : Stm → Hm → R D} {ta tb : Stm → Hm → R Bool} {rest : List Expr}
/-! ### slices -/
theorem mo_none : PO X none (TOm X.K fun s h => .ok none h) :=
  po_none.imp fun σ H Q l hw => by
    obtain ⟨μ, F, s, h, rs, rh, out⟩ := hw l
    exact fun l' => out μ H none [] ⟨rfl, rfl⟩ rh (List.prefix_refl _) (Mo.refl _) l'
theorem mo_some (ha : PE X a (TEm X.K fa)) : PO X (some a) (TOm X.K fun s h => (fa s h).bind fun d h1 => match d with
    | .int i => .ok (some i) h1
    | _ => .no) :=
  (po_some ha).imp fun σ H Q l hw => by
    obtain ⟨μ, F, s, h, rs, rh, out⟩ := hw l
    refine T.step (G := []) (rel := relE X.K) rs rh out fun d h1 μ1 H1 x G1 e1 w1 rh1 p1 m1 l1 rs1 out1 => ?_
    have q := out1 (fun x H' => LenOk X.K H' → Q x H') fun _ _ q _ => q
    cases d <;> first | exact q.elim | skip
    obtain ⟨rfl, rfl⟩ := RW.int_of (show RW X.K μ1 H1 [.int _] [x] G1 from w1)
    exact ⟨_, rfl, q μ1 H1 _ [] ⟨rfl, rfl⟩ rh1 (List.prefix_refl _) (Mo.refl _) l1⟩
theorem me_sl {lo hi : Option Expr} {p2 : Pos} {fl fu : Stm → Hm → R (Option Int)} (ha : PE X a (TEm X.K fa)) (hl : PO X lo (TOm X.K fl)) (hu : PO X hi (TOm X.K fu)) :
    PE X (.Subscript a (.Slice lo hi none p2) pos) (TEm X.K fun s h => (fa s h).bind fun x h1 => (fl s h1).bind fun l h2 => (fu s h2).bind fun u h3 => R.of (slD h3 x l u) h3) :=
  (pe_slice (sl_tupF.or (sl_list.or sl_str)) ha hl hu).imp fun σ H Q l hw => by
    obtain ⟨μ, F, s, h, rs, rh, out⟩ := hw l
    refine T.step (G := []) (rel := relE X.K) rs rh out fun d h1 μ1 H1 x G1 e1 w1 rh1 p1 m1 l1 rs1 out1 => ?_
    refine T.step (rel := relO) rs1 rh1 (out1 (fun x H' => LenOk X.K H' → Q x H') fun _ _ q _ => q) fun lo h2 μ2 H2 lo' G2 e2 w2 rh2 p2 m2 l2 rs2 out2 => ?_
    obtain ⟨rfl, rfl⟩ := w2
    refine T.step (G := G1) (F := F) (rel := relO) rs2 rh2 (out2 (fun x H' => LenOk X.K H' → Q x H') fun _ _ q => q) fun hi h3 μ3 H3 hi' G3 e3 w3 rh3 p3 m3 l3 rs3 out3 => ?_
    obtain ⟨rfl, rfl⟩ := w3
    obtain ⟨z, o, q⟩ := Out.ofV (out3 (fun x H' => LenOk X.K H' → Q x H') fun _ _ q => q)
    exact v_sl (G := G1) (F := F) ((RW.mono m2 p2 w1).mono m3 p3) rh3 o fun H' v G' w rh' m l' => q H' v G' w rh' m l' l'
theorem me_rev {k : Nat} {p1 p2 p3 : Pos} (ha : PE X a (TEm X.K fa)) :
    PE X (.Subscript a (.Slice none none (some (.UnaryOp .USub (.Constant (.int 1) k p1) p2)) p3) pos) (TEm X.K fun s h => (fa s h).bind fun x h1 => R.of (revD h1 x) h1) :=
  (pe_revQ ha).imp fun σ H Q l hw => by
    obtain ⟨μ, F, s, h, rs, rh, out⟩ := hw l
    refine T.step (G := []) (rel := relE X.K) rs rh out fun d h1 μ1 H1 x G1 e1 w1 rh1 p1 m1 l1 rs1 out1 => ?_
    obtain ⟨z, o, q⟩ := Out.ofV (out1 (fun x H' => LenOk X.K H' → Q x H') fun _ _ q _ => q)
    have q' : Go X.K μ1 F H1 h1 z (fun x H' => LenOk X.K H' → Q x H') := fun H' v G' w rh' m l' => q H' v G' w rh' m l' l'
    have lists : ∀ {d : D}, RW X.K μ1 H1 [d] [x] G1 → ((asL h1 d).map fun xs => D.lst xs.reverse) = some z → ∃ a xs, x = .ref a ∧ ((SqL X.K H1 a xs ∧ ∀ p, H1 p = none → (fun x H' => LenOk X.K H' → Q x H') (.ref p) (upd H1 p (.lst xs.reverse))) ∨ (SqT X.K H1 a xs ∧ NewT H1 xs.reverse (fun x H' => LenOk X.K H' → Q x H'))) := fun {d} w o => by
      obtain ⟨xs, e, rfl⟩ := Option.map_eq_some_iff.mp o
      obtain ⟨a, vs, rfl, r1, r2⟩ := asL_of w rh1 e
      exact ⟨a, vs, rfl, .inl ⟨.of r1, goL q' rh1 r2.reverse⟩⟩
    cases d with
    | tup ds =>
      simp only [revD, Option.some.injEq] at o
      subst o
      obtain ⟨_, a, vs, rfl, r1, r2⟩ := RW.tup_of w1
      exact ⟨a, vs, rfl, .inr ⟨r1.sq, goT q' rh1 r2.reverse⟩⟩
    | _ => exact lists w1 (by simpa only [revD] using o)
/-! ### truth, tests -/
theorem tru_of {K : PySem.W.Frag} {μ : List Addr} {F G : Frs} {H : Hp} {h : Hm} {d : D} {x : V} {k : Bool} (w : RW K μ H [d] [x] G) (rh : RH K μ (G ++ F) H h) (e : truth h d = some k) : TruV K x H k := by
  have lists : ∀ {d : D}, RW K μ H [d] [x] G → ((asL h d).map fun xs => !xs.isEmpty) = some k → TruV K x H k := fun {d} w o => by
    obtain ⟨xs, e1, rfl⟩ := Option.map_eq_some_iff.mp o
    obtain ⟨a, vs, rfl, r1, r2⟩ := asL_of w rh e1
    refine .inl ⟨vs, .of r1, ?_⟩
    have := r2.nil_iff
    cases xs <;> cases vs <;> simp_all
  cases d with
  | non => obtain ⟨rfl, _⟩ := w.non_of; simp only [truth, Option.some.injEq] at e; exact e.symm
  | bl b => obtain ⟨rfl, _⟩ := w.bl_of; simp only [truth, Option.some.injEq] at e; exact e.symm
  | int i => obtain ⟨rfl, _⟩ := w.int_of; simp only [truth, Option.some.injEq] at e; exact e.symm
  | str s =>
    obtain ⟨rfl, _⟩ := w.str_of
    simp only [truth] at e
    split at e
    · rename_i hz
      exact ⟨by rw [sizeLine_eq]; exact hz, (Option.some.inj e).symm⟩
    · cases e
  | tup ds =>
    obtain ⟨_, a, vs, rfl, r1, r2⟩ := w.tup_of
    simp only [truth, Option.some.injEq] at e
    subst e
    refine .inr (.inl ⟨vs, r1.sq, ?_⟩)
    have := r2.nil_iff
    cases ds <;> cases vs <;> simp_all
  | _ => exact lists w (by simpa only [truth] using e)
/-- an operand's truth is asked: from the outcome to the reading -/
theorem truStep {K : PySem.W.Frag} {γ δ : Type} {rel' : Rel γ δ} {μ : List Addr} {F G : Frs} {H : Hp} {h : Hm} {d : D} {x : V} {Q : δ → Hp → Prop} {k : Bool → Hm → R γ} (w : RW K μ H [d] [x] G) (rh : RH K μ (G ++ F) H h)
    (out : Out K rel' μ F H Q ((R.of (truth h d) h).bind k)) : ∃ b, TruV K x H b ∧ Out K rel' μ F H Q (k b h) := by
  cases e : truth h d with
  | none => rw [e] at out; exact out.elim
  | some b => rw [e] at out; exact ⟨b, tru_of w rh e, out⟩
theorem mt_plain (he : ∀ whole, isTrue a X.env whole = (do let v ← whole; standAt a.pos; holding [v] (truthy v))) (ha : PE X a (TEm X.K fa)) : PT X a (TTm X.K fun s h => (fa s h).bind fun x h1 => R.of (truth h1 x) h1) :=
  (pt_truth ha he).imp fun σ H Q l hw => by
    obtain ⟨μ, F, s, h, rs, rh, out⟩ := hw l
    refine T.step (G := []) (rel := relE X.K) rs rh out fun d h1 μ1 H1 x G1 e1 w1 rh1 p1 m1 l1 rs1 out1 => ?_
    have q := out1 (fun x H' => LenOk X.K H' → Q x H') fun _ _ q _ => q
    cases e : truth h1 d with
    | none => rw [e] at q; exact q.elim
    | some b =>
      rw [e] at q
      exact ⟨b, tru_of w1 rh1 e, q μ1 H1 b [] ⟨rfl, rfl⟩ rh1.weak (List.prefix_refl _) (Mo.refl _) l1⟩
theorem mt_cmp {op : CmpOp} {r : R2} {g : Hm → D → D → Option Bool} (ho : OpR X (compareOp op) r) (hv : V2b X.K r g) (hm : behindInMarks op b = false) (ha : PE X a (TEm X.K fa)) (hb : PE X b (TEm X.K fb)) :
    PT X (.Compare a [op] [b] pos) (TTm X.K fun s h => (fa s h).bind fun x h1 => (fb s h1).bind fun y h2 => R.of (g h2 x y) h2) :=
  (pt_cmpR ho ha hb hm).imp fun σ H Q l hw => by
    obtain ⟨μ, F, s, h, rs, rh, out⟩ := hw l
    refine T.step (G := []) (rel := relE X.K) rs rh out fun d h1 μ1 H1 x G1 e1 w1 rh1 p1 m1 l1 rs1 out1 => ?_
    refine T.step (rel := relE X.K) rs1 rh1 (out1 (fun x H' => LenOk X.K H' → Q x H') fun _ _ q _ => q) fun e h2 μ2 H2 y G2 e2 w2 rh2 p2 m2 l2 rs2 out2 => ?_
    have q := out2 (fun x H' => LenOk X.K H' → Q x H') fun _ _ q => q
    cases o : g h2 d e with
    | none => rw [o] at q; exact q.elim
    | some k =>
      rw [o] at q
      refine hv μ2 F (G1 ++ G2) H2 h2 d e x y (.bl k) _ ((w1.mono m2 p2).append w2) (rh2.perm frames2) l2 (by simp [o]) fun H' v G' w rh' m => ?_
      obtain ⟨rfl, rfl⟩ := w.bl_of
      exact ⟨k, rfl, fun l' => q μ2 H' k [] ⟨rfl, rfl⟩ rh' (List.prefix_refl _) m l' l'⟩
theorem mt_not (ha : PT X a (TTm X.K ta)) : PT X (.UnaryOp .Not a pos) (TTm X.K fun s h => (ta s h).bind fun k h1 => .ok (!k) h1) :=
  (pt_not ha).imp fun σ H Q l hw => by
    obtain ⟨μ, F, s, h, rs, rh, out⟩ := hw l
    refine T.step (G := []) (rel := relB) rs rh out fun k h1 μ1 H1 k' G1 e1 w1 rh1 p1 m1 l1 rs1 out1 => ?_
    obtain ⟨rfl, rfl⟩ := w1
    exact (out1 (fun x H' => LenOk X.K H' → Q x H') fun _ _ q _ => q) μ1 H1 (!k) [] ⟨rfl, rfl⟩ rh1 (List.prefix_refl _) (Mo.refl _) l1
theorem mw_and1 (ha : PT X a (TTm X.K ta)) : PW X (.BoolOp .And [a] pos) (TTm X.K ta) := pw_and1 ha
theorem mw_or1 (ha : PT X a (TTm X.K ta)) : PW X (.BoolOp .Or [a] pos) (TTm X.K ta) := pw_or1 ha
theorem mw_and (ha : PT X a (TTm X.K ta)) (hb : PW X (.BoolOp .And (b :: rest) pos) (TTm X.K tb)) :
    PW X (.BoolOp .And (a :: b :: rest) pos) (TTm X.K fun s h => (ta s h).bind fun k h1 => if k then tb s h1 else .ok false h1) :=
  (pw_and ha hb).imp fun σ H Q l hw => by
    obtain ⟨μ, F, s, h, rs, rh, out⟩ := hw l
    refine T.step (G := []) (rel := relB) rs rh out fun k h1 μ1 H1 k' G1 e1 w1 rh1 p1 m1 l1 rs1 out1 => ?_
    obtain ⟨rfl, rfl⟩ := w1
    have q := out1 (fun x H' => LenOk X.K H' → Q x H') fun _ _ q _ => q
    cases k with
    | true => rw [if_pos rfl] at q ⊢; exact fun _ => ⟨μ1, F, s, h1, rs1, rh1, q⟩
    | false => rw [if_neg Bool.false_ne_true] at q ⊢; exact q μ1 H1 false [] ⟨rfl, rfl⟩ rh1 (List.prefix_refl _) (Mo.refl _) l1
theorem mw_or (ha : PT X a (TTm X.K ta)) (hb : PW X (.BoolOp .Or (b :: rest) pos) (TTm X.K tb)) :
    PW X (.BoolOp .Or (a :: b :: rest) pos) (TTm X.K fun s h => (ta s h).bind fun k h1 => if k then .ok true h1 else tb s h1) :=
  (pw_or ha hb).imp fun σ H Q l hw => by
    obtain ⟨μ, F, s, h, rs, rh, out⟩ := hw l
    refine T.step (G := []) (rel := relB) rs rh out fun k h1 μ1 H1 k' G1 e1 w1 rh1 p1 m1 l1 rs1 out1 => ?_
    obtain ⟨rfl, rfl⟩ := w1
    have q := out1 (fun x H' => LenOk X.K H' → Q x H') fun _ _ q _ => q
    cases k with
    | false => rw [if_neg Bool.false_ne_true] at q ⊢; exact fun _ => ⟨μ1, F, s, h1, rs1, rh1, q⟩
    | true => rw [if_pos rfl] at q ⊢; exact q μ1 H1 true [] ⟨rfl, rfl⟩ rh1 (List.prefix_refl _) (Mo.refl _) l1
theorem me_one {op : BoolOp} (ha : PE X a (TEm X.K fa)) : PE X (.BoolOp op [a] pos) (TEm X.K fa) := pe_one ha
theorem me_and (ha : PE X a (TEm X.K fa)) (hb : PE X (.BoolOp .And (b :: rest) pos) (TEm X.K fb)) :
    PE X (.BoolOp .And (a :: b :: rest) pos) (TEm X.K fun s h => (fa s h).bind fun x h1 => (R.of (truth h1 x) h1).bind fun k h2 => if k then fb s h2 else .ok x h2) :=
  (pe_andT ha hb).imp fun σ H Q l hw => by
    obtain ⟨μ, F, s, h, rs, rh, out⟩ := hw l
    refine T.step (G := []) (rel := relE X.K) rs rh out fun d h1 μ1 H1 x G1 e1 w1 rh1 p1 m1 l1 rs1 out1 => ?_
    obtain ⟨k, tr, q⟩ := truStep w1 rh1 (out1 (fun x H' => LenOk X.K H' → Q x H') fun _ _ q _ => q)
    refine ⟨k, tr, ?_⟩
    cases k with
    | true => rw [if_pos rfl] at q ⊢; exact fun _ => ⟨μ1, F, s, h1, rs1, rh1.weak, q⟩
    | false => rw [if_neg Bool.false_ne_true] at q ⊢; exact q μ1 H1 x G1 w1 rh1 (List.prefix_refl _) (Mo.refl _) l1
theorem me_or (ha : PE X a (TEm X.K fa)) (hb : PE X (.BoolOp .Or (b :: rest) pos) (TEm X.K fb)) :
    PE X (.BoolOp .Or (a :: b :: rest) pos) (TEm X.K fun s h => (fa s h).bind fun x h1 => (R.of (truth h1 x) h1).bind fun k h2 => if k then .ok x h2 else fb s h2) :=
  (pe_orT ha hb).imp fun σ H Q l hw => by
    obtain ⟨μ, F, s, h, rs, rh, out⟩ := hw l
    refine T.step (G := []) (rel := relE X.K) rs rh out fun d h1 μ1 H1 x G1 e1 w1 rh1 p1 m1 l1 rs1 out1 => ?_
    obtain ⟨k, tr, q⟩ := truStep w1 rh1 (out1 (fun x H' => LenOk X.K H' → Q x H') fun _ _ q _ => q)
    refine ⟨k, tr, ?_⟩
    cases k with
    | false => rw [if_neg Bool.false_ne_true] at q ⊢; exact fun _ => ⟨μ1, F, s, h1, rs1, rh1.weak, q⟩
    | true => rw [if_pos rfl] at q ⊢; exact q μ1 H1 x G1 w1 rh1 (List.prefix_refl _) (Mo.refl _) l1
theorem me_not (ha : PE X a (TEm X.K fa)) :
    PE X (.UnaryOp .Not a pos) (TEm X.K fun s h => (fa s h).bind fun x h1 => (R.of (truth h1 x) h1).bind fun k h2 => .ok (.bl (!k)) h2) :=
  (pe_notT ha).imp fun σ H Q l hw => by
    obtain ⟨μ, F, s, h, rs, rh, out⟩ := hw l
    refine T.step (G := []) (rel := relE X.K) rs rh out fun d h1 μ1 H1 x G1 e1 w1 rh1 p1 m1 l1 rs1 out1 => ?_
    obtain ⟨k, tr, q⟩ := truStep w1 rh1 (out1 (fun x H' => LenOk X.K H' → Q x H') fun _ _ q _ => q)
    exact ⟨k, tr, q μ1 H1 (.bl (!k)) [] (.val rfl .nil) rh1.weak (List.prefix_refl _) (Mo.refl _) l1⟩
theorem me_ite (hc : PT X c (TTm X.K ta)) (ha : PE X a (TEm X.K fa)) (hb : PE X b (TEm X.K fb)) :
    PE X (.IfExp c a b pos) (TEm X.K fun s h => (ta s h).bind fun k h1 => if k then fa s h1 else fb s h1) :=
  (pe_ifExp hc ha hb).imp fun σ H Q l hw => by
    obtain ⟨μ, F, s, h, rs, rh, out⟩ := hw l
    refine T.step (G := []) (rel := relB) rs rh out fun k h1 μ1 H1 k' G1 e1 w1 rh1 p1 m1 l1 rs1 out1 => ?_
    obtain ⟨rfl, rfl⟩ := w1
    have q := out1 (fun x H' => LenOk X.K H' → Q x H') fun _ _ q _ => q
    cases k with
    | false => rw [if_neg Bool.false_ne_true] at q ⊢; exact fun _ => ⟨μ1, F, s, h1, rs1, rh1, q⟩
    | true => rw [if_pos rfl] at q ⊢; exact fun _ => ⟨μ1, F, s, h1, rs1, rh1, q⟩
/-! ### a op1 b op2 c -/
theorem chain_read {K : PySem.W.Frag} {r r' : R2} {g g' : Hm → D → D → Option Bool} (hv : V2b K r g) (hv' : V2b K r' g') {σ : L2.St} {H : Hp} {Q P : VK} (l : LenOk K H) (hP : ∀ k H', (LenOk K H' → Q (.bl k) H') → P (.bl k) H')
    (hw : TEm K (fun s h => (fa s h).bind fun x h1 => (fb s h1).bind fun y h2 => (R.of (match y with | .lst _ => none | y => g h2 x y) h2).bind fun k h3 =>
      if k then (fc s h3).bind fun z h4 => R.of ((g' h4 y z).map D.bl) h4 else .ok (.bl false) h3) σ H Q) : tChain r r' (TEm K fa) (TEm K fb) (TEm K fc) σ H P := by
  obtain ⟨μ, F, s, h, rs, rh, out⟩ := hw l
  refine T.step (G := []) (rel := relE K) rs rh out fun d h1 μ1 H1 x G1 e1 w1 rh1 p1 m1 l1 rs1 out1 => ?_
  refine T.step (rel := relE K) rs1 rh1 (out1 (fun x H' => LenOk K H' → Q x H') fun _ _ q _ => q) fun e h2 μ2 H2 y G2 e2 w2 rh2 p2 m2 l2 rs2 out2 => ?_
  have q := out2 (fun x H' => LenOk K H' → Q x H') fun _ _ q => q
  have main : (∀ xs, e ≠ .lst xs) → Out K (relE K) μ2 F H2 (fun x H' => LenOk K H' → Q x H') ((R.of (g h2 d e) h2).bind fun k h3 => if k then (fc s h3).bind fun z h4 => R.of ((g' h4 e z).map D.bl) h4 else .ok (.bl false) h3) →
      r x y H2 fun z H3 => ∃ k, z = .bl k ∧ (if k = true then TEm K fc σ H3 fun w' H4 => r' y w' H4 P else P (.bl false) H3) := fun ne q => by
    have w2' : G2 = [] ∧ RD K μ2 H2 e y := by
      cases w2 with
      | val r t => cases t; exact ⟨rfl, r⟩
      | lst r t => exact absurd rfl (ne _)
    obtain ⟨rfl, ry⟩ := w2'
    cases o : g h2 d e with
    | none => rw [o] at q; exact q.elim
    | some k =>
      rw [o] at q
      refine hv μ2 F (G1 ++ []) H2 h2 d e x y (.bl k) _ ((w1.mono m2 p2).append w2) (rh2.perm frames2) l2 (by simp [o]) fun H' v G' w rh' m => ?_
      obtain ⟨rfl, rfl⟩ := w.bl_of
      refine ⟨k, rfl, ?_⟩
      simp only [R.of_some, R.bind_ok] at q
      cases k with
      | false =>
        rw [if_neg Bool.false_ne_true] at q ⊢
        exact hP _ _ fun l' => q μ2 H' (.bl false) [] (.val rfl .nil) rh' (List.prefix_refl _) m l' l'
      | true =>
        rw [if_pos rfl] at q ⊢
        have q' : Out K (relE K) μ2 F H' (fun x H' => LenOk K H' → Q x H') ((fc s h2).bind fun z h4 => R.of ((g' h4 e z).map D.bl) h4) := by
          cases eo : (fc s h2).bind fun z h4 => R.of ((g' h4 e z).map D.bl) h4 with
          | ok a h5 => rw [eo] at q; exact fun μ3 H3 y G3 w3 rh3 p3 m3 l3 => q μ3 H3 y G3 w3 rh3 p3 (m.trans m3) l3
          | exc _ _ _ => rw [eo] at q; exact q
          | no => rw [eo] at q; exact q
        refine T.step (G := []) (F := F) (rel := relE K) (rs2.mono m (List.prefix_refl _)) rh' q' fun z h4 μ4 H4 z' G4 e4 w4 rh4 p4 m4 l4 rs4 out4 => ?_
        obtain ⟨zz, o4, q4⟩ := Out.ofV (out4 (fun x H' => LenOk K H' → Q x H') fun _ _ q => q)
        exact hv' μ4 F G4 H4 h4 e z y z' zz _ (.val (RD.mono (m.trans m4) p4 _ _ ry) w4) rh4 l4 o4 fun H' v G' w rh' m => by
          obtain ⟨k4, _, rfl⟩ := Option.map_eq_some_iff.mp o4
          have ev := (RW.bl_of w).1
          subst ev
          exact hP _ _ fun l' => q4 H' _ G' w rh' m l' l'
  cases e with
  | lst xs => exact q.elim
  | _ => exact main (fun _ => nofun) q
theorem me_chain {op op' : CmpOp} {r r' : R2} {g g' : Hm → D → D → Option Bool} (ho : OpR X (compareOp op) r) (ho' : OpR X (compareOp op') r') (hv : V2b X.K r g) (hv' : V2b X.K r' g') (hm : lastMarks [op, op'] [b, c] = false)
    (ha : PE X a (TEm X.K fa)) (hb : PE X b (TEm X.K fb)) (hc : PE X c (TEm X.K fc)) :
    PE X (.Compare a [op, op'] [b, c] pos) (TEm X.K fun s h => (fa s h).bind fun x h1 => (fb s h1).bind fun y h2 => (R.of (match y with | .lst _ => none | y => g h2 x y) h2).bind fun k h3 =>
      if k then (fc s h3).bind fun z h4 => R.of ((g' h4 y z).map D.bl) h4 else .ok (.bl false) h3) :=
  (pe_chain ho ho' ha hb hc hm).imp fun _ _ _ l hw => chain_read hv hv' l (fun _ _ q => q) hw
theorem mt_chain {op op' : CmpOp} {r r' : R2} {g g' : Hm → D → D → Option Bool} (ho : OpR X (compareOp op) r) (ho' : OpR X (compareOp op') r') (hv : V2b X.K r g) (hv' : V2b X.K r' g') (hm : lastMarks [op, op'] [b, c] = false)
    (ha : PE X a (TEm X.K fa)) (hb : PE X b (TEm X.K fb)) (hc : PE X c (TEm X.K fc)) :
    PT X (.Compare a [op, op'] [b, c] pos) (TTm X.K fun s h => ((fa s h).bind fun x h1 => (fb s h1).bind fun y h2 => (R.of (match y with | .lst _ => none | y => g h2 x y) h2).bind fun k h3 =>
      if k then (fc s h3).bind fun z h4 => R.of ((g' h4 y z).map D.bl) h4 else .ok (.bl false) h3).bind fun x h1 => R.of (truth h1 x) h1) :=
  (pt_chain ho ho' ha hb hc hm).imp fun σ H Q l hw => by
    have hq : TEm X.K (fun s h => (fa s h).bind fun x h1 => (fb s h1).bind fun y h2 => (R.of (match y with | .lst _ => none | y => g h2 x y) h2).bind fun k h3 =>
      if k then (fc s h3).bind fun z h4 => R.of ((g' h4 y z).map D.bl) h4 else .ok (.bl false) h3) σ H (fun x H' => ∃ k, x = .bl k ∧ (LenOk X.K H' → Q k H')) := by
      intro l'
      obtain ⟨μ, F, s, h, rs, rh, out⟩ := hw l'
      refine ⟨μ, F, s, h, rs, rh, ?_⟩
      simp only at out ⊢
      have bl : ∀ (d : D) (h1 : Hm), ((fa s h).bind fun x h1 => (fb s h1).bind fun y h2 => (R.of (match y with | .lst _ => none | y => g h2 x y) h2).bind fun k h3 =>
          if k then (fc s h3).bind fun z h4 => R.of ((g' h4 y z).map D.bl) h4 else .ok (.bl false) h3) = .ok d h1 → ∃ k, d = .bl k := fun d h1 e => by
        cases e1 : fa s h with
        | ok x h1 =>
          rw [e1, R.bind_ok] at e
          cases e2 : fb s h1 with
          | ok y h2 =>
            rw [e2, R.bind_ok] at e
            cases e3 : R.of (match y with | .lst _ => none | y => g h2 x y) h2 with
            | ok k h3 =>
              rw [e3, R.bind_ok] at e
              cases k with
              | false => rw [if_neg Bool.false_ne_true] at e; cases e; exact ⟨_, rfl⟩
              | true =>
                rw [if_pos rfl] at e
                cases e4 : fc s h3 with
                | ok z h4 =>
                  rw [e4, R.bind_ok] at e
                  cases e5 : g' h4 y z with
                  | none => rw [e5] at e; cases e
                  | some k => rw [e5] at e; cases e; exact ⟨_, rfl⟩
                | exc _ _ _ => rw [e4] at e; cases e
                | no => rw [e4] at e; cases e
            | exc _ _ _ => rw [e3] at e; cases e
            | no => rw [e3] at e; cases e
          | exc _ _ _ => rw [e2] at e; cases e
          | no => rw [e2] at e; cases e
        | exc _ _ _ => rw [e1] at e; cases e
        | no => rw [e1] at e; cases e
      generalize ((fa s h).bind fun x h1 => (fb s h1).bind fun y h2 => (R.of (match y with | .lst _ => none | y => g h2 x y) h2).bind fun k h3 =>
          if k then (fc s h3).bind fun z h4 => R.of ((g' h4 y z).map D.bl) h4 else .ok (.bl false) h3) = r at out bl ⊢
      cases r with
      | ok d h1 =>
        obtain ⟨k, rfl⟩ := bl d h1 rfl
        intro μ' H' x G w rh' p m l2
        obtain ⟨rfl, rfl⟩ := RW.bl_of (show RW X.K μ' H' [.bl k] [x] G from w)
        exact ⟨k, rfl, fun l3 => out μ' H' k [] ⟨rfl, rfl⟩ rh' p m l3⟩
      | exc _ _ _ => exact out.elim
      | no => exact out.elim
    exact chain_read (Q := fun x H' => ∃ k, x = .bl k ∧ (LenOk X.K H' → Q k H')) (P := fun x H' => ∃ k, x = .bl k ∧ (LenOk X.K H' → Q k H')) hv hv' l (fun k H' q => ⟨k, rfl, fun l' => by obtain ⟨k', e, q'⟩ := q l'; cases e; exact q' l'⟩) hq
end
end Mp

namespace Mp
open PySem PySem.Spec L2
/-! ### isinstance -/
def tyN : D → String
  | .non => "NoneType"
  | .bl _ => "bool"
  | .int _ => "int"
  | .str _ => "str"
  | .tup _ => "tuple"
  | .lst _ => "list"
  | .ref _ => "list"
  | .fz _ => "list"
def Ty.name : Ty → String
  | .int => "int"
  | .str => "str"
  | .bool => "bool"
  | .tuple => "tuple"
  | .list => "list"
theorem kit_tab (h : Hm) (d : D) (t : Ty) : kitB (tyN d) t.name = some (isTy h d t) := by
  have table : ∀ n ∈ ["NoneType", "bool", "int", "str", "tuple", "list"], ∀ m ∈ ["int", "str", "bool", "tuple", "list"], kitB n m = some (n == m || (n == "bool" && m == "int")) := by decide +kernel
  have h1 : tyN d ∈ ["NoneType", "bool", "int", "str", "tuple", "list"] := by cases d <;> simp [tyN]
  have h2 : t.name ∈ ["int", "str", "bool", "tuple", "list"] := by cases t <;> simp [Ty.name]
  rw [table _ h1 _ h2]
  cases d <;> cases t <;> rfl
section
variable {K : PySem.W.Frag} {μ : List Addr} {F G : Frs} {H : Hp} {h : Hm}
theorem ty_of {d : D} {x : V} (hf : ∀ ns, d ≠ .fz ns) (w : RW K μ H [d] [x] G) (rh : RH K μ (G ++ F) H h) : TyX K H x (.type (tyN d)) := by
  cases w with
  | @val d x _ _ G r t =>
    cases d with
    | non => simp only [RD] at r; subst r; exact .base .non
    | bl b => simp only [RD] at r; subst r; exact .base (.bl b)
    | int b => simp only [RD] at r; subst r; exact .base (.int b)
    | str b => simp only [RD] at r; subst r; exact .base (.str b)
    | tup ds =>
      simp only [RD] at r
      obtain ⟨a, vs, rfl, r1, _⟩ := r
      rcases r1 with ⟨o, _, r1⟩ | ⟨o, its, n, e, c, _⟩
      · exact .fTuple r1
      · exact .kTuple e c
    | lst _ => simp [RD] at r
    | fz ns => exact absurd rfl (hf ns)
    | ref i =>
      simp only [RD] at r
      obtain ⟨a, r, rfl⟩ := r
      have hi : i < h.length := by rw [← rh.len]; exact (List.getElem?_eq_some_iff.mp r).1
      obtain ⟨ho, e3, ro⟩ := rh.obj i _ a (List.getElem?_eq_getElem hi) r
      cases eo : h[i] with
      | lst ds =>
        rw [eo] at ro
        obtain ⟨vs, rfl, _⟩ := ro
        exact .base (.lst e3)
  | @lst es _ a vs _ _ r t => exact .base (.lst (rh.frm (a, .lst vs) (by simp)))
end
section
variable {X : Cx} {a : Expr} {pos : Pos} {fa : Stm → Hm → R D}
theorem isi_any {K : PySem.W.Frag} (h : Hm) (d : D) : ∀ ts : List Ty, PySem.W.kitAny K (.type (tyN d)) (ts.map fun t => Value.type t.name) = some (ts.any fun t => isTy h d t)
  | [] => kitAny_nil
  | t :: ts => by
    rw [List.map_cons, List.any_cons]
    refine kitAny_cons (kit_ty (kit_tab h d t)) (fun e => ?_) fun e => ?_
    · rw [e, Bool.false_or]; exact isi_any h d ts
    · rw [e, Bool.true_or]
/-- the types' names, as arguments -/
theorem pa_tys : ∀ (ts : List Ty) (es : List Expr), (∀ (i : Nat) (t : Ty) (e : Expr), ts[i]? = some t → es[i]? = some e → PE X e (tC (.ty t.name))) → ts.length = es.length → (∀ e ∈ es, ∀ r, starEach (e :: r) X.env = (false, eval e X.env) :: starEach r X.env) →
    PA X es (fun _ H Q => Q (ts.map fun t => V.ty t.name) H)
  | [], [], _, _, _ => pa_nil
  | [], _ :: _, _, h, _ => by simp at h
  | _ :: _, [], _, h, _ => by simp at h
  | t :: ts, e :: es, hp, hl, hs => by
    have h1 := hp 0 t e rfl rfl
    have h2 := pa_tys ts es (fun (i : Nat) t e h1 h2 => hp (i + 1) t e (by simpa using h1) (by simpa using h2)) (by simpa using hl) (fun e he => hs e (List.mem_cons_of_mem _ he))
    exact pa_cons h1 h2 (hs e List.mem_cons_self es)
theorem isi_out {K : PySem.W.Frag} {μ : List Addr} {F : Frs} {H : Hp} {h : Hm} {d : D} {ts : List Ty} {Q : VK} (out : Out K (relE K) μ F H Q (R.of (isiD h d ts) h)) : (∀ ns, d ≠ .fz ns) ∧ Out K (relE K) μ F H Q (.ok (.bl (ts.any fun t => isTy h d t)) h) := by
  cases d with
  | fz ns => exact out.elim
  | _ => exact ⟨fun _ => nofun, out⟩
theorem me_isi {t : Ty} {e : Expr} {x : Str} {p : Pos} (hg : Gl X x) (hm : X.mg x = none) (hb : bootBuiltins x = some (.builtin "isinstance")) (hn : x ≠ "__name__") (hd : (x == ("__debug__" : Str)) = false)
    (he : starEach [a, e] X.env = (false, eval a X.env) :: starEach [e] X.env) (he2 : starEach [e] X.env = (false, eval e X.env) :: starEach [] X.env) (ht : PE X e (tC (.ty t.name))) (ha : PE X a (TEm X.K fa)) :
    PE X (.Call (.Name x p) [a, e] [] pos) (TEm X.K fun s h => (fa s h).bind fun x h1 => R.of (isiD h1 x [t]) h1) :=
  (pe_callB call_isi hg hm hb (pa_cons ha (pa_cons ht pa_nil he2) he) hn hd he (by rw [he2]; rfl)).imp fun σ H Q l hw => by
    obtain ⟨μ, F, s, h, rs, rh, out⟩ := hw l
    refine T.step (G := []) (rel := relE X.K) rs rh out fun d h1 μ1 H1 x G1 e1 w1 rh1 p1 m1 l1 rs1 out1 => ?_
    have q0 := out1 (fun x H' => LenOk X.K H' → Q x H') fun _ _ q _ => q
    obtain ⟨hf, q⟩ := isi_out q0
    refine ⟨x, .ty t.name, .type (tyN d), .type t.name, isTy h1 d t, rfl, .ty _, ty_of hf w1 rh1, kit_ty (kit_tab h1 d t), ?_⟩
    have e : ([t].any fun t => isTy h1 d t) = isTy h1 d t := by simp
    rw [← e]
    exact q μ1 H1 (.bl _) [] (.val rfl .nil) rh1.weak (List.prefix_refl _) (Mo.refl _) l1
theorem me_isiT {ts : List Ty} {es : List Expr} {k : Nat} {tp : Pos} {x : Str} {p : Pos} (hg : Gl X x) (hm : X.mg x = none) (hb : bootBuiltins x = some (.builtin "isinstance")) (hn : x ≠ "__name__") (hd : (x == ("__debug__" : Str)) = false)
    (he : starEach [a, .Tuple es k tp] X.env = (false, eval a X.env) :: starEach [.Tuple es k tp] X.env) (hts : ∀ (i : Nat) (t : Ty) (e : Expr), ts[i]? = some t → es[i]? = some e → PE X e (tC (.ty t.name))) (hl : ts.length = es.length)
    (hs : ∀ e ∈ es, ∀ r, starEach (e :: r) X.env = (false, eval e X.env) :: starEach r X.env) (hz : ts.length ≤ 1000) (ha : PE X a (TEm X.K fa)) :
    PE X (.Call (.Name x p) [a, .Tuple es k tp] [] pos) (TEm X.K fun s h => (fa s h).bind fun x h1 => R.of (isiD h1 x ts) h1) :=
  (pe_callB call_isiT hg hm hb (pa_cons ha (pa_cons (pe_tup (pa_tys ts es hts hl hs)) pa_nil rfl) he) hn hd he rfl).imp fun σ H Q l hw => by
    obtain ⟨μ, F, s, h, rs, rh, out⟩ := hw l
    refine T.step (G := []) (rel := relE X.K) rs rh out fun d h1 μ1 H1 x G1 e1 w1 rh1 p1 m1 l1 rs1 out1 => ?_
    have q0 := out1 (fun x H' => LenOk X.K H' → Q x H') fun _ _ q _ => q
    obtain ⟨hf, q⟩ := isi_out q0
    refine ⟨by rw [List.length_map, sizeLine_eq]; omega, fun tp hp => ?_⟩
    have pr : Paired ClsV (ts.map fun t => V.ty t.name) (ts.map fun t => Value.type t.name) := by
      clear hz hl hts q q0 out1 hw out
      induction ts with
      | nil => exact .nil
      | cons t ts ih => exact .cons (.ty _) ih
    have m := Mo.new (o := .tup (ts.map fun t => V.ty t.name)) hp
    refine ⟨x, tp, _, _, _, _, rfl, upd_same, pr, ty_of hf (w1.mono m (List.prefix_refl _)) (rh1.new hp), isi_any h1 d ts, fun l' => ?_⟩
    exact q μ1 _ (.bl _) [] (.val rfl .nil) (rh1.new hp).weak (List.prefix_refl _) m l' l'
/-! ### calls of defs -/
/-- the promise of a def that the interpreter runs -/
def spM (K : PySem.W.Frag) (np : Nat) (g : List D → Hm → R D) : Sp := fun vs H Q _ => vs.length = np ∧ ∃ (μ : List Addr) (F : Frs) (ds : List D) (h : Hm), RDs K μ H ds vs ∧ RH K μ F H h ∧ Out K (relE K) μ F H Q (g ds h)
theorem Out.pre {K : PySem.W.Frag} {α β : Type} {rel : Rel α β} {μ μ1 : List Addr} {F : Frs} {H : Hp} {Q : β → Hp → Prop} {r : R α} (o : Out K rel μ F H Q r) (p : μ <+: μ1) : Out K rel μ1 F H Q r := by
  cases r with
  | ok a h1 => exact fun μ2 H2 y G2 w2 rh2 p2 m2 l2 => o μ2 H2 y G2 w2 rh2 (p.trans p2) m2 l2
  | exc _ _ _ => exact o
  | no => exact o
theorem me_call {k np : Nat} {f : Addr} {fd : FuncData} {ps : List Str} {g : List D → Hm → R D} {e : Expr} {es : List Expr} {x : Str} {p : Pos} {fs : Stm → Hm → R (List D)} (FO : FnOk X.prog X.w X.K X.mg X.base CX0 k f fd ps (spM X.K np g)) (hr : Room k X.A) (hg : Gl X x) (hm : X.mg x = some (.ref f)) (hk : PySem.W.keepIn X.K (.ref f) = true)
    (hb : Binds X.K fd ps []) (hd : (x == ("__debug__" : Str)) = false) (he : starEach (e :: es) X.env = (false, eval e X.env) :: starEach es X.env) (hpl : (backTo pos (starEach es X.env)).any (·.1) = false) (hn : ∀ s h ds h1, fs s h = .ok ds h1 → ds.length = np)
    (ha : PA X (e :: es) (TAm X.K fs)) : PE X (.Call (.Name x p) (e :: es) [] pos) (TEm X.K fun s h => (fs s h).bind fun ds h1 => let p := mats ds h1; g p.1 p.2) :=
  (pe_call FO hr hg hm hk hb .nil pass0 ha hd he hpl).imp fun σ H Q l hw => by
    obtain ⟨μ, F, s, h, rs, rh, out⟩ := hw l
    refine T.step (G := []) (rel := relA X.K) rs rh out fun ds h1 μ1 H1 xs G1 e1 w1 rh1 p1 m1 l1 rs1 out1 => ?_
    obtain ⟨μ2, p2, rh2, r2⟩ := RW.mats w1 rh1
    refine ⟨by rw [List.append_nil, ← w1.length]; exact hn _ _ _ _ e1, μ2, F, _, _, by rw [List.append_nil]; exact r2, rh2, ?_⟩
    exact (out1 (fun x H' => LenOk X.K H' → Q x H') fun _ _ q _ => q).pre p2
theorem me_call0 {k : Nat} {f : Addr} {fd : FuncData} {ps : List Str} {g : List D → Hm → R D} {x : Str} {p : Pos} (FO : FnOk X.prog X.w X.K X.mg X.base CX0 k f fd ps (spM X.K 0 g)) (hr : Room k X.A) (hg : Gl X x) (hm : X.mg x = some (.ref f)) (hk : PySem.W.keepIn X.K (.ref f) = true)
    (hb : Binds X.K fd ps []) (hd : (x == ("__debug__" : Str)) = false) : PE X (.Call (.Name x p) [] [] pos) (TEm X.K fun s h => g [] h) :=
  (pe_call0 FO hr hg hm hk hb .nil pass0 hd).imp fun σ H Q l hw => by
    obtain ⟨μ, F, s, h, rs, rh, out⟩ := hw l
    refine ⟨rfl, μ, F, [], h, rfl, rh, ?_⟩
    exact Out.imp out fun _ _ _ q _ => q
/-! ### methods -/
/-- the value is of that built-in type, without a dict of its own -/
def TyD (X : Cx) (T : String) (x : V) (H : Hp) : Prop := ∀ (pins : List (Addr × Obj)) (s : Shared) (σ : L2.St) (v : Value), Inv X pins σ H s → RelV x v → s.TypeIs v T ∧ ∀ a, v = .ref a → ∃ ob, s.heap.get? a = some ob ∧ ob.dict = none
theorem TyD.of {T : String} {x : V} {H : Hp} (h : tyV X.K T x H) : TyD X T x H := fun _ _ _ _ I r => tyV_is I r h
theorem TyD.tup {a : Addr} {vs : List V} {H : Hp} (h : TupK X.K H a vs) : TyD X "tuple" (.ref a) H := fun pins s σ v I r => by
  cases r
  rcases h with ⟨o, ho, h⟩ | ⟨o, its, n, h1, h2, h3, _⟩
  · obtain ⟨e, _, _, _, o', e', c, _⟩ := (show ObjOk X.prog X.w H s.heap a (.frz o (.tup vs)) from I.hok a _ h)
    rw [e] at e'
    cases e'
    exact ⟨⟨o, e, c⟩, fun b eb => by cases eb; exact ⟨o, e, ho⟩⟩
  · exact ⟨⟨o, I.kIn a o h1, h2⟩, fun b eb => by cases eb; exact ⟨o, I.kIn a o h1, h3⟩⟩
/-- o.m(e, ..): what method it is is told by the receiver's value -/
def tBMX (X : Cx) (name : Str) (to : TE) (t : TA) : TE := fun σ H Q => to σ H fun x H1 => ∃ (T id : String) (r : V → List V → Hp → VK → Prop), PlainAttrs T ∧ Slot T name id ∧ typeOf (.builtin id) = pure (.type "method_descriptor") ∧ MtR X id r ∧ TyD X T x H1 ∧ t σ H1 fun xs H2 => r x xs H2 Q
theorem pe_bmX {name : Str} {e : Expr} {es : List Expr} {apos cpos : Pos} {to : TE} {t : TA} (ho : PE X a to) (ha : PA X (e :: es) t)
    (hbase : attributeBase a name X.env (eval a X.env) = eval a X.env)
    (hfew : ((backTo cpos (starEach (e :: es) X.env)).all (fun x => !x.1) && (backToKw cpos (keywordEach [] X.env)).all (fun x => x.1.isSome)
      && decide ((e :: es).length + ([] : List Keyword).length + (if ([] : List Keyword).isEmpty then 0 else 1) < 30)) = true)
    (hline : (apos.endLine == cpos.line) = true) (hs : starEach (e :: es) X.env = (false, eval e X.env) :: starEach es X.env) (hplain : (backTo cpos (starEach es X.env)).any (·.1) = false) :
    PE X (.Call (.Attribute a name apos) (e :: es) [] cpos) (tBMX X name to t) := by
  refine ⟨fun pins s σ H Q I h => ?_⟩
  refine wpAny_Call_method_late hbase hfew hline rfl (thn (ho.run pins s σ H _ I h) fun v s1 ⟨x, H1, I1, r1, T, id, r, pa, slot, hty, hm, ty, q1⟩ => ?_)
  obtain ⟨h1, h2⟩ := ty pins s1 σ v I1 r1
  refine ⟨T, id, pa, slot, hty, h1, h2, ?_⟩
  have hA := ha.run cpos pins s1 σ H1 _ I1 q1
  rw [hs] at hA ⊢
  refine Calls.callWith_builtin (by show (false || (backTo cpos (starEach es X.env)).any (·.1)) = false; rw [hplain] <;> rfl) (Calls.evalArgs_plain ?_)
  exact thn hA fun us s2 ⟨vs, H2, I2, r2, q2⟩ => hm pins s2 σ H2 x vs v us Q I2 r1 r2 q2
def tBMX0 (X : Cx) (name : Str) (to : TE) : TE := fun σ H Q => to σ H fun x H1 => ∃ (T id : String) (r : V → List V → Hp → VK → Prop), PlainAttrs T ∧ Slot T name id ∧ typeOf (.builtin id) = pure (.type "method_descriptor") ∧ MtR X id r ∧ TyD X T x H1 ∧ r x [] H1 Q
theorem pe_bmX0 {name : Str} {apos cpos : Pos} {to : TE} (ho : PE X a to) (hbase : attributeBase a name X.env (eval a X.env) = eval a X.env) (hline : (apos.endLine == cpos.line) = true) :
    PE X (.Call (.Attribute a name apos) [] [] cpos) (tBMX0 X name to) := by
  refine ⟨fun pins s σ H Q I h => ?_⟩
  refine wpAny_Call_method0_late hbase hline (thn (ho.run pins s σ H _ I h) fun v s1 ⟨x, H1, I1, r1, T, id, r, pa, slot, hty, hm, ty, q1⟩ => ?_)
  obtain ⟨h1, h2⟩ := ty pins s1 σ v I1 r1
  exact ⟨T, id, pa, slot, hty, h1, h2, Calls.callWith_builtin rfl (PySem.evalArgs_none (hm pins s1 σ H1 x [] v [] Q I1 r1 .nil q1))⟩
/-- a method's rule by values, for one receiver d; the heap of places may change -/
def VM (K : PySem.W.Frag) (r : V → List V → Hp → VK → Prop) (g : Hm → D → List D → Option (D × Hm)) (d : D) : Prop :=
  ∀ (μ : List Addr) (F G : Frs) (H : Hp) (h : Hm) (x : V) (ds : List D) (xs : List V) (z : D) (h' : Hm) (Q : VK), RW K μ H [d] [x] G → RDs K μ H ds xs → RH K μ (G ++ F) H h → LenOk K H → g h d ds = some (z, h') →
    (∀ (H' : Hp) (v : V) (G' : Frs), RW K μ H' [z] [v] G' → RH K μ (G' ++ F) H' h' → Mo H H' → Q v H') → r x xs H Q
/-- the method name of the values d that g serves -/
def MOk (X : Cx) (name : Str) (g : Hm → D → List D → Option (D × Hm)) : Prop :=
  ∀ (d : D) (ds : List D) (h : Hm) (z : D × Hm), g h d ds = some z → ∃ (T id : String) (r : V → List V → Hp → VK → Prop), PlainAttrs T ∧ Slot T name id ∧ typeOf (.builtin id) = pure (.type "method_descriptor") ∧ MtR X id r ∧
    (∀ (μ : List Addr) (F G : Frs) (H : Hp) (h : Hm) (x : V), RW X.K μ H [d] [x] G → RH X.K μ (G ++ F) H h → TyD X T x H) ∧ VM X.K r g d
theorem me_meth {name : Str} {e : Expr} {es : List Expr} {apos cpos : Pos} {g : Hm → D → List D → Option (D × Hm)} {fs : Stm → Hm → R (List D)} (hM : MOk X name g)
    (hbase : attributeBase a name X.env (eval a X.env) = eval a X.env)
    (hfew : ((backTo cpos (starEach (e :: es) X.env)).all (fun x => !x.1) && (backToKw cpos (keywordEach [] X.env)).all (fun x => x.1.isSome)
      && decide ((e :: es).length + ([] : List Keyword).length + (if ([] : List Keyword).isEmpty then 0 else 1) < 30)) = true)
    (hline : (apos.endLine == cpos.line) = true) (hs : starEach (e :: es) X.env = (false, eval e X.env) :: starEach es X.env) (hplain : (backTo cpos (starEach es X.env)).any (·.1) = false)
    (ha : PE X a (TEm X.K fa)) (hb : PA X (e :: es) (TAm X.K fs)) :
    PE X (.Call (.Attribute a name apos) (e :: es) [] cpos) (TEm X.K fun s h => (fa s h).bind fun x h1 => (fs s h1).bind fun ds h2 => let p := mats ds h2; (R.of (g p.2 x p.1) p.2).bind fun r _ => .ok r.1 r.2) :=
  (pe_bmX ha hb hbase hfew hline hs hplain).imp fun σ H Q l hw => by
    obtain ⟨μ, F, s, h, rs, rh, out⟩ := hw l
    refine T.step (G := []) (rel := relE X.K) rs rh out fun d h1 μ1 H1 x G1 e1 w1 rh1 p1 m1 l1 rs1 out1 => ?_
    have out1' := out1 (fun x H' => LenOk X.K H' → Q x H') fun _ _ q _ => q
    cases e2 : fs s h1 with
    | exc _ _ _ => simp only [e2, R.bind] at out1'; exact out1'.elim
    | no => simp only [e2, R.bind] at out1'; exact out1'.elim
    | ok ds h2 =>
      have out2 := out1'
      simp only [e2, R.bind_ok] at out2
      cases e3 : g (mats ds h2).2 d (mats ds h2).1 with
      | none => simp only [e3, R.of, R.bind] at out2; exact out2.elim
      | some z =>
        obtain ⟨T', id, r, pa, slot, hty, hm, hT, hv⟩ := hM d _ _ z e3
        refine ⟨T', id, r, pa, slot, hty, hm, hT μ1 _ G1 H1 h1 x w1 rh1, ?_⟩
        refine T.step (G := G1) (F := F) (rel := relA X.K) rs1 rh1 out1' fun ds' h2' μ2 H2 xs G2 e4 w2 rh2 p2 m2 l2 rs2 out3 => ?_
        rw [e2] at e4
        injection e4 with e5 e6
        subst e5 e6
        have q := out3 (fun x H' => LenOk X.K H' → Q x H') fun _ _ q => q
        simp only [e3, R.of_some, R.bind_ok] at q
        obtain ⟨μ3, p3, rh3, r3⟩ := RW.mats w2 rh2
        obtain ⟨zd, zh⟩ := z
        refine hv μ3 F G1 H2 _ x _ xs zd zh _ (w1.mono m2 (p2.trans p3)) r3 rh3 l2 e3 fun H' v G' w rh' m l' => ?_
        exact q μ3 H' v G' w rh' p3 m l' l'
theorem me_meth0 {name : Str} {apos cpos : Pos} {g : Hm → D → List D → Option (D × Hm)} (hM : MOk X name g) (hbase : attributeBase a name X.env (eval a X.env) = eval a X.env) (hline : (apos.endLine == cpos.line) = true) (ha : PE X a (TEm X.K fa)) :
    PE X (.Call (.Attribute a name apos) [] [] cpos) (TEm X.K fun s h => (fa s h).bind fun x h1 => (R.of (g h1 x []) h1).bind fun r _ => .ok r.1 r.2) :=
  (pe_bmX0 ha hbase hline).imp fun σ H Q l hw => by
    obtain ⟨μ, F, s, h, rs, rh, out⟩ := hw l
    refine T.step (G := []) (rel := relE X.K) rs rh out fun d h1 μ1 H1 x G1 e1 w1 rh1 p1 m1 l1 rs1 out1 => ?_
    have q := out1 (fun x H' => LenOk X.K H' → Q x H') fun _ _ q _ => q
    cases e3 : g h1 d [] with
    | none => simp only [e3, R.of, R.bind] at q; exact q.elim
    | some z =>
      obtain ⟨T', id, r, pa, slot, hty, hm, hT, hv⟩ := hM d _ _ z e3
      refine ⟨T', id, r, pa, slot, hty, hm, hT μ1 _ G1 H1 h1 x w1 rh1, ?_⟩
      obtain ⟨zd, zh⟩ := z
      simp only [e3, R.of_some, R.bind_ok] at q
      exact hv μ1 F G1 H1 _ x [] [] zd zh _ w1 rfl rh1 l1 e3 fun H' v G' w rh' m l' => q μ1 H' v G' w rh' (List.prefix_refl _) m l' l'
end
end Mp

namespace Mp
open PySem PySem.Spec L2
/-! ### what is walked -/
section
variable (K : PySem.W.Frag)
/-- an item of a loop: as a value; or a tuple that the loop makes -/
def RI (μ : List Addr) (H : Hp) (d : D) (x : V) : Prop := RD K μ H d x ∨ ∃ ds a vs, d = .tup ds ∧ x = .ref a ∧ SqT K H a vs ∧ RDs K μ H ds vs
/-- how an iterator bears the items told; weak: its items may be tuples of its own -/
structure ItOk (weak : Bool) (μ0 : List Addr) (H0 : Hp) (v : Itv) (J : It) (G : Frs) : Prop where
  go : ∀ (i : Nat) (d : D), v.xs[i]? = some d → ∀ (μ : List Addr) (F : Frs) (H : Hp) (h : Hm), RH K μ (G ++ F) H h → μ0 <+: μ → Mo H0 H → v.ck h = true →
    J.go i H ∧ ∀ x H', J.yld i H x H' → (if weak = true then RI K μ H' d x else RD K μ H' d x) ∧ RH K μ (G ++ F) H' h ∧ Mo H H'
  stop : ∀ (i : Nat), v.xs.length = i → ∀ (μ : List Addr) (F : Frs) (H : Hp) (h : Hm), RH K μ (G ++ F) H h → μ0 <+: μ → Mo H0 H → v.ck h = true → J.stop i H
  len : v.xs.length ≤ 16777216
end
def relI (K : PySem.W.Frag) (weak : Bool) : Rel Itv It := fun μ H v J G => ItOk K weak μ H v J G
abbrev TIm (K : PySem.W.Frag) (weak : Bool) (f : Stm → Hm → R Itv) : TI := T K (relI K weak) f
section
variable {X : Cx}
theorem _root_.L2.PI.imp {tg e : Expr} {t t' : TI} (h : PI X tg e t) (hi : ∀ σ H Q, LenOk X.K H → t' σ H Q → t σ H (fun J H' => LenOk X.K H' → Q J H')) : PI X tg e t' :=
  ⟨fun pins s σ H R I h' => thn (h.run pins s σ H _ I (hi σ H R (Inv_lenOk I) h')) fun _ _ q => thn q fun _ _ ⟨it, fp, tn, J, H', e, I', t, st, f, r⟩ => ⟨it, fp, tn, J, H', e, I', t, st, f, r (Inv_lenOk I')⟩⟩
/-- a list or a tuple -/
def iSeq (K : PySem.W.Frag) (tl : TE) : TI := fun σ H R => tl σ H fun x H1 => ∃ a, x = .ref a ∧ (((∃ xs, SqL K H1 a xs) ∧ R (Itl K a) H1) ∨ ((∃ xs, SqT K H1 a xs) ∧ R (Itt K a) H1))
theorem pi_seq {tg l : Expr} {tl : TE} (hl : PE X l tl) : PI X tg l (iSeq X.K tl) := by
  refine ⟨fun pins s σ H R I h => ?_⟩
  refine thn (hl.run pins s σ H _ I h) fun v s1 ⟨x, H1, I1, r1, q1⟩ => ?_
  obtain ⟨a, e, q1⟩ := q1
  subst e
  cases r1
  rcases q1 with ⟨⟨xs, hq⟩, q⟩ | ⟨⟨xs, hq⟩, q⟩
  · obtain ⟨its, rv, p, hz⟩ := I1.list hq
    refine wpAny_pyIter_list p.isList ?_
    refine ⟨s1.heap.objs.size, [s1.heap.objs.size], _, _, H1, rfl, I1.kept (t' := s1.toks) fun b o e => Heap.get?_push_of_some _ e, turn_list a _, ⟨_, Heap.get?_push_size _ rfl, rfl, rfl⟩, fun b hb => ?_, q⟩
    have e : b = s1.heap.objs.size := by simpa using hb
    subst e
    exact I1.fpOk (Nat.le_refl _) (I1.hok.fresh (Nat.le_refl _))
  · obtain ⟨its, rv, p, hz⟩ := I1.tuple hq
    refine wpAny_pyIter_tuple (show s1.heap.IsTuple a its.toArray from p) ?_
    refine ⟨s1.heap.objs.size, [s1.heap.objs.size], _, _, H1, rfl, I1.kept (t' := s1.toks) fun b o e => Heap.get?_push_of_some _ e, turn_tuple a _, ⟨_, Heap.get?_push_size _ rfl, rfl, rfl⟩, fun b hb => ?_, q⟩
    have e : b = s1.heap.objs.size := by simpa using hb
    subst e
    exact I1.fpOk (Nat.le_refl _) (I1.hok.fresh (Nat.le_refl _))
end
section
variable {K : PySem.W.Frag} {μ : List Addr} {F G : Frs} {H : Hp} {h : Hm}
theorem ItOk.up {μ0 : List Addr} {H0 : Hp} {v : Itv} {J : It} (o : ItOk K false μ0 H0 v J G) : ItOk K true μ0 H0 v J G :=
  ⟨fun i d e μ F H h rh p m c => let ⟨a, b⟩ := o.go i d e μ F H h rh p m c; ⟨a, fun x H' y => let ⟨r, q⟩ := b x H' y; ⟨.inl r, q⟩⟩, o.stop, o.len⟩
/-- the list (or its place) as it stands: what Itl finds in it -/
theorem lst_at {d : D} {x : V} {xs : List D} (w : RW K μ H [d] [x] G) (rh : RH K μ (G ++ F) H h) (e : asL h d = some xs) :
    ∃ a, x = .ref a ∧ (∃ vs, SqL K H a vs) ∧ ∀ (μ' : List Addr) (F' : Frs) (H' : Hp) (h' : Hm), RH K μ' (G ++ F') H' h' → μ <+: μ' → Mo H H' → (⟨xs, idep h d⟩ : Itv).ck h' = true → ∃ vs, H' a = some (.lst vs) ∧ RDs K μ' H' xs vs := by
  cases w with
  | @val d x _ _ G r t =>
    cases t
    cases d with
    | ref i =>
      simp only [asL] at e
      simp only [RD] at r
      obtain ⟨a, r, rfl⟩ := r
      cases e1 : h[i]? with
      | none => rw [e1] at e; cases e
      | some o =>
        cases o with
        | lst ys =>
          rw [e1] at e
          simp only [Option.some.injEq] at e
          subst e
          obtain ⟨ho, e3, vs, rfl, q⟩ := rh.obj i _ a e1 r
          refine ⟨a, rfl, ⟨vs, .of e3⟩, fun μ' F' H' h' rh' p m c => ?_⟩
          simp only [Itv.ck, idep, e1, List.all_cons, List.all_nil, Bool.and_true, decide_eq_true_eq] at c
          have r' : μ'[i]? = some a := by
            obtain ⟨t, rfl⟩ := p
            rw [List.getElem?_append_left (List.getElem?_eq_some_iff.mp r).1]; exact r
          obtain ⟨ho, e3, vs, rfl, q⟩ := rh'.obj i _ a c r'
          exact ⟨vs, e3, q⟩
    | lst _ => simp [RD] at r
    | _ => simp [asL] at e
  | @lst es _ a vs _ _ r t =>
    cases t
    simp only [asL, Option.some.injEq] at e
    subst e
    exact ⟨a, rfl, ⟨vs, .of (rh.frm (a, .lst vs) (by simp))⟩, fun μ' F' H' h' rh' p m c => ⟨vs, rh'.frm (a, .lst vs) (by simp), r.mono m p⟩⟩
theorem itOk_lst {d : D} {x : V} {xs : List D} (l : LenOk K H) (w : RW K μ H [d] [x] G) (rh : RH K μ (G ++ F) H h) (e : asL h d = some xs) : ∃ a, x = .ref a ∧ (∃ vs, SqL K H a vs) ∧ ItOk K false μ H ⟨xs, idep h d⟩ (Itl K a) G := by
  obtain ⟨a, ea, hq, q⟩ := lst_at w rh e
  subst ea
  refine ⟨a, rfl, hq, fun i d' e' μ' F' H' h' rh' p m c => ?_, fun i hi μ' F' H' h' rh' p m c => ?_, ?_⟩
  · obtain ⟨vs, e3, r⟩ := q μ' F' H' h' rh' p m c
    obtain ⟨v, ev, rv⟩ := r.get e'
    refine ⟨⟨vs, v, .of e3, ev⟩, fun x H'' y => ?_⟩
    obtain ⟨rfl, y⟩ := y
    have : x = v := Option.some.inj ((y vs (.of e3)).symm.trans ev)
    subst this
    exact ⟨by simpa using rv, rh', Mo.refl _⟩
  · obtain ⟨vs, e3, r⟩ := q μ' F' H' h' rh' p m c
    exact ⟨vs, .of e3, by rw [← r.length]; exact Nat.le_of_eq hi⟩
  · obtain ⟨a', vs, ea, e3, r⟩ := asL_of w rh e
    have := l.l a' vs (.of e3)
    rw [← r.length, sizeLine_eq] at this
    exact this
theorem itOk_tup {ds : List D} {a : Addr} {vs : List V} (l : LenOk K H) (h1 : TupK K H a vs) (h2 : RDs K μ H ds vs) (h : Hm) : ItOk K false μ H ⟨ds, []⟩ (Itt K a) G := by
  refine ⟨fun i d' e' μ' F' H' h' rh' p m c => ?_, fun i hi μ' F' H' h' rh' p m c => ?_, by have := l.t a vs h1.sq; rw [← h2.length, sizeLine_eq] at this; exact this⟩
  · obtain ⟨v, ev, rv⟩ := (h2.mono m p).get e'
    refine ⟨⟨vs, v, (m.tupK h1).sq, ev⟩, fun x H'' y => ?_⟩
    obtain ⟨rfl, y⟩ := y
    have : x = v := Option.some.inj ((y vs (m.tupK h1).sq).symm.trans ev)
    subst this
    exact ⟨by simpa using rv, rh', Mo.refl _⟩
  · exact ⟨vs, (m.tupK h1).sq, by rw [← h2.length]; exact Nat.le_of_eq hi⟩
theorem itOk_range (a b : Int) (hz : b - a ≤ 16777216) : ItOk K false μ H ⟨rangeD a b, []⟩ (Itr a (b - a).toNat) G := by
  refine ⟨fun i d' e' μ' F' H' h' rh' p m c => ?_, fun i hi μ' F' H' h' rh' p m c => ?_, by simp only [rangeD, List.length_map, List.length_range]; omega⟩
  · have hi : i < (b - a).toNat := by
      have := (List.getElem?_eq_some_iff.mp e').1
      simpa [rangeD] using this
    refine ⟨hi, fun x H'' y => ?_⟩
    obtain ⟨rfl, rfl⟩ := y
    simp only [rangeD, List.getElem?_map, List.getElem?_range hi, Option.map_some, Option.some.injEq] at e'
    subst e'
    exact ⟨by simp only [Bool.false_eq_true, if_false, RD], rh', Mo.refl _⟩
  · have hi' : (b - a).toNat = i := by simpa [rangeD] using hi
    exact Nat.le_of_eq hi'
end
section
variable {X : Cx} {a b : Expr} {pos : Pos} {fa fb : Stm → Hm → R D} {tg : Expr}
theorem mi_seq (ha : PE X a (TEm X.K fa)) : PI X tg a (TIm X.K false fun s h => (fa s h).bind fun x h1 => (R.of (asQ h1 x) h1).bind fun xs _ => .ok ⟨xs, idep h1 x⟩ h1) :=
  (pi_seq ha).imp fun σ H Q l hw => by
    obtain ⟨μ, F, s, h, rs, rh, out⟩ := hw l
    refine T.step (G := []) (rel := relE X.K) rs rh out fun d h1 μ1 H1 x G1 e1 w1 rh1 p1 m1 l1 rs1 out1 => ?_
    have q := out1 (fun x H' => LenOk X.K H' → Q x H') fun _ _ q _ => q
    have fin : ∀ (xs : List D) (J : It), asQ h1 d = some xs → ItOk X.K false μ1 H1 ⟨xs, idep h1 d⟩ J G1 → LenOk X.K H1 → Q J H1 := fun xs J e o => by
      rw [e] at q
      exact q μ1 H1 J G1 o rh1 (List.prefix_refl _) (Mo.refl _) l1
    cases eq : asQ h1 d with
    | none => rw [eq] at q; exact q.elim
    | some xs =>
      cases d with
      | tup ds =>
        obtain ⟨rfl, a, vs, rfl, r1, r2⟩ := RW.tup_of w1
        simp only [asQ, Option.some.injEq] at eq
        subst eq
        exact ⟨a, rfl, .inr ⟨⟨vs, r1.sq⟩, fin ds _ rfl (itOk_tup l1 r1 r2 h1)⟩⟩
      | _ =>
        obtain ⟨a, rfl, hq, o⟩ := itOk_lst l1 w1 rh1 (by simpa only [asQ] using eq)
        exact ⟨a, rfl, .inl ⟨hq, fin xs _ eq o⟩⟩
theorem PI.up {tg it : Expr} {f : Stm → Hm → R Itv} (h : PI X tg it (TIm X.K false f)) : PI X tg it (TIm X.K true f) :=
  h.imp fun σ H Q l hw => by
    intro l'
    obtain ⟨μ, F, s, h, rs, rh, out⟩ := hw l'
    refine ⟨μ, F, s, h, rs, rh, ?_⟩
    cases e : f s h with
    | ok v h1 =>
      rw [e] at out
      exact fun μ1 H1 J G o rh1 p m l1 => fun l2 => out μ1 H1 J G (ItOk.up o) rh1 p m l1
    | exc _ _ _ => rw [e] at out; exact out
    | no => rw [e] at out; exact out
theorem mi_range1 {x : Str} {p : Pos} {fs : Stm → Hm → R (List D)} (hg : Gl X "range") (hm : X.mg "range" = none) (hs : starEach [a] X.env = [(false, eval a X.env)]) (ha : PA X [a] (TAm X.K fs)) (hl : ∀ s h ds h1, fs s h = .ok ds h1 → ds.length = 1) :
    PI X tg (.Call (.Name "range" p) [a] [] pos) (TIm X.K false fun s h => (fs s h).bind fun ds h1 => (R.of (rangeV ds) h1).bind fun xs h2 => .ok ⟨xs, []⟩ h2) :=
  (pi_range1 hg hm ha hs).imp fun σ H Q l hw => by
    obtain ⟨μ, F, s, h, rs, rh, out⟩ := hw l
    refine T.step (G := []) (rel := relA X.K) rs rh out fun ds h1 μ1 H1 xs G1 e1 w1 rh1 p1 m1 l1 rs1 out1 => ?_
    have q := out1 (fun x H' => LenOk X.K H' → Q x H') fun _ _ q _ => q
    have hl1 := hl _ _ _ _ e1
    match ds, hl1, w1, q with
    | [d], _, w1, q =>
      obtain ⟨x, rfl, w1⟩ := RW.one w1
      cases d with
      | int j =>
        obtain ⟨rfl, rfl⟩ := RW.int_of w1
        simp only [rangeV] at q
        split at q
        · rename_i hc
          simp only [okR, Bool.and_eq_true, decide_eq_true_eq] at hc
          refine ⟨j, rfl, hc.1.1, hc.1.2, fun l' => ?_⟩
          have e : j.toNat = (j - 0).toNat := by rw [Int.sub_zero]
          rw [e]
          exact q μ1 H1 _ [] (itOk_range 0 j (by omega)) rh1 (List.prefix_refl _) (Mo.refl _) l1 l'
        · exact q.elim
      | _ => simp only [rangeV] at q; exact q.elim
theorem mi_range2 {p : Pos} {fs : Stm → Hm → R (List D)} (hg : Gl X "range") (hm : X.mg "range" = none) (hs : starEach [a, b] X.env = [(false, eval a X.env), (false, eval b X.env)]) (hs2 : starEach [b] X.env = [(false, eval b X.env)]) (ha : PA X [a, b] (TAm X.K fs)) (hl : ∀ s h ds h1, fs s h = .ok ds h1 → ds.length = 2) :
    PI X tg (.Call (.Name "range" p) [a, b] [] pos) (TIm X.K false fun s h => (fs s h).bind fun ds h1 => (R.of (rangeV ds) h1).bind fun xs h2 => .ok ⟨xs, []⟩ h2) :=
  (pi_range2 hg hm ha hs hs2).imp fun σ H Q l hw => by
    obtain ⟨μ, F, s, h, rs, rh, out⟩ := hw l
    refine T.step (G := []) (rel := relA X.K) rs rh out fun ds h1 μ1 H1 xs G1 e1 w1 rh1 p1 m1 l1 rs1 out1 => ?_
    have q := out1 (fun x H' => LenOk X.K H' → Q x H') fun _ _ q _ => q
    have hl1 := hl _ _ _ _ e1
    have no : ∀ {ds}, rangeV ds = none → Out X.K (relI X.K false) μ1 ([] ++ F) H1 (fun x H' => LenOk X.K H' → Q x H') ((R.of (rangeV ds) h1).bind fun xs h2 => .ok ⟨xs, []⟩ h2) → False := fun e q => by rw [e] at q; exact q.elim
    match ds, hl1, w1, q with
    | [.int i, .int j], _, w1, q =>
      cases w1 with
      | val r t =>
        cases t with
        | val r' t =>
          cases t
          simp only [RD] at r r'
          subst r r'
          simp only [rangeV] at q
          split at q
          · rename_i hc
            simp only [okR, Bool.and_eq_true, decide_eq_true_eq] at hc
            refine ⟨i, j, rfl, ⟨hc.1.1.1, hc.1.1.2, hc.1.2.1, hc.1.2.2⟩, fun l' => ?_⟩
            exact q μ1 H1 _ [] (itOk_range i j (by omega)) rh1 (List.prefix_refl _) (Mo.refl _) l1 l'
          · exact q.elim
    | [.int i, .non], _, w1, q => exact (no rfl q).elim
    | [.int i, .bl _], _, w1, q => exact (no rfl q).elim
    | [.int i, .str _], _, w1, q => exact (no rfl q).elim
    | [.int i, .tup _], _, w1, q => exact (no rfl q).elim
    | [.int i, .lst _], _, w1, q => exact (no rfl q).elim
    | [.int i, .ref _], _, w1, q => exact (no rfl q).elim
    | [.int i, .fz _], _, w1, q => exact (no rfl q).elim
    | [.non, _], _, w1, q => exact (no rfl q).elim
    | [.bl _, _], _, w1, q => exact (no rfl q).elim
    | [.str _, _], _, w1, q => exact (no rfl q).elim
    | [.tup _, _], _, w1, q => exact (no rfl q).elim
    | [.lst _, _], _, w1, q => exact (no rfl q).elim
    | [.ref _, _], _, w1, q => exact (no rfl q).elim
    | [.fz _, _], _, w1, q => exact (no rfl q).elim
/-- range(len(xs)): as many as there are -/
theorem mi_rangeLen {e : Expr} {p p' q' : Pos} {x : Str} (hg : Gl X "range") (hm : X.mg "range" = none) (hg2 : Gl X "len") (hm2 : X.mg "len" = none) (hs : starEach [e] X.env = (false, eval e X.env) :: starEach [] X.env) (ha : PE X e (TEm X.K fa)) :
    PI X tg (.Call (.Name "range" p) [.Call (.Name "len" p') [e] [] q'] [] pos) (TIm X.K false fun s h => (fa s h).bind fun x h1 => (R.of (asQ h1 x) h1).bind fun xs h2 => .ok ⟨rangeD 0 xs.length, []⟩ h2) :=
  (pi_range1 hg hm (pa_cons (pe_callB call_len_seq hg2 hm2 PySem.boot_len (pa_cons ha pa_nil hs) (by decide) (by decide) hs (by rfl)) pa_nil (by rfl)) (by rfl)).imp fun σ H Q l hw => by
    obtain ⟨μ, F, s, h, rs, rh, out⟩ := hw l
    refine T.step (G := []) (rel := relE X.K) rs rh out fun d h1 μ1 H1 x G1 e1 w1 rh1 p1 m1 l1 rs1 out1 => ?_
    have q := out1 (fun x H' => LenOk X.K H' → Q x H') fun _ _ q _ => q
    cases eq : asQ h1 d with
    | none => rw [eq] at q; exact q.elim
    | some xs =>
      rw [eq] at q
      obtain ⟨a, vs, rfl, r1, r2⟩ := asQ_sq w1 rh1 eq
      have hz : vs.length ≤ sizeLine := by
        rcases r1 with r1 | r1
        · exact l1.l a vs r1
        · exact l1.t a vs r1
      rw [sizeLine_eq] at hz
      refine ⟨a, vs, rfl, r1, vs.length, rfl, by omega, by omega, fun l' => ?_⟩
      have e : ((vs.length : Int)).toNat = ((xs.length : Int) - 0).toNat := by rw [r2.length]; omega
      rw [e]
      exact q μ1 H1 _ [] (itOk_range 0 xs.length (by rw [r2.length]; omega)) rh1.weak (List.prefix_refl _) (Mo.refl _) l1 l'
end
end Mp

namespace Mp
open PySem PySem.Spec L2
/-! ### targets -/
def relS (K : PySem.W.Frag) (Kp : L2.St → L2.St → Prop) (σ0 : L2.St) : Rel Stm L2.St := fun μ H s σ G => RS K μ H s σ ∧ G = [] ∧ Kp σ0 σ
/-- an assignment of one item; Kp: what stays of the slots -/
def TGm (K : PySem.W.Frag) (weak : Bool) (Kp : L2.St → L2.St → Prop) (f : D → Stm → Hm → R Stm) : TG := fun x σ H Q => LenOk K H → ∃ (μ : List Addr) (F : Frs) (s : Stm) (h : Hm) (d : D),
  (if weak = true then RI K μ H d x else RD K μ H d x) ∧ RS K μ H s σ ∧ RH K μ F H h ∧ Out K (relS K Kp σ) μ F H Q (f d s h)
def TGsm (K : PySem.W.Frag) (Kp : L2.St → L2.St → Prop) (f : List D → Stm → Hm → R Stm) : TGs := fun xs σ H Q => LenOk K H → ∃ (μ : List Addr) (F : Frs) (s : Stm) (h : Hm) (ds : List D),
  RDs K μ H ds xs ∧ RS K μ H s σ ∧ RH K μ F H h ∧ Out K (relS K Kp σ) μ F H Q (f ds s h)
structure KpOk (Kp : L2.St → L2.St → Prop) : Prop where
  refl : ∀ σ, Kp σ σ
  trans : ∀ a b c, Kp a b → Kp b c → Kp a c
section
variable {X : Cx} {Kp : L2.St → L2.St → Prop} {pos : Pos}
theorem _root_.L2.PG.imp {e : Expr} {t t' : TG} (h : PG X e t) (hi : ∀ v σ H Q, LenOk X.K H → t' v σ H Q → t v σ H (fun σ' H' => LenOk X.K H' → Q σ' H')) : PG X e t' :=
  ⟨fun pins s σ H v u Q I r h' => thn (h.run pins s σ H v u _ I r (hi v σ H Q (Inv_lenOk I) h')) fun _ _ ⟨σ', H1, I1, q1⟩ => ⟨σ', H1, I1, q1 (Inv_lenOk I1)⟩⟩
theorem _root_.L2.PGs.imp {e : List Expr} {t t' : TGs} (h : PGs X e t) (hi : ∀ v σ H Q, LenOk X.K H → t' v σ H Q → t v σ H (fun σ' H' => LenOk X.K H' → Q σ' H')) : PGs X e t' :=
  ⟨fun pins s σ H v u Q I r h' => thn (h.run pins s σ H v u _ I r (hi v σ H Q (Inv_lenOk I) h')) fun _ _ ⟨σ', H1, I1, q1⟩ => ⟨σ', H1, I1, q1 (Inv_lenOk I1)⟩⟩
theorem PG.down {e : Expr} {f : D → Stm → Hm → R Stm} (h : PG X e (TGm X.K true Kp f)) : PG X e (TGm X.K false Kp f) :=
  h.imp fun v σ H Q l hw l' => by
    obtain ⟨μ, F, s, h, d, r, rs, rh, out⟩ := hw l'
    exact ⟨μ, F, s, h, d, .inl r, rs, rh, out.imp fun _ _ _ q _ => q⟩
theorem mg_name {i : Nat} {x : Str} (hN : X.N.Nodup) (hi : X.N[i]? = some x) (hx : Loc X.env.scope x) (hf : X.fn x = true ∨ X.env.scope.names.lookup x = some .local) (hk : ∀ σ v, Kp σ (σ.set i (some v))) :
    PG X (.Name x pos) (TGm X.K false Kp fun d s h => .ok (s.set i (some d)) h) :=
  (pg_name hN hi hx hf).imp fun v σ H Q l hw => by
    obtain ⟨μ, F, s, h, d, r, rs, rh, out⟩ := hw l
    exact fun l' => out μ H _ [] ⟨rs.set i r, rfl, hk _ _⟩ rh (List.prefix_refl _) (Mo.refl _) l'
theorem mgs_nil (hK : KpOk Kp) : PGs X [] (TGsm X.K Kp fun ds s h => match ds with
    | [] => .ok s h
    | _ => .no) :=
  pgs_nil.imp fun v σ H Q l hw => by
    obtain ⟨μ, F, s, h, ds, r, rs, rh, out⟩ := hw l
    cases ds with
    | nil =>
      simp only [RDs] at r
      exact ⟨r, fun l' => out μ H σ [] ⟨rs, rfl, hK.refl _⟩ rh (List.prefix_refl _) (Mo.refl _) l'⟩
    | cons _ _ => exact out.elim
theorem mgs_cons (hK : KpOk Kp) {e : Expr} {es : List Expr} {f : D → Stm → Hm → R Stm} {fs : List D → Stm → Hm → R Stm} (hs : (assignEach (e :: es) X.env).map (·.2) = assign e X.env :: (assignEach es X.env).map (·.2)) (h1 : PG X e (TGm X.K false Kp f)) (h2 : PGs X es (TGsm X.K Kp fs)) :
    PGs X (e :: es) (TGsm X.K Kp fun ds s h => match ds with
      | d :: ds => (f d s h).bind fun s1 h1 => fs ds s1 h1
      | _ => .no) :=
  (pgs_cons h1 h2 hs).imp fun v σ H Q l hw => by
    obtain ⟨μ, F, s, h, ds, r, rs, rh, out⟩ := hw l
    cases ds with
    | nil => exact out.elim
    | cons d ds =>
      simp only [RDs] at r
      obtain ⟨x, xs, rfl, r1, r2⟩ := r
      simp only at out
      refine ⟨x, xs, rfl, fun _ => ⟨μ, F, s, h, d, r1, rs, rh, ?_⟩⟩
      cases e1 : f d s h with
      | exc _ _ _ => rw [e1] at out; exact out.elim
      | no => rw [e1] at out; exact out.elim
      | ok s1 h1 =>
        rw [e1, R.bind_ok] at out
        intro μ1 H1 σ1 G1 ⟨rs1, eg, k1⟩ rh1 p1 m1 l1 _
        subst eg
        refine ⟨μ1, F, s1, h1, ds, r2.mono m1 p1, rs1, rh1, ?_⟩
        cases e2 : fs ds s1 h1 with
        | exc _ _ _ => rw [e2] at out; exact out.elim
        | no => rw [e2] at out; exact out.elim
        | ok s2 h2 =>
          rw [e2] at out
          exact fun μ2 H2 σ2 G2 ⟨rs2, eg, k2⟩ rh2 p2 m2 l2 l3 => out μ2 H2 σ2 G2 ⟨rs2, eg, hK.trans _ _ _ k1 k2⟩ rh2 (p1.trans p2) (m1.trans m2) l3
theorem mg_tup {es : List Expr} {k : Nat} {fs : List D → Stm → Hm → R Stm} (hc : X.calm = true) (hlen : ∀ ds s h s1 h1, fs ds s h = .ok s1 h1 → ds.length = (assignEach es X.env).length) (hst : (assignEach es X.env).findIdx? (·.1) = none) (h : PGs X es (TGsm X.K Kp fs)) :
    PG X (.Tuple es k pos) (TGm X.K true Kp fun d s h => match d with
      | .tup ds => fs ds s h
      | _ => .no) :=
  (pg_tup hc h rfl hst).imp fun v σ H Q l hw => by
    obtain ⟨μ, F, s, h, d, r, rs, rh, out⟩ := hw l
    have main : ∀ (ds : List D) (a : Addr) (vs : List V), d = .tup ds → v = .ref a → SqT X.K H a vs → RDs X.K μ H ds vs → gTup X.K (assignEach es X.env).length (TGsm X.K Kp fs) v σ H (fun σ' H' => LenOk X.K H' → Q σ' H') := fun ds a vs e1 e2 r1 r2 => by
      subst e1 e2
      simp only at out
      refine ⟨a, vs, rfl, r1, ?_, fun _ => ⟨μ, F, s, h, ds, r2, rs, rh, out.imp fun _ _ _ q _ => q⟩⟩
      cases e1 : fs ds s h with
      | exc _ _ _ => rw [e1] at out; exact out.elim
      | no => rw [e1] at out; exact out.elim
      | ok s1 h1 => rw [← r2.length]; exact hlen _ _ _ _ _ e1
    rcases r with r | ⟨ds, a, vs, e1, e2, r1, r2⟩
    · cases d with
      | tup ds =>
        simp only [RD] at r
        obtain ⟨a, vs, e2, r1, r2⟩ := r
        exact main ds a vs rfl e2 r1.sq r2
      | _ => exact out.elim
    · exact main ds a vs e1 e2 r1 r2
theorem mg_sub {o i : Expr} {fo fi : Stm → Hm → R D} (hK : KpOk Kp) (ha : ∀ v, assign (.Subscript o i pos) X.env v = (do
      let ov ← holding [v] (eval o X.env)
      let iv ← holding [v, ov] (eval i X.env)
      standAt pos
      holding [v, ov, iv] (setItem ov iv v)
      release [v, ov, iv] [])) (ho : PE X o (TEm X.K fo)) (hi : PE X i (TEm X.K fi)) :
    PG X (.Subscript o i pos) (TGm X.K false Kp fun d s h => (fo s h).bind fun x h1 => (fi s h1).bind fun y h2 => match setIx h2 x y d with
      | some h3 => .ok s h3
      | none => .no) :=
  (pg_sub ho hi set_list ha).imp fun v σ H Q l hw => by
    obtain ⟨μ, F, s, h, d, r, rs, rh, out⟩ := hw l
    refine T.step (G := []) (rel := relE X.K) rs rh out fun x h1 μ1 H1 xv G1 e1 w1 rh1 p1 m1 l1 rs1 out1 => ?_
    refine T.step (rel := relE X.K) rs1 rh1 (out1 (fun x H' => LenOk X.K H' → Q x H') fun _ _ q _ => q) fun y h2 μ2 H2 yv G2 e2 w2 rh2 p2 m2 l2 rs2 out2 => ?_
    have q := out2 (fun x H' => LenOk X.K H' → Q x H') fun _ _ q => q
    cases e3 : setIx h2 x y d with
    | none => simp only [e3] at q; exact q.elim
    | some h3 =>
      simp only [e3] at q
      unfold setIx at e3
      cases x with
      | ref p =>
        cases y with
        | int k =>
          simp only at e3
          cases e4 : h2[p]? with
          | none => simp only [e4] at e3; cases e3
          | some ob =>
            cases ob with
            | lst xs =>
              simp only [e4] at e3
              cases e5 : ixN xs.length k with
              | none => simp only [e5] at e3; cases e3
              | some j =>
                simp only [e5, Option.some.injEq] at e3
                subst e3
                obtain ⟨rfl, rfl⟩ := RW.int_of w2
                have w1' := RW.mono m2 p2 w1
                cases w1' with
                | val r1 t =>
                  cases t
                  simp only [RD] at r1
                  obtain ⟨a, r1, rfl⟩ := r1
                  have rh2' : RH X.K μ2 F H2 h2 := rh2
                  obtain ⟨ho, e6, vs, rfl, r7⟩ := rh2'.obj p _ a e4 r1
                  refine ⟨a, vs, k, j, rfl, rfl, e6, by rw [← r7.length]; exact e5, fun l' => ?_⟩
                  have rv : RD X.K μ2 H2 d v := RD.mono (m1.trans m2) (p1.trans p2) _ _ r
                  have mo : Mo H2 (upd H2 a (.lst (vs.set j v))) := Mo.lst e6
                  exact q μ2 _ σ [] ⟨rs2.mono mo (List.prefix_refl _), rfl, hK.refl _⟩ (rh2'.write r1 e6 (r7.set rv j)) (List.prefix_refl _) mo l' l'
            
        | _ => simp only at e3; cases e3
      | _ => simp only at e3; cases e3
end
/-! ### comprehensions -/
theorem RH.rewrite {K : PySem.W.Frag} {μ : List Addr} {F : Frs} {H : Hp} {h : Hm} {a : Addr} {xs ys : List V} (q : RH K μ ((a, .lst xs) :: F) H h) : RH K μ ((a, .lst ys) :: F) (upd H a (.lst ys)) h := by
  have hH : H a = some (.lst xs) := q.frm (a, .lst xs) List.mem_cons_self
  have mo : Mo H (upd H a (.lst ys)) := Mo.lst hH
  have na : a ∉ μ := q.memF (p := (a, .lst xs)) List.mem_cons_self
  have nd := q.nd
  rw [List.map_cons] at nd
  refine ⟨q.len, fun i o b e1 e2 => ?_, fun x hx => ?_, nd⟩
  · obtain ⟨ho, e3, r⟩ := q.obj i o b e1 e2
    have hne : b ≠ a := fun z => na (by rw [← z]; exact List.mem_of_getElem? e2)
    exact ⟨ho, by rw [upd_ne hne]; exact e3, r.mono mo (List.prefix_refl _)⟩
  · rcases List.mem_cons.mp hx with rfl | hx
    · exact upd_same
    · have hne : x.1 ≠ a := fun z => by
        have h1 := (List.perm_middle.nodup_iff.mp nd)
        exact (List.nodup_cons.mp h1).1 (List.mem_append_right _ (List.mem_map.mpr ⟨x, hx, z⟩))
      rw [upd_ne hne]
      exact q.frm x (List.mem_cons_of_mem _ hx)
def KpW (vs : List Nat) (a b : L2.St) : Prop := L2.wipe b vs = L2.wipe a vs
theorem KpW.ok (vs : List Nat) : KpOk (KpW vs) := ⟨fun _ => rfl, fun a b c h1 h2 => h2.trans h1⟩
theorem wipe_set (σ : L2.St) (i : Nat) (v : Option V) : ∀ vs : List Nat, i ∈ vs → L2.wipe (σ.set i v) vs = L2.wipe σ vs
  | [], h => by simp at h
  | w :: vs, h => by
    unfold L2.wipe
    by_cases hi : i ∈ vs
    · rw [wipe_set σ i v vs hi]
    · have e : i = w := by
        rcases List.mem_cons.mp h with e | e
        · exact e
        · exact absurd e hi
      subst e
      have key : ∀ (vs : List Nat) (σ : L2.St), i ∉ vs → L2.wipe (σ.set i v) vs = (L2.wipe σ vs).set i v := by
        intro vs
        induction vs with
        | nil => intro σ _; rfl
        | cons w vs ih =>
          intro σ h
          simp only [List.mem_cons, not_or] at h
          unfold L2.wipe
          rw [ih σ h.2, List.set_comm _ _ h.1]
      rw [key vs σ hi, List.set_set]
/-- a comprehension's turn -/
def turnC (fg : D → Stm → Hm → R Stm) (fc : Stm → Hm → R Bool) (fe : Stm → Hm → R D) (own : List Nat) (s : Stm) (x : D) (h2 : Hm) : R (Option D) :=
  (fg x (wipeS s own) h2).bind fun s1 h3 => (fc s1 h3).bind fun k h4 => if k then (fe s1 h4).bind fun y h5 => let p := mat1 y h5; .ok (some p.1) p.2 else .ok none h4
theorem comp_read {K : PySem.W.Frag} {weak : Bool} {fI : Stm → Hm → R Itv} {fg : D → Stm → Hm → R Stm} {fc : Stm → Hm → R Bool} {fe : Stm → Hm → R D} {own : List Nat} {σ : L2.St} {H : Hp} {Q : VK} (l : LenOk K H)
    (hw : TEm K (fun s h => (fI s h).bind fun v h1 => (compL v.ck (turnC fg fc fe own s) v.xs h1).bind fun ys h6 => .ok (.lst ys) h6) σ H Q) :
    tLc (TIm K weak fI) (TGm K weak (KpW own) fg) (TTm K fc) (TEm K fe) own σ H (fun x H' => LenOk K H' → Q x H') := by
  obtain ⟨μ, F, s, h, rs, rh, out⟩ := hw l
  refine T.step (G := []) (rel := relI K weak) rs rh out fun v h1 μ1 H1 J G e1 o1 rh1 p1 m1 l1 rs1 out1 => ?_
  have q1 := out1 (fun x H' => LenOk K H' → Q x H') fun _ _ q _ => q
  intro Dp hD
  refine ⟨fun i m H => m = v.xs.length - i ∧ i ≤ v.xs.length ∧ ∃ (μ2 : List Addr) (h2 : Hm) (acc : List V) (accD : List D), RS K μ2 H s σ ∧ RH K μ2 ((Dp, .lst acc) :: (G ++ F)) H h2 ∧ μ1 <+: μ2 ∧ Mo H1 H ∧ acc.length ≤ i ∧ RDs K μ2 H accD acc ∧
    Out K (relE K) μ2 F H (fun x H' => LenOk K H' → Q x H') ((compL v.ck (turnC fg fc fe own s) (v.xs.drop i) h2).bind fun ys h6 => .ok (.lst (accD ++ ys)) h6), ⟨v.xs.length, by simp, Nat.zero_le _, μ1, h1, [], [], ?_⟩, ?_⟩
  · have mn : Mo H1 (upd H1 Dp (.lst [])) := Mo.new hD
    refine ⟨rs1.mono mn (List.prefix_refl _), rh1.newF hD, List.prefix_refl _, mn, Nat.le_refl _, rfl, ?_⟩
    simp only [List.drop_zero, List.nil_append]
    cases e : compL v.ck (turnC fg fc fe own s) v.xs h1 with
    | ok ys h6 =>
      rw [e] at q1
      exact fun μ' H' x G' w rh' p m l' => q1 μ' H' x G' w rh' p (mn.trans m) l'
    | exc _ _ _ => rw [e] at q1; exact q1.elim
    | no => rw [e] at q1; exact q1.elim
  · rintro i m H2 ⟨rfl, hi, μ2, h2, acc, accD, rs2, rh2, p2, m2, ha, ra, out2⟩
    have rhG : RH K μ2 (G ++ ((Dp, .lst acc) :: F)) H2 h2 := rh2.perm (by exact List.perm_middle)
    by_cases hlt : i < v.xs.length
    · have ed : v.xs.drop i = v.xs[i] :: v.xs.drop (i + 1) := List.drop_eq_getElem_cons hlt
      rw [ed] at out2
      simp only [compL] at out2
      have hck : v.ck h2 = true := by
        cases e : v.ck h2 with
        | true => rfl
        | false => rw [e] at out2; exact out2.elim
      rw [if_pos hck] at out2
      obtain ⟨hgo, hy⟩ := o1.go i v.xs[i] (List.getElem?_eq_getElem hlt) μ2 _ H2 h2 rhG p2 m2 hck
      refine .inr ⟨hgo, fun H' => ∃ (μ3 : List Addr) (h3 : Hm) (acc : List V) (accD : List D), RS K μ3 H' s σ ∧ RH K μ3 ((Dp, .lst acc) :: (G ++ F)) H' h3 ∧ μ1 <+: μ3 ∧ Mo H1 H' ∧ acc.length ≤ i + 1 ∧ RDs K μ3 H' accD acc ∧
        Out K (relE K) μ3 F H' (fun x H' => LenOk K H' → Q x H') ((compL v.ck (turnC fg fc fe own s) (v.xs.drop (i + 1)) h3).bind fun ys h6 => .ok (.lst (accD ++ ys)) h6),
        fun H' ⟨μ3, h3, acc, accD, z⟩ => ⟨v.xs.length - (i + 1), by omega, rfl, hlt, μ3, h3, acc, accD, z⟩, fun x H' y => ?_⟩
      obtain ⟨rx, rh3, m3⟩ := hy x H' y
      have rh3' : RH K μ2 ((Dp, .lst acc) :: (G ++ F)) H' h2 := rh3.perm (List.perm_middle.symm)
      intro l3
      refine ⟨μ2, (Dp, .lst acc) :: (G ++ F), wipeS s own, h2, v.xs[i], rx, (rs2.mono m3 (List.prefix_refl _)).wipe own, rh3', ?_⟩
      -- the turn
      unfold turnC at out2
      cases eg : fg v.xs[i] (wipeS s own) h2 with
      | exc _ _ _ => rw [eg] at out2; exact out2.elim
      | no => rw [eg] at out2; exact out2.elim
      | ok s1 h3 =>
        rw [eg] at out2
        intro μ4 H4 σ4 G4 ⟨rs4, eG, k4⟩ rh4 p4 m4 l4
        subst eG
        have rh4 : RH K μ4 ((Dp, .lst acc) :: (G ++ F)) H4 h3 := rh4
        have k4' : L2.wipe σ4 own = L2.wipe (L2.wipe σ own) own := k4
        have ww : L2.wipe (L2.wipe σ own) own = L2.wipe σ own := by
          have key : ∀ (vs ws : List Nat) (σ : L2.St), (∀ w ∈ vs, w ∈ ws) → L2.wipe (L2.wipe σ vs) ws = L2.wipe σ ws := by
            intro vs
            induction vs with
            | nil => intro ws σ _; rfl
            | cons w vs ih =>
              intro ws σ hs
              show L2.wipe ((L2.wipe σ vs).set w none) ws = _
              rw [wipe_set _ w none ws (hs w List.mem_cons_self)]
              exact ih ws σ fun u hu => hs u (List.mem_cons_of_mem _ hu)
          exact key own own σ fun _ h => h
        refine ⟨k4'.trans ww, ?_⟩
        intro _
        refine ⟨μ4, (Dp, .lst acc) :: (G ++ F), s1, h3, rs4, rh4, ?_⟩
        simp only [R.bind_ok] at out2
        cases ec : fc s1 h3 with
        | exc _ _ _ => rw [ec] at out2; exact out2.elim
        | no => rw [ec] at out2; exact out2.elim
        | ok k h4 =>
          rw [ec] at out2
          intro μ5 H5 k' G5 ⟨ek, eG⟩ rh5 p5 m5 l5
          subst ek eG
          have rh5 : RH K μ5 ((Dp, .lst acc) :: (G ++ F)) H5 h4 := rh5
          have mm : Mo H2 H5 := m3.trans (m4.trans m5)
          have pp : μ2 <+: μ5 := p4.trans p5
          simp only [R.bind_ok] at out2
          cases k with
          | false =>
            rw [if_neg Bool.false_ne_true] at out2 ⊢
            simp only [R.bind_ok] at out2
            refine ⟨μ5, h4, acc, accD, rs2.mono mm pp, rh5, p2.trans pp, m2.trans mm, Nat.le_succ_of_le ha, ra.mono mm pp, ?_⟩
            cases er : compL v.ck (turnC fg fc fe own s) (v.xs.drop (i + 1)) h4 with
            | exc _ _ _ => unfold turnC at er; rw [er] at out2; exact out2.elim
            | no => unfold turnC at er; rw [er] at out2; exact out2.elim
            | ok ys h6 =>
              unfold turnC at er
              rw [er] at out2
              exact fun μ' H' x G' w rh' p m l' => out2 μ' H' x G' w rh' (pp.trans p) (mm.trans m) l'
          | true =>
            rw [if_pos rfl] at out2 ⊢
            intro _
            refine ⟨μ5, (Dp, .lst acc) :: (G ++ F), s1, h4, rs4.mono m5 p5, rh5, ?_⟩
            cases ee : fe s1 h4 with
            | exc _ _ _ => rw [ee] at out2; exact out2.elim
            | no => rw [ee] at out2; exact out2.elim
            | ok yd h5 =>
              rw [ee] at out2
              intro μ6 H6 y G6 w6 rh6 p6 m6 l6
              obtain ⟨μ7, p7, rh7, r7⟩ := RW.mats w6 rh6
              have em : (mats [yd] h5) = ([(mat1 yd h5).1], (mat1 yd h5).2) := rfl
              rw [em] at rh7 r7
              simp only at rh7 r7
              have hAcc : H6 Dp = some (.lst acc) := rh7.frm (Dp, .lst acc) List.mem_cons_self
              refine ⟨acc, hAcc, ?_, ?_⟩
              · have := o1.len
                rw [sizeLine_eq]
                omega
              · have ml : Mo H6 (upd H6 Dp (.lst (acc ++ [y]))) := Mo.lst hAcc
                have mm2 : Mo H2 (upd H6 Dp (.lst (acc ++ [y]))) := mm.trans (m6.trans ml)
                have pp2 : μ2 <+: μ7 := pp.trans (p6.trans p7)
                refine ⟨μ7, (mat1 yd h5).2, acc ++ [y], accD ++ [(mat1 yd h5).1], rs2.mono mm2 pp2, rh7.rewrite, p2.trans pp2, m2.trans mm2, by simp; omega, (ra.mono mm2 pp2).append (r7.mono ml (List.prefix_refl _)), ?_⟩
                simp only [R.bind_ok] at out2
                cases er : compL v.ck (turnC fg fc fe own s) (v.xs.drop (i + 1)) (mat1 yd h5).2 with
                | exc _ _ _ => unfold turnC at er; rw [er] at out2; exact out2.elim
                | no => unfold turnC at er; rw [er] at out2; exact out2.elim
                | ok ys h6 =>
                  unfold turnC at er
                  rw [er] at out2
                  simp only [R.bind_ok] at out2 ⊢
                  rw [List.append_assoc, List.singleton_append]
                  exact fun μ' H' x G' w rh' p m l' => out2 μ' H' x G' w rh' (pp2.trans p) (mm2.trans m) l'
    · have he : i = v.xs.length := by omega
      subst he
      rw [List.drop_length] at out2
      simp only [compL] at out2
      have hck : v.ck h2 = true := by
        cases e : v.ck h2 with
        | true => rfl
        | false => rw [e] at out2; exact out2.elim
      rw [if_pos hck] at out2
      refine .inl ⟨o1.stop _ rfl μ2 _ H2 h2 rhG p2 m2 hck, fun l' => ?_⟩
      simp only [R.bind_ok, List.append_nil] at out2
      exact out2 μ2 H2 (.ref Dp) [(Dp, .lst acc)] (.lst ra .nil) rhG.weak (List.prefix_refl _) (Mo.refl _) l' l'
end Mp

namespace Mp
open PySem PySem.Spec L2
/-! ### statements -/
def OutS (K : PySem.W.Frag) (μ : List Addr) (F : Frs) (H : Hp) (Dn : Ends) : R Fl → Prop
  | .ok (.nx s') h' => ∀ (μ' : List Addr) (H' : Hp) (σ' : L2.St), RS K μ' H' s' σ' → RH K μ' F H' h' → μ <+: μ' → Mo H H' → LenOk K H' → Dn.nx σ' H'
  | .ok (.bk s') h' => ∀ (μ' : List Addr) (H' : Hp) (σ' : L2.St), RS K μ' H' s' σ' → RH K μ' F H' h' → μ <+: μ' → Mo H H' → LenOk K H' → Dn.bk σ' H'
  | .ok (.ct s') h' => ∀ (μ' : List Addr) (H' : Hp) (σ' : L2.St), RS K μ' H' s' σ' → RH K μ' F H' h' → μ <+: μ' → Mo H H' → LenOk K H' → Dn.ct σ' H'
  | .ok (.rt d) h' => ∀ (μ' : List Addr) (H' : Hp) (x : V) (G : Frs), RW K μ' H' [d] [x] G → RH K μ' (G ++ F) H' h' → μ <+: μ' → Mo H H' → LenOk K H' → Dn.rt x H'
  | _ => False
def TSm (K : PySem.W.Frag) (f : Stm → Hm → R Fl) : TS := fun Dn σ H => LenOk K H → ∃ (μ : List Addr) (F : Frs) (s : Stm) (h : Hm), RS K μ H s σ ∧ RH K μ F H h ∧ OutS K μ F H Dn (f s h)
def lenE (K : PySem.W.Frag) (Dn : Ends) : Ends := { nx := fun σ H => LenOk K H → Dn.nx σ H, rt := fun x H => LenOk K H → Dn.rt x H, bk := fun σ H => LenOk K H → Dn.bk σ H, ct := fun σ H => LenOk K H → Dn.ct σ H }
structure EndsLe (a b : Ends) : Prop where
  nx : ∀ σ H, a.nx σ H → b.nx σ H
  rt : ∀ x H, a.rt x H → b.rt x H
  bk : ∀ σ H, a.bk σ H → b.bk σ H
  ct : ∀ σ H, a.ct σ H → b.ct σ H
section
variable {K : PySem.W.Frag} {μ μ1 : List Addr} {F : Frs} {H H1 : Hp} {h : Hm} {Dn Dn' : Ends} {r : R Fl}
theorem OutS.mono (o : OutS K μ F H Dn r) (p : μ <+: μ1) (m : Mo H H1) (le : ∀ H, LenOk K H → (∀ σ, Dn.nx σ H → Dn'.nx σ H) ∧ (∀ x, Dn.rt x H → Dn'.rt x H) ∧ (∀ σ, Dn.bk σ H → Dn'.bk σ H) ∧ (∀ σ, Dn.ct σ H → Dn'.ct σ H)) : OutS K μ1 F H1 Dn' r := by
  cases r with
  | ok f h' =>
    cases f with
    | nx s' => exact fun μ' H' σ' a b c d l => (le H' l).1 _ (o μ' H' σ' a b (p.trans c) (m.trans d) l)
    | bk s' => exact fun μ' H' σ' a b c d l => (le H' l).2.2.1 _ (o μ' H' σ' a b (p.trans c) (m.trans d) l)
    | ct s' => exact fun μ' H' σ' a b c d l => (le H' l).2.2.2 _ (o μ' H' σ' a b (p.trans c) (m.trans d) l)
    | rt d => exact fun μ' H' x G a b c d l => (le H' l).2.1 _ (o μ' H' x G a b (p.trans c) (m.trans d) l)
  | exc _ _ _ => exact o
  | no => exact o
theorem OutS.len (o : OutS K μ F H Dn r) : OutS K μ F H (lenE K Dn) r := o.mono (List.prefix_refl _) (Mo.refl _) fun _ _ => ⟨fun _ q _ => q, fun _ q _ => q, fun _ q _ => q, fun _ q _ => q⟩
theorem OutS.unlen (o : OutS K μ F H (lenE K Dn) r) : OutS K μ F H Dn r := o.mono (List.prefix_refl _) (Mo.refl _) fun _ l => ⟨fun _ q => q l, fun _ q => q l, fun _ q => q l, fun _ q => q l⟩
/-- one step of an expression (or a test, arguments), then the rest of the statement -/
theorem stepS {α β : Type} {rel : Rel α β} {f : Stm → Hm → R α} {k : α → Hm → R Fl} {P : β → Hp → Prop} {s : Stm} {σ : L2.St} {G : Frs} (rs : RS K μ H s σ) (rh : RH K μ (G ++ F) H h) (out : OutS K μ F H Dn ((f s h).bind k))
    (go : ∀ (a : α) (h1 : Hm) (μ1 : List Addr) (H1 : Hp) (x : β) (G1 : Frs), f s h = .ok a h1 → rel μ1 H1 a x G1 → RH K μ1 (G1 ++ (G ++ F)) H1 h1 → μ <+: μ1 → Mo H H1 → LenOk K H1 → RS K μ1 H1 s σ → OutS K μ1 F H1 Dn (k a h1) → P x H1) : T K rel f σ H P := by
  intro _
  refine ⟨μ, G ++ F, s, h, rs, rh, ?_⟩
  cases e : f s h with
  | ok a h1 =>
    rw [e, R.bind_ok] at out
    exact fun μ1 H1 x G1 w1 rh1 p1 m1 l1 => go a h1 μ1 H1 x G1 e w1 rh1 p1 m1 l1 (rs.mono m1 p1) (out.mono p1 m1 fun _ _ => ⟨fun _ q => q, fun _ q => q, fun _ q => q, fun _ q => q⟩)
  | exc _ _ _ => rw [e] at out; exact out.elim
  | no => rw [e] at out; exact out.elim
end
section
variable {X : Cx} {pos : Pos}
theorem SP_unlen {pins : List (Addr × Obj)} {Dn : Ends} {f : Flow} {s' : Shared} (h : SP X pins (lenE X.K Dn) f s') : SP X pins Dn f s' := by
  cases f with
  | next => obtain ⟨σ', H', I, q⟩ := h; exact ⟨σ', H', I, q (Inv_lenOk I)⟩
  | brk => obtain ⟨σ', H', I, q⟩ := h; exact ⟨σ', H', I, q (Inv_lenOk I)⟩
  | cont => obtain ⟨σ', H', I, q⟩ := h; exact ⟨σ', H', I, q (Inv_lenOk I)⟩
  | ret u => obtain ⟨v, σ', H', I, r, q⟩ := h; exact ⟨v, σ', H', I, r, q (Inv_lenOk I)⟩
theorem _root_.L2.PS.imp {st : Stmt} {t t' : TS} (h : PS X st t) (hi : ∀ Dn σ H, LenOk X.K H → t' Dn σ H → t (lenE X.K Dn) σ H) : PS X st t' :=
  ⟨fun pins s σ H Dn I h' => thn (h.run pins s σ H _ I (hi Dn σ H (Inv_lenOk I) h')) fun _ _ q => SP_unlen q⟩
theorem _root_.L2.PSs.imp {st : List Stmt} {t t' : TS} (h : PSs X st t) (hi : ∀ Dn σ H, LenOk X.K H → t' Dn σ H → t (lenE X.K Dn) σ H) : PSs X st t' :=
  ⟨fun pins s σ H Dn I h' => thn (h.run pins s σ H _ I (hi Dn σ H (Inv_lenOk I) h')) fun _ _ q => SP_unlen q⟩
theorem mss_nil : PSs X [] (TSm X.K fun s h => .ok (.nx s) h) :=
  pss_nil.imp fun Dn σ H l hw => by
    obtain ⟨μ, F, s, h, rs, rh, out⟩ := hw l
    exact fun l' => out μ H σ rs rh (List.prefix_refl _) (Mo.refl _) l'
def seqS (f g : Stm → Hm → R Fl) (s : Stm) (h : Hm) : R Fl := (f s h).bind fun fl h1 => match fl with
  | .nx s1 => g s1 h1
  | fl => .ok fl h1
theorem mss_cons {st : Stmt} {rest : List Stmt} {f g : Stm → Hm → R Fl} (h1 : PS X st (TSm X.K f)) (h2 : PSs X rest (TSm X.K g)) : PSs X (st :: rest) (TSm X.K (seqS f g)) :=
  (pss_cons h1 h2).imp fun Dn σ H l hw => by
    obtain ⟨μ, F, s, h, rs, rh, out⟩ := hw l
    intro l'
    refine ⟨μ, F, s, h, rs, rh, ?_⟩
    unfold seqS at out
    cases e : f s h with
    | exc _ _ _ => rw [e] at out; exact out.elim
    | no => rw [e] at out; exact out.elim
    | ok fl h1 =>
      rw [e, R.bind_ok] at out
      cases fl with
      | nx s1 =>
        intro μ1 H1 σ1 rs1 rh1 p1 m1 l1 _
        exact ⟨μ1, F, s1, h1, rs1, rh1, (out.mono p1 m1 fun _ _ => ⟨fun _ q => q, fun _ q => q, fun _ q => q, fun _ q => q⟩).len⟩
      | bk s1 => exact fun μ1 H1 σ1 rs1 rh1 p1 m1 l1 l2 => out μ1 H1 σ1 rs1 rh1 p1 m1 l1
      | ct s1 => exact fun μ1 H1 σ1 rs1 rh1 p1 m1 l1 l2 => out μ1 H1 σ1 rs1 rh1 p1 m1 l1
      | rt d => exact fun μ1 H1 x G w1 rh1 p1 m1 l1 l2 => out μ1 H1 x G w1 rh1 p1 m1 l1
theorem ms_pass : PS X (.Pass pos) (TSm X.K fun s h => .ok (.nx s) h) :=
  ps_pass.imp fun Dn σ H l hw => by
    obtain ⟨μ, F, s, h, rs, rh, out⟩ := hw l
    exact fun l' => out μ H σ rs rh (List.prefix_refl _) (Mo.refl _) l'
theorem ms_doc {x : Str} {j : Nat} {pos' : Pos} : PS X (.Expr (.Constant (.str x) j pos) pos') (TSm X.K fun s h => .ok (.nx s) h) :=
  ps_doc.imp fun Dn σ H l hw => by
    obtain ⟨μ, F, s, h, rs, rh, out⟩ := hw l
    exact fun l' => out μ H σ rs rh (List.prefix_refl _) (Mo.refl _) l'
theorem ms_break : PS X (.Break pos) (TSm X.K fun s h => .ok (.bk s) h) :=
  ps_break.imp fun Dn σ H l hw => by
    obtain ⟨μ, F, s, h, rs, rh, out⟩ := hw l
    exact fun l' => out μ H σ rs rh (List.prefix_refl _) (Mo.refl _) l'
theorem ms_continue : PS X (.Continue pos) (TSm X.K fun s h => .ok (.ct s) h) :=
  ps_continue.imp fun Dn σ H l hw => by
    obtain ⟨μ, F, s, h, rs, rh, out⟩ := hw l
    exact fun l' => out μ H σ rs rh (List.prefix_refl _) (Mo.refl _) l'
theorem ms_retN : PS X (.Return none pos) (TSm X.K fun s h => .ok (.rt .non) h) :=
  ps_retN.imp fun Dn σ H l hw => by
    obtain ⟨μ, F, s, h, rs, rh, out⟩ := hw l
    exact fun l' => out μ H .non [] (.val rfl .nil) rh (List.prefix_refl _) (Mo.refl _) l'
variable {e : Expr} {fe : Stm → Hm → R D}
theorem ms_ret (he : PE X e (TEm X.K fe)) : PS X (.Return (some e) pos) (TSm X.K fun s h => (fe s h).bind fun d h1 => .ok (.rt d) h1) :=
  (ps_ret he).imp fun Dn σ H l hw => by
    obtain ⟨μ, F, s, h, rs, rh, out⟩ := hw l
    refine stepS (G := []) (rel := relE X.K) rs rh out fun d h1 μ1 H1 x G1 e1 w1 rh1 p1 m1 l1 rs1 out1 => ?_
    exact fun l' => out1 μ1 H1 x G1 w1 rh1 (List.prefix_refl _) (Mo.refl _) l'
theorem ms_ex (hs : swapsWith e none pos.line X.env = pure false) (he : PE X e (TEm X.K fe)) : PS X (.Expr e pos) (TSm X.K fun s h => (fe s h).bind fun _ h1 => .ok (.nx s) h1) :=
  (ps_expr he hs).imp fun Dn σ H l hw => by
    obtain ⟨μ, F, s, h, rs, rh, out⟩ := hw l
    refine stepS (G := []) (rel := relE X.K) rs rh out fun d h1 μ1 H1 x G1 e1 w1 rh1 p1 m1 l1 rs1 out1 => ?_
    exact fun l' => out1 μ1 H1 σ rs1 rh1.weak (List.prefix_refl _) (Mo.refl _) l'
theorem ms_if {c : Expr} {p q : List Stmt} {fc : Stm → Hm → R Bool} {f g : Stm → Hm → R Fl} (hc : PT X c (TTm X.K fc)) (hp : PSs X p (TSm X.K f)) (hq : PSs X q (TSm X.K g)) :
    PS X (.If c p q pos) (TSm X.K fun s h => (fc s h).bind fun k h1 => if k then f s h1 else g s h1) :=
  (ps_if hc hp hq).imp fun Dn σ H l hw => by
    obtain ⟨μ, F, s, h, rs, rh, out⟩ := hw l
    refine stepS (G := []) (rel := relB) rs rh out fun k h1 μ1 H1 k' G1 e1 w1 rh1 p1 m1 l1 rs1 out1 => ?_
    obtain ⟨rfl, rfl⟩ := w1
    cases k with
    | true => rw [if_pos rfl] at out1 ⊢; exact fun _ => ⟨μ1, F, s, h1, rs1, rh1, out1.len⟩
    | false => rw [if_neg Bool.false_ne_true] at out1 ⊢; exact fun _ => ⟨μ1, F, s, h1, rs1, rh1, out1.len⟩
/-! ### assignments -/
def KpT (_ _ : L2.St) : Prop := True
theorem KpT.ok : KpOk KpT := ⟨fun _ => trivial, fun _ _ _ _ _ => trivial⟩
theorem set_read {K : PySem.W.Frag} {i : Nat} {Dn : Ends} {σ : L2.St} {H : Hp} (l : LenOk K H) (hw : TSm K (fun s h => (fe s h).bind fun d h1 => let p := mat1 d h1; .ok (.nx (s.set i (some p.1))) p.2) Dn σ H) :
    tAsg (TEm K fe) (gName i) (lenE K Dn) σ H := by
  obtain ⟨μ, F, s, h, rs, rh, out⟩ := hw l
  refine stepS (G := []) (rel := relE K) rs rh out fun d h1 μ1 H1 x G1 e1 w1 rh1 p1 m1 l1 rs1 out1 => ?_
  obtain ⟨μ2, p2, rh2, r2⟩ := RW.mats (F := F) w1 rh1
  have em : (mats [d] h1) = ([(mat1 d h1).1], (mat1 d h1).2) := rfl
  rw [em] at rh2 r2
  simp only [RDs] at rh2 r2
  obtain ⟨v, r, e, rv, _⟩ := r2
  have ev : x = v := (List.cons.inj e).1
  subst ev
  exact fun l' => out1 μ2 H1 _ ((rs1.mono (Mo.refl _) p2).set i rv) rh2 p2 (Mo.refl _) l'
theorem asg_read {K : PySem.W.Frag} {fg : D → Stm → Hm → R Stm} {Dn : Ends} {σ : L2.St} {H : Hp} (l : LenOk K H) (hw : TSm K (fun s h => (fe s h).bind fun d h1 => let p := mat1 d h1; (fg p.1 s p.2).bind fun s1 h2 => .ok (.nx s1) h2) Dn σ H) :
    tAsg (TEm K fe) (TGm K false KpT fg) (lenE K Dn) σ H := by
  obtain ⟨μ, F, s, h, rs, rh, out⟩ := hw l
  refine stepS (G := []) (rel := relE K) rs rh out fun d h1 μ1 H1 x G1 e1 w1 rh1 p1 m1 l1 rs1 out1 => ?_
  obtain ⟨μ2, p2, rh2, r2⟩ := RW.mats (F := F) w1 rh1
  have em : (mats [d] h1) = ([(mat1 d h1).1], (mat1 d h1).2) := rfl
  rw [em] at rh2 r2
  simp only [RDs] at rh2 r2
  obtain ⟨v, r, e, rv, _⟩ := r2
  have ev : x = v := (List.cons.inj e).1
  subst ev
  intro _
  refine ⟨μ2, F, s, (mat1 d h1).2, (mat1 d h1).1, rv, rs1.mono (Mo.refl _) p2, rh2, ?_⟩
  simp only at out1
  cases eg : fg (mat1 d h1).1 s (mat1 d h1).2 with
  | exc _ _ _ => rw [eg] at out1; exact out1.elim
  | no => rw [eg] at out1; exact out1.elim
  | ok s1 h2 =>
    rw [eg] at out1
    exact fun μ3 H3 σ3 G3 ⟨rs3, eG, _⟩ rh3 p3 m3 l3 _ => by
      subst eG
      exact out1 μ3 H3 σ3 rs3 rh3 (p2.trans p3) m3 l3
theorem ms_asg {tg : Expr} {fg : D → Stm → Hm → R Stm} (he : PE X e (TEm X.K fe)) (hg : PG X tg (TGm X.K false KpT fg)) (hs : swapsWithSole [tg] e pos.line X.env = pure false) (hw : swappedStores [tg] e X.env = pure none) (h1 : (assignEach [tg] X.env).map (·.2) = [assign tg X.env]) :
    PS X (.Assign [tg] e pos) (TSm X.K fun s h => (fe s h).bind fun d h1 => let p := mat1 d h1; (fg p.1 s p.2).bind fun s1 h2 => .ok (.nx s1) h2) :=
  (ps_asg he hg hs hw h1).imp fun Dn σ H l hw => asg_read l hw
theorem ms_set {i : Nat} {x : Str} {pos' : Pos} (hN : X.N.Nodup) (hi : X.N[i]? = some x) (hx : Loc X.env.scope x) (he : PE X e (TEm X.K fe)) (hs : swapsWith e (some (.Name x pos')) pos.line X.env = pure false) (hf : X.fn x = true ∨ X.env.scope.names.lookup x = some .local) :
    PS X (.Assign [.Name x pos'] e pos) (TSm X.K fun s h => (fe s h).bind fun d h1 => let p := mat1 d h1; .ok (.nx (s.set i (some p.1))) p.2) :=
  (ps_set hN hi hx he hs hf).imp fun Dn σ H l hw => set_read l hw
theorem ms_asg2 {t1 t2 : Expr} {f1 f2 : D → Stm → Hm → R Stm} (he : PE X e (TEm X.K fe)) (h1 : PG X t1 (TGm X.K false KpT f1)) (h2 : PG X t2 (TGm X.K false KpT f2)) (ha : (assignEach [t1, t2] X.env).map (·.2) = [assign t1 X.env, assign t2 X.env]) (hw : swappedStores [t1, t2] e X.env = pure none) :
    PS X (.Assign [t1, t2] e pos) (TSm X.K fun s h => (fe s h).bind fun d h1 => let p := mat1 d h1; (f1 p.1 s p.2).bind fun s1 h2 => (f2 p.1 s1 h2).bind fun s2 h3 => .ok (.nx s2) h3) :=
  (ps_asg2 he h1 h2 ha hw).imp fun Dn σ H l hw => by
    obtain ⟨μ, F, s, h, rs, rh, out⟩ := hw l
    refine stepS (G := []) (rel := relE X.K) rs rh out fun d h1 μ1 H1 x G1 e1 w1 rh1 p1 m1 l1 rs1 out1 => ?_
    obtain ⟨μ2, p2, rh2, r2⟩ := RW.mats (F := F) w1 rh1
    have em : (mats [d] h1) = ([(mat1 d h1).1], (mat1 d h1).2) := rfl
    rw [em] at rh2 r2
    simp only [RDs] at rh2 r2
    obtain ⟨v, r, e, rv, _⟩ := r2
    have ev : x = v := (List.cons.inj e).1
    subst ev
    intro _
    refine ⟨μ2, F, s, (mat1 d h1).2, (mat1 d h1).1, rv, rs1.mono (Mo.refl _) p2, rh2, ?_⟩
    simp only at out1
    cases eg : f1 (mat1 d h1).1 s (mat1 d h1).2 with
    | exc _ _ _ => rw [eg] at out1; exact out1.elim
    | no => rw [eg] at out1; exact out1.elim
    | ok s1 h2 =>
      rw [eg] at out1
      intro μ3 H3 σ3 G3 ⟨rs3, eG, _⟩ rh3 p3 m3 l3
      subst eG
      intro _
      refine ⟨μ3, F, s1, h2, (mat1 d h1).1, RD.mono m3 p3 _ _ rv, rs3, rh3, ?_⟩
      simp only [R.bind_ok] at out1
      cases eg2 : f2 (mat1 d h1).1 s1 h2 with
      | exc _ _ _ => rw [eg2] at out1; exact out1.elim
      | no => rw [eg2] at out1; exact out1.elim
      | ok s2 h3 =>
        rw [eg2] at out1
        exact fun μ4 H4 σ4 G4 ⟨rs4, eG, _⟩ rh4 p4 m4 l4 _ => by
          subst eG
          exact out1 μ4 H4 σ4 rs4 rh4 (p2.trans (p3.trans p4)) (m3.trans m4) l4
theorem ms_par2 {i j : Nat} {x y : Str} {a b : Expr} {fs : Stm → Hm → R (List D)} {px py pt : Pos} {kt k2 : Nat} {pt2 : Pos} (hc : X.calm = true) (hN : X.N.Nodup) (hi : X.N[i]? = some x) (hj : X.N[j]? = some y) (hij : i ≠ j)
    (hx : X.env.scope.names.lookup x = some .local) (hy : X.env.scope.names.lookup y = some .local) (ha : PA X [a, b] (TAm X.K fs))
    (hw : swappedStores [.Tuple [.Name x px, .Name y py] kt pt] (.Tuple [a, b] k2 pt2) X.env = pure (some [x, y]))
    (hs : swapsWithSole [.Tuple [.Name x px, .Name y py] kt pt] (.Tuple [a, b] k2 pt2) pos.line X.env = pure false) :
    PS X (.Assign [.Tuple [.Name x px, .Name y py] kt pt] (.Tuple [a, b] k2 pt2) pos) (TSm X.K fun s h => (fs s h).bind fun ds h1 => let p := mats ds h1; match p.1 with
      | [x, y] => .ok (.nx ((s.set i (some x)).set j (some y))) p.2
      | _ => .no) :=
  (ps_par hc hN hi hj hij hx hy ha hw hs).imp fun Dn σ H l hw => by
    obtain ⟨μ, F, s, h, rs, rh, out⟩ := hw l
    refine stepS (G := []) (rel := relA X.K) rs rh out fun ds h1 μ1 H1 xs G1 e1 w1 rh1 p1 m1 l1 rs1 out1 => ?_
    obtain ⟨μ2, p2, rh2, r2⟩ := RW.mats (F := F) w1 rh1
    simp only at out1
    generalize mats ds h1 = p at out1 rh2 r2
    obtain ⟨p, h2⟩ := p
    match p, r2, out1 with
    | [], _, out1 => exact out1.elim
    | [_], _, out1 => exact out1.elim
    | _ :: _ :: _ :: _, _, out1 => exact out1.elim
    | [d1, d2], r2, out1 =>
      simp only [RDs] at r2
      obtain ⟨v, _, rfl, rv, w, _, rfl, rw, rfl⟩ := r2
      exact ⟨v, w, rfl, fun l' => out1 μ2 H1 _ (((rs1.mono (Mo.refl _) p2).set i rv).set j rw) rh2 p2 (Mo.refl _) l'⟩
theorem ms_par3 {i j k : Nat} {x y z : Str} {a b c : Expr} {fs : Stm → Hm → R (List D)} {px py pz pt : Pos} {kt k2 : Nat} {pt2 : Pos} (hc : X.calm = true) (hN : X.N.Nodup) (hi : X.N[i]? = some x) (hj : X.N[j]? = some y) (hk : X.N[k]? = some z) (hij : i ≠ j) (hik : i ≠ k) (hjk : j ≠ k)
    (hx : X.env.scope.names.lookup x = some .local) (hy : X.env.scope.names.lookup y = some .local) (hz : X.env.scope.names.lookup z = some .local) (ha : PA X [a, b, c] (TAm X.K fs))
    (hw : swappedStores [.Tuple [.Name x px, .Name y py, .Name z pz] kt pt] (.Tuple [a, b, c] k2 pt2) X.env = pure (some [x, y, z]))
    (hs : swapsWithSole [.Tuple [.Name x px, .Name y py, .Name z pz] kt pt] (.Tuple [a, b, c] k2 pt2) pos.line X.env = pure false) :
    PS X (.Assign [.Tuple [.Name x px, .Name y py, .Name z pz] kt pt] (.Tuple [a, b, c] k2 pt2) pos) (TSm X.K fun s h => (fs s h).bind fun ds h1 => let p := mats ds h1; match p.1 with
      | [x, y, z] => .ok (.nx (((s.set i (some x)).set j (some y)).set k (some z))) p.2
      | _ => .no) :=
  (ps_par3 hc hN hi hj hk hij hik hjk hx hy hz ha hw hs).imp fun Dn σ H l hw => by
    obtain ⟨μ, F, s, h, rs, rh, out⟩ := hw l
    refine stepS (G := []) (rel := relA X.K) rs rh out fun ds h1 μ1 H1 xs G1 e1 w1 rh1 p1 m1 l1 rs1 out1 => ?_
    obtain ⟨μ2, p2, rh2, r2⟩ := RW.mats (F := F) w1 rh1
    simp only at out1
    generalize mats ds h1 = p at out1 rh2 r2
    obtain ⟨p, h2⟩ := p
    match p, r2, out1 with
    | [], _, out1 => exact out1.elim
    | [_], _, out1 => exact out1.elim
    | [_, _], _, out1 => exact out1.elim
    | _ :: _ :: _ :: _ :: _, _, out1 => exact out1.elim
    | [d1, d2, d3], r2, out1 =>
      simp only [RDs] at r2
      obtain ⟨v, _, rfl, rv, w, _, rfl, rw, u, _, rfl, ru, rfl⟩ := r2
      exact ⟨v, w, u, rfl, fun l' => out1 μ2 H1 _ ((((rs1.mono (Mo.refl _) p2).set i rv).set j rw).set k ru) rh2 p2 (Mo.refl _) l'⟩
end
end Mp

namespace Mp
open PySem PySem.Spec L2
/-! ### name op= e -/
def Bop.op : Bop → Operator
  | .add => .Add
  | .sub => .Sub
  | .mul => .Mult
  | .fdiv => .FloorDiv
  | .mod => .Mod
  | .pow => .Pow
  | .shl => .LShift
section
variable {X : Cx} {pos : Pos}
abbrev rAddIS : R2 := fun x y H Q => (rI0 fun i j => .int (i + j)) x y H Q ∨ (∃ i j, x = .str i ∧ y = .str j ∧ i.length + j.length ≤ sizeLine ∧ Q (.str (i ++ j)) H)
theorem iop_addIS : OpR X (inplaceOp .Add) rAddIS := iop_add.or iop_add_str
/-- the in-place operation, by values -/
theorem iop_all (o : Bop) (hp : o ≠ .pow) : ∃ r : R2, OpR X (inplaceOp o.op) r ∧ V2 X.K r (fun h x y => augD h o x y) := by
  have str : ∀ {h : Hm} {o : Bop} {i j : Str} {z : D}, o ≠ .add → bop h o (.str i) (.str j) = some z → False := fun {h o i j z} ho e => by
    cases o <;> simp [bop, addD, subD, mulD, mulL, fdivD, modD, powD, shlD, asL] at e ho
  cases o with
  | pow => exact absurd rfl hp
  | add =>
    refine ⟨_, iop_addIS, ?_⟩
    intro μ F G H h d e x y z Q w rh l o q
    obtain ⟨G1, G2, rfl, w1, w2⟩ := w.split
    cases d <;> cases e <;> simp only [augD, reduceCtorEq] at o
    · obtain ⟨rfl, _⟩ := w1.int_of
      obtain ⟨rfl, _⟩ := w2.int_of
      simp only [bop, addD, Option.some.injEq] at o
      subst o
      exact .inl ⟨_, _, rfl, rfl, go0 q rh rfl⟩
    · obtain ⟨rfl, _⟩ := w1.str_of
      obtain ⟨rfl, _⟩ := w2.str_of
      simp only [bop, addD] at o
      obtain ⟨hz, rfl⟩ := sz_some o
      exact .inr ⟨_, _, rfl, rfl, hz, go0 q rh rfl⟩
  | sub =>
    refine ⟨_, iop_sub, ?_⟩
    intro μ F G H h d e x y z Q w rh l o q
    obtain ⟨G1, G2, rfl, w1, w2⟩ := w.split
    cases d <;> cases e <;> simp only [augD, reduceCtorEq] at o
    · obtain ⟨rfl, _⟩ := w1.int_of
      obtain ⟨rfl, _⟩ := w2.int_of
      simp only [bop, subD, Option.some.injEq] at o
      subst o
      exact ⟨_, _, rfl, rfl, go0 q rh rfl⟩
    · exact (str (by simp) o).elim
  | mul =>
    refine ⟨_, iop_mul, ?_⟩
    intro μ F G H h d e x y z Q w rh l o q
    obtain ⟨G1, G2, rfl, w1, w2⟩ := w.split
    cases d <;> cases e <;> simp only [augD, reduceCtorEq] at o
    · obtain ⟨rfl, _⟩ := w1.int_of
      obtain ⟨rfl, _⟩ := w2.int_of
      simp only [bop, mulD] at o
      split at o
      · rename_i hc
        simp only [Option.some.injEq] at o
        subst o
        simp only [small, Bool.or_eq_true, decide_eq_true_eq] at hc
        exact ⟨_, _, rfl, rfl, hc, go0 q rh rfl⟩
      · cases o
    · exact (str (by simp) o).elim
  | fdiv =>
    refine ⟨_, iop_fdivW, ?_⟩
    intro μ F G H h d e x y z Q w rh l o q
    obtain ⟨G1, G2, rfl, w1, w2⟩ := w.split
    cases d <;> cases e <;> simp only [augD, reduceCtorEq] at o
    · obtain ⟨rfl, _⟩ := w1.int_of
      obtain ⟨rfl, _⟩ := w2.int_of
      simp only [bop, fdivD] at o
      split at o
      · rename_i hc
        simp only [Option.some.injEq] at o
        subst o
        exact ⟨_, _, rfl, rfl, wide_div (b := 64) hc.1 (by omega) (by omega) (by omega), go0 q rh rfl⟩
      · cases o
    · exact (str (by simp) o).elim
  | mod =>
    refine ⟨_, iop_mod, ?_⟩
    intro μ F G H h d e x y z Q w rh l o q
    obtain ⟨G1, G2, rfl, w1, w2⟩ := w.split
    cases d <;> cases e <;> simp only [augD, reduceCtorEq] at o
    · obtain ⟨rfl, _⟩ := w1.int_of
      obtain ⟨rfl, _⟩ := w2.int_of
      simp only [bop, modD] at o
      split at o
      · rename_i hc
        simp only [Option.some.injEq] at o
        subst o
        exact ⟨_, _, rfl, rfl, hc, go0 q rh rfl⟩
      · cases o
    · exact (str (by simp) o).elim
  | shl =>
    refine ⟨_, iop_shl, ?_⟩
    intro μ F G H h d e x y z Q w rh l o q
    obtain ⟨G1, G2, rfl, w1, w2⟩ := w.split
    cases d <;> cases e <;> simp only [augD, reduceCtorEq] at o
    · obtain ⟨rfl, _⟩ := w1.int_of
      obtain ⟨rfl, _⟩ := w2.int_of
      simp only [bop, shlD] at o
      split at o
      · rename_i hc
        simp only [Option.some.injEq] at o
        subst o
        exact ⟨_, _, rfl, rfl, hc, go0 q rh rfl⟩
      · cases o
    · exact (str (by simp) o).elim
/-- an operation by values, from an outcome of a statement -/
theorem OutS.ofV {K : PySem.W.Frag} {μ : List Addr} {F : Frs} {H : Hp} {h : Hm} {o : Option D} {Dn : Ends} {k : D → Hm → R Fl} (out : OutS K μ F H Dn ((R.of o h).bind k)) : ∃ z, o = some z ∧ OutS K μ F H Dn (k z h) := by
  cases o with
  | none => exact out.elim
  | some z => exact ⟨z, rfl, out⟩
theorem RS.at {K : PySem.W.Frag} {μ : List Addr} {H : Hp} {s : Stm} {σ : L2.St} {i : Nat} {d : D} (rs : RS K μ H s σ) (e : s[i]? = some (some d)) : ∃ x, σ[i]? = some (some x) ∧ RD K μ H d x := rs.2 i d e
variable {e : Expr} {fe : Stm → Hm → R D}
theorem ms_aug {i : Nat} {x : Str} {o : Bop} {pos' : Pos} (hp : o ≠ .pow) (hN : X.N.Nodup) (hi : X.N[i]? = some x) (hx : Loc X.env.scope x) (hf : X.fn x = true ∨ X.env.scope.names.lookup x = some .local) (he : PE X e (TEm X.K fe)) :
    PS X (.AugAssign (.Name x pos') o.op e pos) (TSm X.K fun s h => match s[i]? with
      | some (some x) => (fe s h).bind fun y h1 => (R.of (augD h1 o x y) h1).bind fun z h2 => .ok (.nx (s.set i (some z))) h2
      | _ => .no) := by
  obtain ⟨r, ho, hv⟩ := iop_all (X := X) o hp
  refine (ps_aug hN hi hx he ho hf).imp fun Dn σ H l hw => ?_
  obtain ⟨μ, F, s, h, rs, rh, out⟩ := hw l
  cases e1 : s[i]? with
  | none => simp only [e1] at out; exact out.elim
  | some od =>
    cases od with
    | none => simp only [e1] at out; exact out.elim
    | some d =>
      simp only [e1] at out
      obtain ⟨xv, ex, rx⟩ := rs.at e1
      refine ⟨xv, ex, ?_⟩
      refine stepS (G := []) (rel := relE X.K) rs rh out fun d2 h1 μ1 H1 y G1 e2 w1 rh1 p1 m1 l1 rs1 out1 => ?_
      obtain ⟨z, ez, out2⟩ := OutS.ofV out1
      have rx1 : RD X.K μ1 H1 d xv := RD.mono m1 p1 _ _ rx
      have w12 : RW X.K μ1 H1 [d, d2] [xv, y] G1 := .val rx1 w1
      -- the outcome is a scalar
      have hz : (∃ n, z = .int n) ∨ ∃ t, z = .str t := by
        revert ez
        cases d <;> cases d2 <;> simp only [augD, reduceCtorEq, false_implies]
        · intro ez
          refine .inl ?_
          cases o <;> simp only [bop, addD, subD, mulD, fdivD, modD, powD, shlD] at ez <;> (try split at ez) <;> simp only [Option.some.injEq, reduceCtorEq] at ez <;> exact ⟨_, ez.symm⟩
        · intro ez
          refine .inr ?_
          cases o <;> simp [bop, addD, subD, mulD, mulL, fdivD, modD, powD, shlD, asL] at ez
          exact ⟨_, (sz_some ez).2.symm⟩
      refine hv μ1 F G1 H1 h1 d d2 xv y z _ w12 rh1 l1 ez fun H2 v G2 w2 rh2 m2 l2 => ?_
      have rz : RD X.K μ1 H2 z v := by
        rcases hz with ⟨n, rfl⟩ | ⟨n, rfl⟩
        · obtain ⟨rfl, _⟩ := w2.int_of; rfl
        · obtain ⟨rfl, _⟩ := w2.str_of; rfl
      exact out2 μ1 H2 _ ((rs1.mono m2 (List.prefix_refl _)).set i rz) rh2.weak (List.prefix_refl _) m2 l2
/-! ### xs[i] op= e -/
def rGetL (K : PySem.W.Frag) : V → V → Hp → VK → Prop := fun x y H Q => ∃ p xs i v, x = .ref p ∧ y = .int i ∧ SqL K H p xs ∧ atI xs i = some v ∧ Q v H
theorem get_list : PGet X (rGetL X.K) := by
  intro pins s σ H x y v u Q I rx ry h
  obtain ⟨p, xs, i, z, rfl, rfl, hq, he, q⟩ := h
  cases rx
  obtain ⟨t, rfl⟩ := ry
  obtain ⟨its, r, pl, hz⟩ := I.list hq
  obtain ⟨j, h1, h2, h3, h4, h5⟩ := atI_get he
  obtain ⟨w, ew, rw'⟩ := r.get h2
  have hl := r.length
  have hn := line63
  have fin : EP X pins σ Q w s := ⟨z, H, I, rw', q⟩
  by_cases h0 : 0 ≤ i
  · have hj : i.toNat = j := by
      rw [seqIndex_of h0 h5] at h1
      exact Option.some.inj h1
    exact wpAny_getItem_list pl.isList h0 (by omega) (by rw [hj]; simpa using ew) fin
  · have hj : (i + (its.toArray.size : Int)).toNat = j := by
      rw [seqIndex_neg (by omega) h4] at h1
      rw [List.size_toArray, ← hl]
      exact Option.some.inj h1
    exact wpAny_getItem_list_neg pl.isList (by omega) (by rw [List.size_toArray] <;> omega) (by omega) (by rw [hj]; simpa using ew) fin
variable {a b : Expr} {fa fb : Stm → Hm → R D}
theorem setIx_read {K : PySem.W.Frag} {μ : List Addr} {F : Frs} {H : Hp} {h h3 : Hm} {p : Nat} {k : Int} {xv v : V} {z : D} {Q : Hp → Prop} (r1 : RD K μ H (.ref p) xv) (rh : RH K μ F H h) (rz : RD K μ H z v) (e : setIx h (.ref p) (.int k) z = some h3)
    (q : ∀ H', RH K μ F H' h3 → Mo H H' → Q H') : rSetL xv (.int k) v H Q := by
  unfold setIx at e
  simp only at e
  cases e4 : h[p]? with
  | none => simp only [e4] at e; cases e
  | some ob =>
    cases ob with
    | lst xs =>
      simp only [e4] at e
      cases e5 : ixN xs.length k with
      | none => simp only [e5] at e; cases e
      | some j =>
        simp only [e5, Option.some.injEq] at e
        subst e
        simp only [RD] at r1
        obtain ⟨a, r1, rfl⟩ := r1
        obtain ⟨ho, e6, vs, rfl, r7⟩ := rh.obj p _ a e4 r1
        exact ⟨a, vs, k, j, rfl, rfl, e6, by rw [← r7.length]; exact e5, q _ (rh.write r1 e6 (r7.set rz j)) (Mo.lst e6)⟩
theorem ms_augIx {o : Bop} {tpos : Pos} (hp : o ≠ .pow) (hst : ∀ ov iv new, augStore b ov iv new = (do holding [new, ov, iv] (setItem ov iv new); release [new, ov, iv] []; pure .next)) (ha : PE X a (TEm X.K fa)) (hb : PE X b (TEm X.K fb)) (he : PE X e (TEm X.K fe)) :
    PS X (.AugAssign (.Subscript a b tpos) o.op e pos) (TSm X.K fun s h => (fa s h).bind fun x h1 => (fb s h1).bind fun y h2 => match x, y with
      | .ref p, .int k => (R.of (ixL h2 (.ref p) k) h2).bind fun v h3 => (fe s h3).bind fun w h4 => (R.of (augI o v w) h4).bind fun z h5 => match setIx h5 (.ref p) (.int k) z with
        | some h6 => .ok (.nx s) h6
        | none => .no
      | _, _ => .no) := by
  obtain ⟨r, ho, hv⟩ := iop_all (X := X) o hp
  refine (ps_augS ha hb get_list he ho set_list hst).imp fun Dn σ H l hw => ?_
  obtain ⟨μ, F, s, h, rs, rh, out⟩ := hw l
  refine stepS (G := []) (rel := relE X.K) rs rh out fun x h1 μ1 H1 xv G1 e1 w1 rh1 p1 m1 l1 rs1 out1 => ?_
  refine stepS (rel := relE X.K) rs1 rh1 out1 fun y h2 μ2 H2 yv G2 e2 w2 rh2 p2 m2 l2 rs2 out2 => ?_
  match x, y, w1, w2, out2 with
  | .ref p, .int k, w1, w2, out2 =>
    simp only at out2
    obtain ⟨v, ev', out3⟩ := OutS.ofV out2
    have w1' := RW.mono m2 p2 w1
    obtain ⟨rfl, rfl⟩ := w2.int_of
    cases w1' with
    | val r1 t =>
      cases t
      have rh2' : RH X.K μ2 F H2 h2 := rh2
      unfold ixL at ev'
      cases e3 : asL h2 (.ref p) with
      | none => rw [e3] at ev'; cases ev'
      | some xs =>
        rw [e3] at ev'
        simp only at ev'
        obtain ⟨pa, vs, rfl, r2, r3⟩ := asL_of (F := F) (G := []) (.val r1 .nil) rh2' e3
        obtain ⟨vv, ea, rv⟩ := atI_rel r3 ev'
        refine ⟨pa, vs, k, vv, rfl, rfl, .of r2, ea, ?_⟩
        refine stepS (G := []) (rel := relE X.K) rs2 rh2' out3 fun w h4 μ4 H4 wv G4 e4 w4 rh4 p4 m4 l4 rs4 out4 => ?_
        obtain ⟨z, ez, out5⟩ := OutS.ofV out4
        have ez' : augD [] o v w = some z := by
          revert ez
          cases v <;> cases w <;> simp [augI, augD]
        have hz : ∃ n, z = .int n := by
          revert ez
          cases v <;> cases w <;> simp only [augI, reduceCtorEq, false_implies]
          intro ez
          cases o <;> simp only [bop, addD, subD, mulD, fdivD, modD, powD, shlD] at ez <;> (try split at ez) <;> simp only [Option.some.injEq, reduceCtorEq] at ez <;> exact ⟨_, ez.symm⟩
        have ez4 : augD h4 o v w = some z := by
          revert ez
          cases v <;> cases w <;> simp only [augI, reduceCtorEq, false_implies, augD]
          intro ez
          cases o <;> exact ez
        have rv4 : RD X.K μ4 H4 v vv := RD.mono m4 p4 _ _ rv
        refine hv μ4 F G4 H4 h4 v w vv wv z _ (.val rv4 w4) rh4 l4 ez4 fun H5 zv G5 w5 rh5 m5 => ?_
        obtain ⟨n, rfl⟩ := hz
        obtain ⟨rfl, rfl⟩ := w5.int_of
        cases e6 : setIx h4 (.ref p) (.int k) (.int n) with
        | none => simp only [e6] at out5; exact out5.elim
        | some h6 =>
          simp only [e6] at out5
          have mm : Mo H2 H5 := m4.trans m5
          refine setIx_read (RD.mono mm p4 _ _ r1) rh5 (z := .int n) (by simp only [RD]) e6 fun H6 rh6 m6 => fun l6 => ?_
          exact out5 μ4 H6 σ (rs4.mono (m5.trans m6) (List.prefix_refl _)) rh6 (List.prefix_refl _) (m5.trans m6) l6
  | .non, _, _, _, out2 => exact out2.elim
  | .bl _, _, _, _, out2 => exact out2.elim
  | .int _, _, _, _, out2 => exact out2.elim
  | .str _, _, _, _, out2 => exact out2.elim
  | .tup _, _, _, _, out2 => exact out2.elim
  | .lst _, _, _, _, out2 => exact out2.elim
  | .ref _, .non, _, _, out2 => exact out2.elim
  | .ref _, .fz _, _, _, out2 => exact out2.elim
  | .fz _, _, _, _, out2 => exact out2.elim
  | .ref _, .bl _, _, _, out2 => exact out2.elim
  | .ref _, .str _, _, _, out2 => exact out2.elim
  | .ref _, .tup _, _, _, out2 => exact out2.elim
  | .ref _, .lst _, _, _, out2 => exact out2.elim
  | .ref _, .ref _, _, _, out2 => exact out2.elim
end
end Mp

namespace Mp
open PySem PySem.Spec L2
/-! ### for -/
section
variable {X : Cx} {pos : Pos}
theorem frames3 {F G1 G2 : Frs} : (G1 ++ (G2 ++ F)).Perm (G2 ++ (G1 ++ F)) := by
  rw [← List.append_assoc, ← List.append_assoc]
  exact (List.perm_append_comm).append_right F
theorem OutS.same {K : PySem.W.Frag} {μ μ1 : List Addr} {F : Frs} {H H1 : Hp} {Dn : Ends} {r : R Fl} (o : OutS K μ F H Dn r) (p : μ <+: μ1) (m : Mo H H1) : OutS K μ1 F H1 Dn r := o.mono p m fun _ _ => ⟨fun _ q => q, fun _ q => q, fun _ q => q, fun _ q => q⟩
theorem for_read {K : PySem.W.Frag} {weak : Bool} {fI : Stm → Hm → R Itv} {fg : D → Stm → Hm → R Stm} {fb : Stm → Hm → R Fl} {Dn : Ends} {σ : L2.St} {H : Hp} (l : LenOk K H)
    (hw : TSm K (fun s h => (fI s h).bind fun v h1 => loopL v.ck (fun x s1 h2 => (fg x s1 h2).bind fun s2 h3 => fb s2 h3) v.xs s h1) Dn σ H) : tFor (TIm K weak fI) (TGm K weak KpT fg) (TSm K fb) (lenE K Dn) σ H := by
  obtain ⟨μ, F, s, h, rs, rh, out⟩ := hw l
  refine stepS (G := []) (rel := relI K weak) rs rh out fun v h1 μ1 H1 J G e1 o1 rh1 p1 m1 l1 rs1 out1 => ?_
  refine ⟨fun i m σ H => m = v.xs.length - i ∧ i ≤ v.xs.length ∧ ∃ (μ2 : List Addr) (s2 : Stm) (h2 : Hm), RS K μ2 H s2 σ ∧ RH K μ2 (G ++ F) H h2 ∧ μ1 <+: μ2 ∧ Mo H1 H ∧
    OutS K μ2 F H Dn (loopL v.ck (fun x s1 h2 => (fg x s1 h2).bind fun s2 h3 => fb s2 h3) (v.xs.drop i) s2 h2), ⟨v.xs.length, by simp, Nat.zero_le _, μ1, s, h1, rs1, rh1, List.prefix_refl _, Mo.refl _, by rw [List.drop_zero]; exact out1⟩, ?_⟩
  rintro i m σ2 H2 ⟨rfl, hi, μ2, s2, h2, rs2, rh2, p2, m2, out2⟩
  by_cases hlt : i < v.xs.length
  · have ed : v.xs.drop i = v.xs[i] :: v.xs.drop (i + 1) := List.drop_eq_getElem_cons hlt
    rw [ed] at out2
    simp only [loopL] at out2
    have hck : v.ck h2 = true := by
      cases e : v.ck h2 with
      | true => rfl
      | false => rw [e] at out2; exact out2.elim
    rw [if_pos hck] at out2
    obtain ⟨hgo, hy⟩ := o1.go i v.xs[i] (List.getElem?_eq_getElem hlt) μ2 _ H2 h2 rh2 p2 m2 hck
    refine .inr ⟨hgo, fun σ' H' => ∃ (μ2 : List Addr) (s2 : Stm) (h2 : Hm), RS K μ2 H' s2 σ' ∧ RH K μ2 (G ++ F) H' h2 ∧ μ1 <+: μ2 ∧ Mo H1 H' ∧
      OutS K μ2 F H' Dn (loopL v.ck (fun x s1 h2 => (fg x s1 h2).bind fun s2 h3 => fb s2 h3) (v.xs.drop (i + 1)) s2 h2), fun σ' H' z => ⟨v.xs.length - (i + 1), by omega, rfl, hlt, z⟩, fun x H' y => ?_⟩
    obtain ⟨rx, rh3, m3⟩ := hy x H' y
    intro l3
    refine ⟨μ2, G ++ F, s2, h2, v.xs[i], rx, rs2.mono m3 (List.prefix_refl _), rh3, ?_⟩
    cases eg : fg v.xs[i] s2 h2 with
    | exc _ _ _ => rw [eg] at out2; exact out2.elim
    | no => rw [eg] at out2; exact out2.elim
    | ok s3 h3 =>
      rw [eg] at out2
      intro μ4 H4 σ4 G4 ⟨rs4, eG, _⟩ rh4 p4 m4 l4
      subst eG
      have rh4 : RH K μ4 (G ++ F) H4 h3 := rh4
      intro _
      refine ⟨μ4, G ++ F, s3, h3, rs4, rh4, ?_⟩
      simp only [R.bind_ok] at out2
      cases eb : fb s3 h3 with
      | exc _ _ _ => rw [eb] at out2; exact out2.elim
      | no => rw [eb] at out2; exact out2.elim
      | ok fl h4 =>
        rw [eb, R.bind_ok] at out2
        have mm : Mo H2 H4 := m3.trans m4
        have pp : μ2 <+: μ4 := p4
        cases fl with
        | nx s1 => exact fun μ5 H5 σ5 rs5 rh5 p5 m5 l5 => ⟨μ5, s1, h4, rs5, rh5, p2.trans (pp.trans p5), m2.trans (mm.trans m5), OutS.same out2 (pp.trans p5) (mm.trans m5)⟩
        | ct s1 => exact fun μ5 H5 σ5 rs5 rh5 p5 m5 l5 => ⟨μ5, s1, h4, rs5, rh5, p2.trans (pp.trans p5), m2.trans (mm.trans m5), OutS.same out2 (pp.trans p5) (mm.trans m5)⟩
        | bk s1 => exact fun μ5 H5 σ5 rs5 rh5 p5 m5 l5 => fun _ => out2 μ5 H5 σ5 rs5 rh5.weak (pp.trans p5) (mm.trans m5) l5
        | rt d => exact fun μ5 H5 x G5 w5 rh5 p5 m5 l5 => fun _ => out2 μ5 H5 x G5 w5 (rh5.perm frames3).weak (pp.trans p5) (mm.trans m5) l5
  · have he : i = v.xs.length := by omega
    subst he
    rw [List.drop_length] at out2
    simp only [loopL] at out2
    have hck : v.ck h2 = true := by
      cases e : v.ck h2 with
      | true => rfl
      | false => rw [e] at out2; exact out2.elim
    rw [if_pos hck] at out2
    exact .inl ⟨o1.stop _ rfl μ2 _ H2 h2 rh2 p2 m2 hck, fun l' => out2 μ2 H2 σ2 rs2 rh2.weak (List.prefix_refl _) (Mo.refl _) l'⟩
theorem ms_for {weak : Bool} {tg iter : Expr} {body : List Stmt} {fI : Stm → Hm → R Itv} {fg : D → Stm → Hm → R Stm} {fb : Stm → Hm → R Fl} (hx : X.xe = fun _ _ => False) (hc : X.calm = true) (hi : PI X tg iter (TIm X.K weak fI)) (hg : PG X tg (TGm X.K weak KpT fg)) (hb : PSs X body (TSm X.K fb))
    (hs : ∀ x, foldedSetIterable iter X.env x = pure x) : PS X (.For tg iter body [] pos) (TSm X.K fun s h => (fI s h).bind fun v h1 => loopL v.ck (fun x s1 h2 => (fg x s1 h2).bind fun s2 h3 => fb s2 h3) v.xs s h1) :=
  (ps_for (by rw [hx]; exact PassesOwn.never) hc hi hg hb hs).imp fun Dn σ H l hw => for_read l hw
theorem while_read {K : PySem.W.Frag} {n : Nat} {fc : Stm → Hm → R Bool} {fb : Stm → Hm → R Fl} {Dn : Ends} {σ : L2.St} {H : Hp} (l : LenOk K H)
    (hw : TSm K (fun s h => whileL fc fb n s h) Dn σ H) : tWhile (TTm K fc) (TSm K fb) (lenE K Dn) σ H := by
  obtain ⟨μ, F, s, h, rs, rh, out⟩ := hw l
  refine ⟨fun m σ H => ∃ (μ2 : List Addr) (s2 : Stm) (h2 : Hm), RS K μ2 H s2 σ ∧ RH K μ2 F H h2 ∧ OutS K μ2 F H Dn (whileL fc fb m s2 h2), ⟨n, μ, s, h, rs, rh, out⟩, ?_⟩
  rintro m σ2 H2 ⟨μ2, s2, h2, rs2, rh2, out2⟩
  cases m with
  | zero => exact out2.elim
  | succ m =>
    simp only [whileL] at out2
    refine stepS (G := []) (rel := relB) rs2 rh2 out2 fun b h3 μ3 H3 b' G3 e3 w3 rh3 p3 m3 l3 rs3 out3 => ?_
    obtain ⟨rfl, rfl⟩ := w3
    have rh3 : RH K μ3 F H3 h3 := rh3
    cases b with
    | true =>
      rw [if_pos rfl] at out3 ⊢
      refine ⟨fun σ' H' => ∃ (μ2 : List Addr) (s2 : Stm) (h2 : Hm), RS K μ2 H' s2 σ' ∧ RH K μ2 F H' h2 ∧ OutS K μ2 F H' Dn (whileL fc fb m s2 h2), fun σ' H' z => ⟨m, by omega, z⟩, fun _ => ⟨μ3, F, s2, h3, rs3, rh3, ?_⟩⟩
      cases eb : fb s2 h3 with
      | exc _ _ _ => rw [eb] at out3; exact out3.elim
      | no => rw [eb] at out3; exact out3.elim
      | ok fl h4 =>
        rw [eb, R.bind_ok] at out3
        cases fl with
        | nx s1 => exact fun μ5 H5 σ5 rs5 rh5 p5 m5 l5 => ⟨μ5, s1, h4, rs5, rh5, OutS.same out3 p5 m5⟩
        | ct s1 => exact fun μ5 H5 σ5 rs5 rh5 p5 m5 l5 => ⟨μ5, s1, h4, rs5, rh5, OutS.same out3 p5 m5⟩
        | bk s1 => exact fun μ5 H5 σ5 rs5 rh5 p5 m5 l5 => fun _ => out3 μ5 H5 σ5 rs5 rh5 p5 m5 l5
        | rt d => exact fun μ5 H5 x G5 w5 rh5 p5 m5 l5 => fun _ => out3 μ5 H5 x G5 w5 rh5 p5 m5 l5
    | false =>
      rw [if_neg Bool.false_ne_true] at out3 ⊢
      exact fun l' => out3 μ3 H3 σ2 rs3 rh3 (List.prefix_refl _) (Mo.refl _) l'
theorem ms_while {n : Nat} {c : Expr} {body : List Stmt} {fc : Stm → Hm → R Bool} {fb : Stm → Hm → R Fl} (hx : X.xe = fun _ _ => False) (hc : PT X c (TTm X.K fc)) (hb : PSs X body (TSm X.K fb)) : PS X (.While c body [] pos) (TSm X.K fun s h => whileL fc fb n s h) :=
  (ps_while (by rw [hx]; exact PassesOwn.never) hc hb).imp fun Dn σ H l hw => while_read l hw
/-! ### comprehensions as values, as what is stored -/
theorem mts_nil : PTs X [] (TTm X.K fun s h => .ok true h) :=
  pts_nil.imp fun σ H Q l hw => by
    obtain ⟨μ, F, s, h, rs, rh, out⟩ := hw l
    exact fun l' => out μ H true [] ⟨rfl, rfl⟩ rh (List.prefix_refl _) (Mo.refl _) l'
theorem set_read1 {fe : Stm → Hm → R D} {K : PySem.W.Frag} {i : Nat} {Dn : Ends} {σ : L2.St} {H : Hp} (hw : TSm K (fun s h => (fe s h).bind fun d h1 => let p := mat1 d h1; .ok (.nx (s.set i (some p.1))) p.2) Dn σ H) :
    TEm K fe σ H (fun x H1 => gName i x σ H1 Dn.nx) := fun l => by
  obtain ⟨μ, F, s, h, rs, rh, out⟩ := hw l
  refine stepS (G := []) (rel := relE K) rs rh out (fun d h1 μ1 H1 x G1 e1 w1 rh1 p1 m1 l1 rs1 out1 => ?_) l
  obtain ⟨μ2, p2, rh2, r2⟩ := RW.mats (F := F) w1 rh1
  have em : (mats [d] h1) = ([(mat1 d h1).1], (mat1 d h1).2) := rfl
  rw [em] at rh2 r2
  simp only [RDs] at rh2 r2
  obtain ⟨v, r, e, rv, _⟩ := r2
  have ev : x = v := (List.cons.inj e).1
  subst ev
  exact out1 μ2 H1 _ ((rs1.mono (Mo.refl _) p2).set i rv) rh2 p2 (Mo.refl _) l1
variable {elt tg iter : Expr} {ifs : List Expr} {scope : Scope} {own : List (Str × Nat)} {weak : Bool} {fI : Stm → Hm → R Itv} {fg : D → Stm → Hm → R Stm} {fc : Stm → Hm → R Bool} {fe : Stm → Hm → R D}
theorem me_comp (hc : X.calm = true) (hN : X.N.Nodup) (hi : PI X tg iter (TIm X.K weak fI)) (ok : BlkOk X.N X.env.scope scope own)
    (hg : ∀ (s : Shared) (H : Hp) (C : Addr) (cl : List (Str × Addr)) (fp : List Addr), PG (X.blk s H scope (compEnvC scope cl C X.env) fp) tg (TGm X.K weak (KpW (own.map (·.2))) fg)) (ht : ∀ (s : Shared) (H : Hp) (C : Addr) (cl : List (Str × Addr)) (fp : List Addr), PTs (X.blk s H scope (compEnvC scope cl C X.env) fp) ifs (TTm X.K fc))
    (he : ∀ (s : Shared) (H : Hp) (C : Addr) (cl : List (Str × Addr)) (fp : List Addr), PE (X.blk s H scope (compEnvC scope cl C X.env) fp) elt (TEm X.K fe)) (hs : ∀ x, foldedSetIterable iter X.env x = pure x) :
    PE X (.ListComp elt [⟨tg, iter, ifs, 0⟩] scope pos) (TEm X.K fun s h => (fI s h).bind fun v h1 => (compL v.ck (turnC fg fc fe (own.map (·.2)) s) v.xs h1).bind fun ys h6 => .ok (.lst ys) h6) :=
  (pe_lc hc hN hi ok hg ht he hs).imp fun σ H Q l hw => comp_read l hw
theorem ms_setComp {i : Nat} {y : Str} {py spos : Pos} (hc : X.calm = true) (hN : X.N.Nodup) (hy : X.N[i]? = some y) (hyl : X.env.scope.names.lookup y = some .local)
    (hsw : swapsWith (.ListComp elt [⟨tg, iter, ifs, 0⟩] scope pos) (some (.Name y py)) spos.line X.env = pure true) (hi : PI X tg iter (TIm X.K weak fI)) (ok : BlkOk X.N X.env.scope scope own)
    (hg : ∀ (s : Shared) (H : Hp) (C : Addr) (cl : List (Str × Addr)) (fp : List Addr), PG (X.blk s H scope (compEnvC scope cl C X.env) fp) tg (TGm X.K weak (KpW (own.map (·.2))) fg)) (ht : ∀ (s : Shared) (H : Hp) (C : Addr) (cl : List (Str × Addr)) (fp : List Addr), PTs (X.blk s H scope (compEnvC scope cl C X.env) fp) ifs (TTm X.K fc))
    (he : ∀ (s : Shared) (H : Hp) (C : Addr) (cl : List (Str × Addr)) (fp : List Addr), PE (X.blk s H scope (compEnvC scope cl C X.env) fp) elt (TEm X.K fe)) (hs : ∀ x, foldedSetIterable iter X.env x = pure x) :
    PS X (.Assign [.Name y py] (.ListComp elt [⟨tg, iter, ifs, 0⟩] scope pos) spos) (TSm X.K fun s h => ((fI s h).bind fun v h1 => (compL v.ck (turnC fg fc fe (own.map (·.2)) s) v.xs h1).bind fun ys h6 => .ok (.lst ys) h6).bind fun d h1 => let p := mat1 d h1; .ok (.nx (s.set i (some p.1))) p.2) :=
  (ps_setLc hc hN hy hyl hsw hi ok hg ht he hs).imp fun Dn σ H l hw => by
    exact comp_read (weak := weak) (Q := fun x H1 => gName i x σ H1 Dn.nx) l (set_read1 hw)
end
end Mp

namespace Mp
open PySem PySem.Spec L2 PyProof.Rows
section
variable {X : Cx}
theorem ref_at {K : PySem.W.Frag} {μ : List Addr} {F G : Frs} {H : Hp} {h : Hm} {i : Nat} {x : V} {xs : List D} (w : RW K μ H [.ref i] [x] G) (rh : RH K μ (G ++ F) H h) (e : h[i]? = some (.lst xs)) : G = [] ∧ ∃ a vs, x = .ref a ∧ μ[i]? = some a ∧ H a = some (.lst vs) ∧ RDs K μ H xs vs := by
  cases w with
  | val r t =>
    cases t
    simp only [RD] at r
    obtain ⟨a, r, rfl⟩ := r
    obtain ⟨ho, e3, vs, rfl, q⟩ := rh.obj i _ a e r
    exact ⟨rfl, a, vs, rfl, r, e3, q⟩
theorem tyd_ref {μ : List Addr} {F G : Frs} {H : Hp} {h : Hm} {i : Nat} {x : V} (w : RW X.K μ H [.ref i] [x] G) (rh : RH X.K μ (G ++ F) H h) : TyD X "list" x H := by
  cases w with
  | val r t =>
    simp only [RD] at r
    obtain ⟨a, r, rfl⟩ := r
    have hi : i < h.length := by rw [← rh.len]; exact (List.getElem?_eq_some_iff.mp r).1
    obtain ⟨ho, e3, ro⟩ := rh.obj i _ a (List.getElem?_eq_getElem hi) r
    refine TyD.of ?_
    cases eo : h[i] with
    | lst ds =>
      rw [eo] at ro
      obtain ⟨vs, rfl, _⟩ := ro
      exact .inl ⟨rfl, vs, .of e3⟩
theorem mk_append : MOk X "append" (fun h d ds => meth h .append d ds) := by
  intro d ds h z e
  cases d with
  | ref i =>
    refine ⟨"list", "list.append", rAppend, F.plainAttrs_list, F.slot_list_append, rfl, mt_append, fun μ F G H h x w rh => tyd_ref w rh, ?_⟩
    intro μ F G H h x ds xs z h' Q w rds rh l e q
    match ds, rds, e with
    | [d], rds, e =>
      simp only [meth] at e
      split at e
      · rename_i ys e1
        split at e
        · rename_i hz
          simp only [Option.some.injEq, Prod.mk.injEq] at e
          obtain ⟨rfl, rfl⟩ := e
          obtain ⟨rfl, a, vs, rfl, ea, e3, r⟩ := ref_at w rh e1
          simp only [RDs] at rds
          obtain ⟨y, _, rfl, ry, rfl⟩ := rds
          refine ⟨a, vs, y, rfl, rfl, e3, by rw [← r.length, sizeLine_eq]; exact hz, ?_⟩
          have rh : RH X.K μ F H h := rh
          exact q _ _ [] (.val rfl .nil) (rh.write ea e3 (r.append (by simp only [RDs]; exact ⟨y, [], rfl, ry, rfl⟩))) (Mo.lst e3)
        · cases e
      · cases e
    | [], _, e => simp only [meth, reduceCtorEq] at e
    | _ :: _ :: _, _, e => simp only [meth, reduceCtorEq] at e
  | _ => simp only [meth, reduceCtorEq] at e
theorem mk_pop0 : MOk X "pop" (fun h d ds => meth h .pop d ds) := by
  intro d ds h z e
  cases d with
  | ref i =>
    refine ⟨"list", "list.pop", rPop, F.plainAttrs_list, F.slot_list_pop, rfl, mt_pop, fun μ F G H h x w rh => tyd_ref w rh, ?_⟩
    intro μ F G H h x ds xs z h' Q w rds rh l e q
    match ds, rds, e with
    | [], rds, e =>
      simp only [meth] at e
      split at e
      · rename_i ys e1
        split at e
        · rename_i y e2
          simp only [Option.some.injEq, Prod.mk.injEq] at e
          obtain ⟨rfl, rfl⟩ := e
          obtain ⟨rfl, a, vs, rfl, ea, e3, r⟩ := ref_at w rh e1
          simp only [RDs] at rds
          subst rds
          obtain ⟨v, ev, rv⟩ := r.get e2
          have hl := r.length
          refine ⟨a, vs, v, rfl, rfl, e3, by rw [← hl]; exact ev, ?_⟩
          have rh : RH X.K μ F H h := rh
          have m : Mo H (upd H a (.lst vs.dropLast)) := Mo.lst e3
          exact q _ _ [] (.val (RD.mono m (List.prefix_refl _) _ _ rv) .nil) (rh.write ea e3 (by rw [List.dropLast_eq_take, List.dropLast_eq_take, hl]; exact r.take' _)) m
        · cases e
      · cases e
    | _ :: _, _, e => simp only [meth, reduceCtorEq] at e
  | _ => simp only [meth, reduceCtorEq] at e
theorem mk_popAt : MOk X "pop" (fun h d ds => meth h .popAt d ds) := by
  intro d ds h z e
  cases d with
  | ref i =>
    refine ⟨"list", "list.pop", rPopAt, F.plainAttrs_list, F.slot_list_pop, rfl, mt_popAt, fun μ F G H h x w rh => tyd_ref w rh, ?_⟩
    intro μ F G H h x ds xs z h' Q w rds rh l e q
    match ds, rds, e with
    | [.int k], rds, e =>
      simp only [meth] at e
      split at e
      · rename_i ys e1
        split at e
        · rename_i j e2
          split at e
          · rename_i y e3'
            simp only [Option.some.injEq, Prod.mk.injEq] at e
            obtain ⟨rfl, rfl⟩ := e
            obtain ⟨rfl, a, vs, rfl, ea, e3, r⟩ := ref_at w rh e1
            simp only [RDs, RD] at rds
            obtain ⟨y', _, rfl, ry, rfl⟩ := rds
            subst ry
            obtain ⟨v, ev, rv⟩ := r.get e3'
            have hl := r.length
            obtain ⟨h1, h2, h3, h4⟩ := ixN_seq e2
            have hz := l.l a vs (.of e3)
            rw [sizeLine_eq] at hz
            refine ⟨a, vs, k, j, v, rfl, rfl, e3, by omega, by omega, by rw [← hl]; exact h1, ev, ?_⟩
            have rh : RH X.K μ F H h := rh
            have m : Mo H (upd H a (.lst (vs.eraseIdx j))) := Mo.lst e3
            have er : RDs X.K μ H (ys.eraseIdx j) (vs.eraseIdx j) := by
              rw [List.eraseIdx_eq_take_drop_succ, List.eraseIdx_eq_take_drop_succ]
              exact (r.take' _).append (r.drop _)
            exact q _ _ [] (.val (RD.mono m (List.prefix_refl _) _ _ rv) .nil) (rh.write ea e3 er) m
          · cases e
        · cases e
      · cases e
    | [], _, e => simp only [meth, reduceCtorEq] at e
    | [.non], _, e => simp only [meth, reduceCtorEq] at e
    | [.bl _], _, e => simp only [meth, reduceCtorEq] at e
    | [.str _], _, e => simp only [meth, reduceCtorEq] at e
    | [.tup _], _, e => simp only [meth, reduceCtorEq] at e
    | [.lst _], _, e => simp only [meth, reduceCtorEq] at e
    | [.ref _], _, e => simp only [meth, reduceCtorEq] at e
    | [.fz _], _, e => simp only [meth, reduceCtorEq] at e
    | _ :: _ :: _, _, e => simp only [meth, reduceCtorEq] at e
  | _ => simp only [meth, reduceCtorEq] at e
theorem mk_extend : MOk X "extend" (fun h d ds => meth h .extend d ds) := by
  intro d ds h z e
  cases d with
  | ref i =>
    refine ⟨"list", "list.extend", rExtend, F.plainAttrs_list, F.slot_list_extend, rfl, mt_extend, fun μ F G H h x w rh => tyd_ref w rh, ?_⟩
    intro μ F G H h x ds xs z h' Q w rds rh l e q
    match ds, rds, e with
    | [.ref j], rds, e =>
      simp only [meth] at e
      split at e
      · rename_i ys zs e1 e2
        split at e
        · rename_i hz
          simp only [Option.some.injEq, Prod.mk.injEq] at e
          obtain ⟨rfl, rfl⟩ := e
          obtain ⟨rfl, a, vs, rfl, ea, e3, r⟩ := ref_at w rh e1
          have rh : RH X.K μ F H h := rh
          simp only [RDs, RD] at rds
          obtain ⟨_, _, rfl, ⟨b, eb, rfl⟩, rfl⟩ := rds
          obtain ⟨ho, e4, ws, rfl, r2⟩ := rh.obj j _ b e2 eb
          refine ⟨a, b, vs, ws, rfl, rfl, e3, e4, by rw [← r.length, ← r2.length, sizeLine_eq]; exact hz, ?_⟩
          exact q _ _ [] (.val rfl .nil) (rh.write ea e3 (r.append r2)) (Mo.lst e3)
        · cases e
      · cases e
    | [], _, e => simp only [meth, reduceCtorEq] at e
    | [.non], _, e => simp only [meth, reduceCtorEq] at e
    | [.bl _], _, e => simp only [meth, reduceCtorEq] at e
    | [.int _], _, e => simp only [meth, reduceCtorEq] at e
    | [.str _], _, e => simp only [meth, reduceCtorEq] at e
    | [.tup _], _, e => simp only [meth, reduceCtorEq] at e
    | [.lst _], _, e => simp only [meth, reduceCtorEq] at e
    | [.fz _], _, e => simp only [meth, reduceCtorEq] at e
    | _ :: _ :: _, _, e => simp only [meth, reduceCtorEq] at e
  | _ => simp only [meth, reduceCtorEq] at e
end
end Mp

namespace Mp
open PySem PySem.Spec L2 PyProof.Rows
section
variable {X : Cx}
theorem mk_insert : MOk X "insert" (fun h d ds => meth h .insert d ds) := by
  intro d ds h z e
  cases d with
  | ref i =>
    refine ⟨"list", "list.insert", _, F.plainAttrs_list, F.slot_list_insert, rfl, mt_insert, fun μ F G H h x w rh => tyd_ref w rh, ?_⟩
    intro μ F G H h x ds xs z h' Q w rds rh l e q
    match ds, rds, e with
    | [.int k, d], rds, e =>
      simp only [meth] at e
      split at e
      · rename_i ys e1
        split at e
        · rename_i hz
          simp only [Option.some.injEq, Prod.mk.injEq] at e
          obtain ⟨rfl, rfl⟩ := e
          obtain ⟨rfl, a, vs, rfl, ea, e3, r⟩ := ref_at w rh e1
          have rh : RH X.K μ F H h := rh
          simp only [RDs, RD] at rds
          obtain ⟨_, _, rfl, rfl, y, _, rfl, ry, rfl⟩ := rds
          refine ⟨a, vs, k, y, rfl, rfl, e3, by rw [← r.length, sizeLine_eq]; exact hz.1, hz.2.1, hz.2.2, ?_⟩
          exact q _ _ [] (.val rfl .nil) (rh.write ea e3 (((r.take' _).append (by simp only [RDs]; exact ⟨y, [], rfl, ry, rfl⟩)).append (r.drop _))) (Mo.lst e3)
        · cases e
      · cases e
    | [], _, e => simp only [meth, reduceCtorEq] at e
    | [_], _, e => simp only [meth, reduceCtorEq] at e
    | .non :: _ :: _, _, e => simp only [meth, reduceCtorEq] at e
    | .bl _ :: _ :: _, _, e => simp only [meth, reduceCtorEq] at e
    | .str _ :: _ :: _, _, e => simp only [meth, reduceCtorEq] at e
    | .tup _ :: _ :: _, _, e => simp only [meth, reduceCtorEq] at e
    | .lst _ :: _ :: _, _, e => simp only [meth, reduceCtorEq] at e
    | .ref _ :: _ :: _, _, e => simp only [meth, reduceCtorEq] at e
    | .fz _ :: _ :: _, _, e => simp only [meth, reduceCtorEq] at e
    | .int _ :: _ :: _ :: _, _, e => simp only [meth, reduceCtorEq] at e
  | _ => simp only [meth, reduceCtorEq] at e
theorem mk_upper : MOk X "upper" (fun h d ds => meth h .upper d ds) := by
  intro d ds h z e
  cases d with
  | str s =>
    refine ⟨"str", "str.upper", _, F.plainAttrs_str, F.slot_str_upper, rfl, mt_upper, fun μ F G H h x w rh => ?_, ?_⟩
    · obtain ⟨rfl, _⟩ := w.str_of
      exact TyD.of rfl
    · intro μ F G H h x ds xs z h' Q w rds rh l e q
      match ds, rds, e with
      | [], rds, e =>
        simp only [meth] at e
        split at e
        · rename_i hz
          simp only [Option.some.injEq, Prod.mk.injEq] at e
          obtain ⟨rfl, rfl⟩ := e
          obtain ⟨rfl, rfl⟩ := w.str_of
          simp only [RDs] at rds
          subst rds
          exact ⟨s, rfl, rfl, hz, q H _ [] (.val rfl .nil) rh (Mo.refl _)⟩
        · cases e
      | _ :: _, _, e => simp only [meth, reduceCtorEq] at e
  | _ => simp only [meth, reduceCtorEq] at e
/-! ### index, count -/
def rIndexT (K : PySem.W.Frag) : V → List V → Hp → VK → Prop := fun x xs H Q => ∃ (a : Addr) (y : V) (d : PyData) (ds : List PyData) (j : Nat), x = V.ref a ∧ xs = [y] ∧ Dp K H (V.ref a) (.tuple ds) ∧ Dp K H y d ∧
  SeqAt.shaped (.list ds) = true ∧ SeqAt.shaped d = true ∧ (ds.findIdx? fun z => PyData.eqv z d) = some j ∧ Q (.int (j : Nat)) H
def rIndexL (K : PySem.W.Frag) : V → List V → Hp → VK → Prop := fun x xs H Q => ∃ (a : Addr) (y : V) (d : PyData) (ds : List PyData) (j : Nat), x = V.ref a ∧ xs = [y] ∧ Dp K H (V.ref a) (.list ds) ∧ Dp K H y d ∧
  SeqAt.shaped (.list ds) = true ∧ SeqAt.shaped d = true ∧ (ds.findIdx? fun z => PyData.eqv z d) = some j ∧ Q (.int (j : Nat)) H
theorem mt_indexL (hu : X.A.units + 65 < cLine) : MtR X "list.index" (rIndexL X.K) := by
  intro pins s σ H x xs v us Q I rx rxs h
  obtain ⟨a, y, d, ds, j, e1, e2, hl, hy, sl, sd, hj, q⟩ := h
  obtain ⟨hjl, hz, hno⟩ := List.findIdx?_eq_some_iff_getElem.mp hj
  refine mt_indexD hu pins s σ H x xs v us Q I rx rxs ⟨a, y, d, ds, j, ds[j], e1, e2, hl, hy, sl, sd, List.getElem?_eq_getElem hjl, hz, fun m z' hm e => ?_, q⟩
  obtain ⟨hml, rfl⟩ := List.getElem?_eq_some_iff.mp e
  simpa using hno m hm
theorem mt_indexT (hu : X.A.units + 65 < cLine) : MtR X "tuple.index" (rIndexT X.K) := by
  intro pins s σ H x xs v us Q I rx rxs h
  obtain ⟨a, y, d, ds, j, rfl, rfl, hl, hy, sl, sd, hj, q⟩ := h
  obtain ⟨hjd, hzj, hno⟩ := List.findIdx?_eq_some_iff_getElem.mp hj
  cases rx
  cases rxs with
  | cons ry rt =>
    rename_i uy ut
    cases rt
    obtain ⟨bs, r1⟩ := Dp.reads I d y uy hy ry
    have hxs : PyData.canLayAll0 ds = true := SeqAt.canLay_of_shaped sl
    have hroom : X.A.units + 1 + min (PyData.depthAll ds) d.depth < cLine := room_in_shaped sd hu
    cases hl with
    | tup hs ha =>
      obtain ⟨its, rv, ⟨⟨cls, dd, data, sls⟩, ho, hc, n, hdt⟩, hlen⟩ := I.tuple hs
      simp only at hc hdt
      subst hc hdt
      obtain ⟨as, h4⟩ := Dp.readsAll I ds _ its ha rv
      have hn : its.length = ds.length := SeqAt.ReadsAll.length ds its as h4
      have hmap : its.map (SeqAt.readOf s.heap) = ds := SeqAt.readsAll_map ds its as hxs h4
      have hjl : j < its.length := by omega
      have hj' : j < its.toArray.size := by simpa using hjl
      have at_ : ∀ (m : Nat) (hm : m < its.toArray.size) (hd : m < ds.length), SeqAt.readOf s.heap its.toArray[m] = ds[m] := by
        intro m hm hd
        have hml : m < its.length := by simpa using hm
        have e : (its.map (SeqAt.readOf s.heap))[m]? = ds[m]? := by rw [hmap]
        rw [List.getElem?_map, List.getElem?_eq_getElem hml, List.getElem?_eq_getElem hd] at e
        simpa using e
      refine call_meets PySem.F.slot_tuple_index ⟨_, ho, rfl⟩ PySem.F.entry_tuple_index (PySem.F.args_tuple_index_2 _ _)
        (TI.tuple_indexAt a its.toArray n dd sls uy (fun u => PyData.eqv (SeqAt.readOf s.heap u) d) j hj' ?_ ?_) ⟨ho, SeqAt.items_eqAt (vs := its.toArray) (show ReadsAll s.heap its.toArray.toList ds as from h4) r1 hxs (SeqAt.canLay_of_shaped sd) hroom, ?_⟩
      · show PyData.eqv (SeqAt.readOf s.heap its.toArray[j]) d = true
        rw [at_ j hj' hjd]
        exact hzj
      · intro m hm hmj
        have hmd : m < ds.length := by omega
        show PyData.eqv (SeqAt.readOf s.heap its.toArray[m]) d = false
        rw [at_ m hm hmd]
        simpa using hno m hmj
      · exact ⟨.int (j : Nat), H, I.tok _, ⟨_, rfl⟩, q⟩
def rCountQ (K : PySem.W.Frag) (mk : List PyData → PyData) : V → List V → Hp → VK → Prop := fun x xs H Q => ∃ (a : Addr) (y : V) (d : PyData) (ds : List PyData), x = V.ref a ∧ xs = [y] ∧ Dp K H (V.ref a) (mk ds) ∧ Dp K H y d ∧
  SeqAt.shaped (.list ds) = true ∧ SeqAt.shaped d = true ∧ Q (.int ((ds.countP fun z => PyData.eqv z d : Nat) : Int)) H
theorem mt_countT (hu : X.A.units + 65 < cLine) : MtR X "tuple.count" (rCountQ X.K .tuple) := by
  intro pins s σ H x xs v us Q I rx rxs h
  obtain ⟨a, y, d, ds, rfl, rfl, hl, hy, sl, sd, q⟩ := h
  cases rx
  cases rxs with
  | cons ry rt =>
    rename_i uy ut
    cases rt
    obtain ⟨bs, r1⟩ := Dp.reads I d y uy hy ry
    have hxs : PyData.canLayAll0 ds = true := SeqAt.canLay_of_shaped sl
    have hroom : X.A.units + 1 + min (PyData.depthAll ds) d.depth < cLine := room_in_shaped sd hu
    cases hl with
    | tup hs ha =>
      obtain ⟨its, rv, ⟨⟨cls, dd, data, sls⟩, ho, hc, n, hdt⟩, hlen⟩ := I.tuple hs
      simp only at hc hdt
      subst hc hdt
      obtain ⟨as, h4⟩ := Dp.readsAll I ds _ its ha rv
      have hmap : its.map (SeqAt.readOf s.heap) = ds := SeqAt.readsAll_map ds its as hxs h4
      have hcnt : its.toArray.toList.countP (fun u => PyData.eqv (SeqAt.readOf s.heap u) d) = ds.countP fun z => PyData.eqv z d := by
        rw [← hmap, List.countP_map]; rfl
      refine call_meets PySem.F.slot_tuple_count ⟨_, ho, rfl⟩ PySem.F.entry_tuple_count (PySem.F.args_tuple_count_2 _ _) (PySem.SeqAt.tuple_countAt a its.toArray n dd sls uy (fun u => PyData.eqv (SeqAt.readOf s.heap u) d))
        ⟨ho, SeqAt.items_eqAt (vs := its.toArray) (show ReadsAll s.heap its.toArray.toList ds as from h4) r1 hxs (SeqAt.canLay_of_shaped sd) hroom, ?_⟩
      rw [hcnt]
      exact ⟨.int _, H, I.tok _, ⟨_, rfl⟩, q⟩
theorem mt_countL (hu : X.A.units + 65 < cLine) : MtR X "list.count" (rCountQ X.K .list) := by
  intro pins s σ H x xs v us Q I rx rxs h
  obtain ⟨a, y, d, ds, rfl, rfl, hl, hy, sl, sd, q⟩ := h
  cases rx
  cases rxs with
  | cons ry rt =>
    rename_i uy ut
    cases rt
    obtain ⟨bs, r1⟩ := Dp.reads I d y uy hy ry
    have hxs : PyData.canLayAll0 ds = true := SeqAt.canLay_of_shaped sl
    have hroom : X.A.units + 1 + min (PyData.depthAll ds) d.depth < cLine := room_in_shaped sd hu
    cases hl with
    | lst hs ha =>
      obtain ⟨its, rv, ⟨⟨cls, dd, data, sls⟩, n, ho, hc, hdn, hdt⟩, hlen⟩ := I.list hs
      simp only at hc hdt
      subst hc hdt
      obtain ⟨as, h4⟩ := Dp.readsAll I ds _ its ha rv
      have hmap : its.map (SeqAt.readOf s.heap) = ds := SeqAt.readsAll_map ds its as hxs h4
      have hcnt : its.toArray.toList.countP (fun u => PyData.eqv (SeqAt.readOf s.heap u) d) = ds.countP fun z => PyData.eqv z d := by
        rw [← hmap, List.countP_map]; rfl
      refine call_meets PySem.F.slot_list_count ⟨_, ho, rfl⟩ PySem.F.entry_list_count (PySem.F.args_list_count_2 _ _) (PySem.SeqAt.list_countAt a its.toArray n dd sls uy (fun u => PyData.eqv (SeqAt.readOf s.heap u) d))
        ⟨ho, SeqAt.items_eqAt (vs := its.toArray) (show ReadsAll s.heap its.toArray.toList ds as from h4) r1 hxs (SeqAt.canLay_of_shaped sd) hroom, ?_⟩
      rw [hcnt]
      exact ⟨.int _, H, I.tok _, ⟨_, rfl⟩, q⟩
theorem findQ_some {h : Hm} {ys : List D} {d : D} {qs : List PyData} {p : PyData} (e : findQ h ys d = some (qs, p)) : datum h d = some p ∧ toPs (refP h 4) ys = some qs ∧ SeqAt.shaped (.list qs) = true ∧ SeqAt.shaped p = true := by
  unfold findQ at e
  split at e
  · rename_i p' qs' e3 e4
    split at e
    · rename_i hc
      simp only [Option.some.injEq, Prod.mk.injEq] at e
      obtain ⟨rfl, rfl⟩ := e
      simp only [Bool.and_eq_true] at hc
      exact ⟨e3, e4, hc.2, hc.1⟩
    · cases e
  · cases e
/-- what a search by a rule r makes of items and the one sought -/
def SrOk (K : PySem.W.Frag) (r : V → List V → Hp → VK → Prop) (mk : List PyData → PyData) (g : List PyData → PyData → Option Int) : Prop :=
  ∀ (a : Addr) (y : V) (H : Hp) (qs : List PyData) (p : PyData) (n : Int) (Q : VK), Dp K H (V.ref a) (mk qs) → Dp K H y p → SeqAt.shaped (.list qs) = true → SeqAt.shaped p = true → g qs p = some n → Q (.int n) H → r (.ref a) [y] H Q
/-- whatever the heap: a list, or a list just made -/
theorem tyd_list {d : D} (hd : (∃ i, d = .ref i) ∨ ∃ es, d = .lst es) {μ : List Addr} {F G : Frs} {H : Hp} {h : Hm} {x : V} (w : RW X.K μ H [d] [x] G) (rh : RH X.K μ (G ++ F) H h) : TyD X "list" x H := by
  rcases hd with ⟨i, rfl⟩ | ⟨es, rfl⟩
  · exact tyd_ref w rh
  · obtain ⟨a, vs, rfl, r1, r2⟩ := asL_of w rh rfl
    exact TyD.of (.inl ⟨rfl, vs, .of r1⟩)
theorem list_or {h : Hm} {d : D} {ys : List D} (e : asQ h d = some ys) : (∃ ds, d = .tup ds) ∨ (∃ i, d = .ref i) ∨ ∃ es, d = .lst es := by
  cases d with
  | tup ds => exact .inl ⟨ds, rfl⟩
  | ref i => exact .inr (.inl ⟨i, rfl⟩)
  | lst es => exact .inr (.inr ⟨es, rfl⟩)
  | _ => simp [asQ, asL] at e
theorem sr_tup {r : V → List V → Hp → VK → Prop} {g : List PyData → PyData → Option Int} {ts : List D} (hr : SrOk X.K r .tuple g) : VM X.K r (srM g) (.tup ts) := by
  intro μ F G H h x ds xs z h' Q w rds rh l e q
  match ds, rds, e with
  | [d], rds, e =>
    simp only [srM, srD, asQ, Option.map_eq_some_iff] at e
    obtain ⟨z0, e9, ez⟩ := e
    simp only [Prod.mk.injEq] at ez
    obtain ⟨rfl, rfl⟩ := ez
    simp only [RDs] at rds
    obtain ⟨y, _, rfl, ry, rfl⟩ := rds
    split at e9
    · rename_i qs p e2
      simp only [Option.map_eq_some_iff] at e9
      obtain ⟨n, e3, rfl⟩ := e9
      obtain ⟨e4, e5, sl, sd⟩ := findQ_some e2
      obtain ⟨rfl, a, vs, rfl, r1, r2⟩ := w.tup_of
      have rh : RH X.K μ F H h := rh
      exact hr a y H qs p n Q (.tup r1.sq (toPs_datum rh r2 e5)) (datum_of (G := []) (.val ry .nil) rh e4) sl sd e3 (q H _ [] (.val rfl .nil) rh (Mo.refl _))
    · cases e9
  | [], _, e => cases e
  | _ :: _ :: _, _, e => cases e
theorem sr_lst {r : V → List V → Hp → VK → Prop} {g : List PyData → PyData → Option Int} {o : D} (ho : (∃ i, o = .ref i) ∨ ∃ es, o = .lst es) (hr : SrOk X.K r .list g) : VM X.K r (srM g) o := by
  intro μ F G H h x ds xs z h' Q w rds rh l e q
  match ds, rds, e with
  | [d], rds, e =>
    simp only [srM, srD, Option.map_eq_some_iff] at e
    obtain ⟨z0, e9, ez⟩ := e
    simp only [Prod.mk.injEq] at ez
    obtain ⟨rfl, rfl⟩ := ez
    simp only [RDs] at rds
    obtain ⟨y, _, rfl, ry, rfl⟩ := rds
    split at e9
    · rename_i ys e1
      split at e9
      · rename_i qs p e2
        simp only [Option.map_eq_some_iff] at e9
        obtain ⟨n, e3, rfl⟩ := e9
        obtain ⟨e4, e5, sl, sd⟩ := findQ_some e2
        have e1' : asL h o = some ys := by
          rcases ho with ⟨i, rfl⟩ | ⟨es, rfl⟩ <;> simpa only [asQ] using e1
        obtain ⟨a, vs, rfl, r1, r2⟩ := asL_of w rh e1'
        exact hr a y H qs p n Q (.lst (.of r1) (toPs_datum rh r2 e5)) (datum_of (G := []) (F := G ++ F) (.val ry .nil) rh e4) sl sd e3 (q H _ [] (.val rfl .nil) rh.weak (Mo.refl _))
      · cases e9
    · cases e9
  | [], _, e => cases e
  | _ :: _ :: _, _, e => cases e
theorem mk_sr {name : Str} {idT idL : String} {rT rL : V → List V → Hp → VK → Prop} {g : List PyData → PyData → Option Int} (sT : Slot "tuple" name idT) (sL : Slot "list" name idL) (tT : typeOf (.builtin idT) = pure (.type "method_descriptor")) (tL : typeOf (.builtin idL) = pure (.type "method_descriptor"))
    (mT : MtR X idT rT) (mL : MtR X idL rL) (hT : SrOk X.K rT .tuple g) (hL : SrOk X.K rL .list g) : MOk X name (srM g) := by
  intro d ds h z e
  have e1 : ∃ ys, asQ h d = some ys := by
    unfold srM srD at e
    split at e
    · cases e1 : asQ h d with
      | none => rw [e1] at e; cases e
      | some ys => exact ⟨ys, rfl⟩
    · cases e
  obtain ⟨ys, e1⟩ := e1
  rcases list_or e1 with ⟨ts, rfl⟩ | hl
  · refine ⟨"tuple", idT, rT, F.plainAttrs_tuple, sT, tT, mT, fun μ F G H h x w rh => ?_, sr_tup hT⟩
    obtain ⟨_, a, vs, rfl, r1, r2⟩ := w.tup_of
    exact TyD.tup r1
  · exact ⟨"list", idL, rL, F.plainAttrs_list, sL, tL, mL, fun μ F G H h x w rh => tyd_list hl w rh, sr_lst hl hL⟩
theorem mk_index (hu : X.A.units + 65 < cLine) : MOk X "index" (srM gIndex) :=
  mk_sr F.slot_tuple_index F.slot_list_index rfl rfl (mt_indexT hu) (mt_indexL hu)
    (fun a y H qs p n Q h1 h2 h3 h4 h5 q => by
      simp only [gIndex, Option.map_eq_some_iff] at h5
      obtain ⟨j, h5, rfl⟩ := h5
      exact ⟨a, y, p, qs, j, rfl, rfl, h1, h2, h3, h4, h5, q⟩)
    (fun a y H qs p n Q h1 h2 h3 h4 h5 q => by
      simp only [gIndex, Option.map_eq_some_iff] at h5
      obtain ⟨j, h5, rfl⟩ := h5
      exact ⟨a, y, p, qs, j, rfl, rfl, h1, h2, h3, h4, h5, q⟩)
theorem mk_count (hu : X.A.units + 65 < cLine) : MOk X "count" (srM gCount) :=
  mk_sr F.slot_tuple_count F.slot_list_count rfl rfl (mt_countT hu) (mt_countL hu)
    (fun a y H qs p n Q h1 h2 h3 h4 h5 q => by
      simp only [gCount, Option.some.injEq] at h5
      subst h5
      exact ⟨a, y, p, qs, rfl, rfl, h1, h2, h3, h4, q⟩)
    (fun a y H qs p n Q h1 h2 h3 h4 h5 q => by
      simp only [gCount, Option.some.injEq] at h5
      subst h5
      exact ⟨a, y, p, qs, rfl, rfl, h1, h2, h3, h4, q⟩)
end
end Mp

namespace Mp
open PySem PySem.Spec L2
/-! ### list(range(..)), tuple(range(..)) -/
section
variable {X : Cx} {a b : Expr} {pos : Pos} {fa fb : Stm → Hm → R D}
theorem rangeD_map (a b : Int) : rangeD a b = ((List.range (b - a).toNat).map fun i => a + (i : Nat)).map D.int := by
  unfold rangeD
  rw [List.map_map]
  rfl
/-! loops -/
theorem rgV_ints (i j : Int) : rgV i j = ((List.range (j - i).toNat).map fun k => i + (k : Nat)).map V.int := by
  unfold rgV
  rw [List.map_map]
  rfl
theorem rangeD_ints (i j : Int) : rangeD i j = ((List.range (j - i).toNat).map fun k => i + (k : Nat)).map D.int := rangeD_map i j
theorem rangeV_two {i j : Int} {xs : List D} (e : rangeV [.int i, .int j] = some xs) : xs = rangeD i j ∧ RgOk i j := by
  simp only [rangeV] at e
  split at e
  · rename_i hc
    simp only [okR, Bool.and_eq_true, decide_eq_true_eq] at hc
    cases e
    exact ⟨rfl, hc.1.1.1, hc.1.1.2, hc.1.2.1, hc.1.2.2, by omega⟩
  · cases e
theorem rangeV_one {j : Int} {xs : List D} (e : rangeV [.int j] = some xs) : xs = rangeD 0 j ∧ RgOk 0 j := by
  simp only [rangeV] at e
  split at e
  · rename_i hc
    simp only [okR, Bool.and_eq_true, decide_eq_true_eq] at hc
    cases e
    exact ⟨rfl, by omega, by omega, hc.1.1, hc.1.2, by omega⟩
  · cases e
theorem rangeV_int {ds : List D} {xs : List D} (e : rangeV ds = some xs) : (∃ j, ds = [.int j]) ∨ ∃ i j, ds = [.int i, .int j] := by
  unfold rangeV at e
  split at e
  · exact .inl ⟨_, rfl⟩
  · exact .inr ⟨_, _, rfl⟩
  · cases e
theorem me_listRg1 {p p2 q2 : Pos} (hc : X.calm = true) (hg : Gl X "list") (hm : X.mg "list" = none) (hg2 : Gl X "range") (hm2 : X.mg "range" = none) (ha : PE X a (TEm X.K fa)) (na : starEach [a] X.env = (false, eval a X.env) :: starEach [] X.env) :
    PE X (.Call (.Name "list" p) [.Call (.Name "range" p2) [a] [] q2] [] pos) (TEm X.K fun s h => (fa s h).bind fun d h1 => R.of ((rangeV [d]).map .lst) h1) :=
  (pe_listRg hc hg hm (prg_1 hg2 hm2 ha na) rfl).imp fun σ H Q l hw => by
    obtain ⟨μ, F, s, h, rs, rh, out⟩ := hw l
    refine T.step (G := []) (rel := relE X.K) rs rh out fun d h1 μ1 H1 x G1 e1 w1 rh1 p1 m1 l1 rs1 out1 => ?_
    obtain ⟨z, o, q⟩ := Out.ofV (out1 (fun x H' => LenOk X.K H' → Q x H') fun _ _ q _ => q)
    obtain ⟨xs, e2, rfl⟩ := Option.map_eq_some_iff.mp o
    rcases rangeV_int e2 with ⟨j, e3⟩ | ⟨i, j, e3⟩
    · cases e3
      obtain ⟨rfl, ok⟩ := rangeV_one e2
      obtain ⟨rfl, rfl⟩ := RW.int_of (show RW X.K μ1 H1 [.int j] [x] G1 from w1)
      refine ⟨j, rfl, ok, fun q1 hq l' => ?_⟩
      have := goL (K := X.K) (μ := μ1) (F := F) (G := []) (H := H1) (h := h1) (zs := rangeD 0 j) (vs := rgV 0 j) (Q := fun x H' => LenOk X.K H' → Q x H') (fun H' v G' w rh m l2 => q H' v G' w rh m l2 l2) rh1 (by rw [rgV_ints, rangeD_ints]; exact RDs.ints _) q1 hq
      exact this l'
    · cases e3
theorem me_listRg2 {p p2 q2 : Pos} (hc : X.calm = true) (hg : Gl X "list") (hm : X.mg "list" = none) (hg2 : Gl X "range") (hm2 : X.mg "range" = none) (ha : PE X a (TEm X.K fa)) (hb : PE X b (TEm X.K fb)) (na : starEach [a, b] X.env = (false, eval a X.env) :: starEach [b] X.env) (nb : starEach [b] X.env = (false, eval b X.env) :: starEach [] X.env) :
    PE X (.Call (.Name "list" p) [.Call (.Name "range" p2) [a, b] [] q2] [] pos) (TEm X.K fun s h => (fa s h).bind fun d h1 => (fb s h1).bind fun e h2 => R.of ((rangeV [d, e]).map .lst) h2) :=
  (pe_listRg hc hg hm (prg_2 hg2 hm2 ha hb na nb (by rw [nb]; rfl)) rfl).imp fun σ H Q l hw => by
    obtain ⟨μ, F, s, h, rs, rh, out⟩ := hw l
    refine T.step (G := []) (rel := relE X.K) rs rh out fun d h1 μ1 H1 x G1 e1 w1 rh1 p1 m1 l1 rs1 out1 => ?_
    refine T.step (rel := relE X.K) rs1 rh1 (out1 (fun x H' => LenOk X.K H' → Q x H') fun _ _ q _ => q) fun e h2 μ2 H2 y G2 e2 w2 rh2 p2 m2 l2 rs2 out2 => ?_
    obtain ⟨z, o, q⟩ := Out.ofV (out2 (fun x H' => LenOk X.K H' → Q x H') fun _ _ q => q)
    obtain ⟨xs, e2, rfl⟩ := Option.map_eq_some_iff.mp o
    rcases rangeV_int e2 with ⟨j, e3⟩ | ⟨i, j, e3⟩
    · cases e3
    · cases e3
      obtain ⟨rfl, ok⟩ := rangeV_two e2
      obtain ⟨rfl, rfl⟩ := RW.int_of (show RW X.K μ1 H1 [.int i] [x] G1 from w1)
      obtain ⟨rfl, rfl⟩ := RW.int_of (show RW X.K μ2 H2 [.int j] [y] G2 from w2)
      refine ⟨i, j, rfl, rfl, ok, fun q1 hq l' => ?_⟩
      have := goL (K := X.K) (μ := μ2) (F := F) (G := []) (H := H2) (h := h2) (zs := rangeD i j) (vs := rgV i j) (Q := fun x H' => LenOk X.K H' → Q x H') (fun H' v G' w rh m l2 => q H' v G' w rh m l2 l2) rh2 (by rw [rgV_ints, rangeD_ints]; exact RDs.ints _) q1 hq
      exact this l'
theorem me_tupRg1 {p p2 q2 : Pos} (hc : X.calm = true) (hg : Gl X "tuple") (hm : X.mg "tuple" = none) (hg2 : Gl X "range") (hm2 : X.mg "range" = none) (ha : PE X a (TEm X.K fa)) (na : starEach [a] X.env = (false, eval a X.env) :: starEach [] X.env) :
    PE X (.Call (.Name "tuple" p) [.Call (.Name "range" p2) [a] [] q2] [] pos) (TEm X.K fun s h => (fa s h).bind fun d h1 => R.of ((rangeV [d]).map .tup) h1) :=
  (pe_tupRgF hc hg hm (prg_1 hg2 hm2 ha na) rfl).imp fun σ H Q l hw => by
    obtain ⟨μ, F, s, h, rs, rh, out⟩ := hw l
    refine T.step (G := []) (rel := relE X.K) rs rh out fun d h1 μ1 H1 x G1 e1 w1 rh1 p1 m1 l1 rs1 out1 => ?_
    obtain ⟨z, o, q⟩ := Out.ofV (out1 (fun x H' => LenOk X.K H' → Q x H') fun _ _ q _ => q)
    obtain ⟨xs, e2, rfl⟩ := Option.map_eq_some_iff.mp o
    rcases rangeV_int e2 with ⟨j, e3⟩ | ⟨i, j, e3⟩
    · cases e3
      obtain ⟨rfl, ok⟩ := rangeV_one e2
      obtain ⟨rfl, rfl⟩ := RW.int_of (show RW X.K μ1 H1 [.int j] [x] G1 from w1)
      refine ⟨j, rfl, ok, ?_⟩
      have := goT (K := X.K) (μ := μ1) (F := F) (G := []) (H := H1) (h := h1) (zs := rangeD 0 j) (vs := rgV 0 j) (Q := fun x H' => LenOk X.K H' → Q x H') (fun H' v G' w rh m l2 => q H' v G' w rh m l2 l2) rh1 (by rw [rgV_ints, rangeD_ints]; exact RDs.ints _)
      exact this
    · cases e3
theorem me_tupRg2 {p p2 q2 : Pos} (hc : X.calm = true) (hg : Gl X "tuple") (hm : X.mg "tuple" = none) (hg2 : Gl X "range") (hm2 : X.mg "range" = none) (ha : PE X a (TEm X.K fa)) (hb : PE X b (TEm X.K fb)) (na : starEach [a, b] X.env = (false, eval a X.env) :: starEach [b] X.env) (nb : starEach [b] X.env = (false, eval b X.env) :: starEach [] X.env) :
    PE X (.Call (.Name "tuple" p) [.Call (.Name "range" p2) [a, b] [] q2] [] pos) (TEm X.K fun s h => (fa s h).bind fun d h1 => (fb s h1).bind fun e h2 => R.of ((rangeV [d, e]).map .tup) h2) :=
  (pe_tupRgF hc hg hm (prg_2 hg2 hm2 ha hb na nb (by rw [nb]; rfl)) rfl).imp fun σ H Q l hw => by
    obtain ⟨μ, F, s, h, rs, rh, out⟩ := hw l
    refine T.step (G := []) (rel := relE X.K) rs rh out fun d h1 μ1 H1 x G1 e1 w1 rh1 p1 m1 l1 rs1 out1 => ?_
    refine T.step (rel := relE X.K) rs1 rh1 (out1 (fun x H' => LenOk X.K H' → Q x H') fun _ _ q _ => q) fun e h2 μ2 H2 y G2 e2 w2 rh2 p2 m2 l2 rs2 out2 => ?_
    obtain ⟨z, o, q⟩ := Out.ofV (out2 (fun x H' => LenOk X.K H' → Q x H') fun _ _ q => q)
    obtain ⟨xs, e2, rfl⟩ := Option.map_eq_some_iff.mp o
    rcases rangeV_int e2 with ⟨j, e3⟩ | ⟨i, j, e3⟩
    · cases e3
    · cases e3
      obtain ⟨rfl, ok⟩ := rangeV_two e2
      obtain ⟨rfl, rfl⟩ := RW.int_of (show RW X.K μ1 H1 [.int i] [x] G1 from w1)
      obtain ⟨rfl, rfl⟩ := RW.int_of (show RW X.K μ2 H2 [.int j] [y] G2 from w2)
      refine ⟨i, j, rfl, rfl, ok, ?_⟩
      have := goT (K := X.K) (μ := μ2) (F := F) (G := []) (H := H2) (h := h2) (zs := rangeD i j) (vs := rgV i j) (Q := fun x H' => LenOk X.K H' → Q x H') (fun H' v G' w rh m l2 => q H' v G' w rh m l2 l2) rh2 (by rw [rgV_ints, rangeD_ints]; exact RDs.ints _)
      exact this
end
end Mp

namespace Mp
open PySem PySem.Spec L2
/-! ### enumerate over a tuple -/
/-- the tuple at a, each item in a new pair -/
def IteT (K : PySem.W.Frag) (a : Addr) : It :=
  ⟨fun i H => ∃ (xs : List V) (x : V), SqT K H a xs ∧ xs[i]? = some x, fun i H v H' => ∃ T x, v = .ref T ∧ H T = none ∧ H' = upd H T (.tup [.int (i : Nat), x]) ∧ ∀ xs, SqT K H a xs → xs[i]? = some x, fun i H => ∃ xs : List V, SqT K H a xs ∧ xs.length = i⟩
theorem IsEnum.ne_tuple {h : Heap} {e it l : Addr} {c : Int} {old : Value} {items : Array Value} (he : IsEnum h e it c old) (p : h.IsTuple l items) : e ≠ l := fun z => by
  subst z
  obtain ⟨o, ho, hc, _⟩ := p
  rw [he] at ho
  cases ho
  exact absurd hc (by simp)
theorem turn_enumT {P : Program} {w : World} {K : PySem.W.Frag} {elts : List Expr} {kk : Nat} {tpos : Pos} (a e it : Addr) :
    Turn P w K (.Tuple elts kk tpos) (IteT K a) [e, it] e (fun i h => (∃ old, IsEnum h e it ((i : Nat) : Int) old) ∧ h.IsTupleIter it a i ∧ e ≠ it) where
  mem := by simp
  obj := fun i h st b hb => by
    obtain ⟨⟨old, he⟩, ⟨o, ho, hc, hd⟩, _⟩ := st
    have e' : b = e ∨ b = it := by simpa using hb
    rcases e' with z | z
    · rw [z]; exact ⟨_, he, fun v q => nomatch q⟩
    · rw [z]; exact ⟨o, ho, fun v q => by rw [hd] at q; cases q⟩
  keep := fun i h h' st k => let ⟨⟨old, he⟩, hi, hne⟩ := st; ⟨⟨old, k e (by simp) _ he⟩, hi.at fun o q => k it (by simp) o q, hne⟩
  item := by
    intro X hP hw hK hc i pins s σ H E I hf st hg
    subst hP hw hK
    obtain ⟨⟨old, he⟩, hit, hne⟩ := st
    obtain ⟨xs, x, hq, hx⟩ := hg
    obtain ⟨its, rv, p, hz⟩ := I.tuple hq
    obtain ⟨u, hu, ru⟩ := rv.get hx
    have hel : e < s.heap.objs.size := Heap.lt_size he
    have hil : it < s.heap.objs.size := by obtain ⟨_, q, _⟩ := hit; exact Heap.lt_size q
    have hal : a ≠ it := fun z => by
      subst z
      obtain ⟨o, ho, hc', _⟩ := p
      obtain ⟨o2, ho2, hc2, _⟩ := hit
      rw [ho] at ho2
      cases ho2
      rw [hc'] at hc2
      exact absurd hc2 (by simp)
    have D := Draws.tuple (prog := X.prog) (w := X.w) (A := X.A.in1) (by show X.A.handled = none; exact I.ok.hd hc) it a hal its.toArray
    have hlt : i < its.toArray.size := by
      have := (List.getElem?_eq_some_iff.mp hu).1
      simpa using this
    refine wpAny_pyNext_enum_itemC D he ⟨hit, p⟩ hlt hne (by simp [hne, IsEnum.ne_tuple he p]) fun u' h' tk hu' ho hst hT hsz hk => ?_
    have eu : u' = u := by
      have h1 : its.toArray[i]? = some u := by simpa using hu
      exact Option.some.inj (hu'.symm.trans h1)
    subst eu
    have hit' := hst.1
    refine ⟨_, rfl, wpAny_letOwnedTupleGo_enum (s := { s with heap := h', toks := tk + 1 }) ho fun h'' he' sb => ?_⟩
    have hT2 : h''.get? s.heap.objs.size = some { cls := .type "tuple", data := .seq #[.int i tk, u'] } := (sb.2 _ (Nat.ne_of_gt hel)).trans hT
    have new : ObjOk X.prog X.w (upd H s.heap.objs.size (.tup [.int (i : Nat), x])) h'' s.heap.objs.size (.tup [.int (i : Nat), x]) :=
      ⟨by show 2 ≤ sizeLine; decide, [.int i tk, u'], .cons ⟨_, rfl⟩ (.cons ru .nil), ⟨_, hT2, rfl, _, rfl⟩⟩
    have I1 : Inv X pins σ (upd H s.heap.objs.size (.tup [.int (i : Nat), x])) { s with heap := h'', toks := tk + 1 } :=
      I.turnedNew (ch := [e, it]) (fun b ob hb q => (sb.2 b (fun z => hb (by simp [z]))).trans (hk b ob (fun z => hb (by simp [z])) (fun z => hb (by simp [z])) q)) hf (Nat.le_refl _) new
    refine ⟨.ref s.heap.objs.size, _, I1, rfl, ⟨_, x, rfl, I.hok.fresh (Nat.le_refl _), rfl, fun ys hy => by rw [I.tuple_inj hy hq]; exact hx⟩, ⟨⟨u', ?_⟩, hit'.at fun o q => (sb.2 it (Ne.symm hne)).trans q, hne⟩, fun b hb => ?_⟩
    · have e1 : ((i + 1 : Nat) : Int) = (i : Int) + 1 := by omega
      rw [e1]; exact he'
    · have hb' : b < s.heap.objs.size := by
        have e' : b = e ∨ b = it := by simpa using hb
        rcases e' with z | z
        · rw [z]; exact hel
        · rw [z]; exact hil
      rw [upd_ne (Nat.ne_of_lt hb')]
      exact (hf b hb).1
  done := by
    intro X hP hw hK hc i pins s σ H E I hf st hg
    subst hP hw hK
    obtain ⟨⟨old, he⟩, hit, hne⟩ := st
    obtain ⟨xs, hq, hx⟩ := hg
    obtain ⟨its, rv, p, hz⟩ := I.tuple hq
    obtain ⟨f0, f1, f2, f3, f4, f5⟩ := hf it (by simp)
    have hl := rv.length
    have hal : a ≠ it := fun z => by
      subst z
      obtain ⟨o, ho, hc', _⟩ := p
      obtain ⟨o2, ho2, hc2, _⟩ := hit
      rw [ho] at ho2
      cases ho2
      rw [hc'] at hc2
      exact absurd hc2 (by simp)
    have D := Draws.tuple (prog := X.prog) (w := X.w) (A := X.A.in1) (by show X.A.handled = none; exact I.ok.hd hc) it a hal its.toArray
    have hn : its.toArray.size = i := by simp; omega
    exact wpAny_pyNext_enum_endD D he ⟨by rw [hn]; exact hit, p⟩ fun h' eb => ⟨rfl, I.turned (t' := s.toks) (fun b o hb q => eb b o hb q) f0 f1 f3 f4 f5⟩
  self := fun A i s Q E st h => let ⟨⟨_, he⟩, _⟩ := st; wpAny_pyIter_enum he h
section
open AutoSeq1 (wpAny_loadPart')
set_option maxHeartbeats 1000000 in
theorem meets_enum1 {v : Value} {o : Obj} {HH : Heap → Prop} (B : Begins v o HH) :
    Meets (Builtin.«enumerate.__new__» ⟨[.type "enumerate", v], []⟩) (fun _ R s => HH s.heap ∧
      R (.ok (.ret (.ref (s.heap.push o).objs.size))) { s with heap := (s.heap.push o).push { cls := .type "enumerate", data := .fields #[.none, .bool false, .ref s.heap.objs.size, rawInt 0, .none, .none] } }) :=
  .of_wp fun prog w A R s h => by
    obtain ⟨hp, g, d, tk, os⟩ := s; obtain ⟨h1, h⟩ := h
    have hsub := sub_enumerate
    have q1 : ∀ {A' : Around} {E : Value → Shared → Prop} {Q : Value → Shared → Prop}, Q (.ref hp.objs.size) ⟨hp.push o, g, d, tk, os⟩ → wpAny (model prog w) A' (pyIter v) Q E ⟨hp, g, d, tk, os⟩ :=
      fun q => B.iter prog w _ _ ⟨hp, g, d, tk, os⟩ _ h1 q
    wp_walk using q1
    refine wpAny_stack_any fun st => wpAny_pure ?_
    split
    · rename_i c _ _ _ _ _
      cases (c == Value.type "enumerate")
      · wp_walk using q1
        exact ⟨_, rfl, h⟩
      · wp_walk using q1
        exact ⟨_, rfl, h⟩
    · wp_walk using q1
      exact ⟨_, rfl, h⟩
theorem enum_begins1 {prog : Program} {w : World} {A : Around} {E : Value → Shared → Prop} {s : Shared} {v : Value} {o : Obj} {HH : Heap → Prop} {Q : Value → Shared → Prop} (B : Begins v o HH) (h1 : HH s.heap)
    (h : ∀ h', IsEnum h' (s.heap.objs.size + 1) s.heap.objs.size 0 .none → h'.get? s.heap.objs.size = some o → h'.objs.size = s.heap.objs.size + 2 →
      (∀ b o, s.heap.get? b = some o → h'.get? b = some o) → Q (.ref (s.heap.objs.size + 1)) { s with heap := h' }) :
    wpAny (model prog w) A (call (.type "enumerate") [v]) Q E s := by
  refine callType_new F.called_enumerate (by decide) (F.typeCall_enumerate_1 _) (F.newCall_enumerate_1 _) (fun obj => F.args_object_init_2 obj _) F.entry_enumerate_new
    (meets_enum1 B) ⟨h1, ?_⟩
  have hz : (s.heap.push o).objs.size = s.heap.objs.size + 1 := Heap.size_push ..
  show _ ∧ _
  rw [hz]
  have he : IsEnum ((s.heap.push o).push { cls := .type "enumerate", data := .fields #[.none, .bool false, .ref s.heap.objs.size, rawInt 0, .none, .none] }) (s.heap.objs.size + 1) s.heap.objs.size 0 .none := by
    have := Heap.get?_push_size (s.heap.push o) (o := { cls := .type "enumerate", data := .fields #[.none, .bool false, .ref s.heap.objs.size, rawInt 0, .none, .none] }) rfl
    rw [hz] at this; exact this
  refine ⟨⟨_, he, rfl⟩, h _ he (Heap.get?_push_of_some _ (Heap.get?_push_size _ B.free)) (by rw [Heap.size_push, hz]) fun b o x => Heap.get?_push_of_some _ (Heap.get?_push_of_some _ x)⟩
end
/-- a list or a tuple, numbered -/
def iEnumA (K : PySem.W.Frag) (ta : TA) : TI := fun σ H R => ta σ H fun vs H1 => ∃ a, vs = [.ref a] ∧ ((∃ xs, SqL K H1 a xs ∧ R (Ite K a) H1) ∨ (∃ xs, SqT K H1 a xs ∧ R (IteT K a) H1))
theorem pi_enumA {X : Cx} {e : Expr} {ta : TA} {p pos tpos : Pos} {elts : List Expr} {kk : Nat} (hg : Gl X "enumerate") (hm : X.mg "enumerate" = none) (ha : PA X [e] ta) (hs : starEach [e] X.env = [(false, eval e X.env)]) :
    PI X (.Tuple elts kk tpos) (.Call (.Name "enumerate" p) [e] [] pos) (iEnumA X.K ta) := by
  refine ⟨fun pins s σ H R I h => ?_⟩
  refine PyProof.Rows.Call_ (ld_blt I hg hm PyProof.Rows.boot_enumerate (PyProof.Rows.callWith_type1 (thn (ha.run pos pins s σ H _ I h) fun us s1 ⟨vs, H1, I1, r1, q1⟩ => ?_) hs rfl))
  obtain ⟨a, ex, q1⟩ := q1
  subst ex
  cases r1 with
  | cons r rr =>
    cases rr
    cases r
    have fp : ∀ b ∈ [s1.heap.objs.size + 1, s1.heap.objs.size], FpOk X pins H1 b := fun b hb => by
      have e' : b = s1.heap.objs.size + 1 ∨ b = s1.heap.objs.size := by simpa using hb
      have hle : s1.heap.objs.size ≤ b := by
        rcases e' with z | z
        · rw [z]; exact Nat.le_add_right _ _
        · rw [z]; exact Nat.le_refl _
      exact I1.fpOk hle (I1.hok.fresh hle)
    rcases q1 with ⟨xs, hq, q⟩ | ⟨xs, hq, q⟩
    · obtain ⟨its, rv, p', hz⟩ := I1.list hq
      refine call_enumerate_list p'.isList fun h' he hit hsz hk => wpAny_pyIter_enum he ?_
      have I2 : Inv X pins σ H1 { s1 with heap := h' } := I1.kept (t' := s1.toks) hk
      exact ⟨s1.heap.objs.size + 1, [s1.heap.objs.size + 1, s1.heap.objs.size], _, _, H1, rfl, I2, turn_enum a (s1.heap.objs.size + 1) s1.heap.objs.size, ⟨⟨.none, he⟩, hit, Nat.succ_ne_self _⟩, fp, q⟩
    · obtain ⟨its, rv, p', hz⟩ := I1.tuple hq
      refine enum_begins1 (begins_tuple a its.toArray) p' fun h' he ho hsz hk => wpAny_pyIter_enum he ?_
      have I2 : Inv X pins σ H1 { s1 with heap := h' } := I1.kept (t' := s1.toks) hk
      exact ⟨s1.heap.objs.size + 1, [s1.heap.objs.size + 1, s1.heap.objs.size], _, _, H1, rfl, I2, turn_enumT a (s1.heap.objs.size + 1) s1.heap.objs.size, ⟨⟨.none, he⟩, ⟨_, ho, rfl, rfl⟩, Nat.succ_ne_self _⟩, fp, q⟩
end Mp

namespace Mp
open PySem PySem.Spec L2
section
variable {K : PySem.W.Frag} {μ : List Addr} {F G : Frs} {H : Hp} {h : Hm}
theorem enumD_get : ∀ (xs : List D) (n i : Nat), (enumD n xs)[i]? = (xs[i]?).map fun x => .tup [.int ((n + i : Nat) : Int), x]
  | [], n, i => by simp [enumD]
  | x :: xs, n, 0 => by simp [enumD]
  | x :: xs, n, i + 1 => by
    simp only [enumD, List.getElem?_cons_succ]
    rw [enumD_get xs (n + 1) i, show n + 1 + i = n + (i + 1) by omega]
theorem enumD_length : ∀ (xs : List D) (n : Nat), (enumD n xs).length = xs.length
  | [], n => rfl
  | x :: xs, n => by simp [enumD, enumD_length xs (n + 1)]
/-- a pair that the loop makes -/
theorem pair_new {T : Addr} {i : Nat} {d : D} {x : V} (hT : H T = none) (r : RD K μ H d x) : RI K μ (upd H T (.tup [.int (i : Nat), x])) (.tup [.int (i : Nat), d]) (.ref T) := by
  have m : Mo H (upd H T (.tup [.int (i : Nat), x])) := Mo.new hT
  refine .inr ⟨_, T, [.int (i : Nat), x], rfl, rfl, .inl (.inl upd_same), ?_⟩
  simp only [RDs]
  exact ⟨_, _, rfl, by simp only [RD], _, _, rfl, RD.mono m (List.prefix_refl _) _ _ r, rfl⟩
theorem itOk_enumL {d : D} {x : V} {xs : List D} (l : LenOk K H) (w : RW K μ H [d] [x] G) (rh : RH K μ (G ++ F) H h) (e : asL h d = some xs) : ∃ a, x = .ref a ∧ (∃ vs, SqL K H a vs) ∧ ItOk K true μ H ⟨enumD 0 xs, idep h d⟩ (Ite K a) G := by
  obtain ⟨a, ea, hq, q⟩ := lst_at w rh e
  subst ea
  refine ⟨a, rfl, hq, fun i d' e' μ' F' H' h' rh' p m c => ?_, fun i hi μ' F' H' h' rh' p m c => ?_, ?_⟩
  · obtain ⟨vs, e3, r⟩ := q μ' F' H' h' rh' p m c
    rw [enumD_get, Option.map_eq_some_iff] at e'
    obtain ⟨y, ey, rfl⟩ := e'
    obtain ⟨v, ev, rv⟩ := r.get ey
    refine ⟨⟨vs, v, .of e3, ev⟩, fun x H'' yl => ?_⟩
    obtain ⟨T, x2, rfl, hT, rfl, yl⟩ := yl
    have : x2 = v := Option.some.inj ((yl vs (.of e3)).symm.trans ev)
    subst this
    refine ⟨?_, rh'.new hT, Mo.new hT⟩
    rw [if_pos rfl, Nat.zero_add]
    exact pair_new hT rv
  · obtain ⟨vs, e3, r⟩ := q μ' F' H' h' rh' p m c
    rw [enumD_length] at hi
    exact ⟨vs, .of e3, by rw [← r.length]; exact Nat.le_of_eq hi⟩
  · obtain ⟨a', vs, ea, e3, r⟩ := asL_of w rh e
    have := l.l a' vs (.of e3)
    rw [← r.length, sizeLine_eq] at this
    rw [enumD_length]
    exact this
theorem itOk_enumT {ds : List D} {a : Addr} {vs : List V} (l : LenOk K H) (h1 : TupK K H a vs) (h2 : RDs K μ H ds vs) : ItOk K true μ H ⟨enumD 0 ds, []⟩ (IteT K a) G := by
  refine ⟨fun i d' e' μ' F' H' h' rh' p m c => ?_, fun i hi μ' F' H' h' rh' p m c => ?_, by have := l.t a vs h1.sq; rw [← h2.length, sizeLine_eq] at this; rw [enumD_length]; exact this⟩
  · rw [enumD_get, Option.map_eq_some_iff] at e'
    obtain ⟨y, ey, rfl⟩ := e'
    obtain ⟨v, ev, rv⟩ := (h2.mono m p).get ey
    refine ⟨⟨vs, v, (m.tupK h1).sq, ev⟩, fun x H'' yl => ?_⟩
    obtain ⟨T, x2, rfl, hT, rfl, yl⟩ := yl
    have : x2 = v := Option.some.inj ((yl vs (m.tupK h1).sq).symm.trans ev)
    subst this
    refine ⟨?_, rh'.new hT, Mo.new hT⟩
    rw [if_pos rfl, Nat.zero_add]
    exact pair_new hT rv
  · rw [enumD_length] at hi
    exact ⟨vs, (m.tupK h1).sq, by rw [← h2.length]; exact hi⟩
end
section
variable {X : Cx} {a : Expr} {p pos tpos : Pos} {elts : List Expr} {kk : Nat} {fa : Stm → Hm → R D}
theorem mi_enum (hg : Gl X "enumerate") (hm : X.mg "enumerate" = none) (hs : starEach [a] X.env = [(false, eval a X.env)]) (hs2 : starEach [a] X.env = (false, eval a X.env) :: starEach [] X.env) (ha : PE X a (TEm X.K fa)) :
    PI X (.Tuple elts kk tpos) (.Call (.Name "enumerate" p) [a] [] pos) (TIm X.K true fun s h => (fa s h).bind fun x h1 => (R.of (asQ h1 x) h1).bind fun xs _ => .ok ⟨enumD 0 xs, idep h1 x⟩ h1) :=
  (pi_enumA hg hm (pa_cons ha pa_nil hs2) hs).imp fun σ H Q l hw => by
    obtain ⟨μ, F, s, h, rs, rh, out⟩ := hw l
    refine T.step (G := []) (rel := relE X.K) rs rh out fun d h1 μ1 H1 x G1 e1 w1 rh1 p1 m1 l1 rs1 out1 => ?_
    have q := out1 (fun x H' => LenOk X.K H' → Q x H') fun _ _ q _ => q
    have fin : ∀ (xs : List D) (J : It), asQ h1 d = some xs → ItOk X.K true μ1 H1 ⟨enumD 0 xs, idep h1 d⟩ J G1 → LenOk X.K H1 → Q J H1 := fun xs J e o => by
      rw [e] at q
      exact q μ1 H1 J G1 o rh1 (List.prefix_refl _) (Mo.refl _) l1
    cases eq : asQ h1 d with
    | none => rw [eq] at q; exact q.elim
    | some xs =>
      cases d with
      | tup ds =>
        obtain ⟨rfl, a, vs, rfl, r1, r2⟩ := RW.tup_of w1
        simp only [asQ, Option.some.injEq] at eq
        subst eq
        exact ⟨a, rfl, .inr ⟨vs, r1.sq, fin ds _ rfl (itOk_enumT l1 r1 r2)⟩⟩
      | _ =>
        obtain ⟨a, rfl, ⟨vs, hq⟩, o⟩ := itOk_enumL l1 w1 rh1 (by simpa only [asQ] using eq)
        exact ⟨a, rfl, .inl ⟨vs, hq, fin xs _ eq o⟩⟩
end
end Mp

namespace Mp
open PySem PySem.Spec L2
/-! ### zip of two -/
theorem zip2_get : ∀ (xs ys : List D) (i : Nat) (d : D), (zip2 xs ys)[i]? = some d → ∃ x y, d = .tup [x, y] ∧ xs[i]? = some x ∧ ys[i]? = some y
  | [], _, i, d, h => by simp [zip2] at h
  | _ :: _, [], i, d, h => by simp [zip2] at h
  | x :: xs, y :: ys, 0, d, h => by
    simp only [zip2, List.getElem?_cons_zero, Option.some.injEq] at h
    exact ⟨x, y, h.symm, rfl, rfl⟩
  | x :: xs, y :: ys, i + 1, d, h => by
    simp only [zip2, List.getElem?_cons_succ] at h
    obtain ⟨u, v, e, e1, e2⟩ := zip2_get xs ys i d h
    exact ⟨u, v, e, by simpa using e1, by simpa using e2⟩
theorem zip2_length : ∀ (xs ys : List D), (zip2 xs ys).length = min xs.length ys.length
  | [], ys => by simp [zip2]
  | _ :: _, [] => by simp [zip2]
  | x :: xs, y :: ys => by simp [zip2, zip2_length xs ys]
section
variable {K : PySem.W.Frag} {μ : List Addr} {F G G1 G2 : Frs} {H : Hp} {h : Hm}
theorem pair2_new {T : Addr} {d e : D} {x y : V} (hT : H T = none) (r : RD K μ H d x) (r' : RD K μ H e y) : RI K μ (upd H T (.tup [x, y])) (.tup [d, e]) (.ref T) := by
  have m : Mo H (upd H T (.tup [x, y])) := Mo.new hT
  refine .inr ⟨_, T, [x, y], rfl, rfl, .inl (.inl upd_same), ?_⟩
  simp only [RDs]
  exact ⟨_, _, rfl, RD.mono m (List.prefix_refl _) _ _ r, _, _, rfl, RD.mono m (List.prefix_refl _) _ _ r', rfl⟩
theorem ck_app {xs : List D} {a b : List (Nat × List D)} {h : Hm} (c : (⟨xs, a ++ b⟩ : Itv).ck h = true) (ys zs : List D) : (⟨ys, a⟩ : Itv).ck h = true ∧ (⟨zs, b⟩ : Itv).ck h = true := by
  simpa [Itv.ck, List.all_append] using c
theorem itOk_zipL {d e : D} {x y : V} {xs ys : List D} (l : LenOk K H) (w1 : RW K μ H [d] [x] G1) (w2 : RW K μ H [e] [y] G2) (rh : RH K μ ((G1 ++ G2) ++ F) H h) (e1 : asL h d = some xs) (e2 : asL h e = some ys) :
    ∃ a b, x = .ref a ∧ y = .ref b ∧ (∃ vs, SqL K H a vs) ∧ (∃ vs, SqL K H b vs) ∧ ItOk K true μ H ⟨zip2 xs ys, idep h d ++ idep h e⟩ (Itz K a b) (G1 ++ G2) := by
  have sw : ∀ F' : Frs, (G2 ++ (G1 ++ F')).Perm ((G1 ++ G2) ++ F') := fun F' => by
    rw [← List.append_assoc]; exact (List.perm_append_comm).append_right F'
  have rh1 : RH K μ (G1 ++ (G2 ++ F)) H h := by rw [← List.append_assoc]; exact rh
  have rh2 : RH K μ (G2 ++ (G1 ++ F)) H h := rh.perm (sw F)
  obtain ⟨a, rfl, hq1, q1⟩ := lst_at w1 rh1 e1
  obtain ⟨b, rfl, hq2, q2⟩ := lst_at w2 rh2 e2
  have both : ∀ (μ' : List Addr) (F' : Frs) (H' : Hp) (h' : Hm), RH K μ' ((G1 ++ G2) ++ F') H' h' → μ <+: μ' → Mo H H' → (⟨zip2 xs ys, idep h d ++ idep h e⟩ : Itv).ck h' = true →
      ∃ vs us, H' a = some (.lst vs) ∧ RDs K μ' H' xs vs ∧ H' b = some (.lst us) ∧ RDs K μ' H' ys us := fun μ' F' H' h' rh' p m c => by
    obtain ⟨c1, c2⟩ := ck_app c xs ys
    obtain ⟨vs, f1, r1⟩ := q1 μ' (G2 ++ F') H' h' (by rw [← List.append_assoc]; exact rh') p m c1
    obtain ⟨us, f2, r2⟩ := q2 μ' (G1 ++ F') H' h' (rh'.perm (sw F')) p m c2
    exact ⟨vs, us, f1, r1, f2, r2⟩
  refine ⟨a, b, rfl, rfl, hq1, hq2, fun i d' e' μ' F' H' h' rh' p m c => ?_, fun i hi μ' F' H' h' rh' p m c => ?_, ?_⟩
  · obtain ⟨vs, us, f1, r1, f2, r2⟩ := both μ' F' H' h' rh' p m c
    obtain ⟨u, v, rfl, eu, ev⟩ := zip2_get _ _ _ _ e'
    obtain ⟨x, ex, rx⟩ := r1.get eu
    obtain ⟨y, ey, ry⟩ := r2.get ev
    refine ⟨⟨vs, us, x, y, .of f1, .of f2, ex, ey⟩, fun z H'' yl => ?_⟩
    obtain ⟨T, x2, y2, rfl, hT, rfl, y1, y3⟩ := yl
    have z1 : x2 = x := Option.some.inj ((y1 vs (.of f1)).symm.trans ex)
    have z2 : y2 = y := Option.some.inj ((y3 us (.of f2)).symm.trans ey)
    subst z1 z2
    refine ⟨?_, rh'.new hT, Mo.new hT⟩
    rw [if_pos rfl]
    exact pair2_new hT rx ry
  · obtain ⟨vs, us, f1, r1, f2, r2⟩ := both μ' F' H' h' rh' p m c
    rw [zip2_length] at hi
    refine ⟨vs, us, .of f1, .of f2, ?_⟩
    rw [← r1.length, ← r2.length]
    omega
  · obtain ⟨a', vs, ea, e3, r⟩ := asL_of w1 rh1 e1
    have := l.l a' vs (.of e3)
    rw [← r.length, sizeLine_eq] at this
    rw [zip2_length]
    show min xs.length ys.length ≤ 16777216
    omega
theorem itOk_zipT {ds es : List D} {a b : Addr} {vs us : List V} (l : LenOk K H) (h1 : TupK K H a vs) (h2 : RDs K μ H ds vs) (h3 : TupK K H b us) (h4 : RDs K μ H es us) : ItOk K true μ H ⟨zip2 ds es, []⟩ (RZ.ItzT K a b) G := by
  refine ⟨fun i d' e' μ' F' H' h' rh' p m c => ?_, fun i hi μ' F' H' h' rh' p m c => ?_, by have := l.t a vs h1.sq; rw [← h2.length, sizeLine_eq] at this; rw [zip2_length]; show min ds.length es.length ≤ 16777216; omega⟩
  · obtain ⟨u, v, rfl, eu, ev⟩ := zip2_get _ _ _ _ e'
    obtain ⟨x, ex, rx⟩ := (h2.mono m p).get eu
    obtain ⟨y, ey, ry⟩ := (h4.mono m p).get ev
    refine ⟨⟨vs, us, x, y, (m.tupK h1).sq, (m.tupK h3).sq, ex, ey⟩, fun z H'' yl => ?_⟩
    obtain ⟨T, x2, y2, rfl, hT, rfl, y1, y3⟩ := yl
    have z1 : x2 = x := Option.some.inj ((y1 vs (m.tupK h1).sq).symm.trans ex)
    have z2 : y2 = y := Option.some.inj ((y3 us (m.tupK h3).sq).symm.trans ey)
    subst z1 z2
    refine ⟨?_, rh'.new hT, Mo.new hT⟩
    rw [if_pos rfl]
    exact pair2_new hT rx ry
  · rw [zip2_length] at hi
    refine ⟨vs, us, (m.tupK h1).sq, (m.tupK h3).sq, ?_⟩
    rw [← h2.length, ← h4.length]
    omega
end
section
variable {X : Cx} {a b : Expr} {p pos tpos : Pos} {elts : List Expr} {kk : Nat} {fs : Stm → Hm → R (List D)}
theorem mi_zip (hg : Gl X "zip") (hm : X.mg "zip" = none) (hs : starEach [a, b] X.env = (false, eval a X.env) :: starEach [b] X.env) (hpl : (backTo pos (starEach [b] X.env)).any (·.1) = false) (ha : PA X [a, b] (TAm X.K fs)) (hl : ∀ s h ds h1, fs s h = .ok ds h1 → ds.length = 2) :
    PI X (.Tuple elts kk tpos) (.Call (.Name "zip" p) [a, b] [] pos) (TIm X.K true fun s h => (fs s h).bind fun ds h1 => (R.of (zipV h1 ds) h1).bind fun v h2 => .ok v h2) :=
  (RZ.pi_zipA hg hm ha hs hpl).imp fun σ H Q l hw => by
    obtain ⟨μ, F, s, h, rs, rh, out⟩ := hw l
    refine T.step (G := []) (rel := relA X.K) rs rh out fun ds h1 μ1 H1 xs G1 e1 w1 rh1 p1 m1 l1 rs1 out1 => ?_
    have q := out1 (fun x H' => LenOk X.K H' → Q x H') fun _ _ q _ => q
    have hl1 := hl _ _ _ _ e1
    match ds, hl1, w1, q with
    | [d, e], _, w1, q =>
      cases eq : zipV h1 [d, e] with
      | none => rw [eq] at q; exact q.elim
      | some v =>
        rw [eq] at q
        obtain ⟨x, y, rfl⟩ : ∃ x y, xs = [x, y] := by
          have := w1.length
          match xs, this with
          | [x, y], _ => exact ⟨x, y, rfl⟩
        obtain ⟨G3, G4, rfl, w3, w4⟩ := w1.split
        have fin : ∀ (J : It), ItOk X.K true μ1 H1 v J (G3 ++ G4) → LenOk X.K H1 → Q J H1 := fun J o => q μ1 H1 J _ o rh1 (List.prefix_refl _) (Mo.refl _) l1
        have ls : ∀ {d e : D}, RW X.K μ1 H1 [d] [x] G3 → RW X.K μ1 H1 [e] [y] G4 → zipL h1 d e = some v → ∃ a b xs ys, ([x, y] : List V) = [.ref a, .ref b] ∧ ((SqL X.K H1 a xs ∧ SqL X.K H1 b ys ∧ (LenOk X.K H1 → Q (Itz X.K a b) H1)) ∨ (SqT X.K H1 a xs ∧ SqT X.K H1 b ys ∧ (LenOk X.K H1 → Q (RZ.ItzT X.K a b) H1))) := fun {d e} w3 w4 eq => by
          unfold zipL at eq
          split at eq
          · rename_i xs ys f1 f2
            cases eq
            obtain ⟨a, b, rfl, rfl, ⟨vs, hq1⟩, ⟨us, hq2⟩, o⟩ := itOk_zipL l1 w3 w4 rh1 f1 f2
            exact ⟨a, b, vs, us, rfl, .inl ⟨hq1, hq2, fin _ o⟩⟩
          · cases eq
        cases d with
        | tup ds =>
          cases e with
          | tup es =>
            obtain ⟨rfl, a, vs, rfl, r1, r2⟩ := RW.tup_of w3
            obtain ⟨rfl, b, us, rfl, r3, r4⟩ := RW.tup_of w4
            cases eq
            exact ⟨a, b, vs, us, rfl, .inr ⟨r1.sq, r3.sq, fin _ (itOk_zipT l1 r1 r2 r3 r4)⟩⟩
          | _ => exact ls w3 w4 eq
        | _ => exact ls w3 w4 (by cases e <;> exact eq)
end
end Mp

namespace Mp
open PySem PySem.Spec L2
/-! ### comprehensions with two clauses -/
theorem wipe_wipe (own : List Nat) (σ : L2.St) : L2.wipe (L2.wipe σ own) own = L2.wipe σ own := by
  have key : ∀ (vs ws : List Nat) (σ : L2.St), (∀ w ∈ vs, w ∈ ws) → L2.wipe (L2.wipe σ vs) ws = L2.wipe σ ws := by
    intro vs
    induction vs with
    | nil => intro ws σ _; rfl
    | cons w vs ih =>
      intro ws σ hs
      show L2.wipe ((L2.wipe σ vs).set w none) ws = _
      rw [wipe_set _ w none ws (hs w List.mem_cons_self)]
      exact ih ws σ fun u hu => hs u (List.mem_cons_of_mem _ hu)
  exact key own own σ fun _ h => h
def finL (zs : List D) (h : Hm) : R D := if zs.length ≤ 16777216 then .ok (.lst zs) h else .no
def turn2 (fg : D → Stm → Hm → R Stm) (fc : Stm → Hm → R Bool) (fI1 : Stm → Hm → R Itv) (fg1 : D → Stm → Hm → R Stm) (fc1 : Stm → Hm → R Bool) (fe : Stm → Hm → R D) (own own1 : List Nat) (s : Stm) (x : D) (h2 : Hm) : R (List D) :=
  (fg x (wipeS s own) h2).bind fun s1 h3 => (fc s1 h3).bind fun k h4 => if k then (fI1 s1 h4).bind fun v1 h5 => compL v1.ck (turnC fg1 fc1 fe own1 s1) v1.xs h5 else .ok [] h4
theorem rb_assoc {α β γ : Type} (r : R α) (f : α → Hm → R β) (g : β → Hm → R γ) : (r.bind f).bind g = r.bind fun a h => (f a h).bind g := by cases r <;> rfl
theorem out_up {α β : Type} {K : PySem.W.Frag} {rel : Rel α β} {μ μ1 : List Addr} {F : Frs} {H H1 : Hp} {Q : β → Hp → Prop} {r : R α} (o : Out K rel μ F H Q r) (p : μ <+: μ1) (m : Mo H H1) : Out K rel μ1 F H1 Q r := by
  cases r with
  | ok d h' => exact fun μ' H' x G w rh p' m' l => o μ' H' x G w rh (p.trans p') (m.trans m') l
  | exc _ _ _ => exact o
  | no => exact o
theorem comp2_read {K : PySem.W.Frag} {weak weak1 : Bool} {fI fI1 : Stm → Hm → R Itv} {fg fg1 : D → Stm → Hm → R Stm} {fc fc1 : Stm → Hm → R Bool} {fe : Stm → Hm → R D} {own own1 : List Nat} {σ : L2.St} {H : Hp} {Q : VK} (l : LenOk K H)
    (hw : TEm K (fun s h => (fI s h).bind fun v h1 => (compL2 v.ck (turn2 fg fc fI1 fg1 fc1 fe own own1 s) v.xs h1).bind finL) σ H Q) :
    tLc2 (TIm K weak fI) (TGm K weak (KpW own) fg) (TTm K fc) (TIm K weak1 fI1) (TGm K weak1 (KpW own1) fg1) (TTm K fc1) (TEm K fe) own own1 σ H (fun x H' => LenOk K H' → Q x H') := by
  obtain ⟨μ, F, s, h, rs, rh, out⟩ := hw l
  refine T.step (G := []) (rel := relI K weak) rs rh out fun v h1 μ1 H1 J G e1 o1 rh1 p1 m1 l1 rs1 out1 => ?_
  have q1 := out1 (fun x H' => LenOk K H' → Q x H') fun _ _ q _ => q
  intro Dp hD
  refine ⟨fun i m H => m = v.xs.length - i ∧ i ≤ v.xs.length ∧ ∃ (μ2 : List Addr) (h2 : Hm) (acc : List V) (accD : List D), RS K μ2 H s σ ∧ RH K μ2 ((Dp, .lst acc) :: (G ++ F)) H h2 ∧ μ1 <+: μ2 ∧ Mo H1 H ∧ RDs K μ2 H accD acc ∧
    Out K (relE K) μ2 F H (fun x H' => LenOk K H' → Q x H') ((compL2 v.ck (turn2 fg fc fI1 fg1 fc1 fe own own1 s) (v.xs.drop i) h2).bind fun ys h6 => finL (accD ++ ys) h6), ⟨v.xs.length, by simp, Nat.zero_le _, μ1, h1, [], [], ?_⟩, ?_⟩
  · have mn : Mo H1 (upd H1 Dp (.lst [])) := Mo.new hD
    refine ⟨rs1.mono mn (List.prefix_refl _), rh1.newF hD, List.prefix_refl _, mn, rfl, ?_⟩
    simp only [List.drop_zero, List.nil_append]
    cases e : (compL2 v.ck (turn2 fg fc fI1 fg1 fc1 fe own own1 s) v.xs h1).bind fun ys h6 => finL ys h6 with
    | ok ys h6 =>
      have q1 : Out K (relE K) μ1 F H1 (fun x H' => LenOk K H' → Q x H') ((compL2 v.ck (turn2 fg fc fI1 fg1 fc1 fe own own1 s) v.xs h1).bind fun ys h6 => finL ys h6) := q1
      rw [e] at q1
      exact fun μ' H' x G' w rh' p m l' => q1 μ' H' x G' w rh' p (mn.trans m) l'
    | exc _ _ _ =>
      have q1 : Out K (relE K) μ1 F H1 (fun x H' => LenOk K H' → Q x H') ((compL2 v.ck (turn2 fg fc fI1 fg1 fc1 fe own own1 s) v.xs h1).bind fun ys h6 => finL ys h6) := q1
      rw [e] at q1; exact q1.elim
    | no =>
      have q1 : Out K (relE K) μ1 F H1 (fun x H' => LenOk K H' → Q x H') ((compL2 v.ck (turn2 fg fc fI1 fg1 fc1 fe own own1 s) v.xs h1).bind fun ys h6 => finL ys h6) := q1
      rw [e] at q1; exact q1.elim
  · rintro i m H2 ⟨rfl, hi, μ2, h2, acc, accD, rs2, rh2, p2, m2, ra, out2⟩
    have rhG : RH K μ2 (G ++ ((Dp, .lst acc) :: F)) H2 h2 := rh2.perm (by exact List.perm_middle)
    by_cases hlt : i < v.xs.length
    · have ed : v.xs.drop i = v.xs[i] :: v.xs.drop (i + 1) := List.drop_eq_getElem_cons hlt
      rw [ed] at out2
      simp only [compL2] at out2
      have hck : v.ck h2 = true := by
        cases e : v.ck h2 with
        | true => rfl
        | false => rw [e] at out2; exact out2.elim
      rw [if_pos hck] at out2
      obtain ⟨hgo, hy⟩ := o1.go i v.xs[i] (List.getElem?_eq_getElem hlt) μ2 _ H2 h2 rhG p2 m2 hck
      generalize hNx : (fun H' => ∃ (μ3 : List Addr) (h3 : Hm) (acc : List V) (accD : List D), RS K μ3 H' s σ ∧ RH K μ3 ((Dp, .lst acc) :: (G ++ F)) H' h3 ∧ μ1 <+: μ3 ∧ Mo H1 H' ∧ RDs K μ3 H' accD acc ∧
        Out K (relE K) μ3 F H' (fun x H' => LenOk K H' → Q x H') ((compL2 v.ck (turn2 fg fc fI1 fg1 fc1 fe own own1 s) (v.xs.drop (i + 1)) h3).bind fun ys h6 => finL (accD ++ ys) h6)) = Nx
      refine .inr ⟨hgo, Nx, fun H' z => ?_, fun x H' y => ?_⟩
      · rw [← hNx] at z
        obtain ⟨μ3, h3, acc, accD, z⟩ := z
        exact ⟨v.xs.length - (i + 1), by omega, rfl, hlt, μ3, h3, acc, accD, z⟩
      obtain ⟨rx, rh3, m3⟩ := hy x H' y
      have rh3' : RH K μ2 ((Dp, .lst acc) :: (G ++ F)) H' h2 := rh3.perm (List.perm_middle.symm)
      intro l3
      refine ⟨μ2, (Dp, .lst acc) :: (G ++ F), wipeS s own, h2, v.xs[i], rx, (rs2.mono m3 (List.prefix_refl _)).wipe own, rh3', ?_⟩
      -- the turn
      unfold turn2 at out2
      cases eg : fg v.xs[i] (wipeS s own) h2 with
      | exc _ _ _ => rw [eg] at out2; exact out2.elim
      | no => rw [eg] at out2; exact out2.elim
      | ok s1 h3 =>
        rw [eg] at out2
        intro μ4 H4 σ4 G4 ⟨rs4, eG, k4⟩ rh4 p4 m4 l4
        subst eG
        have rh4 : RH K μ4 ((Dp, .lst acc) :: (G ++ F)) H4 h3 := rh4
        have k4' : L2.wipe σ4 own = L2.wipe (L2.wipe σ own) own := k4
        refine ⟨k4'.trans (wipe_wipe own σ), ?_⟩
        intro _
        refine ⟨μ4, (Dp, .lst acc) :: (G ++ F), s1, h3, rs4, rh4, ?_⟩
        simp only [R.bind_ok] at out2
        cases ec : fc s1 h3 with
        | exc _ _ _ => rw [ec] at out2; exact out2.elim
        | no => rw [ec] at out2; exact out2.elim
        | ok k h4 =>
          rw [ec] at out2
          intro μ5 H5 k' G5 ⟨ek, eG⟩ rh5 p5 m5 l5
          subst ek eG
          have rh5 : RH K μ5 ((Dp, .lst acc) :: (G ++ F)) H5 h4 := rh5
          have mm : Mo H2 H5 := m3.trans (m4.trans m5)
          have pp : μ2 <+: μ5 := p4.trans p5
          simp only [R.bind_ok] at out2
          cases k with
          | false =>
            rw [if_neg Bool.false_ne_true] at out2 ⊢
            simp only [R.bind_ok, rb_assoc, List.nil_append] at out2
            rw [← hNx]
            refine ⟨μ5, h4, acc, accD, rs2.mono mm pp, rh5, p2.trans pp, m2.trans mm, ra.mono mm pp, ?_⟩
            exact out_up out2 pp mm
          | true =>
            rw [if_pos rfl] at out2 ⊢
            simp only [rb_assoc] at out2
            intro _
            refine ⟨μ5, (Dp, .lst acc) :: (G ++ F), s1, h4, rs4.mono m5 p5, rh5, ?_⟩
            cases eI : fI1 s1 h4 with
            | exc _ _ _ => rw [eI] at out2; exact out2.elim
            | no => rw [eI] at out2; exact out2.elim
            | ok v1 h5 =>
              rw [eI] at out2
              simp only [R.bind_ok] at out2
              intro μ6 H6 J1 G1 oj rh6 p6 m6 l6
              have rs6 : RS K μ6 H6 s1 σ4 := (rs4.mono m5 p5).mono m6 p6
              have pp6 : μ2 <+: μ6 := pp.trans p6
              have mm6 : Mo H2 H6 := mm.trans m6
              refine ⟨fun j k H => k = v1.xs.length - j ∧ j ≤ v1.xs.length ∧ ∃ (μ7 : List Addr) (h7 : Hm) (acc : List V) (accD : List D), RH K μ7 ((Dp, .lst acc) :: (G1 ++ (G ++ F))) H h7 ∧ μ6 <+: μ7 ∧ Mo H6 H ∧ RDs K μ7 H accD acc ∧
                Out K (relE K) μ7 F H (fun x H' => LenOk K H' → Q x H') ((compL v1.ck (turnC fg1 fc1 fe own1 s1) (v1.xs.drop j) h7).bind fun ys1 h' => (compL2 v.ck (turn2 fg fc fI1 fg1 fc1 fe own own1 s) (v.xs.drop (i + 1)) h').bind fun ys h6 => finL (accD ++ (ys1 ++ ys)) h6), ⟨v1.xs.length, by simp, Nat.zero_le _, μ6, h5, acc, accD, ?_⟩, ?_⟩
              · refine ⟨rh6.perm List.perm_middle.symm, List.prefix_refl _, Mo.refl _, ra.mono mm6 pp6, ?_⟩
                rw [List.drop_zero]
                exact out_up out2 pp6 mm6
              · rintro j k H7 ⟨rfl, hj, μ7, h7, acc, accD, rh7, p7, m7, ra, out7⟩
                have rh7G : RH K μ7 (G1 ++ ((Dp, .lst acc) :: (G ++ F))) H7 h7 := rh7.perm (by exact List.perm_middle)
                by_cases hjt : j < v1.xs.length
                · have ed1 : v1.xs.drop j = v1.xs[j] :: v1.xs.drop (j + 1) := List.drop_eq_getElem_cons hjt
                  rw [ed1] at out7
                  simp only [compL] at out7
                  have hck1 : v1.ck h7 = true := by
                    cases e : v1.ck h7 with
                    | true => rfl
                    | false => rw [e] at out7; exact out7.elim
                  rw [if_pos hck1] at out7
                  obtain ⟨hgo1, hy1⟩ := oj.go j v1.xs[j] (List.getElem?_eq_getElem hjt) μ7 _ H7 h7 rh7G p7 m7 hck1
                  refine .inr ⟨hgo1, fun H' => ∃ (μ8 : List Addr) (h8 : Hm) (acc : List V) (accD : List D), RH K μ8 ((Dp, .lst acc) :: (G1 ++ (G ++ F))) H' h8 ∧ μ6 <+: μ8 ∧ Mo H6 H' ∧ RDs K μ8 H' accD acc ∧
                    Out K (relE K) μ8 F H' (fun x H' => LenOk K H' → Q x H') ((compL v1.ck (turnC fg1 fc1 fe own1 s1) (v1.xs.drop (j + 1)) h8).bind fun ys1 h' => (compL2 v.ck (turn2 fg fc fI1 fg1 fc1 fe own own1 s) (v.xs.drop (i + 1)) h').bind fun ys h6 => finL (accD ++ (ys1 ++ ys)) h6),
                    fun H' ⟨μ8, h8, acc, accD, z⟩ => ⟨v1.xs.length - (j + 1), by omega, rfl, hjt, μ8, h8, acc, accD, z⟩, fun x H' y => ?_⟩
                  obtain ⟨rx1, rh8, m8⟩ := hy1 x H' y
                  have rh8' : RH K μ7 ((Dp, .lst acc) :: (G1 ++ (G ++ F))) H' h7 := rh8.perm (List.perm_middle.symm)
                  intro l8
                  refine ⟨μ7, (Dp, .lst acc) :: (G1 ++ (G ++ F)), wipeS s1 own1, h7, v1.xs[j], rx1, ((rs6.mono m7 p7).mono m8 (List.prefix_refl _)).wipe own1, rh8', ?_⟩
                  unfold turnC at out7
                  cases eg1 : fg1 v1.xs[j] (wipeS s1 own1) h7 with
                  | exc _ _ _ => rw [eg1] at out7; exact out7.elim
                  | no => rw [eg1] at out7; exact out7.elim
                  | ok s2 h9 =>
                    rw [eg1] at out7
                    intro μ9 H9 σ9 G9 ⟨rs9, eG9, k9⟩ rh9 p9 m9 l9
                    subst eG9
                    have rh9 : RH K μ9 ((Dp, .lst acc) :: (G1 ++ (G ++ F))) H9 h9 := rh9
                    have k9' : L2.wipe σ9 own1 = L2.wipe (L2.wipe σ4 own1) own1 := k9
                    refine ⟨k9'.trans (wipe_wipe own1 σ4), ?_⟩
                    intro _
                    refine ⟨μ9, (Dp, .lst acc) :: (G1 ++ (G ++ F)), s2, h9, rs9, rh9, ?_⟩
                    simp only [R.bind_ok] at out7
                    cases ec1 : fc1 s2 h9 with
                    | exc _ _ _ => rw [ec1] at out7; exact out7.elim
                    | no => rw [ec1] at out7; exact out7.elim
                    | ok kk h10 =>
                      rw [ec1] at out7
                      intro μ10 H10 k' G10 ⟨ek, eG⟩ rh10 p10 m10 l10
                      subst ek eG
                      have rh10 : RH K μ10 ((Dp, .lst acc) :: (G1 ++ (G ++ F))) H10 h10 := rh10
                      have mx : Mo H7 H10 := m8.trans (m9.trans m10)
                      have px : μ7 <+: μ10 := p9.trans p10
                      simp only [R.bind_ok] at out7
                      cases kk with
                      | false =>
                        rw [if_neg Bool.false_ne_true] at out7 ⊢
                        simp only [R.bind_ok, rb_assoc] at out7
                        exact ⟨μ10, h10, acc, accD, rh10, p7.trans px, m7.trans mx, ra.mono mx px, out_up out7 px mx⟩
                      | true =>
                        rw [if_pos rfl] at out7 ⊢
                        intro _
                        refine ⟨μ10, (Dp, .lst acc) :: (G1 ++ (G ++ F)), s2, h10, rs9.mono m10 p10, rh10, ?_⟩
                        cases ee : fe s2 h10 with
                        | exc _ _ _ => rw [ee] at out7; exact out7.elim
                        | no => rw [ee] at out7; exact out7.elim
                        | ok yd h11 =>
                          rw [ee] at out7
                          simp only [R.bind_ok, rb_assoc] at out7
                          intro μ11 H11 y G11 w11 rh11 p11 m11 l11
                          obtain ⟨μ12, p12, rh12, r12⟩ := RW.mats w11 rh11
                          have em : (mats [yd] h11) = ([(mat1 yd h11).1], (mat1 yd h11).2) := rfl
                          rw [em] at rh12 r12
                          simp only at rh12 r12
                          have hAcc : H11 Dp = some (.lst acc) := rh12.frm (Dp, .lst acc) List.mem_cons_self
                          have hlen : acc.length < 16777216 := by
                            rw [← ra.length]
                            cases er : compL v1.ck (turnC fg1 fc1 fe own1 s1) (v1.xs.drop (j + 1)) (mat1 yd h11).2 with
                            | exc _ _ _ => unfold turnC at er; rw [er] at out7; exact out7.elim
                            | no => unfold turnC at er; rw [er] at out7; exact out7.elim
                            | ok ys1 h13 =>
                              unfold turnC at er
                              rw [er] at out7
                              simp only [R.bind_ok] at out7
                              cases er2 : compL2 v.ck (turn2 fg fc fI1 fg1 fc1 fe own own1 s) (v.xs.drop (i + 1)) h13 with
                              | exc _ _ _ => rw [er2] at out7; exact out7.elim
                              | no => rw [er2] at out7; exact out7.elim
                              | ok ys h14 =>
                                rw [er2] at out7
                                simp only [R.bind_ok, finL] at out7
                                split at out7
                                · rename_i hc
                                  simp only [List.length_append, List.length_cons] at hc
                                  omega
                                · exact out7.elim
                          refine ⟨acc, hAcc, by rw [sizeLine_eq]; exact hlen, ?_⟩
                          have ml : Mo H11 (upd H11 Dp (.lst (acc ++ [y]))) := Mo.lst hAcc
                          have mm2 : Mo H7 (upd H11 Dp (.lst (acc ++ [y]))) := mx.trans (m11.trans ml)
                          have pp2 : μ7 <+: μ12 := px.trans (p11.trans p12)
                          refine ⟨μ12, (mat1 yd h11).2, acc ++ [y], accD ++ [(mat1 yd h11).1], rh12.rewrite, p7.trans pp2, m7.trans mm2, (ra.mono mm2 pp2).append (r12.mono ml (List.prefix_refl _)), ?_⟩
                          have o := out_up out7 pp2 mm2
                          simp only [List.append_assoc, List.cons_append, List.nil_append] at o ⊢
                          exact o
                · have he : j = v1.xs.length := by omega
                  subst he
                  rw [List.drop_length] at out7
                  simp only [compL] at out7
                  have hck1 : v1.ck h7 = true := by
                    cases e : v1.ck h7 with
                    | true => rfl
                    | false => rw [e] at out7; exact out7.elim
                  rw [if_pos hck1] at out7
                  simp only [R.bind_ok, List.nil_append] at out7
                  refine .inl ⟨oj.stop _ rfl μ7 _ H7 h7 rh7G p7 m7 hck1, ?_⟩
                  rw [← hNx]
                  have rhW : RH K μ7 ((Dp, .lst acc) :: (G ++ F)) H7 h7 := rh7G.weak
                  exact ⟨μ7, h7, acc, accD, rs2.mono (mm6.trans m7) (pp6.trans p7), rhW, p2.trans (pp6.trans p7), m2.trans (mm6.trans m7), ra, out7⟩
    · have he : i = v.xs.length := by omega
      subst he
      rw [List.drop_length] at out2
      simp only [compL2] at out2
      have hck : v.ck h2 = true := by
        cases e : v.ck h2 with
        | true => rfl
        | false => rw [e] at out2; exact out2.elim
      rw [if_pos hck] at out2
      refine .inl ⟨o1.stop _ rfl μ2 _ H2 h2 rhG p2 m2 hck, fun l' => ?_⟩
      simp only [R.bind_ok, List.append_nil, finL] at out2
      split at out2
      · exact out2 μ2 H2 (.ref Dp) [(Dp, .lst acc)] (.lst ra .nil) rhG.weak (List.prefix_refl _) (Mo.refl _) l' l'
      · exact out2.elim
variable {X : Cx} {elt tg iter tg1 iter1 : Expr} {ifs ifs1 : List Expr} {scope : Scope} {own : List (Str × Nat)} {own1 : List Nat} {weak weak1 : Bool} {fI fI1 : Stm → Hm → R Itv} {fg fg1 : D → Stm → Hm → R Stm} {fc fc1 : Stm → Hm → R Bool} {fe : Stm → Hm → R D} {pos : Pos}
theorem me_comp2 (hc : X.calm = true) (hN : X.N.Nodup) (hi : PI X tg iter (TIm X.K weak fI)) (ok : BlkOk X.N X.env.scope scope own) (hv : ∀ i ∈ own1, i ∈ own.map (·.2))
    (hg : ∀ (s : Shared) (H : Hp) (C : Addr) (cl : List (Str × Addr)) (fp : List Addr), PG (X.blk s H scope (compEnvC scope cl C X.env) fp) tg (TGm X.K weak (KpW (own.map (·.2))) fg)) (ht : ∀ (s : Shared) (H : Hp) (C : Addr) (cl : List (Str × Addr)) (fp : List Addr), PTs (X.blk s H scope (compEnvC scope cl C X.env) fp) ifs (TTm X.K fc))
    (hi1 : ∀ (s : Shared) (H : Hp) (C : Addr) (cl : List (Str × Addr)) (fp : List Addr), PI (X.blk s H scope (compEnvC scope cl C X.env) fp) tg1 iter1 (TIm X.K weak1 fI1))
    (hg1 : ∀ (s : Shared) (H : Hp) (C : Addr) (cl : List (Str × Addr)) (fp : List Addr), PG (X.blk s H scope (compEnvC scope cl C X.env) fp) tg1 (TGm X.K weak1 (KpW own1) fg1)) (ht1 : ∀ (s : Shared) (H : Hp) (C : Addr) (cl : List (Str × Addr)) (fp : List Addr), PTs (X.blk s H scope (compEnvC scope cl C X.env) fp) ifs1 (TTm X.K fc1))
    (he : ∀ (s : Shared) (H : Hp) (C : Addr) (cl : List (Str × Addr)) (fp : List Addr), PE (X.blk s H scope (compEnvC scope cl C X.env) fp) elt (TEm X.K fe)) (hs : ∀ x, foldedSetIterable iter X.env x = pure x) (hs1 : ∀ env x, foldedSetIterable iter1 env x = pure x) :
    PE X (.ListComp elt [⟨tg, iter, ifs, 0⟩, ⟨tg1, iter1, ifs1, 0⟩] scope pos) (TEm X.K fun s h => (fI s h).bind fun v h1 => (compL2 v.ck (turn2 fg fc fI1 fg1 fc1 fe (own.map (·.2)) own1 s) v.xs h1).bind finL) :=
  (pe_lc2 hc hN hi ok hv hg ht hi1 hg1 ht1 he hs hs1).imp fun σ H Q l hw => comp2_read l hw
theorem ms_setComp2 {i : Nat} {y : Str} {py spos : Pos} (hc : X.calm = true) (hN : X.N.Nodup) (hy : X.N[i]? = some y) (hyl : X.env.scope.names.lookup y = some .local)
    (hsw : swapsWith (.ListComp elt [⟨tg, iter, ifs, 0⟩, ⟨tg1, iter1, ifs1, 0⟩] scope pos) (some (.Name y py)) spos.line X.env = pure true) (hi : PI X tg iter (TIm X.K weak fI)) (ok : BlkOk X.N X.env.scope scope own) (hv : ∀ i ∈ own1, i ∈ own.map (·.2))
    (hg : ∀ (s : Shared) (H : Hp) (C : Addr) (cl : List (Str × Addr)) (fp : List Addr), PG (X.blk s H scope (compEnvC scope cl C X.env) fp) tg (TGm X.K weak (KpW (own.map (·.2))) fg)) (ht : ∀ (s : Shared) (H : Hp) (C : Addr) (cl : List (Str × Addr)) (fp : List Addr), PTs (X.blk s H scope (compEnvC scope cl C X.env) fp) ifs (TTm X.K fc))
    (hi1 : ∀ (s : Shared) (H : Hp) (C : Addr) (cl : List (Str × Addr)) (fp : List Addr), PI (X.blk s H scope (compEnvC scope cl C X.env) fp) tg1 iter1 (TIm X.K weak1 fI1))
    (hg1 : ∀ (s : Shared) (H : Hp) (C : Addr) (cl : List (Str × Addr)) (fp : List Addr), PG (X.blk s H scope (compEnvC scope cl C X.env) fp) tg1 (TGm X.K weak1 (KpW own1) fg1)) (ht1 : ∀ (s : Shared) (H : Hp) (C : Addr) (cl : List (Str × Addr)) (fp : List Addr), PTs (X.blk s H scope (compEnvC scope cl C X.env) fp) ifs1 (TTm X.K fc1))
    (he : ∀ (s : Shared) (H : Hp) (C : Addr) (cl : List (Str × Addr)) (fp : List Addr), PE (X.blk s H scope (compEnvC scope cl C X.env) fp) elt (TEm X.K fe)) (hs : ∀ x, foldedSetIterable iter X.env x = pure x) (hs1 : ∀ env x, foldedSetIterable iter1 env x = pure x) :
    PS X (.Assign [.Name y py] (.ListComp elt [⟨tg, iter, ifs, 0⟩, ⟨tg1, iter1, ifs1, 0⟩] scope pos) spos) (TSm X.K fun s h => ((fI s h).bind fun v h1 => (compL2 v.ck (turn2 fg fc fI1 fg1 fc1 fe (own.map (·.2)) own1 s) v.xs h1).bind finL).bind fun d h1 => let p := mat1 d h1; .ok (.nx (s.set i (some p.1))) p.2) :=
  (ps_setLc2 hc hN hy hyl hsw hi ok hv hg ht hi1 hg1 ht1 he hs hs1).imp fun Dn σ H l hw => by
    exact comp2_read (weak := weak) (weak1 := weak1) (Q := fun x H1 => gName i x σ H1 Dn.nx) l (set_read1 hw)
end Mp

namespace Mp
open PySem PySem.Spec L2 PyProof.Rows
/-! ### set(list), set(tuple): ints -/
section
variable {prog : Program} {w : World} {A : Around} {R : Result → Shared → Prop} {I : Addr} {fp wr : List Addr} {G : Array GenState → Array GenState → Prop} {n : Nat} {P : Nat → Value → Prop} {St : Nat → Shared → Prop}
theorem upd_loopR (W : WalksS prog w A.in1 I fp wr G n P St) (S : Addr) (hSf : S ∉ fp) (val : Nat → Int) (hval : ∀ i v, P i v → ∃ t, v = .int (val i) t) (hb : n + 1 < scanBound) :
    ∀ (k i : Nat) (s : Shared), n - i = k → i ≤ n → St i s → SetR w s.heap S (fun k' => (firstMet val i).any (· == k')) (firstMet val i).length →
      (∀ s', Moved (S :: wr) G s s' → SetR w s'.heap S (fun k' => (firstMet val n).any (· == k')) (firstMet val n).length → R (.ok (.ret .none)) s') →
      codeAny (model prog w) A (.builtin "set.update.loop" ⟨[.ref S, .ref I], []⟩) R s := by
  have hSw : S ∉ wr := fun h => hSf (W.sub _ h)
  have hsub : ∀ b ∈ wr, b ∈ S :: wr := fun b hb => List.mem_cons_of_mem _ hb
  intro k
  induction k with
  | zero =>
    intro i s hk hi hst hS hR
    have hin : i = n := by omega
    subst hin
    refine codeAny_builtin F.entry_set_update_loop ?_
    rw [Around.under_plainId F.plain_set_update_loop _]
    show wpAny _ A.in1 (pyNext (.ref I) >>= _) _ _ s
    refine wpAny_bind (W.done s _ _ hst fun s' hm => ?_)
    show wpAny _ A.in1 (ret Value.none) _ _ s'
    exact wpAny_pure (hR s' (hm.mono hsub) (hS.at fun o e => hm.heap S _ hSw e))
  | succ k ih =>
    intro i s hk hi hst hS hR
    have hlt : i < n := by omega
    refine codeAny_builtin F.entry_set_update_loop ?_
    rw [Around.under_plainId F.plain_set_update_loop _]
    show wpAny _ A.in1 (pyNext (.ref I) >>= _) _ _ s
    refine wpAny_bind (W.item i s _ _ hlt hst fun v s' hP hst' hm => ?_)
    obtain ⟨t, rfl⟩ := hval i v hP
    have hS' : SetR w s'.heap S (fun k' => (firstMet val i).any (· == k')) (firstMet val i).length := hS.at fun o e => hm.heap S _ hSw e
    show wpAny _ A.in1 (holding [Value.int (val i) t] (setAdd S (.int (val i) t)) >>= _) _ _ s'
    refine wpAny_bind (wpAny_holding ?_)
    unfold setAdd
    refine wpAny_holding ?_
    refine wpAny_bind ((intKind prog w).pyHash (k := val i) (intKind_is _ _ _ _) ?_)
    have hroom : (firstMet val i).length + 1 < scanBound := by have := firstMet_length_le val i; omega
    refine setR_add_hashed (P := prog) (s := { s' with toks := s'.toks + 1 }) hS' hroom fun h' hsb hS2 => ?_
    have hSi : SetR w h' S (fun k' => (firstMet val (i + 1)).any (· == k')) (firstMet val (i + 1)).length := by
      have e1 : (firstMet val (i + 1)).length = if (firstMet val i).any (· == val i) = true then (firstMet val i).length else (firstMet val i).length + 1 := by rw [firstMet_succ, step_length]
      rw [e1]
      exact hS2.congr fun k' => by rw [firstMet_succ, step_any]
    refine wpAny_pure ⟨plainId_quiet F.plain_set_update_loop _, ih (i + 1) _ (by omega) hlt (W.frame _ s' _ _ hst' (Nat.le_succ _) fun b hb o e => ?_) hSi fun s'' hm'' hS'' => ?_⟩
    · rw [hsb.2 b (fun h : b = S => hSf (by rw [← h]; exact hb))]; exact e
    · refine hR s'' (Moved.trans W.gtrans ((hm.mono hsub).then_heap (Nat.le_succ _) fun b o hb e => ?_) hm'') hS''
      rw [hsb.2 b (fun h : b = S => hb (by rw [h]; exact List.mem_cons_self))]; exact e
end
section
variable {prog : Program} {w : World} {A : Around} {E : Value → Shared → Prop} {s : Shared}
theorem sub_tuple_set : isSubtype (.type "tuple") (.type "set") = pure false := by rw [isSubtype_type]; kernel_rfl
theorem sub_tuple_frozenset : isSubtype (.type "tuple") (.type "frozenset") = pure false := by rw [isSubtype_type]; kernel_rfl
theorem set_newR (a : Value) {Q₁ : Value → Shared → Prop}
    (h : Q₁ (.ref s.heap.objs.size) { s with heap := s.heap.push { cls := .type "set", dict := none, data := .set #[] 0 (.fresh 0 0 (!w.params.followText "set-order")) } }) :
    codeAny (model prog w) A (.call (.builtin "set.__new__") ⟨[.type "set", a], []⟩) (wants Q₁ E) s := by
  refine codeAny_of_tree ?_
  show wpAny _ A.in1 (do checkBuiltinCall "set.__new__" ⟨[.type "set", a], []⟩; again (.builtin "set.__new__" ⟨[.type "set", a], []⟩)) _ _ s
  refine wpAny_bind (wpAny_of_eq (F.newCall_set_1 a) (wpAny_pure ⟨plainId_quiet F.plain_set_new _, codeAny_builtin F.entry_set_new ?_⟩))
  rw [Around.under_plainId F.plain_set_new _]
  unfold Builtin.«set.__new__» Builtin.Frozenset.newClass
  have hsub := sub_set_self
  obtain ⟨hp, g, d, tk, os⟩ := s
  dsimp only
  wp_walk
  refine wpAny_askSetting (wpAny_pure ?_)
  dsimp only
  simp only [newObj]
  refine wpAny_bind (wpAny_alloc (wpAny_pure ?_))
  exact wpAny_pure h
set_option maxRecDepth 100000 in
set_option maxHeartbeats 3200000 in
theorem call_set_listR {l : Addr} {items : Array Value} {ns : List Int} {Q : Value → Shared → Prop}
    (hh : A.handled = none) (hl : s.heap.IsList l items) (hi : PyProof.Rows.IntsAre items.toList ns) (hb : items.size + 1 < scanBound)
    (h : ∀ (h' : Heap) (tk : Nat), SetR w h' s.heap.objs.size (fun k' => (firstMet (fun i => ns.getD i 0) items.size).any (· == k')) (firstMet (fun i => ns.getD i 0) items.size).length →
      (∀ b o, b < s.heap.objs.size → s.heap.get? b = some o → h'.get? b = some o) → Q (.ref s.heap.objs.size) { s with heap := h', toks := tk }) :
    wpAny (model prog w) A (call (.type "set") [.ref l]) Q E s := by
  obtain ⟨c, tl, hmro⟩ := F.called_set.mro
  have hmade := F.called_set.made
  have hsub := F.called_set.sub
  refine wpAny_call (codeAny_of_tree ?_)
  show wpAny _ _ (callAny (.type "set") _) _ _ _
  refine wpAny_pure ⟨Code.quiet_builtin _ (by decide +kernel), codeAny_builtin F.entry_type_call ?_⟩
  rw [Around.under_plain (weight_type_call_type "set" [.ref l] []) rfl]
  have h1 := F.called_set.notType
  have h2 := F.called_set.canCreate
  have hct := F.typeCall_set_1 (.ref l)
  repeat (any_goals (first | assumption | wp_step))
  refine codeAny_mono (set_newR (.ref l) (E := E) (Q₁ := fun obj s₁ => obj = .ref s.heap.objs.size ∧ s₁ = { s with heap := s.heap.push { cls := .type "set", dict := none, data := .set #[] 0 (.fresh 0 0 (!w.params.followText "set-order")) } }) ⟨rfl, rfl⟩) fun r s₁ hr => ?_
  cases r with
  | error e => exact hr
  | ok fl =>
    cases fl with
    | ret obj =>
      obtain ⟨rfl, rfl⟩ := hr
      generalize hled : (!w.params.followText "set-order") = led
      have hS : (s.heap.push { cls := .type "set", dict := none, data := .set #[] 0 (.fresh 0 0 led) }).get? s.heap.objs.size = some { cls := .type "set", dict := none, data := .set #[] 0 (.fresh 0 0 led) } := Heap.get?_push_size _ rfl
      have hT : Shared.TypeIs { s with heap := s.heap.push { cls := .type "set", dict := none, data := .set #[] 0 (.fresh 0 0 led) } } (.ref s.heap.objs.size) "set" := ⟨_, hS, rfl⟩
      have hli := F.called_set.init.lookup
      have hbi := F.called_set.init.bind (.ref s.heap.objs.size)
      repeat (any_goals (first | assumption | wp_step))
      refine codeAny_mono (codeAny_call_builtin (R := wants (fun r s₂ => r = .none ∧ ∃ h' tk, s₂ = { s with heap := h', toks := tk } ∧
          SetR w h' s.heap.objs.size (fun k' => (firstMet (fun i => ns.getD i 0) items.size).any (· == k')) (firstMet (fun i => ns.getD i 0) items.size).length ∧
          (∀ b o, b < s.heap.objs.size → s.heap.get? b = some o → h'.get? b = some o)) E) F.called_set.init.plain F.entry_set_init (check_set_init_1 hT ?_)) fun r₂ s₂ hr₂ => ?_
      · obtain ⟨ol, hol, hcl, nl, hdl⟩ := hl
        obtain ⟨ocls, odict, odata, oslots⟩ := ol
        simp only at hcl hdl
        subst hcl; subst hdl
        have hol' : (s.heap.push { cls := .type "set", dict := none, data := .set #[] 0 (.fresh 0 0 led) }).get? l = some { cls := .type "list", dict := odict, data := .seq items nl, slots := oslots } := Heap.get?_push_of_some _ hol
        have hsls := F.sub_list_set
        have hslf := F.sub_list_frozenset
        have hne : (Value.type "list" == Value.type "dict") = false := by decide
        have hl1 : (s.heap.push { cls := .type "set", dict := none, data := .set #[] 0 (.fresh 0 0 led) }).IsList l items := ⟨_, hol', rfl, nl, rfl⟩
        unfold Builtin.«set.__init__» noKeywords Builtin.Frozenset.updateFrom
        generalize hPI : pyIter = PI
        wp_walk
        subst hPI
        refine wpAny_pyIter_list hl1 ?_
        refine wpAny_bind (wpAny_runValue ?_)
        have hlS : l < s.heap.objs.size := Heap.lt_size hol
        have hh3 : A.in1.in1.in1.handled = none := by simp [hh]
        have hneI : l ≠ (s.heap.push { cls := .type "set", dict := none, data := .set #[] 0 (.fresh 0 0 led) }).objs.size := by
          rw [Heap.size_push]; exact Nat.ne_of_lt (Nat.lt_succ_of_lt hlS)
        have hSf : s.heap.objs.size ∉ [(s.heap.push { cls := .type "set", dict := none, data := .set #[] 0 (.fresh 0 0 led) }).objs.size, l] := by
          rw [Heap.size_push]; simp only [List.mem_cons, List.mem_singleton, List.not_mem_nil, or_false, not_or]
          exact ⟨Nat.ne_of_lt (Nat.lt_succ_self _), Nat.ne_of_gt hlS⟩
        have hval : ∀ (i : Nat) (v : Value), items[i]? = some v → ∃ t, v = .int ((fun i => ns.getD i 0) i) t := fun i v hv =>
          PyProof.Rows.IntsAre.int_at hi i v (by rw [Array.getElem?_toList]; exact hv)
        refine upd_loopR ((Walks.list hh3 _ l hneI items).toS) s.heap.objs.size
          hSf (fun i => ns.getD i 0) hval hb (items.size - 0) 0 _ (by omega) (Nat.zero_le _)
          ⟨⟨_, Heap.get?_push_size _ rfl, rfl, rfl⟩, (hl1.push _)⟩ ?hS0 ?hR
        case hS0 =>
          have r0 := setR_fresh (h := s.heap) w
          rw [hled] at r0
          exact r0.at fun o e => Heap.get?_push_of_some _ e
        case hR =>
          intro s' hm hS'
          obtain ⟨h', g', d', tk', os'⟩ := s'
          have eg : g' = s.gens := hm.gens
          have ed : d' = s.drawn := hm.drawn
          have eo : os' = s.os := hm.os
          subst eg; subst ed; subst eo
          show wpAny _ _ _ _ _ _
          refine wpAny_pure ?_
          show wpAny _ _ (ret Value.none) _ _ _
          refine wpAny_pure ⟨rfl, h', tk', rfl, hS', fun b o hb e => ?_⟩
          have hb1 : b ≠ s.heap.objs.size := Nat.ne_of_lt hb
          have hb2 : b ≠ (s.heap.push { cls := .type "set", dict := none, data := .set #[] 0 (.fresh 0 0 led) }).objs.size := by
            rw [Heap.size_push]; exact Nat.ne_of_lt (Nat.lt_succ_of_lt hb)
          exact hm.heap b o (by simp only [List.mem_cons, List.mem_singleton, List.not_mem_nil, or_false, not_or]; exact ⟨hb1, hb2⟩) (Heap.get?_push_of_some _ (Heap.get?_push_of_some _ e))
      · cases r₂ with
        | error e => exact hr₂
        | ok fl₂ =>
          cases fl₂ with
          | ret r =>
            obtain ⟨rfl, h', tk, rfl, hS', hk'⟩ := hr₂
            repeat (any_goals (first | assumption | wp_step))
            exact h _ _ hS' hk'
          | _ => exact hr₂.elim
    | _ => exact hr.elim
set_option maxRecDepth 100000 in
set_option maxHeartbeats 3200000 in
theorem call_set_tupleR {l : Addr} {items : Array Value} {ns : List Int} {Q : Value → Shared → Prop}
    (hh : A.handled = none) (hl : s.heap.IsTuple l items) (hi : PyProof.Rows.IntsAre items.toList ns) (hb : items.size + 1 < scanBound)
    (h : ∀ (h' : Heap) (tk : Nat), SetR w h' s.heap.objs.size (fun k' => (firstMet (fun i => ns.getD i 0) items.size).any (· == k')) (firstMet (fun i => ns.getD i 0) items.size).length →
      (∀ b o, b < s.heap.objs.size → s.heap.get? b = some o → h'.get? b = some o) → Q (.ref s.heap.objs.size) { s with heap := h', toks := tk }) :
    wpAny (model prog w) A (call (.type "set") [.ref l]) Q E s := by
  obtain ⟨c, tl, hmro⟩ := F.called_set.mro
  have hmade := F.called_set.made
  have hsub := F.called_set.sub
  refine wpAny_call (codeAny_of_tree ?_)
  show wpAny _ _ (callAny (.type "set") _) _ _ _
  refine wpAny_pure ⟨Code.quiet_builtin _ (by decide +kernel), codeAny_builtin F.entry_type_call ?_⟩
  rw [Around.under_plain (weight_type_call_type "set" [.ref l] []) rfl]
  have h1 := F.called_set.notType
  have h2 := F.called_set.canCreate
  have hct := F.typeCall_set_1 (.ref l)
  repeat (any_goals (first | assumption | wp_step))
  refine codeAny_mono (set_newR (.ref l) (E := E) (Q₁ := fun obj s₁ => obj = .ref s.heap.objs.size ∧ s₁ = { s with heap := s.heap.push { cls := .type "set", dict := none, data := .set #[] 0 (.fresh 0 0 (!w.params.followText "set-order")) } }) ⟨rfl, rfl⟩) fun r s₁ hr => ?_
  cases r with
  | error e => exact hr
  | ok fl =>
    cases fl with
    | ret obj =>
      obtain ⟨rfl, rfl⟩ := hr
      generalize hled : (!w.params.followText "set-order") = led
      have hS : (s.heap.push { cls := .type "set", dict := none, data := .set #[] 0 (.fresh 0 0 led) }).get? s.heap.objs.size = some { cls := .type "set", dict := none, data := .set #[] 0 (.fresh 0 0 led) } := Heap.get?_push_size _ rfl
      have hT : Shared.TypeIs { s with heap := s.heap.push { cls := .type "set", dict := none, data := .set #[] 0 (.fresh 0 0 led) } } (.ref s.heap.objs.size) "set" := ⟨_, hS, rfl⟩
      have hli := F.called_set.init.lookup
      have hbi := F.called_set.init.bind (.ref s.heap.objs.size)
      repeat (any_goals (first | assumption | wp_step))
      refine codeAny_mono (codeAny_call_builtin (R := wants (fun r s₂ => r = .none ∧ ∃ h' tk, s₂ = { s with heap := h', toks := tk } ∧
          SetR w h' s.heap.objs.size (fun k' => (firstMet (fun i => ns.getD i 0) items.size).any (· == k')) (firstMet (fun i => ns.getD i 0) items.size).length ∧
          (∀ b o, b < s.heap.objs.size → s.heap.get? b = some o → h'.get? b = some o)) E) F.called_set.init.plain F.entry_set_init (check_set_init_1 hT ?_)) fun r₂ s₂ hr₂ => ?_
      · obtain ⟨ol, hol, hcl, hdl⟩ := hl
        obtain ⟨ocls, odict, odata, oslots⟩ := ol
        simp only at hcl hdl
        subst hcl
        have hol' : (s.heap.push { cls := .type "set", dict := none, data := .set #[] 0 (.fresh 0 0 led) }).get? l = some { cls := .type "tuple", dict := odict, data := odata, slots := oslots } := Heap.get?_push_of_some _ hol
        have hsls := sub_tuple_set
        have hslf := sub_tuple_frozenset
        have hne : (Value.type "tuple" == Value.type "dict") = false := by decide
        have hl1 : (s.heap.push { cls := .type "set", dict := none, data := .set #[] 0 (.fresh 0 0 led) }).IsTuple l items := ⟨_, hol', rfl, hdl⟩
        unfold Builtin.«set.__init__» noKeywords Builtin.Frozenset.updateFrom
        generalize hPI : pyIter = PI
        wp_walk
        subst hPI
        refine wpAny_pyIter_tuple hl1 ?_
        refine wpAny_bind (wpAny_runValue ?_)
        have hlS : l < s.heap.objs.size := Heap.lt_size hol
        have hh3 : A.in1.in1.in1.handled = none := by simp [hh]
        have hneI : l ≠ (s.heap.push { cls := .type "set", dict := none, data := .set #[] 0 (.fresh 0 0 led) }).objs.size := by
          rw [Heap.size_push]; exact Nat.ne_of_lt (Nat.lt_succ_of_lt hlS)
        have hSf : s.heap.objs.size ∉ [(s.heap.push { cls := .type "set", dict := none, data := .set #[] 0 (.fresh 0 0 led) }).objs.size, l] := by
          rw [Heap.size_push]; simp only [List.mem_cons, List.mem_singleton, List.not_mem_nil, or_false, not_or]
          exact ⟨Nat.ne_of_lt (Nat.lt_succ_self _), Nat.ne_of_gt hlS⟩
        have hval : ∀ (i : Nat) (v : Value), items[i]? = some v → ∃ t, v = .int ((fun i => ns.getD i 0) i) t := fun i v hv =>
          PyProof.Rows.IntsAre.int_at hi i v (by rw [Array.getElem?_toList]; exact hv)
        refine upd_loopR ((Walks.tuple hh3 _ l hneI items).toS) s.heap.objs.size
          hSf (fun i => ns.getD i 0) hval hb (items.size - 0) 0 _ (by omega) (Nat.zero_le _)
          ⟨⟨_, Heap.get?_push_size _ rfl, rfl, rfl⟩, (hl1.push _)⟩ ?hS0 ?hR
        case hS0 =>
          have r0 := setR_fresh (h := s.heap) w
          rw [hled] at r0
          exact r0.at fun o e => Heap.get?_push_of_some _ e
        case hR =>
          intro s' hm hS'
          obtain ⟨h', g', d', tk', os'⟩ := s'
          have eg : g' = s.gens := hm.gens
          have ed : d' = s.drawn := hm.drawn
          have eo : os' = s.os := hm.os
          subst eg; subst ed; subst eo
          show wpAny _ _ _ _ _ _
          refine wpAny_pure ?_
          show wpAny _ _ (ret Value.none) _ _ _
          refine wpAny_pure ⟨rfl, h', tk', rfl, hS', fun b o hb e => ?_⟩
          have hb1 : b ≠ s.heap.objs.size := Nat.ne_of_lt hb
          have hb2 : b ≠ (s.heap.push { cls := .type "set", dict := none, data := .set #[] 0 (.fresh 0 0 led) }).objs.size := by
            rw [Heap.size_push]; exact Nat.ne_of_lt (Nat.lt_succ_of_lt hb)
          exact hm.heap b o (by simp only [List.mem_cons, List.mem_singleton, List.not_mem_nil, or_false, not_or]; exact ⟨hb1, hb2⟩) (Heap.get?_push_of_some _ (Heap.get?_push_of_some _ e))
      · cases r₂ with
        | error e => exact hr₂
        | ok fl₂ =>
          cases fl₂ with
          | ret r =>
            obtain ⟨rfl, h', tk, rfl, hS', hk'⟩ := hr₂
            repeat (any_goals (first | assumption | wp_step))
            exact h _ _ hS' hk'
          | _ => exact hr₂.elim
    | _ => exact hr.elim
end
end Mp

namespace Mp
open PySem PySem.Spec L2 PyProof.Rows
/-! ### sorted(set(..)), len(set(..)) of ints -/
theorem firstMet_eq (ns : List Int) : firstMet (fun i => ns.getD i 0) ns.length = dedupI ns := by
  have e : (List.range ns.length).map (fun i => ns.getD i 0) = ns := by
    apply List.ext_getElem?
    intro i
    rw [List.getElem?_map]
    by_cases hi : i < ns.length
    · rw [List.getElem?_range hi, List.getElem?_eq_getElem hi, Option.map_some, List.getD_eq_getElem?_getD, List.getElem?_eq_getElem hi]; rfl
    · rw [List.getElem?_eq_none (by simp; omega), List.getElem?_eq_none (by omega)]; rfl
  unfold firstMet
  rw [e]; rfl
theorem dedup_snoc (ns : List Int) (v : Int) : dedupI (ns ++ [v]) = if (dedupI ns).any (· == v) then dedupI ns else dedupI ns ++ [v] := by
  simp [dedupI, List.foldl_append]
theorem dedup_mem (ns : List Int) : ∀ n, n ≤ ns.length → (∀ k, k ∈ dedupI (ns.take n) ↔ k ∈ ns.take n) ∧ (dedupI (ns.take n)).Nodup
  | 0, _ => by simp [dedupI]
  | n + 1, h => by
    obtain ⟨h1, h2⟩ := dedup_mem ns n (by omega)
    have e : ns.take (n + 1) = ns.take n ++ [ns[n]'(by omega)] := by rw [List.take_add_one, List.getElem?_eq_getElem (by omega)]; rfl
    rw [e, dedup_snoc]
    generalize ns[n]'(by omega) = v
    by_cases hv : (dedupI (ns.take n)).any (· == v) = true
    · rw [if_pos hv]
      have : v ∈ dedupI (ns.take n) := by
        obtain ⟨y, hy, ey⟩ := List.any_eq_true.mp hv
        rw [← eq_of_beq ey]; exact hy
      refine ⟨fun k => ?_, h2⟩
      rw [h1, List.mem_append, List.mem_singleton]
      exact ⟨.inl, fun z => z.elim id fun z => by rw [z]; exact (h1 v).mp this⟩
    · rw [if_neg hv]
      have hn : v ∉ dedupI (ns.take n) := fun z => hv (List.any_eq_true.mpr ⟨v, z, by simp⟩)
      refine ⟨fun k => ?_, ?_⟩
      · rw [List.mem_append, List.mem_append, h1]
      · rw [List.nodup_append]
        exact ⟨h2, by simp, fun a ha b hb e => hn (by simp at hb; subst hb; subst e; exact ha)⟩
theorem mem_dedup (ns : List Int) (k : Int) : k ∈ dedupI ns ↔ k ∈ ns := by
  have := (dedup_mem ns ns.length (Nat.le_refl _)).1 k
  rwa [List.take_length] at this
theorem nodup_dedup (ns : List Int) : (dedupI ns).Nodup := by
  have := (dedup_mem ns ns.length (Nat.le_refl _)).2
  rwa [List.take_length] at this
theorem strict_unique : ∀ {xs ys : List Int}, xs.Pairwise (· < ·) → ys.Pairwise (· < ·) → (∀ k, k ∈ xs ↔ k ∈ ys) → xs = ys
  | [], [], _, _, _ => rfl
  | [], y :: ys, _, _, h => by have := (h y).mpr List.mem_cons_self; simp at this
  | x :: xs, [], _, _, h => by have := (h x).mp List.mem_cons_self; simp at this
  | x :: xs, y :: ys, hx, hy, h => by
    obtain ⟨hx1, hx2⟩ := List.pairwise_cons.mp hx
    obtain ⟨hy1, hy2⟩ := List.pairwise_cons.mp hy
    have e : x = y := by
      rcases List.mem_cons.mp ((h x).mp List.mem_cons_self) with e | m
      · exact e
      · rcases List.mem_cons.mp ((h y).mpr List.mem_cons_self) with e | m2
        · exact e.symm
        · have := hy1 x m
          have := hx1 y m2
          omega
    subst e
    rw [strict_unique hx2 hy2 fun k => ⟨fun m => (List.mem_cons.mp ((h k).mp (List.mem_cons_of_mem _ m))).elim (fun e => by have := hx1 k m; omega) id, fun m => (List.mem_cons.mp ((h k).mpr (List.mem_cons_of_mem _ m))).elim (fun e => by have := hy1 k m; omega) id⟩]
theorem sorted_strict (ns : List Int) : (sortBy leI (dedupI ns)).Pairwise (· < ·) := by
  have h1 : (sortBy leI (dedupI ns)).Pairwise (fun a b => leI a b = true) := sortBy_sorted leI_total _
  have h2 : (sortBy leI (dedupI ns)).Nodup := (sortBy_perm (dedupI ns)).nodup_iff.mpr (nodup_dedup ns)
  exact (List.Pairwise.and h1 h2).imp fun {a b} h => by
    have : a ≤ b := of_decide_eq_true h.1
    have := h.2
    omega
theorem mem_sortSet (ns : List Int) (k : Int) : k ∈ sortBy leI (dedupI ns) ↔ k ∈ ns := ((sortBy_perm (dedupI ns)).mem_iff).trans (mem_dedup ns k)
/-- the set object made, as it lies -/
def tSetOf (K : PySem.W.Frag) (ta : TE) (Q : List Int → Hp → Prop) : L2.St → Hp → Prop := fun σ H => ta σ H fun x H1 => ∃ (l : Addr) (ns : List Int), x = .ref l ∧ (SqL K H1 l (ns.map V.int) ∨ SqT K H1 l (ns.map V.int)) ∧ ns.length ≤ 4000 ∧ Q ns H1
section
variable {X : Cx} {a : Expr} {ta : TE} {p p2 q pos : Pos}
theorem run_setOf (hc : X.calm = true) (hg2 : Gl X "set") (hm2 : X.mg "set" = none) (ha : PE X a ta) (na : starEach [a] X.env = (false, eval a X.env) :: starEach [] X.env) {pins : List (Addr × Obj)} {s : Shared} {σ : L2.St} {H : Hp} {Q : List Int → Hp → Prop} {A : Around} {Qv : Value → Shared → Prop} (I : Inv X pins σ H s)
    (h : tSetOf X.K ta Q σ H)
    (go : ∀ (ns : List Int) (p : Addr) (s1 : Shared) (H1 : Hp), Inv X pins σ H1 s1 → Q ns H1 → SetR X.w s1.heap p (fun k' => (dedupI ns).any (· == k')) (dedupI ns).length → ns.length ≤ 4000 → Qv (.ref p) s1) :
    wpAny (model X.prog X.w) X.A (eval (.Call (.Name "set" p2) [a] [] q) X.env) Qv X.xe s := by
  refine Call_ (ld_blt I hg2 hm2 boot_set ?_)
  refine PyProof.Rows.callWith_type1 (PyProof.Rows.args_cons (thn (ha.run pins s σ H _ I h) fun v s1 ⟨x, H1, I1, r1, q1⟩ => PyProof.Rows.args_nil ?_) na) na rfl
  obtain ⟨l, ns, rfl, hq, hl, q1⟩ := q1
  cases r1
  rcases hq with hq | hq
  · obtain ⟨its, r, pl, hz⟩ := I1.list hq
    have hlen : its.toArray.size = ns.length := by rw [List.size_toArray, ← r.length, List.length_map]
    refine call_set_listR (I1.ok.hd hc) pl.isList (by simpa using RZ.intsAre_vals r) (by rw [hlen]; unfold scanBound; omega) fun h' tk hS hk => ?_
    rw [hlen, firstMet_eq] at hS
    exact go ns _ _ H1 (I1.kept fun b o e => hk b o (Heap.lt_size e) e) q1 hS hl
  · obtain ⟨its, r, pl, hz⟩ := I1.tuple hq
    have hlen : its.toArray.size = ns.length := by rw [List.size_toArray, ← r.length, List.length_map]
    refine call_set_tupleR (I1.ok.hd hc) (show s1.heap.IsTuple l its.toArray from pl) (by simpa using RZ.intsAre_vals r) (by rw [hlen]; unfold scanBound; omega) fun h' tk hS hk => ?_
    rw [hlen, firstMet_eq] at hS
    exact go ns _ _ H1 (I1.kept fun b o e => hk b o (Heap.lt_size e) e) q1 hS hl
def tLenSet (K : PySem.W.Frag) (ta : TE) : TE := fun σ H Q => tSetOf K ta (fun ns H1 => Q (.int ((dedupI ns).length : Nat)) H1) σ H
theorem pe_lenSet (hc : X.calm = true) (hg : Gl X "len") (hm : X.mg "len" = none) (hg2 : Gl X "set") (hm2 : X.mg "set" = none) (ha : PE X a ta) (na : starEach [a] X.env = (false, eval a X.env) :: starEach [] X.env) :
    PE X (.Call (.Name "len" p) [.Call (.Name "set" p2) [a] [] q] [] pos) (tLenSet X.K ta) := by
  refine ⟨fun pins s σ H Q I h => ?_⟩
  refine Call_ (ld_blt I hg hm boot_len ?_)
  refine PyProof.Rows.callWith_builtin1 (PyProof.Rows.args_cons ?_ rfl) rfl rfl
  refine run_setOf (A := X.A) hc hg2 hm2 ha na I h fun ns p s1 H1 I1 q1 hS hl => ?_
  refine PyProof.Rows.args_nil ?_
  obtain ⟨o, es, ep, t, ho, hex, hd, _, _, _, hb, hf, hn, _⟩ := hS
  exact call_len_set ho hex hd hf (by unfold scanBound at hb; omega) ⟨.int (dedupI ns).length, H1, I1.tok _, ⟨_, by rw [hn]⟩, q1⟩
def tSortSet (K : PySem.W.Frag) (ta : TE) : TE := fun σ H Q => tSetOf K ta (fun ns H1 => (dedupI ns).length < 64 ∧ ∀ p, H1 p = none → Q (.ref p) (upd H1 p (.lst ((sortBy leI (dedupI ns)).map V.int)))) σ H
theorem pe_sortSet (hc : X.calm = true) (hg : Gl X "sorted") (hm : X.mg "sorted" = none) (hg2 : Gl X "set") (hm2 : X.mg "set" = none) (ha : PE X a ta) (na : starEach [a] X.env = (false, eval a X.env) :: starEach [] X.env) :
    PE X (.Call (.Name "sorted" p) [.Call (.Name "set" p2) [a] [] q] [] pos) (tSortSet X.K ta) := by
  refine ⟨fun pins s σ H Q I h => ?_⟩
  refine Call_ (ld_blt I hg hm boot_sorted ?_)
  refine PyProof.Rows.callWith_builtin1 (PyProof.Rows.args_cons ?_ rfl) rfl rfl
  refine run_setOf (A := X.A) hc hg2 hm2 ha na I h fun ns p s1 H1 I1 q1 hS hl => ?_
  refine PyProof.Rows.args_nil ?_
  obtain ⟨h64, q1⟩ := q1
  refine sorted_set hS (I1.ok.hd hc) h64 fun s' p out c ns' k g o hp hg hi hs hm hl' => ?_
  have en : ns' = sortBy leI (dedupI ns) := strict_unique hs (sorted_strict ns) fun k => by
    rw [hm, mem_sortSet, ← mem_dedup]
    constructor
    · intro z
      obtain ⟨y, hy, ey⟩ := List.any_eq_true.mp z
      rw [← eq_of_beq ey]; exact hy
    · exact fun z => List.any_eq_true.mpr ⟨k, z, by simp⟩
  have hlen : (ns'.map V.int).length ≤ sizeLine := by rw [List.length_map, hl', sizeLine_eq]; omega
  have hn : H1 p = none := I1.hok.fresh hp
  have J : Inv X pins σ (upd H1 p (.lst (ns'.map V.int))) { s1 with heap := s'.heap, gens := s'.gens, drawn := s'.drawn, toks := s'.toks } :=
    I1.call (ch := []) (Un.laid k hp hn) (I1.hok.laid k hp ⟨hlen, out.toList, c, vals_of_ints hi, hg⟩) (by rw [g]; exact I1.bare) (fun _ z => nomatch z)
  have e : s' = { s1 with heap := s'.heap, gens := s'.gens, drawn := s'.drawn, toks := s'.toks } := by
    cases s'
    cases s1
    cases o
    rfl
  rw [e]
  rw [en] at J
  exact ⟨.ref p, _, J, rfl, q1 p hn⟩
end
section
variable {X : Cx} {a : Expr} {p p2 q pos : Pos} {fa : Stm → Hm → R D}
theorem me_lenSet (hc : X.calm = true) (hg : Gl X "len") (hm : X.mg "len" = none) (hg2 : Gl X "set") (hm2 : X.mg "set" = none) (ha : PE X a (TEm X.K fa)) (na : starEach [a] X.env = (false, eval a X.env) :: starEach [] X.env) :
    PE X (.Call (.Name "len" p) [.Call (.Name "set" p2) [a] [] q] [] pos) (TEm X.K fun s h => (fa s h).bind fun d h1 => R.of (lenSetD h1 d) h1) :=
  (pe_lenSet hc hg hm hg2 hm2 ha na).imp fun σ H Q l hw => by
    obtain ⟨μ, F, s, h, rs, rh, out⟩ := hw l
    refine T.step (G := []) (rel := relE X.K) rs rh out fun d h1 μ1 H1 x G1 e1 w1 rh1 p1 m1 l1 rs1 out1 => ?_
    obtain ⟨z, o, q⟩ := Out.ofV (out1 (fun x H' => LenOk X.K H' → Q x H') fun _ _ q _ => q)
    unfold lenSetD at o
    cases e2 : asQ h1 d with
    | none => rw [e2] at o; cases o
    | some xs =>
      rw [e2] at o
      simp only at o
      cases e3 : allInts xs with
      | none => rw [e3] at o; cases o
      | some ns =>
        rw [e3] at o
        simp only at o
        split at o
        · rename_i hl
          cases o
          obtain ⟨l, vs, rfl, r1, r2⟩ := asQ_sq w1 rh1 e2
          obtain ⟨rfl, rfl⟩ := r2.ints_of e3
          refine ⟨l, ns, rfl, r1, hl, fun l' => ?_⟩
          have := go0 (K := X.K) (μ := μ1) (F := F) (G := G1) (H := H1) (h := h1) (z := .int ((dedupI ns).length : Nat)) (v := .int ((dedupI ns).length : Nat)) (Q := fun x H' => LenOk X.K H' → Q x H') (fun H' v G' w rh m l2 => q H' v G' w rh m l2 l2) rh1 (by simp only [RD])
          exact this l'
        · cases o
theorem me_sortSet (hc : X.calm = true) (hg : Gl X "sorted") (hm : X.mg "sorted" = none) (hg2 : Gl X "set") (hm2 : X.mg "set" = none) (ha : PE X a (TEm X.K fa)) (na : starEach [a] X.env = (false, eval a X.env) :: starEach [] X.env) :
    PE X (.Call (.Name "sorted" p) [.Call (.Name "set" p2) [a] [] q] [] pos) (TEm X.K fun s h => (fa s h).bind fun d h1 => R.of (sortSetD h1 d) h1) :=
  (pe_sortSet hc hg hm hg2 hm2 ha na).imp fun σ H Q l hw => by
    obtain ⟨μ, F, s, h, rs, rh, out⟩ := hw l
    refine T.step (G := []) (rel := relE X.K) rs rh out fun d h1 μ1 H1 x G1 e1 w1 rh1 p1 m1 l1 rs1 out1 => ?_
    obtain ⟨z, o, q⟩ := Out.ofV (out1 (fun x H' => LenOk X.K H' → Q x H') fun _ _ q _ => q)
    unfold sortSetD at o
    cases e2 : asQ h1 d with
    | none => rw [e2] at o; cases o
    | some xs =>
      rw [e2] at o
      simp only at o
      cases e3 : allInts xs with
      | none => rw [e3] at o; cases o
      | some ns =>
        rw [e3] at o
        simp only at o
        split at o
        · rename_i hl
          cases o
          obtain ⟨l, vs, rfl, r1, r2⟩ := asQ_sq w1 rh1 e2
          obtain ⟨rfl, rfl⟩ := r2.ints_of e3
          refine ⟨l, ns, rfl, r1, hl.2, hl.1, fun q1 hq l' => ?_⟩
          have := goL (K := X.K) (μ := μ1) (F := F) (G := G1) (H := H1) (h := h1) (zs := (sortBy leI (dedupI ns)).map .int) (vs := (sortBy leI (dedupI ns)).map V.int) (Q := fun x H' => LenOk X.K H' → Q x H') (fun H' v G' w rh m l2 => q H' v G' w rh m l2 l2) rh1 (RDs.ints (sortBy leI (dedupI ns))) q1 hq
          exact this l'
        · cases o
end
end Mp

namespace Mp
open PySem PySem.Spec L2
/-! ### from the text to the compact text -/
structure Gs where
  fns : List (Str × Nat × Nat)
  cst : List (Str × Nat)
  /-- names of the built-in functions and types that stand as they were -/
  bl : List Str
def isTup : Expr → Bool
  | .Tuple .. => true
  | _ => false
def slot (N : List Str) (x : Str) : Option Nat := N.findIdx? fun y => y == x
def nst : Expr → Bool
  | .Starred .. => false
  | _ => true
def noSlice : Expr → Bool
  | .Slice .. => false
  | _ => true
def noComp : Expr → Bool
  | .ListComp .. => false
  | .SetComp .. => false
  | .DictComp .. => false
  | _ => true
def noSet : Expr → Bool
  | .Set .. => false
  | _ => true
def notSuper : Expr → Bool
  | .Call (.Name ..) [] [] _ => false
  | _ => true
def noTup : Expr → Bool
  | .Tuple .. => false
  | _ => true
/-- the truth is asked of the value -/
def plainT : Expr → Bool
  | .UnaryOp .Not _ _ => false
  | .BoolOp .. => false
  | .IfExp .. => false
  | .Compare .. => false
  | _ => true
def opOf : Operator → Option Bop
  | .Add => some .add
  | .Sub => some .sub
  | .Mult => some .mul
  | .FloorDiv => some .fdiv
  | .Mod => some .mod
  | .Pow => some .pow
  | .LShift => some .shl
  | _ => none
def copOf : CmpOp → Option Cop
  | .Eq => some .eq
  | .NotEq => some .ne
  | .Lt => some .lt
  | .LtE => some .le
  | .Gt => some .gt
  | .GtE => some .ge
  | .Is => some .is
  | .IsNot => some .isn
  | .In => some .inn
  | .NotIn => some .nin
def tyOf (bl : List Str) (sc : Scope) (e : Expr) : Option Ty := match e with
  | .Name x _ => if sc.names.lookup x = some .globalImplicit ∧ x ∈ bl then [(("int" : Str), Ty.int), ("str", .str), ("bool", .bool), ("tuple", .tuple), ("list", .list)].lookup x else none
  | _ => none
def tysOf (bl : List Str) (sc : Scope) : List Expr → Option (List Ty)
  | [] => some []
  | e :: es => (tyOf bl sc e).bind fun t => (tysOf bl sc es).bind fun ts => some (t :: ts)
def bi1 : List (Str × Bi) := [("len", .len), ("tuple", .tuple), ("list", .list), ("sorted", .sorted), ("sum", .sum), ("max", .max), ("min", .min), ("all", .all), ("any", .any), ("int", .int), ("str", .str), ("abs", .abs)]
def bi2 : List (Str × Bi) := [("max", .max2), ("min", .min2)]
def me0 : List (Str × Me) := [("pop", .pop), ("upper", .upper)]
def me1 : List (Str × Me) := [("append", .append), ("pop", .popAt), ("extend", .extend), ("index", .index), ("count", .count)]
def me2 : List (Str × Me) := [("insert", .insert)]
def global (sc : Scope) (x : Str) : Bool := decide (sc.names.lookup x = some .globalImplicit)
def visB (sc : Scope) (x : Str) : Bool := decide (sc.names.lookup x = some .local) || (decide (sc.names.lookup x = some .cell) || decide (sc.names.lookup x = some .free))
def locB (sc : Scope) (x : Str) : Bool := decide (sc.names.lookup x = some .local) || decide (sc.names.lookup x = some .cell)
def dbg (x : Str) : Bool := x == ("__debug__" : Str) || (x == ("__classdict__" : Str) || x == ("__name__" : Str))
/-- the block's own names -/
def ownOf (N : List Str) (scope : Scope) : List (Str × Nat) := scope.names.filterMap fun y => match y.2 with
  | .local => (slot N y.1).map fun i => (y.1, i)
  | .cell => (slot N y.1).map fun i => (y.1, i)
  | _ => none
def fnB (scope : Scope) (x : Str) : Bool := scope.names.lookup x == some .cell
/-- a, b = .. stored from the right: none: it is not told; some none: no; some names: yes -/
def swP (sc : Scope) (targets : List Expr) (value : Expr) : Option (Option (List Str)) := match targets, value with
  | [.Tuple ts _ _], .Tuple vs _ _ =>
    if !(ts.length == 2 || ts.length == 3) || vs.length != ts.length then some none else
    if vs.any (fun | .Starred .. => true | _ => false) then some none else
    let line := (ts.head?.map (·.pos.line)).getD 0
    let names := ts.filterMap fun
      | .Name id pos => if sc.names.lookup id == some .local && pos.line == line then some id else none
      | _ => none
    if names.length != ts.length || names.eraseDups.length != names.length then some none else
    if vs.all (foldedForSure 8) then some none else
    if vs.all (constantsAlone 8) then none else some (some names)
  | [.List _ _], .Tuple _ _ _ => none
  | _, _ => some none
/-- name = [..] on one line -/
def swC (sc : Scope) (x : Str) (pos : Pos) : Expr → Bool
  | .ListComp _ _ scope p => decide (sc.names.lookup x = some .local) && (pos.line == p.line) && !(scope.names.any fun (n, k) => n == x && (k == .local || k == .cell))
  | _ => false
def okB (ok : Option (List Nat)) (i : Nat) : Bool := match ok with
  | none => true
  | some vs => decide (i ∈ vs)
/-- the slots of a target -/
def gSl (N : List Str) : Nat → Expr → List Nat
  | 0, _ => []
  | n + 1, e => match e with
    | .Name x _ => (slot N x).toList
    | .Tuple es _ _ => es.flatMap (gSl N n)
    | _ => []
variable (G : Gs) (N : List Str)
mutual
def cvE : Nat → (Str → Bool) → Scope → Expr → Option E
  | 0, _, _, _ => none
  | n + 1, fn, sc, e => match e with
    | .Constant (.int i) _ _ => some (.int i)
    | .Constant (.bool b) _ _ => some (.bl b)
    | .Constant .none _ _ => some .non
    | .Constant (.str x) _ _ => some (.str x)
    | .Name x _ => if dbg x then none else if visB sc x then (slot N x).map .var else if global sc x then (G.cst.lookup x).map .cst else none
    | .BinOp a o b _ => (opOf o).bind fun o => (cvE n fn sc a).bind fun a => (cvE n fn sc b).bind fun b => some (.op o a b)
    | .UnaryOp .USub a _ => (cvE n fn sc a).bind fun a => some (.neg a)
    | .UnaryOp .Not a _ => (cvE n fn sc a).bind fun a => some (.not a)
    | .BoolOp o es pos => cvB n fn sc o es pos
    | .IfExp c a b _ => (cvT n fn sc c).bind fun c => (cvE n fn sc a).bind fun a => (cvE n fn sc b).bind fun b => some (.ite c a b)
    | .Compare a [o] [b] _ => if behindInMarks o b then none else (copOf o).bind fun o => (cvE n fn sc a).bind fun a => (cvE n fn sc b).bind fun b => some (.cmp o a b)
    | .Compare a [o, p] [b, c] _ => if lastMarks [o, p] [b, c] then none else (copOf o).bind fun o => (copOf p).bind fun p => (cvE n fn sc a).bind fun a => (cvE n fn sc b).bind fun b => (cvE n fn sc c).bind fun c => some (.chain o p a b c)
    | .Tuple es _ _ => (cvEs n fn sc es).bind fun as => if es.length ≤ 1000 then some (.tup as) else none
    | .List es _ => (cvEs n fn sc es).bind fun as => if es.length ≤ 1000 then some (.lst as) else none
    | .Subscript a (.Slice none none (some (.UnaryOp .USub (.Constant (.int 1) _ _) _)) _) _ => (cvE n fn sc a).bind fun a => some (.rev a)
    | .Subscript a (.Slice lo hi none _) _ => (cvE n fn sc a).bind fun a => (cvO n fn sc lo).bind fun lo => (cvO n fn sc hi).bind fun hi => some (.sl a lo hi)
    | .Subscript a b _ => if noSlice b then (cvE n fn sc a).bind fun a => (cvE n fn sc b).bind fun b => some (.ix a b) else none
    | .Call (.Name x _) es [] _ => if dbg x || !global sc x then none else match G.fns.lookup x with
      | some (i, np) => (cvEs n fn sc es).bind fun as => if es.length = np then some (.call i as) else none
      | none => if x ∈ G.bl then cvC n fn sc x es else none
    | .Call (.Attribute o m apos) es [] cpos => if notSuper o && (apos.endLine == cpos.line) then
        ((match es with | [] => me0 | [_] => me1 | [_, _] => me2 | _ => []).lookup m).bind fun m => (cvE n fn sc o).bind fun o => (cvEs n fn sc es).bind fun as => some (.me m o as) else none
    | .ListComp elt [⟨tg, iter, ifs, a⟩] scope _ => if a = 0 then cvL n fn sc elt tg iter ifs scope else none
    | .ListComp elt [⟨tg, iter, ifs, a⟩, ⟨tg1, iter1, ifs1, b⟩] scope _ => if a = 0 ∧ b = 0 then cvM n fn sc elt tg iter ifs tg1 iter1 ifs1 scope else none
    | _ => none
/-- a comprehension -/
def cvL : Nat → (Str → Bool) → Scope → Expr → Expr → Expr → List Expr → Scope → Option E
  | 0, _, _, _, _, _, _, _ => none
  | n + 1, fn, sc, elt, tg, iter, ifs, scope =>
    let own := ownOf N scope
    if blkC N sc scope own && noSet iter then (cvI n fn sc tg iter).bind fun it => (cvG n (some (own.map (·.2))) (fnB scope) (L2.relS scope sc) tg).bind fun tg =>
      (cvF n (fnB scope) (L2.relS scope sc) ifs).bind fun cs => (cvE n (fnB scope) (L2.relS scope sc) elt).bind fun elt => some (.comp elt (own.map (·.2)) tg it cs)
    else none
/-- .. of two clauses -/
def cvM : Nat → (Str → Bool) → Scope → Expr → Expr → Expr → List Expr → Expr → Expr → List Expr → Scope → Option E
  | 0, _, _, _, _, _, _, _, _, _, _ => none
  | n + 1, fn, sc, elt, tg, iter, ifs, tg1, iter1, ifs1, scope =>
    let own := ownOf N scope
    let own1 := gSl N 4 tg1
    if blkC N sc scope own && (noSet iter && (noSet iter1 && own1.all fun i => decide (i ∈ own.map (·.2)))) then (cvI n fn sc tg iter).bind fun it => (cvG n (some (own.map (·.2))) (fnB scope) (L2.relS scope sc) tg).bind fun tg' =>
      (cvF n (fnB scope) (L2.relS scope sc) ifs).bind fun cs => (cvI n (fnB scope) (L2.relS scope sc) tg1 iter1).bind fun it1 => (cvG n (some own1) (fnB scope) (L2.relS scope sc) tg1).bind fun tg1' =>
      (cvF n (fnB scope) (L2.relS scope sc) ifs1).bind fun cs1 => (cvE n (fnB scope) (L2.relS scope sc) elt).bind fun elt => some (.comp2 elt (own.map (·.2)) tg' it cs own1 tg1' it1 cs1)
    else none
def cvF : Nat → (Str → Bool) → Scope → List Expr → Option E
  | 0, _, _, _ => none
  | n + 1, fn, sc, ifs => match ifs with
    | [] => some .nil
    | [c] => (cvT n fn sc c).bind fun c => some (.cons c .nil)
    | _ => none
/-- a call of a built-in function -/
def cvC : Nat → (Str → Bool) → Scope → Str → List Expr → Option E
  | 0, _, _, _, _ => none
  | n + 1, fn, sc, x, es => match es with
    | [.Call (.Name y _) bs [] _] => if y = "range" && (x = "list" || x = "tuple") then
        (if global sc "range" && decide (("range" : Str) ∈ G.bl) then match bs with
          | [b] => (cvE n fn sc b).bind fun b => some (if x = "list" then .listRange (.cons b .nil) else .tupRange (.cons b .nil))
          | [b, c] => (cvE n fn sc b).bind fun b => (cvE n fn sc c).bind fun c => some (if x = "list" then .listRange (.cons b (.cons c .nil)) else .tupRange (.cons b (.cons c .nil)))
          | _ => none
        else none)
      else if y = "set" && (x = "sorted" || x = "len") then
        (if global sc "set" && decide (("set" : Str) ∈ G.bl) then match bs with
          | [b] => (cvE n fn sc b).bind fun b => some (if x = "sorted" then .sortSet b else .lenSet b)
          | _ => none
        else none)
      else (bi1.lookup x).bind fun b => (cvEs n fn sc es).bind fun as => some (.bi b as)
    | [a] => (bi1.lookup x).bind fun b => (cvEs n fn sc [a]).bind fun as => some (.bi b as)
    | [a, .Tuple ts _ _] => if x = "isinstance" then (cvE n fn sc a).bind fun a => (tysOf G.bl sc ts).bind fun ts => if ts.length ≤ 1000 then some (.isi a ts) else none else none
    | [a, b] => if x = "isinstance" then (cvE n fn sc a).bind fun a => (tyOf G.bl sc b).bind fun t => some (.isi a [t]) else
        (bi2.lookup x).bind fun o => (cvEs n fn sc [a, b]).bind fun as => some (.bi o as)
    | _ => none
def cvB : Nat → (Str → Bool) → Scope → BoolOp → List Expr → Pos → Option E
  | 0, _, _, _, _, _ => none
  | n + 1, fn, sc, o, es, pos => match es with
    | [a] => cvE n fn sc a
    | a :: b :: rest => (cvE n fn sc a).bind fun a => (cvB n fn sc o (b :: rest) pos).bind fun r => some (match o with | .And => .and a r | .Or => .or a r)
    | [] => none
def cvEs : Nat → (Str → Bool) → Scope → List Expr → Option E
  | 0, _, _, _ => none
  | n + 1, fn, sc, es => match es with
    | [] => some .nil
    | e :: es => if nst e then (cvE n fn sc e).bind fun a => (cvEs n fn sc es).bind fun as => some (.cons a as) else none
def cvO : Nat → (Str → Bool) → Scope → Option Expr → Option E
  | 0, _, _, _ => none
  | n + 1, fn, sc, e => match e with
    | none => some .nil
    | some e => (cvE n fn sc e).bind fun a => some (.cons a .nil)
def cvT : Nat → (Str → Bool) → Scope → Expr → Option E
  | 0, _, _, _ => none
  | n + 1, fn, sc, e => match e with
    | .UnaryOp .Not a _ => (cvT n fn sc a).bind fun a => some (.not a)
    | .BoolOp o es pos => cvTB n fn sc o es pos
    | .Compare a [o] [b] _ => if behindInMarks o b then none else (copOf o).bind fun o => (cvE n fn sc a).bind fun a => (cvE n fn sc b).bind fun b => some (.cmp o a b)
    | .Compare a [o, p] [b, c] _ => if lastMarks [o, p] [b, c] then none else (copOf o).bind fun o => (copOf p).bind fun p => (cvE n fn sc a).bind fun a => (cvE n fn sc b).bind fun b => (cvE n fn sc c).bind fun c => some (.cons (.chain o p a b c) .nil)
    | e => if plainT e then (cvE n fn sc e).bind fun a => some (.cons a .nil) else none
def cvTB : Nat → (Str → Bool) → Scope → BoolOp → List Expr → Pos → Option E
  | 0, _, _, _, _, _ => none
  | n + 1, fn, sc, o, es, pos => match es with
    | [a] => cvT n fn sc a
    | a :: b :: rest => (cvT n fn sc a).bind fun a => (cvTB n fn sc o (b :: rest) pos).bind fun r => some (match o with | .And => .and a r | .Or => .or a r)
    | [] => none
/-- what is walked; the target says whether tuples of the loop's own may come -/
def cvI : Nat → (Str → Bool) → Scope → Expr → Expr → Option E
  | 0, _, _, _, _ => none
  | n + 1, fn, sc, tg, e => match e with
    | .Call (.Name x _) es [] _ => if x = "enumerate" then
        (if global sc "enumerate" && decide (("enumerate" : Str) ∈ G.bl) && isTup tg then match es with
          | [a] => if nst a then (cvE n fn sc a).bind fun a => some (.enum a) else none
          | _ => none
        else none)
      else if x = "zip" then
        (if global sc "zip" && decide (("zip" : Str) ∈ G.bl) && isTup tg && decide (es.length = 2) then (cvEs n fn sc es).bind fun as => some (.zip as) else none)
      else if x = "range" then
        (if global sc "range" && decide (("range" : Str) ∈ G.bl) then match es with
          | [.Call (.Name y _) [a] [] _] => if y = "len" && global sc "len" && decide (("len" : Str) ∈ G.bl) && nst a then (cvE n fn sc a).bind fun a => some (.rangeLen a) else (cvEs n fn sc es).bind fun as => some (.range as)
          | [_] => (cvEs n fn sc es).bind fun as => some (.range as)
          | [_, _] => (cvEs n fn sc es).bind fun as => some (.range as)
          | _ => none
        else none)
      else (cvE n fn sc e).bind fun a => some (.cons a .nil)
    | e => (cvE n fn sc e).bind fun a => some (.cons a .nil)
/-- targets; ok: the slots that may be written -/
def cvG : Nat → Option (List Nat) → (Str → Bool) → Scope → Expr → Option E
  | 0, _, _, _, _ => none
  | n + 1, ok, fn, sc, e => match e with
    | .Name x _ => if locB sc x && (fn x || decide (sc.names.lookup x = some .local)) then (slot N x).bind fun i => if okB ok i then some (.nm i) else none else none
    | .Tuple es _ _ => (cvGs n ok fn sc es).bind fun ts => some (.tp ts)
    | .Subscript a b _ => if noSlice b then (cvE n fn sc a).bind fun a => (cvE n fn sc b).bind fun b => some (.ix a b) else none
    | _ => none
def cvGs : Nat → Option (List Nat) → (Str → Bool) → Scope → List Expr → Option E
  | 0, _, _, _, _ => none
  | n + 1, ok, fn, sc, es => match es with
    | [] => some .nil
    | e :: es => if nst e then (cvG n ok fn sc e).bind fun t => (cvGs n ok fn sc es).bind fun ts => some (.cons t ts) else none
end
end Mp

namespace Mp
open PySem PySem.Spec L2
/-! ### tables of the operators and of the built-in functions -/
section
variable {X : Cx}
theorem opOf_op {o : Operator} {b : Bop} (h : opOf o = some b) : o = b.op := by
  cases o <;> simp only [opOf, Option.some.injEq, reduceCtorEq] at h <;> subst h <;> rfl
theorem bop_all (b : Bop) : ∃ r : R2, OpR X (binaryOp b.op) r ∧ V2 X.K r (fun h x y => bop h b x y) := by
  cases b with
  | add => exact ⟨_, o_add, v_add⟩
  | sub => exact ⟨_, op_sub, v_sub⟩
  | mul => exact ⟨_, o_mul, v_mul⟩
  | fdiv => exact ⟨_, op_fdivW, v_fdiv⟩
  | mod => exact ⟨_, op_mod, v_mod⟩
  | pow => exact ⟨_, op_pow, v_pow⟩
  | shl => exact ⟨_, op_shl, v_shl⟩
def Cop.op : Cop → CmpOp
  | .lt => .Lt
  | .le => .LtE
  | .gt => .Gt
  | .ge => .GtE
  | .eq => .Eq
  | .ne => .NotEq
  | .is => .Is
  | .isn => .IsNot
  | .inn => .In
  | .nin => .NotIn
theorem copOf_op {o : CmpOp} {b : Cop} (h : copOf o = some b) : o = b.op := by
  cases o <;> simp only [copOf, Option.some.injEq, reduceCtorEq] at h <;> subst h <;> rfl
theorem cop_all (hu : X.A.units + 100 < cLine) (b : Cop) : ∃ r : R2, OpR X (compareOp b.op) r ∧ V2b X.K r (fun h x y => cop h b x y) := by
  cases b with
  | lt => exact ⟨_, o_lt (by omega), v_lt⟩
  | le => exact ⟨_, op_le, v_le⟩
  | gt => exact ⟨_, op_gt, v_gt⟩
  | ge => exact ⟨_, op_ge, v_ge⟩
  | eq => exact ⟨_, o_eq (by omega), v_eq⟩
  | ne => exact ⟨_, o_ne (by omega), v_ne⟩
  | is => exact ⟨_, o_is, v_is⟩
  | isn => exact ⟨_, o_isn, v_isn⟩
  | inn => exact ⟨_, o_in (by omega), v_in⟩
  | nin => exact ⟨_, o_nin (by omega), v_nin⟩
/-- a built-in function or a type, called -/
structure BiOk (X : Cx) (x : Str) (b : Bi) : Prop where
  ex : ∃ f : Value, bootBuiltins x = some f ∧ ((∃ id, f = .builtin id) ∨ ∃ id, f = .type id) ∧ ∃ r, CallR X f r ∧ VN X.K r (fun h ds => bi h b ds)
theorem VN.cg {K : PySem.W.Frag} {r : List V → Hp → VK → Prop} {g g' : Hm → List D → Option D} (h : VN K r g) (e : ∀ hm ds z, g' hm ds = some z → g hm ds = some z) : VN K r g' :=
  fun μ F G H hm ds xs z Q w rh l o q => h μ F G H hm ds xs z Q w rh l (e hm ds z o) q
theorem bi_len : BiOk X "len" .len := ⟨_, PySem.boot_len, .inl ⟨_, rfl⟩, _, c_len, v_len.cg fun hm ds z e => by
  match ds, e with
  | [d], e => exact e⟩
theorem bi_tuple : BiOk X "tuple" .tuple := ⟨_, PyProof.Rows.boot_tuple, .inr ⟨_, rfl⟩, _, call_tupleF, v_tuple.cg fun hm ds z e => by
  match ds, e with
  | [d], e => exact e⟩
theorem bi_list : BiOk X "list" .list := ⟨_, PyProof.Rows.boot_list, .inr ⟨_, rfl⟩, _, call_list_of, v_list.cg fun hm ds z e => by
  match ds, e with
  | [d], e => exact e⟩
theorem bi_sorted (hu : X.A.units + 100 < cLine) : BiOk X "sorted" .sorted := ⟨_, PyProof.Rows.boot_sorted, .inl ⟨_, rfl⟩, _, cr_sortedQ (by omega), v_sorted.cg fun hm ds z e => by
  match ds, e with
  | [d], e => exact e⟩
theorem bi_sum (hc : X.calm = true) : BiOk X "sum" .sum := ⟨_, PyProof.Rows.boot_sum, .inl ⟨_, rfl⟩, _, cr_sumQ hc, v_sum.cg fun hm ds z e => by
  match ds, e with
  | [d], e => exact e⟩
theorem bi_max (hc : X.calm = true) (hu : X.A.units + 100 < cLine) : BiOk X "max" .max := ⟨_, PyProof.Rows.boot_max, .inl ⟨_, rfl⟩, _, cr_maxQ hc (by omega), v_max.cg fun hm ds z e => by
  match ds, e with
  | [d], e => exact e⟩
theorem bi_min (hc : X.calm = true) (hu : X.A.units + 100 < cLine) : BiOk X "min" .min := ⟨_, PyProof.Rows.boot_min, .inl ⟨_, rfl⟩, _, cr_minA hc (by omega), v_min.cg fun hm ds z e => by
  match ds, e with
  | [d], e => exact e⟩
theorem bi_all (hc : X.calm = true) : BiOk X "all" .all := ⟨_, PyProof.Rows.boot_all, .inl ⟨_, rfl⟩, _, cr_all hc, v_all.cg fun hm ds z e => by
  match ds, e with
  | [d], e => exact e⟩
theorem bi_any (hc : X.calm = true) : BiOk X "any" .any := ⟨_, PyProof.Rows.boot_any, .inl ⟨_, rfl⟩, _, cr_any hc, v_any.cg fun hm ds z e => by
  match ds, e with
  | [d], e => exact e⟩
theorem bi_int : BiOk X "int" .int := ⟨_, PyProof.Rows.boot_int, .inr ⟨_, rfl⟩, _, call_int1, v_int.cg fun hm ds z e => by
  match ds, e with
  | [d], e => exact e⟩
theorem bi_str : BiOk X "str" .str := ⟨_, PyProof.Rows.boot_str, .inr ⟨_, rfl⟩, _, call_str_int, v_str.cg fun hm ds z e => by
  match ds, e with
  | [d], e => exact e⟩
theorem bi_abs : BiOk X "abs" .abs := ⟨_, PyProof.Rows.boot_abs, .inl ⟨_, rfl⟩, _, call_abs, v_abs.cg fun hm ds z e => by
  match ds, e with
  | [d], e => exact e⟩
theorem bi_max2 (hc : X.calm = true) : BiOk X "max" .max2 := ⟨_, PyProof.Rows.boot_max, .inl ⟨_, rfl⟩, _, call_max2 hc, (v_two fun i j => if j > i then j else i).cg fun hm ds z e => by
  unfold bi at e
  split at e <;> first | exact e | (exfalso; simp_all) | skip
  all_goals simp_all [two]⟩
theorem bi_min2 (hc : X.calm = true) : BiOk X "min" .min2 := ⟨_, PyProof.Rows.boot_min, .inl ⟨_, rfl⟩, _, call_min2 hc, (v_two fun i j => if j < i then j else i).cg fun hm ds z e => by
  unfold bi at e
  split at e <;> first | exact e | (exfalso; simp_all) | skip
  all_goals simp_all [two]⟩
theorem bi1_ok (hc : X.calm = true) (hu : X.A.units + 100 < cLine) {x : Str} {b : Bi} (h : bi1.lookup x = some b) : BiOk X x b := by
  have h := PySem.mem_of_lookup h
  simp only [bi1, List.mem_cons, Prod.mk.injEq, List.not_mem_nil, or_false] at h
  rcases h with ⟨rfl, rfl⟩ | ⟨rfl, rfl⟩ | ⟨rfl, rfl⟩ | ⟨rfl, rfl⟩ | ⟨rfl, rfl⟩ | ⟨rfl, rfl⟩ | ⟨rfl, rfl⟩ | ⟨rfl, rfl⟩ | ⟨rfl, rfl⟩ | ⟨rfl, rfl⟩ | ⟨rfl, rfl⟩ | ⟨rfl, rfl⟩
  · exact bi_len
  · exact bi_tuple
  · exact bi_list
  · exact bi_sorted hu
  · exact bi_sum hc
  · exact bi_max hc hu
  · exact bi_min hc hu
  · exact bi_all hc
  · exact bi_any hc
  · exact bi_int
  · exact bi_str
  · exact bi_abs
theorem bi2_ok (hc : X.calm = true) {x : Str} {b : Bi} (h : bi2.lookup x = some b) : BiOk X x b := by
  have h := PySem.mem_of_lookup h
  simp only [bi2, List.mem_cons, Prod.mk.injEq, List.not_mem_nil, or_false] at h
  rcases h with ⟨rfl, rfl⟩ | ⟨rfl, rfl⟩
  · exact bi_max2 hc
  · exact bi_min2 hc
theorem me_ok (hu : X.A.units + 100 < cLine) {m : Str} {b : Me} (h : me0.lookup m = some b ∨ me1.lookup m = some b ∨ me2.lookup m = some b) : MOk X m (fun h d ds => meth h b d ds) := by
  have h := h.imp PySem.mem_of_lookup (fun h => h.imp PySem.mem_of_lookup PySem.mem_of_lookup)
  simp only [me0, me1, me2, List.mem_cons, Prod.mk.injEq, List.not_mem_nil, or_false, or_assoc] at h
  rcases h with ⟨rfl, rfl⟩ | ⟨rfl, rfl⟩ | ⟨rfl, rfl⟩ | ⟨rfl, rfl⟩ | ⟨rfl, rfl⟩ | ⟨rfl, rfl⟩ | ⟨rfl, rfl⟩ | ⟨rfl, rfl⟩
  · exact mk_pop0
  · exact mk_upper
  · exact mk_append
  · exact mk_popAt
  · exact mk_extend
  · exact mk_index (by omega)
  · exact mk_count (by omega)
  · exact mk_insert
end
end Mp

namespace Mp
open PySem PySem.Spec L2
/-! ### the conversion is sound -/
def cfg (P : Prog) (k : Nat) : Cfg := ⟨callF P k, P.cst, P.wf⟩
structure Wx (G : Gs) (N : List Str) (P : Prog) (k : Nat) (fn : Str → Bool) (sc : Scope) (X : Cx) : Prop where
  sc : X.env.scope = sc
  kind : X.env.scope.kind = .function
  n : X.N = N
  nd : N.Nodup
  calm : X.calm = true
  fn : ∀ x, fn x = true → X.fn x = true
  xe : X.xe = fun _ _ => False
  room : Room k X.A
  fns : ∀ x i np, G.fns.lookup x = some (i, np) → ∃ f fd ps, FnOk X.prog X.w X.K X.mg X.base CX0 k f fd ps (spM X.K np (callF P k i)) ∧ X.mg x = some (.ref f) ∧ PySem.W.keepIn X.K (.ref f) = true ∧ Binds X.K fd ps []
  cst : ∀ x i, G.cst.lookup x = some i → ∃ d v u, P.cst[i]? = some d ∧ X.mg x = some u ∧ RelV v u ∧ ∀ μ H, RD X.K μ H d v
  blt : ∀ x ∈ G.bl, X.mg x = none
section
variable {G : Gs} {N : List Str} {P : Prog} {k : Nat} {fn : Str → Bool} {sc : Scope} {X : Cx}
theorem Wx.units (W : Wx G N P k fn sc X) : X.A.units + 100 < cLine := by have := W.room.un; omega
theorem Wx.gl (W : Wx G N P k fn sc X) {x : Str} (h : global sc x = true) : Gl X x := by
  unfold global at h
  show X.env.scope.names.lookup x = _
  rw [W.sc]
  exact of_decide_eq_true h
theorem slot_get {x : Str} {i : Nat} (h : slot N x = some i) : N[i]? = some x := by
  unfold slot at h
  obtain ⟨hi, e, _⟩ := List.findIdx?_eq_some_iff_getElem.mp h
  rw [List.getElem?_eq_getElem hi]
  exact congrArg some (by simpa using e)
theorem Wx.vis (W : Wx G N P k fn sc X) {x : Str} (h : visB sc x = true) : Vis X.env.scope x := by
  rw [W.sc]
  simpa [visB, Vis] using h
theorem Wx.loc (W : Wx G N P k fn sc X) {x : Str} (h : locB sc x = true) : L2.Loc X.env.scope x := by
  rw [W.sc]
  simpa [locB, L2.Loc] using h
/-- in a comprehension's block -/
theorem Wx.blk (W : Wx G N P k fn sc X) {scope : Scope} {own : List (Str × Nat)} (hb : blkC N sc scope own = true) (s : Shared) (H : Hp) (C : Addr) (cl : List (Str × Addr)) (fp : List Addr) :
    Wx G N P k (fnB scope) (L2.relS scope sc) (X.blk s H scope (compEnvC scope cl C X.env) fp) := by
  have hs := W.sc
  subst hs
  exact ⟨rfl, (blkOk_by hb).kind, W.n, W.nd, W.calm, fun x h => h, rfl, W.room, W.fns, W.cst, W.blt⟩
/-! arguments -/
theorem star_cons {e : Expr} (h : nst e = true) (es : List Expr) (env : Env) : starEach (e :: es) env = (false, eval e env) :: starEach es env := by
  cases e <;> first | rfl | cases h
theorem star_map : ∀ {es : List Expr}, (∀ e ∈ es, nst e = true) → ∀ env : Env, starEach es env = es.map fun e => (false, eval e env)
  | [], _, _ => rfl
  | e :: es, h, env => by
    rw [star_cons (h e List.mem_cons_self), star_map (fun e he => h e (List.mem_cons_of_mem _ he))]
    rfl
theorem back_plain {es : List Expr} (h : ∀ e ∈ es, nst e = true) (pos : Pos) (env : Env) : (backTo pos (starEach es env)).any (·.1) = false := by
  rw [star_map h]
  unfold backTo
  rw [List.map_map, List.any_map]
  rw [List.any_eq_false]
  intro e _
  simp
theorem few_plain {e : Expr} {es : List Expr} (h : ∀ x ∈ e :: es, nst x = true) (hl : es.length ≤ 5) (pos : Pos) (env : Env) :
    ((backTo pos (starEach (e :: es) env)).all (fun x => !x.1) && (backToKw pos (keywordEach [] env)).all (fun x => x.1.isSome) && decide ((e :: es).length + ([] : List Keyword).length + (if ([] : List Keyword).isEmpty then 0 else 1) < 30)) = true := by
  rw [star_map h]
  have h1 : (backTo pos ((e :: es).map fun e => (false, eval e env))).all (fun x => !x.1) = true := by
    unfold backTo
    rw [List.map_map, List.all_map, List.all_eq_true]
    intro x _
    simp
  rw [h1]
  have h2 : (backToKw pos (keywordEach [] env)).all (fun x => x.1.isSome) = true := rfl
  rw [h2]
  simp only [Bool.true_and, decide_eq_true_eq, List.length_cons, List.length_nil, List.isEmpty_nil, if_true]
  omega
theorem cvEs_star : ∀ {n : Nat} {es : List Expr} {e' : E}, cvEs G N n fn sc es = some e' → ∀ e ∈ es, nst e = true
  | 0, _, _, h => by simp [cvEs] at h
  | n + 1, [], _, h => by simp
  | n + 1, e :: es, _, h => by
    simp only [cvEs] at h
    split at h
    · rename_i hn
      simp only [Option.bind_eq_some_iff] at h
      obtain ⟨a, _, as, h2, _⟩ := h
      intro x hx
      rcases List.mem_cons.mp hx with rfl | hx
      · exact hn
      · exact cvEs_star h2 x hx
    · cases h
theorem cvEs_len {C : Cfg} : ∀ {n : Nat} {es : List Expr} {e' : E}, cvEs G N n fn sc es = some e' → ∀ s h ds h1, evs C e' s h = .ok ds h1 → ds.length = es.length
  | 0, _, _, h => by simp [cvEs] at h
  | n + 1, [], e', h => by
    simp only [cvEs, Option.some.injEq] at h
    subst h
    intro s h ds h1 e
    simp only [evs] at e
    cases e
    rfl
  | n + 1, e :: es, e', h => by
    simp only [cvEs] at h
    split at h
    · simp only [Option.bind_eq_some_iff] at h
      obtain ⟨a, _, as, h2, h3⟩ := h
      simp only [Option.some.injEq] at h3
      subst h3
      intro s h ds h1 e
      simp only [evs] at e
      cases e1 : ev C a s h with
      | ok d h3 =>
        rw [e1, R.bind_ok] at e
        cases e2 : evs C as s h3 with
        | ok ds' h4 =>
          rw [e2, R.bind_ok] at e
          cases e
          rw [List.length_cons, List.length_cons, cvEs_len h2 _ _ _ _ e2]
        | exc _ _ _ => rw [e2] at e; cases e
        | no => rw [e2] at e; cases e
      | exc _ _ _ => rw [e1] at e; cases e
      | no => rw [e1] at e; cases e
    · cases h
theorem _root_.L2.PE.cg {e : Expr} {f g : Stm → Hm → R D} {K : PySem.W.Frag} (h : PE X e (TEm K f)) (hf : ∀ s h, g s h = f s h) : PE X e (TEm K g) := by
  have : g = f := funext fun s => funext fun h => hf s h
  rw [this]; exact h
theorem _root_.L2.PT.cg {e : Expr} {f g : Stm → Hm → R Bool} {K : PySem.W.Frag} (h : PT X e (TTm K f)) (hf : ∀ s h, g s h = f s h) : PT X e (TTm K g) := by
  have : g = f := funext fun s => funext fun h => hf s h
  rw [this]; exact h
theorem _root_.L2.PW.cg {e : Expr} {f g : Stm → Hm → R Bool} {K : PySem.W.Frag} (h : PW X e (TTm K f)) (hf : ∀ s h, g s h = f s h) : PW X e (TTm K g) := by
  have : g = f := funext fun s => funext fun h => hf s h
  rw [this]; exact h
theorem _root_.L2.PTs.cg {e : List Expr} {f g : Stm → Hm → R Bool} {K : PySem.W.Frag} (h : PTs X e (TTm K f)) (hf : ∀ s h, g s h = f s h) : PTs X e (TTm K g) := by
  have : g = f := funext fun s => funext fun h => hf s h
  rw [this]; exact h
theorem _root_.L2.PA.cg {e : List Expr} {f g : Stm → Hm → R (List D)} {K : PySem.W.Frag} (h : PA X e (TAm K f)) (hf : ∀ s h, g s h = f s h) : PA X e (TAm K g) := by
  have : g = f := funext fun s => funext fun h => hf s h
  rw [this]; exact h
theorem _root_.L2.PO.cg {e : Option Expr} {f g : Stm → Hm → R (Option Int)} {K : PySem.W.Frag} (h : PO X e (TOm K f)) (hf : ∀ s h, g s h = f s h) : PO X e (TOm K g) := by
  have : g = f := funext fun s => funext fun h => hf s h
  rw [this]; exact h
theorem _root_.L2.PI.cg {tg e : Expr} {w : Bool} {f g : Stm → Hm → R Itv} {K : PySem.W.Frag} (h : PI X tg e (TIm K w f)) (hf : ∀ s h, g s h = f s h) : PI X tg e (TIm K w g) := by
  have : g = f := funext fun s => funext fun h => hf s h
  rw [this]; exact h
theorem _root_.L2.PG.cg {e : Expr} {w : Bool} {Kp : L2.St → L2.St → Prop} {f g : D → Stm → Hm → R Stm} {K : PySem.W.Frag} (h : PG X e (TGm K w Kp f)) (hf : ∀ d s h, g d s h = f d s h) : PG X e (TGm K w Kp g) := by
  have : g = f := funext fun d => funext fun s => funext fun h => hf d s h
  rw [this]; exact h
theorem _root_.L2.PGs.cg {e : List Expr} {Kp : L2.St → L2.St → Prop} {f g : List D → Stm → Hm → R Stm} {K : PySem.W.Frag} (h : PGs X e (TGsm K Kp f)) (hf : ∀ d s h, g d s h = f d s h) : PGs X e (TGsm K Kp g) := by
  have : g = f := funext fun d => funext fun s => funext fun h => hf d s h
  rw [this]; exact h
theorem _root_.L2.PS.cg {e : Stmt} {f g : Stm → Hm → R Fl} {K : PySem.W.Frag} (h : PS X e (TSm K f)) (hf : ∀ s h, g s h = f s h) : PS X e (TSm K g) := by
  have : g = f := funext fun s => funext fun h => hf s h
  rw [this]; exact h
theorem _root_.L2.PSs.cg {e : List Stmt} {f g : Stm → Hm → R Fl} {K : PySem.W.Frag} (h : PSs X e (TSm K f)) (hf : ∀ s h, g s h = f s h) : PSs X e (TSm K g) := by
  have : g = f := funext fun s => funext fun h => hf s h
  rw [this]; exact h
/-! side looks at the text -/
theorem plainIx {b : Expr} (h : noSlice b = true) : PlainIx b := fun o i => by
  cases b <;> first | rfl | cases h
theorem plain_true {e : Expr} (h : plainT e = true) (env : Env) (whole : Sem Value) : isTrue e env whole = (do let v ← whole; standAt e.pos; holding [v] (truthy v)) := by
  cases e with
  | UnaryOp o a p => cases o <;> first | rfl | cases h
  | _ => first | rfl | cases h
theorem not_super {o : Expr} (h : notSuper o = true) (attr : Str) (env : Env) (whole : Sem Value) : attributeBase o attr env whole = whole := by
  cases o with
  | Call f as ks p =>
    cases f with
    | Name x q =>
      cases as with
      | nil =>
        cases ks with
        | nil => cases h
        | cons _ _ => rfl
      | cons _ _ => rfl
    | _ => rfl
  | _ => rfl
theorem fold_set {e : Expr} (h : noSet e = true) (env : Env) (x : Value) : foldedSetIterable e env x = pure x := by
  cases e <;> first | rfl | cases h
theorem swaps_no {e : Expr} (h : noComp e = true) (t : Option Expr) (l : Nat) (env : Env) : swapsWith e t l env = pure false := by
  cases e <;> first | rfl | cases h
theorem dbg_no {x : Str} (h : ¬ dbg x = true) : (x == ("__debug__" : Str)) = false ∧ (x == ("__classdict__" : Str)) = false ∧ x ≠ "__name__" := by
  simp only [dbg, Bool.or_eq_true, not_or] at h
  obtain ⟨h1, h2, h3⟩ := h
  exact ⟨by simpa using h1, by simpa using h2, by simpa using h3⟩
theorem assign_cons {e : Expr} (h : nst e = true) (es : List Expr) (env : Env) : assignEach (e :: es) env = (false, assign e env) :: assignEach es env := by
  cases e <;> first | rfl | cases h
theorem assign_len : ∀ (es : List Expr) (env : Env), (assignEach es env).length = es.length
  | [], _ => rfl
  | e :: es, env => by
    have := assign_len es env
    cases e <;> simp [assignEach, this]
theorem assign_nst : ∀ {es : List Expr}, (∀ e ∈ es, nst e = true) → ∀ env : Env, (assignEach es env).findIdx? (·.1) = none
  | [], _, _ => rfl
  | e :: es, h, env => by
    rw [assign_cons (h e List.mem_cons_self), List.findIdx?_cons]
    simp [assign_nst (fun e he => h e (List.mem_cons_of_mem _ he)) env]
theorem assign_sub {o i : Expr} {pos : Pos} (h : noSlice i = true) (env : Env) : ∀ v, assign (.Subscript o i pos) env v = (do
      let ov ← holding [v] (eval o env)
      let iv ← holding [v, ov] (eval i env)
      standAt pos
      holding [v, ov, iv] (setItem ov iv v)
      release [v, ov, iv] []) := fun v => by
  cases i <;> first | rfl | cases h
theorem aug_store {i : Expr} (h : noSlice i = true) (ov iv new : Value) : augStore i ov iv new = (do holding [new, ov, iv] (setItem ov iv new); release [new, ov, iv] []; pure .next) := by
  cases i <;> first | rfl | cases h
end
end Mp

namespace Mp
open PySem PySem.Spec L2
abbrev okI (ok : Option (List Nat)) (i : Nat) : Prop := okB ok i = true
section
variable (G : Gs) (N : List Str) (P : Prog) (k : Nat)
structure Snd (n : Nat) : Prop where
  e : ∀ (fn : Str → Bool) (sc : Scope) (X : Cx) (e : Expr) (e' : E), Wx G N P k fn sc X → cvE G N n fn sc e = some e' → PE X e (TEm X.K (ev (cfg P k) e'))
  l : ∀ (fn : Str → Bool) (sc : Scope) (X : Cx) (elt tg iter : Expr) (ifs : List Expr) (scope : Scope) (pos : Pos) (e' : E), Wx G N P k fn sc X → cvL G N n fn sc elt tg iter ifs scope = some e' → PE X (.ListComp elt [⟨tg, iter, ifs, 0⟩] scope pos) (TEm X.K (ev (cfg P k) e'))
  m : ∀ (fn : Str → Bool) (sc : Scope) (X : Cx) (elt tg iter : Expr) (ifs : List Expr) (tg1 iter1 : Expr) (ifs1 : List Expr) (scope : Scope) (pos : Pos) (e' : E), Wx G N P k fn sc X → cvM G N n fn sc elt tg iter ifs tg1 iter1 ifs1 scope = some e' → PE X (.ListComp elt [⟨tg, iter, ifs, 0⟩, ⟨tg1, iter1, ifs1, 0⟩] scope pos) (TEm X.K (ev (cfg P k) e'))
  f : ∀ (fn : Str → Bool) (sc : Scope) (X : Cx) (ifs : List Expr) (e' : E), Wx G N P k fn sc X → cvF G N n fn sc ifs = some e' → PTs X ifs (TTm X.K (evC (cfg P k) e'))
  c : ∀ (fn : Str → Bool) (sc : Scope) (X : Cx) (x : Str) (es : List Expr) (p pos : Pos) (e' : E), Wx G N P k fn sc X → global sc x = true → x ∈ G.bl → ¬ dbg x = true → cvC G N n fn sc x es = some e' → PE X (.Call (.Name x p) es [] pos) (TEm X.K (ev (cfg P k) e'))
  b : ∀ (fn : Str → Bool) (sc : Scope) (X : Cx) (o : BoolOp) (es : List Expr) (pos : Pos) (e' : E), Wx G N P k fn sc X → cvB G N n fn sc o es pos = some e' → PE X (.BoolOp o es pos) (TEm X.K (ev (cfg P k) e'))
  es : ∀ (fn : Str → Bool) (sc : Scope) (X : Cx) (es : List Expr) (e' : E), Wx G N P k fn sc X → cvEs G N n fn sc es = some e' → PA X es (TAm X.K (evs (cfg P k) e'))
  o : ∀ (fn : Str → Bool) (sc : Scope) (X : Cx) (e : Option Expr) (e' : E), Wx G N P k fn sc X → cvO G N n fn sc e = some e' → PO X e (TOm X.K (evO (cfg P k) e'))
  t : ∀ (fn : Str → Bool) (sc : Scope) (X : Cx) (e : Expr) (e' : E), Wx G N P k fn sc X → cvT G N n fn sc e = some e' → PT X e (TTm X.K (evT (cfg P k) e'))
  tb : ∀ (fn : Str → Bool) (sc : Scope) (X : Cx) (o : BoolOp) (es : List Expr) (pos : Pos) (e' : E), Wx G N P k fn sc X → cvTB G N n fn sc o es pos = some e' → PW X (.BoolOp o es pos) (TTm X.K (evT (cfg P k) e'))
  i : ∀ (fn : Str → Bool) (sc : Scope) (X : Cx) (tg e : Expr) (e' : E), Wx G N P k fn sc X → cvI G N n fn sc tg e = some e' → PI X tg e (TIm X.K (isTup tg) (evI (cfg P k) e'))
  g : ∀ (ok : Option (List Nat)) (fn : Str → Bool) (sc : Scope) (X : Cx) (Kp : L2.St → L2.St → Prop) (e : Expr) (e' : E), Wx G N P k fn sc X → KpOk Kp → (∀ i σ v, okI ok i → Kp σ (σ.set i (some v))) → cvG G N n ok fn sc e = some e' → PG X e (TGm X.K (isTup e) Kp (asg (cfg P k) e'))
  gs : ∀ (ok : Option (List Nat)) (fn : Str → Bool) (sc : Scope) (X : Cx) (Kp : L2.St → L2.St → Prop) (es : List Expr) (e' : E), Wx G N P k fn sc X → KpOk Kp → (∀ i σ v, okI ok i → Kp σ (σ.set i (some v))) → cvGs G N n ok fn sc es = some e' → PGs X es (TGsm X.K Kp (asgs (cfg P k) e'))
end
section
variable {G : Gs} {N : List Str} {P : Prog} {k n : Nat}
theorem call_step (S : Snd G N P k n) {fn : Str → Bool} {sc : Scope} {X : Cx} {x : Str} {es : List Expr} {p pos : Pos} {i np : Nat} {as : E} (W : Wx G N P k fn sc X) (hd : ¬ dbg x = true) (hg : global sc x = true) (hf : G.fns.lookup x = some (i, np))
    (h : cvEs G N n fn sc es = some as) (hl : es.length = np) : PE X (.Call (.Name x p) es [] pos) (TEm X.K (ev (cfg P k) (.call i as))) := by
  obtain ⟨f, fd, ps, FO, hm, hk, hb⟩ := W.fns x i np hf
  have st := cvEs_star h
  have A := S.es fn sc X es as W h
  cases es with
  | nil =>
    have hl0 : np = 0 := hl.symm
    subst hl0
    refine (me_call0 FO W.room (W.gl hg) hm hk hb (dbg_no hd).1).cg fun s h0 => ?_
    have e : evs (cfg P k) as s h0 = .ok [] h0 := by
      cases n with
      | zero => simp [cvEs] at h
      | succ n =>
        simp only [cvEs, Option.some.injEq] at h
        subst h
        simp only [evs]
    simp only [ev, e, R.bind_ok] <;> rfl
  | cons a es =>
    refine (me_call FO W.room (W.gl hg) hm hk hb (dbg_no hd).1 (star_cons (st a List.mem_cons_self) es X.env) (back_plain (fun e he => st e (List.mem_cons_of_mem _ he)) pos X.env) (fun s h0 ds h1 e => (cvEs_len h s h0 ds h1 e).trans hl) A).cg fun s h0 => ?_
    simp only [ev] <;> rfl
theorem e_step (S : Snd G N P k n) {fn : Str → Bool} {sc : Scope} {X : Cx} {e : Expr} {e' : E} (W : Wx G N P k fn sc X) (h : cvE G N (n + 1) fn sc e = some e') : PE X e (TEm X.K (ev (cfg P k) e')) := by
  simp only [cvE] at h
  split at h
  · rename_i c0 k0 pos0
    simp only [Option.some.injEq] at h; subst h
    exact me_const (d := .int c0) pe_int (fun s h => by simp only [ev]) fun μ H => by simp only [RD]
  · rename_i c0 k0 pos0
    simp only [Option.some.injEq] at h; subst h
    exact me_const (d := .bl c0) pe_bl (fun s h => by simp only [ev]) fun μ H => by simp only [RD]
  · simp only [Option.some.injEq] at h; subst h
    exact me_const (d := .non) pe_non (fun s h => by simp only [ev]) fun μ H => by simp only [RD]
  · rename_i c0 k0 pos0
    simp only [Option.some.injEq] at h; subst h
    exact me_const (d := .str c0) pe_str (fun s h => by simp only [ev]) fun μ H => by simp only [RD]
  · rename_i x pos
    split at h
    · cases h
    · rename_i hd
      obtain ⟨d1, d2, d3⟩ := dbg_no hd
      split at h
      · rename_i hv
        obtain ⟨i, h1, rfl⟩ := Option.map_eq_some_iff.mp h
        refine (me_var (pe_var (i := i) (by rw [W.n]; exact slot_get h1) (W.vis hv) d1 d2)).cg fun s h => ?_
        simp only [ev] <;> rfl
      · split at h
        · rename_i hg
          obtain ⟨i, h1, rfl⟩ := Option.map_eq_some_iff.mp h
          obtain ⟨d, v, u, e1, e2, e3, e4⟩ := W.cst x i h1
          refine me_const (pe_glob (W.gl hg) e2 e3 d1) (fun s h => ?_) e4
          have e1' : (cfg P k).cst[i]? = some d := e1
          simp only [ev, e1'] <;> rfl
        · cases h
  · rename_i a o b pos
    simp only [Option.bind_eq_some_iff] at h
    obtain ⟨o', h1, a', h2, b', h3, h4⟩ := h
    cases h4
    obtain rfl := opOf_op h1
    obtain ⟨r, ho, hv⟩ := bop_all (X := X) o'
    refine (me_op2 ho hv (S.e _ _ _ _ _ W h2) (S.e _ _ _ _ _ W h3)).cg fun s h => ?_
    simp only [ev]
  · rename_i a pos
    simp only [Option.bind_eq_some_iff] at h
    obtain ⟨a', h2, h4⟩ := h
    cases h4
    refine (me_un un_neg v_neg (S.e _ _ _ _ _ W h2)).cg fun s h => ?_
    simp only [ev]
  · rename_i a pos
    simp only [Option.bind_eq_some_iff] at h
    obtain ⟨a', h2, h4⟩ := h
    cases h4
    refine (me_not (S.e _ _ _ _ _ W h2)).cg fun s h => ?_
    simp only [ev]
  · exact S.b _ _ _ _ _ _ _ W h
  · simp only [Option.bind_eq_some_iff] at h
    obtain ⟨c', h1, a', h2, b', h3, h4⟩ := h
    cases h4
    refine (me_ite (S.t _ _ _ _ _ W h1) (S.e _ _ _ _ _ W h2) (S.e _ _ _ _ _ W h3)).cg fun s h => ?_
    simp only [ev]
  · split at h
    · cases h
    · rename_i hm
      simp only [Option.bind_eq_some_iff] at h
      obtain ⟨o', h1, a', h2, b', h3, h4⟩ := h
      cases h4
      obtain rfl := copOf_op h1
      obtain ⟨r, ho, hv⟩ := cop_all W.units o'
      refine (me_cmp ho hv (by simpa using hm) (S.e _ _ _ _ _ W h2) (S.e _ _ _ _ _ W h3)).cg fun s h => ?_
      simp only [ev]
  · split at h
    · cases h
    · rename_i hm
      simp only [Option.bind_eq_some_iff] at h
      obtain ⟨o', h1, p', h1', a', h2, b', h3, c', h3', h4⟩ := h
      cases h4
      obtain rfl := copOf_op h1
      obtain rfl := copOf_op h1'
      obtain ⟨r, ho, hv⟩ := cop_all W.units o'
      obtain ⟨r', ho', hv'⟩ := cop_all W.units p'
      refine (me_chain ho ho' hv hv' (by simpa using hm) (S.e _ _ _ _ _ W h2) (S.e _ _ _ _ _ W h3) (S.e _ _ _ _ _ W h3')).cg fun s h => ?_
      simp only [ev, copM] <;> rfl
  · rename_i es k0 pos
    simp only [Option.bind_eq_some_iff] at h
    obtain ⟨as, h1, h2⟩ := h
    split at h2
    · rename_i hl
      cases h2
      refine (me_tup (fun s h ds h2 e => by rw [cvEs_len h1 s h ds h2 e]; omega) (S.es _ _ _ _ _ W h1)).cg fun s h => ?_
      simp only [ev]
    · cases h2
  · rename_i es pos
    simp only [Option.bind_eq_some_iff] at h
    obtain ⟨as, h1, h2⟩ := h
    split at h2
    · rename_i hl
      cases h2
      refine (me_lst (fun s h ds h2 e => by rw [cvEs_len h1 s h ds h2 e]; omega) (S.es _ _ _ _ _ W h1)).cg fun s h => ?_
      simp only [ev]
    · cases h2
  · simp only [Option.bind_eq_some_iff] at h
    obtain ⟨a', h2, h4⟩ := h
    cases h4
    refine (me_rev (S.e _ _ _ _ _ W h2)).cg fun s h => ?_
    simp only [ev]
  · simp only [Option.bind_eq_some_iff] at h
    obtain ⟨a', h1, lo', h2, hi', h3, h4⟩ := h
    cases h4
    refine (me_sl (S.e _ _ _ _ _ W h1) (S.o _ _ _ _ _ W h2) (S.o _ _ _ _ _ W h3)).cg fun s h => ?_
    simp only [ev]
  · split at h
    · rename_i hs
      simp only [Option.bind_eq_some_iff] at h
      obtain ⟨a', h2, b', h3, h4⟩ := h
      cases h4
      refine (me_ix ix_seq v_ix (plainIx hs) (S.e _ _ _ _ _ W h2) (S.e _ _ _ _ _ W h3)).cg fun s h => ?_
      simp only [ev]
    · cases h
  · rename_i x p es pos
    split at h
    · cases h
    · rename_i hdg
      simp only [Bool.or_eq_true, not_or, Bool.not_eq_true'] at hdg
      obtain ⟨hd, hg⟩ := hdg
      have hg : global sc x = true := by simpa using hg
      split at h
      · rename_i i np hf
        simp only [Option.bind_eq_some_iff] at h
        obtain ⟨as, h1, h2⟩ := h
        split at h2
        · rename_i hl
          cases h2
          exact call_step S W hd hg hf h1 hl
        · cases h2
      · split at h
        · rename_i hb
          exact S.c _ _ _ _ _ _ _ _ W hg hb hd h
        · cases h
  · rename_i o m apos es cpos
    split at h
    · rename_i hc
      simp only [Bool.and_eq_true] at hc
      simp only [Option.bind_eq_some_iff] at h
      obtain ⟨m', hm, o', h1, as, h2, h4⟩ := h
      cases h4
      have st := cvEs_star h2
      have A := S.es _ _ _ _ _ W h2
      match es, hm, h2, st, A with
      | [], hm, h2, st, A =>
        refine (me_meth0 (me_ok W.units (.inl hm)) (not_super hc.1 _ _ _) hc.2 (S.e _ _ _ _ _ W h1)).cg fun s h => ?_
        have e : ∀ h0, evs (cfg P k) as s h0 = .ok [] h0 := fun h0 => by
          cases n with
          | zero => simp [cvEs] at h2
          | succ n =>
            simp only [cvEs, Option.some.injEq] at h2
            subst h2
            simp only [evs]
        simp only [ev, e, R.bind_ok] <;> rfl
      | [a], hm, h2, st, A =>
        refine (me_meth (me_ok W.units (.inr (.inl hm))) (not_super hc.1 _ _ _) (few_plain st (by simp) _ _) hc.2 (star_cons (st a List.mem_cons_self) _ X.env) (back_plain (fun e he => st e (List.mem_cons_of_mem _ he)) _ X.env) (S.e _ _ _ _ _ W h1) A).cg fun s h => ?_
        simp only [ev]
      | [a, b], hm, h2, st, A =>
        refine (me_meth (me_ok W.units (.inr (.inr hm))) (not_super hc.1 _ _ _) (few_plain st (by simp) _ _) hc.2 (star_cons (st a List.mem_cons_self) _ X.env) (back_plain (fun e he => st e (List.mem_cons_of_mem _ he)) _ X.env) (S.e _ _ _ _ _ W h1) A).cg fun s h => ?_
        simp only [ev]
      | _ :: _ :: _ :: _, hm, _, _, _ => simp at hm
    · cases h
  · split at h
    · rename_i ha
      subst ha
      exact S.l _ _ _ _ _ _ _ _ _ _ W h
    · cases h
  · split at h
    · rename_i ha
      obtain ⟨rfl, rfl⟩ := ha
      exact S.m _ _ _ _ _ _ _ _ _ _ _ _ _ W h
    · cases h
  · cases h
end
end Mp

namespace Mp
open PySem PySem.Spec L2
section
variable {G : Gs} {N : List Str} {P : Prog} {k n : Nat} {fn : Str → Bool} {sc : Scope} {X : Cx}
theorem b_step (S : Snd G N P k n) {o : BoolOp} {es : List Expr} {pos : Pos} {e' : E} (W : Wx G N P k fn sc X) (h : cvB G N (n + 1) fn sc o es pos = some e') : PE X (.BoolOp o es pos) (TEm X.K (ev (cfg P k) e')) := by
  simp only [cvB] at h
  split at h
  · exact me_one (S.e _ _ _ _ _ W h)
  · simp only [Option.bind_eq_some_iff] at h
    obtain ⟨a', h1, r', h2, h3⟩ := h
    cases h3
    have A := S.e _ _ _ _ _ W h1
    have B := S.b _ _ _ _ _ _ _ W h2
    cases o with
    | And => exact (me_and A B).cg fun s h => by simp only [ev]
    | Or => exact (me_or A B).cg fun s h => by simp only [ev]
  · cases h
theorem tb_step (S : Snd G N P k n) {o : BoolOp} {es : List Expr} {pos : Pos} {e' : E} (W : Wx G N P k fn sc X) (h : cvTB G N (n + 1) fn sc o es pos = some e') : PW X (.BoolOp o es pos) (TTm X.K (evT (cfg P k) e')) := by
  simp only [cvTB] at h
  split at h
  · cases o with
    | And => exact mw_and1 (S.t _ _ _ _ _ W h)
    | Or => exact mw_or1 (S.t _ _ _ _ _ W h)
  · simp only [Option.bind_eq_some_iff] at h
    obtain ⟨a', h1, r', h2, h3⟩ := h
    cases h3
    have A := S.t _ _ _ _ _ W h1
    have B := S.tb _ _ _ _ _ _ _ W h2
    cases o with
    | And => exact (mw_and A B).cg fun s h => by simp only [evT]
    | Or => exact (mw_or A B).cg fun s h => by simp only [evT]
  · cases h
theorem es_step (S : Snd G N P k n) {es : List Expr} {e' : E} (W : Wx G N P k fn sc X) (h : cvEs G N (n + 1) fn sc es = some e') : PA X es (TAm X.K (evs (cfg P k) e')) := by
  simp only [cvEs] at h
  split at h
  · cases h
    exact me_nil.cg fun s h => by simp only [evs]
  · split at h
    · rename_i hn
      simp only [Option.bind_eq_some_iff] at h
      obtain ⟨a', h1, r', h2, h3⟩ := h
      cases h3
      exact (me_cons (star_cons hn _ X.env) (S.e _ _ _ _ _ W h1) (S.es _ _ _ _ _ W h2)).cg fun s h => by simp only [evs]
    · cases h
theorem o_step (S : Snd G N P k n) {e : Option Expr} {e' : E} (W : Wx G N P k fn sc X) (h : cvO G N (n + 1) fn sc e = some e') : PO X e (TOm X.K (evO (cfg P k) e')) := by
  simp only [cvO] at h
  split at h
  · cases h
    exact mo_none.cg fun s h => by simp only [evO]
  · simp only [Option.bind_eq_some_iff] at h
    obtain ⟨a', h1, h3⟩ := h
    cases h3
    exact (mo_some (S.e _ _ _ _ _ W h1)).cg fun s h => by simp only [evO] <;> rfl
theorem t_step (S : Snd G N P k n) {e : Expr} {e' : E} (W : Wx G N P k fn sc X) (h : cvT G N (n + 1) fn sc e = some e') : PT X e (TTm X.K (evT (cfg P k) e')) := by
  simp only [cvT] at h
  split at h
  · simp only [Option.bind_eq_some_iff] at h
    obtain ⟨a', h1, h3⟩ := h
    cases h3
    exact (mt_not (S.t _ _ _ _ _ W h1)).cg fun s h => by simp only [evT]
  · exact (S.tb _ _ _ _ _ _ _ W h).pt
  · split at h
    · cases h
    · rename_i hm
      simp only [Option.bind_eq_some_iff] at h
      obtain ⟨o', h1, a', h2, b', h3, h4⟩ := h
      cases h4
      obtain rfl := copOf_op h1
      obtain ⟨r, ho, hv⟩ := cop_all W.units o'
      exact (mt_cmp ho hv (by simpa using hm) (S.e _ _ _ _ _ W h2) (S.e _ _ _ _ _ W h3)).cg fun s h => by simp only [evT]
  · split at h
    · cases h
    · rename_i hm
      simp only [Option.bind_eq_some_iff] at h
      obtain ⟨o', h1, p', h1', a', h2, b', h3, c', h3', h4⟩ := h
      cases h4
      obtain rfl := copOf_op h1
      obtain rfl := copOf_op h1'
      obtain ⟨r, ho, hv⟩ := cop_all W.units o'
      obtain ⟨r', ho', hv'⟩ := cop_all W.units p'
      refine (mt_chain ho ho' hv hv' (by simpa using hm) (S.e _ _ _ _ _ W h2) (S.e _ _ _ _ _ W h3) (S.e _ _ _ _ _ W h3')).cg fun s h => ?_
      simp only [evT, ev, copM] <;> rfl
  · split at h
    · rename_i hp
      simp only [Option.bind_eq_some_iff] at h
      obtain ⟨a', h1, h3⟩ := h
      cases h3
      exact (mt_plain (plain_true hp X.env) (S.e _ _ _ _ _ W h1)).cg fun s h => by simp only [evT]
    · cases h
theorem f_step (S : Snd G N P k n) {ifs : List Expr} {e' : E} (W : Wx G N P k fn sc X) (h : cvF G N (n + 1) fn sc ifs = some e') : PTs X ifs (TTm X.K (evC (cfg P k) e')) := by
  simp only [cvF] at h
  split at h
  · cases h
    exact mts_nil.cg fun s h => by simp only [evC]
  · simp only [Option.bind_eq_some_iff] at h
    obtain ⟨a', h1, h3⟩ := h
    cases h3
    refine (PTs.cg (pts_one (S.t _ _ _ _ _ W h1)) fun s h => ?_)
    simp only [evC]
    cases evT (cfg P k) a' s h with
    | ok b h1 => cases b <;> rfl
    | exc _ _ _ => rfl
    | no => rfl
  · cases h
/-! ### built-in calls -/
theorem tyOf_some {bl : List Str} {e : Expr} {t : Ty} (h : tyOf bl sc e = some t) : ∃ x p, e = .Name x p ∧ sc.names.lookup x = some .globalImplicit ∧ x ∈ bl ∧ bootBuiltins x = some (.type t.name) ∧ dbg x = false := by
  unfold tyOf at h
  split at h
  · rename_i x p
    split at h
    · rename_i hc
      have h := PySem.mem_of_lookup h
      simp only [List.mem_cons, Prod.mk.injEq, List.not_mem_nil, or_false] at h
      refine ⟨x, p, rfl, hc.1, hc.2, ?_⟩
      rcases h with ⟨rfl, rfl⟩ | ⟨rfl, rfl⟩ | ⟨rfl, rfl⟩ | ⟨rfl, rfl⟩ | ⟨rfl, rfl⟩
      · exact ⟨PyProof.Rows.boot_int, by decide +kernel⟩
      · exact ⟨PyProof.Rows.boot_str, by decide +kernel⟩
      · exact ⟨PyProof.Rows.boot_bool, by decide +kernel⟩
      · exact ⟨PyProof.Rows.boot_tuple, by decide +kernel⟩
      · exact ⟨PyProof.Rows.boot_list, by decide +kernel⟩
    · cases h
  · cases h
theorem ty_pe {e : Expr} {t : Ty} (W : Wx G N P k fn sc X) (h : tyOf G.bl sc e = some t) : nst e = true ∧ PE X e (tC (.ty t.name)) := by
  obtain ⟨x, p, rfl, h1, h2, h3, h4⟩ := tyOf_some h
  obtain ⟨d1, d2, d3⟩ := dbg_no (x := x) (by rw [h4]; decide)
  exact ⟨rfl, pe_bltn (W.gl (by unfold global; exact decide_eq_true h1)) (W.blt x h2) h3 rfl d3 d1⟩
theorem tysOf_some : ∀ {es : List Expr} {ts : List Ty}, tysOf G.bl sc es = some ts → ts.length = es.length ∧ ∀ (i : Nat) (t : Ty) (e : Expr), ts[i]? = some t → es[i]? = some e → tyOf G.bl sc e = some t
  | [], ts, h => by
    simp only [tysOf, Option.some.injEq] at h
    subst h
    exact ⟨rfl, fun i t e h => by simp at h⟩
  | e :: es, ts, h => by
    simp only [tysOf, Option.bind_eq_some_iff] at h
    obtain ⟨t, h1, ts', h2, h3⟩ := h
    cases h3
    obtain ⟨l, q⟩ := tysOf_some h2
    refine ⟨by simp [l], fun i t' e' e1 e2 => ?_⟩
    cases i with
    | zero =>
      simp only [List.getElem?_cons_zero, Option.some.injEq] at e1 e2
      subst e1 e2
      exact h1
    | succ i =>
      simp only [List.getElem?_cons_succ] at e1 e2
      exact q i t' e' e1 e2
theorem bi_step {x : Str} {b : Bi} {e : Expr} {es : List Expr} {as : E} {p pos : Pos} (W : Wx G N P k fn sc X) (S : Snd G N P k n) (hB : BiOk X x b) (hg : global sc x = true) (hb : x ∈ G.bl) (hd : ¬ dbg x = true) (h : cvEs G N n fn sc (e :: es) = some as) :
    PE X (.Call (.Name x p) (e :: es) [] pos) (TEm X.K (ev (cfg P k) (.bi b as))) := by
  obtain ⟨f, h1, h2, r, h3, h4⟩ := hB.ex
  have st := cvEs_star h
  have A := S.es _ _ _ _ _ W h
  obtain ⟨d1, d2, d3⟩ := dbg_no hd
  rcases h2 with ⟨id, rfl⟩ | ⟨id, rfl⟩
  · exact (me_callB h3 h4 (W.gl hg) (W.blt x hb) h1 d3 d1 (star_cons (st e List.mem_cons_self) es X.env) (back_plain (fun e he => st e (List.mem_cons_of_mem _ he)) pos X.env) A).cg fun s h => by simp only [ev]
  · exact (me_callTy h3 h4 (W.gl hg) (W.blt x hb) h1 d3 d1 (star_cons (st e List.mem_cons_self) es X.env) (back_plain (fun e he => st e (List.mem_cons_of_mem _ he)) pos X.env) A).cg fun s h => by simp only [ev]
theorem nst_cvE {n : Nat} {e : Expr} {e' : E} (h : cvE G N n fn sc e = some e') : nst e = true := by
  cases n with
  | zero => simp [cvE] at h
  | succ n => cases e <;> first | rfl | (simp [cvE] at h)
theorem R_bb {α β γ : Type} (r : R α) (f : α → Hm → R β) (g : β → Hm → R γ) : (r.bind f).bind g = r.bind fun a h => (f a h).bind g := by cases r <;> rfl
theorem R_ok {α β : Type} (a : α) (h : Hm) (f : α → Hm → R β) : (R.ok a h).bind f = f a h := rfl
theorem c_step (S : Snd G N P k n) {x : Str} {es : List Expr} {p pos : Pos} {e' : E} (W : Wx G N P k fn sc X) (hg : global sc x = true) (hb : x ∈ G.bl) (hd : ¬ dbg x = true) (h : cvC G N (n + 1) fn sc x es = some e') :
    PE X (.Call (.Name x p) es [] pos) (TEm X.K (ev (cfg P k) e')) := by
  simp only [cvC] at h
  split at h
  · rename_i y p2 bs q2
    split at h
    · rename_i hy
      simp only [Bool.and_eq_true, Bool.or_eq_true, decide_eq_true_eq, beq_iff_eq] at hy
      obtain ⟨rfl, hx⟩ := hy
      split at h
      · rename_i hr
        simp only [Bool.and_eq_true, decide_eq_true_eq] at hr
        have gr := W.gl hr.1
        have mr := W.blt _ hr.2
        split at h
        · simp only [Option.bind_eq_some_iff] at h
          obtain ⟨a', h1, h3⟩ := h
          cases h3
          have A := S.e _ _ _ _ _ W h1
          have na := star_cons (nst_cvE h1) [] X.env
          rcases hx with rfl | rfl
          · exact (me_listRg1 W.calm (W.gl hg) (W.blt _ hb) gr mr A na).cg fun s h => by (first | (simp [ev, evs, R_bb, R_ok]; done) | (rw [if_neg (by decide)]; simp [ev, evs, R_bb, R_ok]; done) | (rw [if_pos rfl]; simp [ev, evs, R_bb, R_ok]; done))
          · exact (me_tupRg1 W.calm (W.gl hg) (W.blt _ hb) gr mr A na).cg fun s h => by (first | (simp [ev, evs, R_bb, R_ok]; done) | (rw [if_neg (by decide)]; simp [ev, evs, R_bb, R_ok]; done) | (rw [if_pos rfl]; simp [ev, evs, R_bb, R_ok]; done))
        · rename_i b c
          simp only [Option.bind_eq_some_iff] at h
          obtain ⟨b', h1, c', h2, h3⟩ := h
          cases h3
          have A := S.e _ _ _ _ _ W h1
          have B := S.e _ _ _ _ _ W h2
          have na := star_cons (nst_cvE h1) [c] X.env
          have nb := star_cons (nst_cvE h2) [] X.env
          rcases hx with rfl | rfl
          · exact (me_listRg2 W.calm (W.gl hg) (W.blt _ hb) gr mr A B na nb).cg fun s h => by (first | (simp [ev, evs, R_bb, R_ok]; done) | (rw [if_neg (by decide)]; simp [ev, evs, R_bb, R_ok]; done) | (rw [if_pos rfl]; simp [ev, evs, R_bb, R_ok]; done))
          · exact (me_tupRg2 W.calm (W.gl hg) (W.blt _ hb) gr mr A B na nb).cg fun s h => by (first | (simp [ev, evs, R_bb, R_ok]; done) | (rw [if_neg (by decide)]; simp [ev, evs, R_bb, R_ok]; done) | (rw [if_pos rfl]; simp [ev, evs, R_bb, R_ok]; done))
        · cases h
      · cases h
    · split at h
      · rename_i hy
        simp only [Bool.and_eq_true, Bool.or_eq_true, decide_eq_true_eq, beq_iff_eq] at hy
        obtain ⟨rfl, hx⟩ := hy
        split at h
        · rename_i hr
          simp only [Bool.and_eq_true, decide_eq_true_eq] at hr
          have gr := W.gl hr.1
          have mr := W.blt _ hr.2
          split at h
          · simp only [Option.bind_eq_some_iff] at h
            obtain ⟨a', h1, h3⟩ := h
            cases h3
            have A := S.e _ _ _ _ _ W h1
            have na := star_cons (nst_cvE h1) [] X.env
            rcases hx with rfl | rfl
            · exact (me_sortSet W.calm (W.gl hg) (W.blt _ hb) gr mr A na).cg fun s h => by (first | (simp [ev, evs, R_bb, R_ok]; done) | (rw [if_pos rfl]; simp [ev, evs, R_bb, R_ok]; done))
            · exact (me_lenSet W.calm (W.gl hg) (W.blt _ hb) gr mr A na).cg fun s h => by (first | (simp [ev, evs, R_bb, R_ok]; done) | (rw [if_neg (by decide)]; simp [ev, evs, R_bb, R_ok]; done))
          · cases h
        · cases h
      · simp only [Option.bind_eq_some_iff] at h
        obtain ⟨b, h1, as, h2, h3⟩ := h
        cases h3
        exact bi_step W S (bi1_ok W.calm W.units h1) hg hb hd h2
  · simp only [Option.bind_eq_some_iff] at h
    obtain ⟨b, h1, as, h2, h3⟩ := h
    cases h3
    exact bi_step W S (bi1_ok W.calm W.units h1) hg hb hd h2
  · rename_i a ts kt tp
    split at h
    · rename_i hx
      subst hx
      simp only [Option.bind_eq_some_iff] at h
      obtain ⟨a', h1, ts', h2, h3⟩ := h
      split at h3
      · rename_i hl
        cases h3
        obtain ⟨l, q⟩ := tysOf_some h2
        obtain ⟨d1, d2, d3⟩ := dbg_no hd
        refine (me_isiT (W.gl hg) (W.blt _ hb) PyProof.Rows.boot_isinstance d3 d1 (star_cons (nst_cvE h1) _ X.env) (fun i t e e1 e2 => (ty_pe W (q i t e e1 e2)).2) l (fun e he r => ?_) hl (S.e _ _ _ _ _ W h1)).cg fun s h => by simp only [ev]
        obtain ⟨i, hi, ei⟩ := List.getElem_of_mem he
        have hi' : i < ts'.length := by omega
        exact star_cons (ty_pe W (q i ts'[i] e (List.getElem?_eq_getElem hi') (by rw [List.getElem?_eq_getElem hi, ei]))).1 r X.env
      · cases h3
    · cases h
  · rename_i a b hnt
    split at h
    · rename_i hx
      subst hx
      simp only [Option.bind_eq_some_iff] at h
      obtain ⟨a', h1, t, h2, h3⟩ := h
      cases h3
      obtain ⟨d1, d2, d3⟩ := dbg_no hd
      obtain ⟨n1, pt⟩ := ty_pe W h2
      exact (me_isi (W.gl hg) (W.blt _ hb) PyProof.Rows.boot_isinstance d3 d1 (star_cons (nst_cvE h1) _ X.env) (star_cons n1 _ X.env) pt (S.e _ _ _ _ _ W h1)).cg fun s h => by simp only [ev]
    · simp only [Option.bind_eq_some_iff] at h
      obtain ⟨o, h1, as, h2, h3⟩ := h
      cases h3
      exact bi_step W S (bi2_ok W.calm h1) hg hb hd h2
  · cases h
end
end Mp

namespace Mp
open PySem PySem.Spec L2
section
variable {G : Gs} {N : List Str} {P : Prog} {k n : Nat} {fn : Str → Bool} {sc : Scope} {X : Cx}
theorem i_any {tg e : Expr} {f : Stm → Hm → R Itv} (h : PI X tg e (TIm X.K false f)) : PI X tg e (TIm X.K (isTup tg) f) := by
  cases isTup tg with
  | false => exact h
  | true => exact PI.up h
theorem seq_i (S : Snd G N P k n) {tg e : Expr} {a : E} (W : Wx G N P k fn sc X) (h : cvE G N n fn sc e = some a) : PI X tg e (TIm X.K (isTup tg) (evI (cfg P k) (.cons a .nil))) :=
  (i_any (mi_seq (S.e _ _ _ _ _ W h))).cg fun s h => by simp only [evI]
theorem i_step (S : Snd G N P k n) {tg e : Expr} {e' : E} (W : Wx G N P k fn sc X) (h : cvI G N (n + 1) fn sc tg e = some e') : PI X tg e (TIm X.K (isTup tg) (evI (cfg P k) e')) := by
  simp only [cvI] at h
  split at h
  · rename_i x p es pos
    split at h
    · rename_i hx
      subst hx
      split at h
      · rename_i hr
        simp only [Bool.and_eq_true, decide_eq_true_eq] at hr
        split at h
        · rename_i a
          split at h
          · rename_i ha
            simp only [Option.bind_eq_some_iff] at h
            obtain ⟨a', h1, h5⟩ := h
            cases h5
            cases tg with
            | Tuple elts kk tpos => exact (mi_enum (W.gl hr.1.1) (W.blt _ hr.1.2) (star_cons ha [] X.env) (star_cons ha [] X.env) (S.e _ _ _ _ _ W h1)).cg fun s h => by simp only [evI]
            | _ => exact absurd hr.2 (by simp [isTup])
          · cases h
        · cases h
      · cases h
    split at h
    · rename_i hx
      subst hx
      split at h
      · rename_i hr
        simp only [Bool.and_eq_true, decide_eq_true_eq] at hr
        simp only [Option.bind_eq_some_iff] at h
        obtain ⟨as, h1, h5⟩ := h
        cases h5
        have st := cvEs_star h1
        cases tg with
        | Tuple elts kk tpos =>
          match es, hr.2, h1, st with
          | [a, b], _, h1, st =>
            exact (mi_zip (W.gl hr.1.1.1) (W.blt _ hr.1.1.2) (star_cons (st _ List.mem_cons_self) [b] X.env) (back_plain (fun e he => st e (List.mem_cons_of_mem _ he)) pos X.env) (S.es _ _ _ _ _ W h1) (fun s h ds h2 e => cvEs_len h1 s h ds h2 e)).cg fun s h => by simp only [evI]
        | _ => exact absurd hr.1.2 (by simp [isTup])
      · cases h
    split at h
    · rename_i hx
      subst hx
      split at h
      · rename_i hr
        simp only [Bool.and_eq_true, decide_eq_true_eq] at hr
        have gr := W.gl hr.1
        have mr := W.blt _ hr.2
        split at h
        · rename_i y p2 a q2
          split at h
          · rename_i hy
            simp only [Bool.and_eq_true, decide_eq_true_eq] at hy
            obtain ⟨⟨⟨rfl, h2⟩, h3⟩, h4⟩ := hy
            simp only [Option.bind_eq_some_iff] at h
            obtain ⟨a', h1, h5⟩ := h
            cases h5
            exact (i_any (mi_rangeLen (x := "x") gr mr (W.gl h2) (W.blt _ h3) (star_cons h4 [] X.env) (S.e _ _ _ _ _ W h1))).cg fun s h => by simp only [evI]
          · simp only [Option.bind_eq_some_iff] at h
            obtain ⟨as, h1, h5⟩ := h
            cases h5
            exact (i_any (mi_range1 (x := "x") gr mr rfl (S.es _ _ _ _ _ W h1) (fun s h ds h2 e => cvEs_len h1 s h ds h2 e))).cg fun s h => by simp only [evI]
        · simp only [Option.bind_eq_some_iff] at h
          obtain ⟨as, h1, h5⟩ := h
          cases h5
          have st := cvEs_star h1
          exact (i_any (mi_range1 (x := "x") gr mr (star_cons (st _ List.mem_cons_self) [] X.env) (S.es _ _ _ _ _ W h1) (fun s h ds h2 e => cvEs_len h1 s h ds h2 e))).cg fun s h => by simp only [evI]
        · simp only [Option.bind_eq_some_iff] at h
          obtain ⟨as, h1, h5⟩ := h
          cases h5
          have st := cvEs_star h1
          refine (i_any (mi_range2 gr mr ?_ (star_cons (st _ (List.mem_cons_of_mem _ List.mem_cons_self)) [] X.env) (S.es _ _ _ _ _ W h1) (fun s h ds h2 e => cvEs_len h1 s h ds h2 e))).cg fun s h => by simp only [evI]
          rw [star_cons (st _ List.mem_cons_self), star_cons (st _ (List.mem_cons_of_mem _ List.mem_cons_self)) [] X.env]
          rfl
        · cases h
      · cases h
    · simp only [Option.bind_eq_some_iff] at h
      obtain ⟨a', h1, h5⟩ := h
      cases h5
      exact seq_i S W h1
  · simp only [Option.bind_eq_some_iff] at h
    obtain ⟨a', h1, h5⟩ := h
    cases h5
    exact seq_i S W h1
theorem cvGs_star {ok : Option (List Nat)} : ∀ {n : Nat} {es : List Expr} {e' : E}, cvGs G N n ok fn sc es = some e' → ∀ e ∈ es, nst e = true
  | 0, _, _, h => by simp [cvGs] at h
  | n + 1, [], _, h => by simp
  | n + 1, e :: es, _, h => by
    simp only [cvGs] at h
    split at h
    · rename_i hn
      simp only [Option.bind_eq_some_iff] at h
      obtain ⟨a, _, as, h2, _⟩ := h
      intro x hx
      rcases List.mem_cons.mp hx with rfl | hx
      · exact hn
      · exact cvGs_star h2 x hx
    · cases h
theorem cvGs_len {C : Cfg} {ok : Option (List Nat)} : ∀ {n : Nat} {es : List Expr} {e' : E}, cvGs G N n ok fn sc es = some e' → ∀ ds s h s1 h1, asgs C e' ds s h = .ok s1 h1 → ds.length = es.length
  | 0, _, _, h => by simp [cvGs] at h
  | n + 1, [], e', h => by
    simp only [cvGs, Option.some.injEq] at h
    subst h
    intro ds s h s1 h1 e
    cases ds with
    | nil => rfl
    | cons _ _ => simp only [asgs] at e; cases e
  | n + 1, e :: es, e', h => by
    simp only [cvGs] at h
    split at h
    · simp only [Option.bind_eq_some_iff] at h
      obtain ⟨a, _, as, h2, h3⟩ := h
      simp only [Option.some.injEq] at h3
      subst h3
      intro ds s h s1 h1 e
      cases ds with
      | nil => simp only [asgs] at e; cases e
      | cons d ds =>
        simp only [asgs] at e
        cases e1 : asg C a d s h with
        | ok s3 h3 =>
          rw [e1, R.bind_ok] at e
          rw [List.length_cons, List.length_cons, cvGs_len h2 _ _ _ _ _ e]
        | exc _ _ _ => rw [e1] at e; cases e
        | no => rw [e1] at e; cases e
    · cases h
theorem g_step (S : Snd G N P k n) {ok : Option (List Nat)} {Kp : L2.St → L2.St → Prop} {e : Expr} {e' : E} (W : Wx G N P k fn sc X) (hK : KpOk Kp) (hs : ∀ i σ v, okI ok i → Kp σ (σ.set i (some v))) (h : cvG G N (n + 1) ok fn sc e = some e') :
    PG X e (TGm X.K (isTup e) Kp (asg (cfg P k) e')) := by
  simp only [cvG] at h
  split at h
  · split at h
    · rename_i hl
      simp only [Bool.and_eq_true, Bool.or_eq_true, decide_eq_true_eq] at hl
      simp only [Option.bind_eq_some_iff] at h
      obtain ⟨i, h1, h2⟩ := h
      split at h2
      · rename_i hok
        cases h2
        refine (mg_name (by rw [W.n]; exact W.nd) (by rw [W.n]; exact slot_get h1) (W.loc hl.1) ?_ fun σ v => hs i σ v hok).cg fun d s h => by simp only [asg]
        rcases hl.2 with h3 | h3
        · exact .inl (W.fn _ h3)
        · exact .inr (by rw [W.sc]; exact h3)
      · cases h2
    · cases h
  · rename_i es k0 pos
    simp only [Option.bind_eq_some_iff] at h
    obtain ⟨ts, h1, h2⟩ := h
    cases h2
    have st := cvGs_star h1
    refine (mg_tup W.calm (fun ds s h s1 h1' e => by rw [assign_len]; exact cvGs_len h1 ds s h s1 h1' e) (assign_nst st X.env) (S.gs _ _ _ _ _ _ _ W hK hs h1)).cg fun d s h => ?_
    simp only [asg] <;> rfl
  · split at h
    · rename_i hsl
      simp only [Option.bind_eq_some_iff] at h
      obtain ⟨a', h1, b', h2, h3⟩ := h
      cases h3
      refine (mg_sub hK (assign_sub hsl X.env) (S.e _ _ _ _ _ W h1) (S.e _ _ _ _ _ W h2)).cg fun d s h => ?_
      simp only [asg] <;> rfl
    · cases h
  · cases h
theorem g_weak {Kp : L2.St → L2.St → Prop} {e : Expr} {f : D → Stm → Hm → R Stm} (h : PG X e (TGm X.K (isTup e) Kp f)) : PG X e (TGm X.K false Kp f) := by
  cases ht : isTup e with
  | false => rw [ht] at h; exact h
  | true => rw [ht] at h; exact PG.down h
theorem gs_step (S : Snd G N P k n) {ok : Option (List Nat)} {Kp : L2.St → L2.St → Prop} {es : List Expr} {e' : E} (W : Wx G N P k fn sc X) (hK : KpOk Kp) (hs : ∀ i σ v, okI ok i → Kp σ (σ.set i (some v))) (h : cvGs G N (n + 1) ok fn sc es = some e') :
    PGs X es (TGsm X.K Kp (asgs (cfg P k) e')) := by
  simp only [cvGs] at h
  split at h
  · cases h
    refine (mgs_nil hK).cg fun d s h => ?_
    simp only [asgs] <;> rfl
  · split at h
    · rename_i hn
      simp only [Option.bind_eq_some_iff] at h
      obtain ⟨a', h1, r', h2, h3⟩ := h
      cases h3
      refine (mgs_cons hK (by rw [assign_cons hn]; rfl) (g_weak (S.g _ _ _ _ _ _ _ W hK hs h1)) (S.gs _ _ _ _ _ _ _ W hK hs h2)).cg fun d s h => ?_
      simp only [asgs] <;> rfl
    · cases h
/-- what a comprehension needs of its parts -/
theorem l_parts (S : Snd G N P k n) {elt tg iter : Expr} {ifs : List Expr} {scope : Scope} {e' : E} (W : Wx G N P k fn sc X) (h : cvL G N (n + 1) fn sc elt tg iter ifs scope = some e') :
    ∃ it tgE cs eltE, e' = .comp eltE ((ownOf N scope).map (·.2)) tgE it cs ∧ PI X tg iter (TIm X.K (isTup tg) (evI (cfg P k) it)) ∧ BlkOk X.N X.env.scope scope (ownOf N scope) ∧ (∀ x, foldedSetIterable iter X.env x = pure x) ∧
      (∀ (s : Shared) (H : Hp) (C : Addr) (cl : List (Str × Addr)) (fp : List Addr), PG (X.blk s H scope (compEnvC scope cl C X.env) fp) tg (TGm X.K (isTup tg) (KpW ((ownOf N scope).map (·.2))) (asg (cfg P k) tgE))) ∧
      (∀ (s : Shared) (H : Hp) (C : Addr) (cl : List (Str × Addr)) (fp : List Addr), PTs (X.blk s H scope (compEnvC scope cl C X.env) fp) ifs (TTm X.K (evC (cfg P k) cs))) ∧
      (∀ (s : Shared) (H : Hp) (C : Addr) (cl : List (Str × Addr)) (fp : List Addr), PE (X.blk s H scope (compEnvC scope cl C X.env) fp) elt (TEm X.K (ev (cfg P k) eltE))) := by
  simp only [cvL] at h
  split at h
  · rename_i hc
    simp only [Bool.and_eq_true] at hc
    simp only [Option.bind_eq_some_iff] at h
    obtain ⟨it, h1, tgE, h2, cs, h3, eltE, h4, h5⟩ := h
    cases h5
    refine ⟨it, tgE, cs, eltE, rfl, S.i _ _ _ _ _ _ W h1, by rw [W.n, W.sc]; exact blkOk_by hc.1, fold_set hc.2 X.env, fun s H C cl fp => ?_, fun s H C cl fp => ?_, fun s H C cl fp => ?_⟩
    · exact S.g (some _) _ _ _ _ _ _ (W.blk hc.1 s H C cl fp) (KpW.ok _) (fun i σ v hi => wipe_set σ i (some v) _ (of_decide_eq_true hi)) h2
    · exact S.f _ _ _ _ _ (W.blk hc.1 s H C cl fp) h3
    · exact S.e _ _ _ _ _ (W.blk hc.1 s H C cl fp) h4
  · cases h
theorem l_step (S : Snd G N P k n) {elt tg iter : Expr} {ifs : List Expr} {scope : Scope} {pos : Pos} {e' : E} (W : Wx G N P k fn sc X) (h : cvL G N (n + 1) fn sc elt tg iter ifs scope = some e') :
    PE X (.ListComp elt [⟨tg, iter, ifs, 0⟩] scope pos) (TEm X.K (ev (cfg P k) e')) := by
  obtain ⟨it, tgE, cs, eltE, rfl, h1, h2, h3, h4, h5, h6⟩ := l_parts S W h
  refine (me_comp W.calm (by rw [W.n]; exact W.nd) h1 h2 h4 h5 h6 h3).cg fun s h => ?_
  simp only [ev] <;> rfl
/-- what a comprehension of two clauses needs of its parts -/
theorem m_parts (S : Snd G N P k n) {elt tg iter : Expr} {ifs : List Expr} {tg1 iter1 : Expr} {ifs1 : List Expr} {scope : Scope} {e' : E} (W : Wx G N P k fn sc X) (h : cvM G N (n + 1) fn sc elt tg iter ifs tg1 iter1 ifs1 scope = some e') :
    ∃ it tgE cs it1 tg1E cs1 eltE, e' = .comp2 eltE ((ownOf N scope).map (·.2)) tgE it cs (gSl N 4 tg1) tg1E it1 cs1 ∧ PI X tg iter (TIm X.K (isTup tg) (evI (cfg P k) it)) ∧ BlkOk X.N X.env.scope scope (ownOf N scope) ∧ (∀ i ∈ gSl N 4 tg1, i ∈ (ownOf N scope).map (·.2)) ∧
      (∀ (s : Shared) (H : Hp) (C : Addr) (cl : List (Str × Addr)) (fp : List Addr), PG (X.blk s H scope (compEnvC scope cl C X.env) fp) tg (TGm X.K (isTup tg) (KpW ((ownOf N scope).map (·.2))) (asg (cfg P k) tgE))) ∧
      (∀ (s : Shared) (H : Hp) (C : Addr) (cl : List (Str × Addr)) (fp : List Addr), PTs (X.blk s H scope (compEnvC scope cl C X.env) fp) ifs (TTm X.K (evC (cfg P k) cs))) ∧
      (∀ (s : Shared) (H : Hp) (C : Addr) (cl : List (Str × Addr)) (fp : List Addr), PI (X.blk s H scope (compEnvC scope cl C X.env) fp) tg1 iter1 (TIm X.K (isTup tg1) (evI (cfg P k) it1))) ∧
      (∀ (s : Shared) (H : Hp) (C : Addr) (cl : List (Str × Addr)) (fp : List Addr), PG (X.blk s H scope (compEnvC scope cl C X.env) fp) tg1 (TGm X.K (isTup tg1) (KpW (gSl N 4 tg1)) (asg (cfg P k) tg1E))) ∧
      (∀ (s : Shared) (H : Hp) (C : Addr) (cl : List (Str × Addr)) (fp : List Addr), PTs (X.blk s H scope (compEnvC scope cl C X.env) fp) ifs1 (TTm X.K (evC (cfg P k) cs1))) ∧
      (∀ (s : Shared) (H : Hp) (C : Addr) (cl : List (Str × Addr)) (fp : List Addr), PE (X.blk s H scope (compEnvC scope cl C X.env) fp) elt (TEm X.K (ev (cfg P k) eltE))) ∧ (∀ x, foldedSetIterable iter X.env x = pure x) ∧ (∀ env x, foldedSetIterable iter1 env x = pure x) := by
  simp only [cvM] at h
  split at h
  · rename_i hc
    simp only [Bool.and_eq_true] at hc
    obtain ⟨hb, hn, hn1, ho⟩ := hc
    simp only [Option.bind_eq_some_iff] at h
    obtain ⟨it, h1, tgE, h2, cs, h3, it1, h4, tg1E, h5, cs1, h6, eltE, h7, h8⟩ := h
    cases h8
    have ho : ∀ i ∈ gSl N 4 tg1, i ∈ (ownOf N scope).map (·.2) := fun i hi => of_decide_eq_true (List.all_eq_true.mp ho i hi)
    exact ⟨it, tgE, cs, it1, tg1E, cs1, eltE, rfl, S.i _ _ _ _ _ _ W h1, by rw [W.n, W.sc]; exact blkOk_by hb, ho, fun s H C cl fp => S.g (some _) _ _ _ _ _ _ (W.blk hb s H C cl fp) (KpW.ok _) (fun i σ v hi => wipe_set σ i (some v) _ (of_decide_eq_true hi)) h2,
      fun s H C cl fp => S.f _ _ _ _ _ (W.blk hb s H C cl fp) h3, fun s H C cl fp => S.i _ _ _ _ _ _ (W.blk hb s H C cl fp) h4, fun s H C cl fp => S.g (some _) _ _ _ _ _ _ (W.blk hb s H C cl fp) (KpW.ok _) (fun i σ v hi => wipe_set σ i (some v) _ (of_decide_eq_true hi)) h5,
      fun s H C cl fp => S.f _ _ _ _ _ (W.blk hb s H C cl fp) h6, fun s H C cl fp => S.e _ _ _ _ _ (W.blk hb s H C cl fp) h7, fold_set hn X.env, fun env x => fold_set hn1 env x⟩
  · cases h
theorem m_step (S : Snd G N P k n) {elt tg iter : Expr} {ifs : List Expr} {tg1 iter1 : Expr} {ifs1 : List Expr} {scope : Scope} {pos : Pos} {e' : E} (W : Wx G N P k fn sc X) (h : cvM G N (n + 1) fn sc elt tg iter ifs tg1 iter1 ifs1 scope = some e') :
    PE X (.ListComp elt [⟨tg, iter, ifs, 0⟩, ⟨tg1, iter1, ifs1, 0⟩] scope pos) (TEm X.K (ev (cfg P k) e')) := by
  obtain ⟨it, tgE, cs, it1, tg1E, cs1, eltE, rfl, p1, p2, p3, p4, p5, p6, p7, p8, p9, p10, p11⟩ := m_parts S W h
  refine (me_comp2 W.calm (by rw [W.n]; exact W.nd) p1 p2 p3 p4 p5 p6 p7 p8 p9 p10 p11).cg fun s h => ?_
  simp only [ev] <;> rfl
theorem snd_all (G : Gs) (N : List Str) (P : Prog) (k : Nat) : ∀ n, Snd G N P k n
  | 0 => ⟨fun _ _ _ _ _ _ h => by simp [cvE] at h, fun _ _ _ _ _ _ _ _ _ _ _ h => by simp [cvL] at h, fun _ _ _ _ _ _ _ _ _ _ _ _ _ _ h => by simp [cvM] at h, fun _ _ _ _ _ _ h => by simp [cvF] at h, fun _ _ _ _ _ _ _ _ _ _ _ _ h => by simp [cvC] at h, fun _ _ _ _ _ _ _ _ h => by simp [cvB] at h, fun _ _ _ _ _ _ h => by simp [cvEs] at h, fun _ _ _ _ _ _ h => by simp [cvO] at h,
      fun _ _ _ _ _ _ h => by simp [cvT] at h, fun _ _ _ _ _ _ _ _ h => by simp [cvTB] at h, fun _ _ _ _ _ _ _ h => by simp [cvI] at h, fun _ _ _ _ _ _ _ _ _ _ h => by simp [cvG] at h, fun _ _ _ _ _ _ _ _ _ _ h => by simp [cvGs] at h⟩
  | n + 1 => ⟨fun _ _ _ _ _ W h => e_step (snd_all G N P k n) W h, fun _ _ _ _ _ _ _ _ _ _ W h => l_step (snd_all G N P k n) W h, fun _ _ _ _ _ _ _ _ _ _ _ _ _ W h => m_step (snd_all G N P k n) W h, fun _ _ _ _ _ W h => f_step (snd_all G N P k n) W h, fun _ _ _ _ _ _ _ _ W hg hb hd h => c_step (snd_all G N P k n) W hg hb hd h, fun _ _ _ _ _ _ _ W h => b_step (snd_all G N P k n) W h, fun _ _ _ _ _ W h => es_step (snd_all G N P k n) W h, fun _ _ _ _ _ W h => o_step (snd_all G N P k n) W h,
      fun _ _ _ _ _ W h => t_step (snd_all G N P k n) W h, fun _ _ _ _ _ _ _ W h => tb_step (snd_all G N P k n) W h, fun _ _ _ _ _ _ W h => i_step (snd_all G N P k n) W h, fun _ _ _ _ _ _ _ W hK hs h => g_step (snd_all G N P k n) W hK hs h, fun _ _ _ _ _ _ _ W hK hs h => gs_step (snd_all G N P k n) W hK hs h⟩
end
end Mp

namespace Mp
open PySem PySem.Spec L2
/-! ### statements -/
def isLC : Expr → Bool
  | .ListComp .. => true
  | _ => false
def top (_ : Str) : Bool := true
section
variable (G : Gs) (N : List Str)
/-- a, b = x, y (three likewise) with plain local names -/
def cvPar (n : Nat) (sc : Scope) (names : List Str) (ts vs : List Expr) : Option S := match ts, vs with
  | [.Name x _, .Name y _], [_, _] => if names = [x, y] ∧ sc.names.lookup x = some .local ∧ sc.names.lookup y = some .local then (slot N x).bind fun i => (slot N y).bind fun j => (cvEs G N n top sc vs).bind fun as => match as with
      | .cons a (.cons b .nil) => if i ≠ j then some (.par2 i j a b) else none
      | _ => none
    else none
  | [.Name x _, .Name y _, .Name z _], [_, _, _] => if names = [x, y, z] ∧ sc.names.lookup x = some .local ∧ sc.names.lookup y = some .local ∧ sc.names.lookup z = some .local then
      (slot N x).bind fun i => (slot N y).bind fun j => (slot N z).bind fun l => (cvEs G N n top sc vs).bind fun as => match as with
      | .cons a (.cons b (.cons c .nil)) => if i ≠ j ∧ i ≠ l ∧ j ≠ l then some (.par3 i j l a b c) else none
      | _ => none
    else none
  | _, _ => none
mutual
def cvS : Nat → Scope → Stmt → Option S
  | 0, _, _ => none
  | n + 1, sc, st => match st with
    | .Pass _ => some .nop
    | .Break _ => some .brk
    | .Continue _ => some .cnt
    | .Expr (.Constant (.str _) _ _) _ => some .nop
    | .Expr e _ => if noComp e then (cvE G N n top sc e).bind fun e => some (.ex e) else none
    | .Return none _ => some .retn
    | .Return (some e) _ => (cvE G N n top sc e).bind fun e => some (.ret e)
    | .If c p q _ => (cvT G N n top sc c).bind fun c => (cvSs n sc p).bind fun p => (cvSs n sc q).bind fun q => some (.ite c p q)
    | .For tg it body [] _ => if noSet it then (cvI G N n top sc tg it).bind fun it => (cvG G N n none top sc tg).bind fun tg => (cvSs n sc body).bind fun b => some (.loop tg it b) else none
    | .While c body [] _ => (cvT G N n top sc c).bind fun c => (cvSs n sc body).bind fun b => some (.whl c b)
    | .AugAssign (.Name x _) o e _ => (opOf o).bind fun o => if o ≠ .pow ∧ locB sc x = true then (slot N x).bind fun i => (cvE G N n top sc e).bind fun e => some (.aug i o e) else none
    | .AugAssign (.Subscript a b _) o e _ => (opOf o).bind fun o => if o ≠ .pow ∧ noSlice b = true then (cvE G N n top sc a).bind fun a => (cvE G N n top sc b).bind fun b => (cvE G N n top sc e).bind fun e => some (.augIx a b o e) else none
    | .Assign [.Name x _] e _ => if noComp e || isLC e then (if locB sc x then (slot N x).bind fun i => (cvE G N n top sc e).bind fun e => some (.set (.nm i) e) else none) else none
    | .Assign [.Tuple ts k pt] (.Tuple vs k2 pt2) _ => match swP sc [.Tuple ts k pt] (.Tuple vs k2 pt2) with
      | some none => (cvE G N n top sc (.Tuple vs k2 pt2)).bind fun e => (cvG G N n none top sc (.Tuple ts k pt)).bind fun t => some (.set t e)
      | some (some names) => cvPar G N n sc names ts vs
      | none => none
    | .Assign [t] e _ => match swP sc [t] e with
      | some none => (cvE G N n top sc e).bind fun e => (cvG G N n none top sc t).bind fun t => some (.set t e)
      | _ => none
    | .Assign [t1, t2] e _ => if nst t1 && nst t2 then (cvE G N n top sc e).bind fun e => (cvG G N n none top sc t1).bind fun t1 => (cvG G N n none top sc t2).bind fun t2 => some (.set2 t1 t2 e) else none
    | _ => none
def cvSs : Nat → Scope → List Stmt → Option S
  | 0, _, _ => none
  | n + 1, sc, sts => match sts with
    | [] => some .nop
    | [st] => cvS n sc st
    | st :: sts => (cvS n sc st).bind fun a => (cvSs n sc sts).bind fun b => some (.seq a b)
end
end
section
variable {G : Gs} {N : List Str} {P : Prog} {k n : Nat} {sc : Scope} {X : Cx}
theorem block_fn {env : Env} (hk : env.scope.kind = .function) : env.blockKind = .function := by
  unfold Env.blockKind; rw [hk]; rfl
theorem swC_eq {env : Env} (hk : env.scope.kind = .function) {x : Str} {px : Pos} {e : Expr} (h : (noComp e || isLC e) = true) (l : Nat) : swapsWith e (some (.Name x px)) l env = pure (swC env.scope x px e) := by
  cases e with
  | ListComp elt gs scope pos =>
    have hb := block_fn hk
    unfold swapsWith swC
    simp only [hb]
    have e1 : (env.kindOf x == some NameKind.local) = decide (env.scope.names.lookup x = some .local) := by
      unfold Env.kindOf
      cases h : env.scope.names.lookup x with
      | none => rfl
      | some q => cases q <;> rfl
    simp only [Expr.pos, e1] <;> rfl
  | SetComp => cases h
  | DictComp => cases h
  | _ => rfl
theorem swP_eq {env : Env} (hk : env.scope.kind = .function) {ts : List Expr} {v : Expr} {r : Option (List Str)} (h : swP env.scope ts v = some r) : swappedStores ts v env = pure r := by
  have hb := block_fn hk
  unfold swP at h
  split at h
  · rename_i ts k p vs k2 p2
    have e0 : (env.blockKind != ScopeKind.function) = false := by rw [hb]; rfl
    unfold swappedStores
    simp only [e0, Bool.or_false]
    split at h
    · rename_i hc
      cases h
      exact if_pos hc
    · rename_i hc
      refine (if_neg hc).trans ?_
      split at h
      · rename_i hc2
        cases h
        exact if_pos hc2
      · rename_i hc2
        refine (if_neg hc2).trans ?_
        simp only at h
        split at h
        · rename_i hc3
          cases h
          exact if_pos hc3
        · rename_i hc3
          refine (if_neg hc3).trans ?_
          split at h
          · rename_i hc4
            cases h
            exact if_pos hc4
          · rename_i hc4
            refine (if_neg hc4).trans ?_
            split at h
            · cases h
            · rename_i hc5
              refine (if_neg hc5).trans ?_
              cases h
              rfl
  · cases h
  · rename_i h1 h2
    cases h
    unfold swappedStores
    split
    · rename_i a b c e
      split at e
      · exact absurd rfl (h1 _ _ _ _ _ _ rfl)
      · exact absurd rfl (h2 _ _ _ _ _ rfl)
      · cases e
    · rfl
end
end Mp

namespace Mp
open PySem PySem.Spec L2
section
variable {G : Gs} {N : List Str} {P : Prog} {k n : Nat} {sc : Scope} {X : Cx}
theorem g_top {n : Nat} {e : Expr} {e' : E} (W : Wx G N P k top sc X) (h : cvG G N n none top sc e = some e') : PG X e (TGm X.K (isTup e) KpT (asg (cfg P k) e')) :=
  (snd_all G N P k n).g none _ _ _ _ _ _ W KpT.ok (fun _ _ _ _ => trivial) h
theorem set_nm {C : Cfg} {i : Nat} {e : E} (s : Stm) (h : Hm) : exec C (.set (.nm i) e) s h = (ev C e s h).bind fun d h1 => let p := mat1 d h1; .ok (.nx (s.set i (some p.1))) p.2 := by
  simp only [exec, asg, R.bind_ok]
theorem setName_step {x : Str} {px pos : Pos} {e : Expr} {i : Nat} {e' : E} (W : Wx G N P k top sc X) (hc : (noComp e || isLC e) = true) (hl : locB sc x = true) (hi : slot N x = some i) (h : cvE G N n top sc e = some e') :
    PS X (.Assign [.Name x px] e pos) (TSm X.K (exec (cfg P k) (.set (.nm i) e'))) := by
  have hx := W.loc hl
  have hf : X.fn x = true ∨ X.env.scope.names.lookup x = some .local := .inl (W.fn x rfl)
  have hN : X.N.Nodup := by rw [W.n]; exact W.nd
  have hi' : X.N[i]? = some x := by rw [W.n]; exact slot_get hi
  have hsw := swC_eq W.kind (px := px) (x := x) hc pos.line
  cases hs : swC X.env.scope x px e with
  | false =>
    rw [hs] at hsw
    exact (ms_set hN hi' hx ((snd_all G N P k n).e _ _ _ _ _ W h) hsw hf).cg fun s h => set_nm s h
  | true =>
    rw [hs] at hsw
    cases e with
    | ListComp elt gs scope cpos =>
      -- one clause
      cases n with
      | zero => simp [cvE] at h
      | succ n =>
        have hloc : X.env.scope.names.lookup x = some .local := by
          simp only [swC, Bool.and_eq_true, decide_eq_true_eq] at hs
          exact hs.1.1
        match gs, h, hsw with
        | [], h, _ => simp [cvE] at h
        | _ :: _ :: _ :: _, h, _ => simp [cvE] at h
        | [⟨tg, iter, ifs, a⟩, ⟨tg1, iter1, ifs1, b⟩], h, hsw =>
          simp only [cvE] at h
          split at h
          · rename_i ha
            obtain ⟨rfl, rfl⟩ := ha
            cases n with
            | zero => simp [cvM] at h
            | succ n =>
              obtain ⟨it, tgE, cs, it1, tg1E, cs1, eltE, rfl, p1, p2, p3, p4, p5, p6, p7, p8, p9, p10, p11⟩ := m_parts (snd_all G N P k n) W h
              refine (ms_setComp2 W.calm hN hi' hloc hsw p1 p2 p3 p4 p5 p6 p7 p8 p9 p10 p11).cg fun s h => ?_
              rw [set_nm]
              simp only [ev] <;> rfl
          · cases h
        | [⟨tg, iter, ifs, a⟩], h, hsw =>
          simp only [cvE] at h
          split at h
          · rename_i ha
            subst ha
            cases n with
            | zero => simp [cvL] at h
            | succ n =>
              obtain ⟨it, tgE, cs, eltE, rfl, h1, h2, h3, h4, h5, h6⟩ := l_parts (snd_all G N P k n) W h
              refine (ms_setComp W.calm hN hi' hloc hsw h1 h2 h4 h5 h6 h3).cg fun s h => ?_
              rw [set_nm]
              simp only [ev] <;> rfl
          · cases h
    | _ => simp [swC] at hs
theorem par_step {x : Expr} {names : List Str} {ts vs : List Expr} {kt k2 : Nat} {pt pt2 pos : Pos} {e' : S} (W : Wx G N P k top sc X) (hw : swP sc [.Tuple ts kt pt] (.Tuple vs k2 pt2) = some (some names)) (h : cvPar G N n sc names ts vs = some e') :
    PS X (.Assign [.Tuple ts kt pt] (.Tuple vs k2 pt2) pos) (TSm X.K (exec (cfg P k) e')) := by
  have hN : X.N.Nodup := by rw [W.n]; exact W.nd
  have hsw := swP_eq W.kind (env := X.env) (by rw [W.sc]; exact hw)
  unfold cvPar at h
  split at h
  · rename_i x px y py a b
    split at h
    · rename_i hc
      obtain ⟨rfl, hx, hy⟩ := hc
      simp only [Option.bind_eq_some_iff] at h
      obtain ⟨i, h1, j, h2, as, h3, h4⟩ := h
      split at h4
      · rename_i a' b'
        split at h4
        · rename_i hij
          cases h4
          refine (ms_par2 W.calm hN (by rw [W.n]; exact slot_get h1) (by rw [W.n]; exact slot_get h2) hij (by rw [W.sc]; exact hx) (by rw [W.sc]; exact hy) ((snd_all G N P k n).es _ _ _ _ _ W h3) hsw rfl).cg fun s h => ?_
          simp only [exec] <;> rfl
        · cases h4
      · cases h4
    · cases h
  · rename_i x px y py z pz a b c
    split at h
    · rename_i hc
      obtain ⟨rfl, hx, hy, hz⟩ := hc
      simp only [Option.bind_eq_some_iff] at h
      obtain ⟨i, h1, j, h2, l, h2', as, h3, h4⟩ := h
      split at h4
      · rename_i a' b' c'
        split at h4
        · rename_i hij
          cases h4
          refine (ms_par3 W.calm hN (by rw [W.n]; exact slot_get h1) (by rw [W.n]; exact slot_get h2) (by rw [W.n]; exact slot_get h2') hij.1 hij.2.1 hij.2.2 (by rw [W.sc]; exact hx) (by rw [W.sc]; exact hy) (by rw [W.sc]; exact hz) ((snd_all G N P k n).es _ _ _ _ _ W h3) hsw rfl).cg fun s h => ?_
          simp only [exec] <;> rfl
        · cases h4
      · cases h4
    · cases h
  · cases h
theorem asg_step {t e : Expr} {pos : Pos} {e' t' : E} (W : Wx G N P k top sc X) (hw : swP sc [t] e = some none) (hs : ∀ l, swapsWithSole [t] e l X.env = pure false) (hn : nst t = true) (h : cvE G N n top sc e = some e') (h2 : cvG G N n none top sc t = some t') :
    PS X (.Assign [t] e pos) (TSm X.K (exec (cfg P k) (.set t' e'))) := by
  have hsw := swP_eq W.kind (env := X.env) (by rw [W.sc]; exact hw)
  refine (ms_asg ((snd_all G N P k n).e _ _ _ _ _ W h) (g_weak (g_top W h2)) (hs _) hsw ?_).cg fun s h => ?_
  · rw [assign_cons hn]; rfl
  · simp only [exec]
mutual
theorem s_ok : ∀ (n : Nat) (st : Stmt) (s' : S) (X : Cx), Wx G N P k top sc X → cvS G N n sc st = some s' → PS X st (TSm X.K (exec (cfg P k) s'))
  | 0, _, _, _, _, h => by simp [cvS] at h
  | n + 1, st, s', X, W, h => by
    have Se := fun {e e'} (h : cvE G N n top sc e = some e') => (snd_all G N P k n).e _ _ _ _ _ W h
    simp only [cvS] at h
    split at h
    · cases h; exact ms_pass.cg fun s h => by simp only [exec]
    · cases h; exact ms_break.cg fun s h => by simp only [exec]
    · cases h; exact ms_continue.cg fun s h => by simp only [exec]
    · cases h; exact ms_doc.cg fun s h => by simp only [exec]
    · split at h
      · rename_i hn
        simp only [Option.bind_eq_some_iff] at h
        obtain ⟨a', h1, h2⟩ := h
        cases h2
        exact (ms_ex (swaps_no hn _ _ _) (Se h1)).cg fun s h => by simp only [exec]
      · cases h
    · cases h; exact ms_retN.cg fun s h => by simp only [exec]
    · simp only [Option.bind_eq_some_iff] at h
      obtain ⟨a', h1, h2⟩ := h
      cases h2
      exact (ms_ret (Se h1)).cg fun s h => by simp only [exec]
    · simp only [Option.bind_eq_some_iff] at h
      obtain ⟨c', h1, p', h2, q', h3, h4⟩ := h
      cases h4
      exact (ms_if ((snd_all G N P k n).t _ _ _ _ _ W h1) (ss_ok n _ _ X W h2) (ss_ok n _ _ X W h3)).cg fun s h => by simp only [exec]
    · split at h
      · rename_i hn
        simp only [Option.bind_eq_some_iff] at h
        obtain ⟨it', h1, tg', h2, b', h3, h4⟩ := h
        cases h4
        exact (ms_for W.xe W.calm ((snd_all G N P k n).i _ _ _ _ _ _ W h1) (g_top W h2) (ss_ok n _ _ X W h3) (fold_set hn X.env)).cg fun s h => by simp only [exec]
      · cases h
    · simp only [Option.bind_eq_some_iff] at h
      obtain ⟨c', h1, b', h3, h4⟩ := h
      cases h4
      exact (ms_while (n := P.wf) W.xe ((snd_all G N P k n).t _ _ _ _ _ W h1) (ss_ok n _ _ X W h3)).cg fun s h => by simp only [exec] <;> rfl
    · simp only [Option.bind_eq_some_iff] at h
      obtain ⟨o', h1, h2⟩ := h
      split at h2
      · rename_i hc
        simp only [Option.bind_eq_some_iff] at h2
        obtain ⟨i, h3, e', h4, h5⟩ := h2
        cases h5
        obtain rfl := opOf_op h1
        exact (ms_aug hc.1 (by rw [W.n]; exact W.nd) (by rw [W.n]; exact slot_get h3) (W.loc hc.2) (.inl (W.fn _ rfl)) (Se h4)).cg fun s h => by simp only [exec] <;> rfl
      · cases h2
    · simp only [Option.bind_eq_some_iff] at h
      obtain ⟨o', h1, h2⟩ := h
      split at h2
      · rename_i hc
        simp only [Option.bind_eq_some_iff] at h2
        obtain ⟨a', h3, b', h3', e', h4, h5⟩ := h2
        cases h5
        obtain rfl := opOf_op h1
        exact (ms_augIx hc.1 (aug_store hc.2) (Se h3) (Se h3') (Se h4)).cg fun s h => by simp only [exec] <;> rfl
      · cases h2
    · split at h
      · rename_i hc
        split at h
        · rename_i hl
          simp only [Option.bind_eq_some_iff] at h
          obtain ⟨i, h1, e', h2, h3⟩ := h
          cases h3
          exact setName_step W hc hl h1 h2
        · cases h
      · cases h
    · split at h
      · rename_i hw
        simp only [Option.bind_eq_some_iff] at h
        obtain ⟨e', h1, t', h2, h3⟩ := h
        cases h3
        exact asg_step W hw (fun l => rfl) rfl h1 h2
      · rename_i names hw
        exact par_step (x := .Name "x" ⟨0, 0, 0, 0⟩) W hw h
      · cases h
    · rename_i t e pos hnn hnt
      split at h
      · rename_i hw
        simp only [Option.bind_eq_some_iff] at h
        obtain ⟨e', h1, t', h2, h3⟩ := h
        cases h3
        have hn : nst t = true := by
          cases n with
          | zero => simp [cvG] at h2
          | succ n => cases t <;> first | rfl | (simp [cvG] at h2)
        refine asg_step W hw (fun l => ?_) hn h1 h2
        cases t with
        | Name x p => exact absurd rfl (hnn _ _)
        | _ => cases e <;> rfl
      · cases h
    · split at h
      · rename_i hn
        simp only [Bool.and_eq_true] at hn
        simp only [Option.bind_eq_some_iff] at h
        obtain ⟨e', h1, t1', h2, t2', h3, h4⟩ := h
        cases h4
        refine (ms_asg2 (Se h1) (g_weak (g_top W h2)) (g_weak (g_top W h3)) ?_ ?_).cg fun s h => by simp only [exec]
        · rw [assign_cons hn.1, assign_cons hn.2]; rfl
        · rename_i t1 t2 _ _; cases t1 <;> rfl
      · cases h
    · cases h
theorem ss_ok : ∀ (n : Nat) (sts : List Stmt) (s' : S) (X : Cx), Wx G N P k top sc X → cvSs G N n sc sts = some s' → PSs X sts (TSm X.K (exec (cfg P k) s'))
  | 0, _, _, _, _, h => by simp [cvSs] at h
  | n + 1, sts, s', X, W, h => by
    simp only [cvSs] at h
    split at h
    · cases h; exact mss_nil.cg fun s h => by simp only [exec]
    · exact pss_one (s_ok n _ _ X W h)
    · simp only [Option.bind_eq_some_iff] at h
      obtain ⟨a', h1, b', h2, h3⟩ := h
      cases h3
      exact (mss_cons (s_ok n _ _ X W h1) (ss_ok n _ _ X W h2)).cg fun s h => by simp only [exec, seqS] <;> rfl
end
end
end Mp

namespace Mp
open PySem PySem.Spec L2
section
variable {K : PySem.W.Frag} {μ μ' : List Addr} {F G : Frs} {H H' : Hp} {h h0 h1 : Hm}
mutual
theorem RD.below : ∀ (d : D) (x : V), RD K μ H d x → Mp.below μ.length d = true
  | .non, _, _ => by simp [Mp.below]
  | .bl _, _, _ => by simp [Mp.below]
  | .int _, _, _ => by simp [Mp.below]
  | .str _, _, _ => by simp [Mp.below]
  | .tup ds, x, r => by
    simp only [RD] at r
    obtain ⟨a, vs, _, _, r⟩ := r
    simp only [Mp.below]
    exact RDs.below ds vs r
  | .lst ds, x, r => by simp [RD] at r
  | .ref i, x, r => by
    simp only [RD] at r
    obtain ⟨a, r, _⟩ := r
    simp only [Mp.below, decide_eq_true_eq]
    exact (List.getElem?_eq_some_iff.mp r).1
  | .fz _, _, _ => by simp [Mp.below]
theorem RDs.below : ∀ (ds : List D) (xs : List V), RDs K μ H ds xs → Mp.belows μ.length ds = true
  | [], _, _ => by simp [Mp.belows]
  | d :: ds, xs, r => by
    simp only [RDs] at r
    obtain ⟨v, vs, _, r1, r2⟩ := r
    simp only [Mp.belows, Bool.and_eq_true]
    exact ⟨RD.below d v r1, RDs.below ds vs r2⟩
end
theorem RH.below (q : RH K μ F H h) : h.all (O.below h.length) = true := by
  rw [List.all_eq_true]
  intro o ho
  obtain ⟨i, hi, e⟩ := List.getElem_of_mem ho
  obtain ⟨a, ho', _, _, r⟩ := q.at (List.getElem?_eq_getElem hi)
  rw [e] at r
  cases o with
  | lst xs =>
    obtain ⟨vs, _, r⟩ := r
    simp only [O.below]
    rw [← q.len]
    exact RDs.below xs vs r
theorem prefix_take (p : μ <+: μ') : μ'.take μ.length = μ := by
  obtain ⟨t, rfl⟩ := p
  simp
/-- a result that is handed out of a def whose new objects go -/
theorem lift_out {d d' : D} {x : V} (w : RW K μ' H [d] [x] G) (q : RH K μ' (G ++ F) H h1) (p : μ <+: μ') (b : (h1.take μ.length).all (O.below μ.length) = true) (e : lift μ.length h1 d = some d') :
    ∃ G', RW K μ H [d'] [x] G' ∧ RH K μ (G' ++ F) H (h1.take μ.length) := by
  have qt : RH K μ (G ++ F) H (h1.take μ.length) := by
    have := q.take b
    rwa [prefix_take p] at this
  have simple : ∀ {d : D}, RW K μ' H [d] [x] G → Mp.below μ.length d = true → ∃ G', RW K μ H [d] [x] G' ∧ RH K μ (G' ++ F) H (h1.take μ.length) := fun {d} w hb => by
    cases w with
    | val r t =>
      cases t
      have r2 := RD.take (n := μ.length) d x hb r
      rw [prefix_take p] at r2
      exact ⟨[], .val r2 .nil, qt⟩
    | lst r t =>
      cases t
      simp only [Mp.below] at hb
      have r2 := RDs.take (n := μ.length) _ _ hb r
      rw [prefix_take p] at r2
      exact ⟨_, .lst r2 .nil, qt⟩
  unfold lift at e
  split at e
  · rename_i i
    split at e
    · rename_i hi
      cases e
      exact simple w (by simpa only [Mp.below, decide_eq_true_eq] using hi)
    · rename_i hi
      split at e
      · rename_i xs e1
        split at e
        · rename_i hb
          cases e
          obtain ⟨rfl, a, vs, rfl, ea, eH, r⟩ := ref_at w q e1
          have r2 := RDs.take (n := μ.length) _ _ hb r
          rw [prefix_take p] at r2
          refine ⟨[(a, .lst vs)], .lst r2 .nil, qt.len, fun i o b e1 e2 => qt.obj i o b e1 e2, fun y hy => ?_, ?_⟩
          · rcases List.mem_cons.mp hy with rfl | hy
            · exact eH
            · exact qt.frm y hy
          · have nd := q.nd
            have e3 : μ' = μ'.take μ.length ++ μ'.drop μ.length := (List.take_append_drop _ _).symm
            rw [prefix_take p] at e3
            have ha : a ∈ μ'.drop μ.length := by
              rw [List.mem_iff_getElem?]
              refine ⟨i - μ.length, ?_⟩
              rw [List.getElem?_drop, show μ.length + (i - μ.length) = i by omega]
              exact ea
            rw [e3] at nd
            refine List.Nodup.sublist ?_ nd
            rw [List.append_assoc]
            refine List.Sublist.append (List.Sublist.refl _) ?_
            show (a :: _).Sublist _
            rw [← List.singleton_append]
            exact List.Sublist.append (List.singleton_sublist.mpr ha) (List.Sublist.refl _)
        · cases e
      · cases e
  · split at e
    · rename_i hb
      cases e
      exact simple w hb
    · cases e
theorem fin_out {mode : Nat} {d d' : D} {x : V} {F0 : Frs} {H0 : Hp} {h' : Hm} (w : RW K μ' H [d] [x] G) (q : RH K μ' (G ++ F) H h1) (p : μ <+: μ') (q0 : RH K μ F0 H0 h0) (e : fin mode h0 d h1 = .ok d' h') :
    ∃ μ2 G', μ <+: μ2 ∧ RW K μ2 H [d'] [x] G' ∧ RH K μ2 (G' ++ F) H h' := by
  have hl := q0.len
  unfold fin at e
  split at e
  · cases e
    exact ⟨μ', G, p, w, q⟩
  · split at e
    · rename_i ht
      cases e2 : lift h0.length h1 d with
      | none => rw [e2] at e; cases e
      | some z =>
        rw [e2] at e
        cases e
        have b : (h1.take μ.length).all (O.below μ.length) = true := by
          rw [hl, ht]
          exact q0.below
        rw [← hl] at e2
        obtain ⟨G', w', q'⟩ := lift_out w q p b e2
        rw [hl, ht] at q'
        exact ⟨μ, G', List.prefix_refl _, w', q'⟩
    · cases e
  · split at e
    · rename_i hc
      simp only [Bool.and_eq_true] at hc
      cases e2 : lift h0.length h1 d with
      | none => rw [e2] at e; cases e
      | some z =>
        rw [e2] at e
        cases e
        rw [← hl] at e2 hc
        obtain ⟨G', w', q'⟩ := lift_out w q p hc.1 e2
        rw [hl] at q'
        exact ⟨μ, G', List.prefix_refl _, w', q'⟩
    · cases e
end
/-! ### a def -/
def dArgs : Stmt → Arguments
  | .FunctionDef _ a _ _ _ _ _ _ _ _ => a
  | _ => { posonlyargs := [], args := [], vararg := none, kwonlyargs := [], kw_defaults := [], kwarg := none, defaults := [] }
def dBody : Stmt → List Stmt
  | .FunctionDef _ _ b _ _ _ _ _ _ _ => b
  | _ => []
def dScope : Stmt → Scope
  | .FunctionDef _ _ _ _ _ _ sc _ _ _ => sc
  | _ => { kind := .function, names := [], isGenerator := false, isCoroutine := false }
theorem call_ok {G : Gs} {N ps : List Str} {P : Prog} {k i n : Nat} {fn : Fn} {sc : Scope} {body : List Stmt} {X : Cx} {vs : List V} {Q : VK} {H : Hp} (W : Wx G N P k top sc X.nox) (hi : P.fns[i]? = some fn) (hb : cvSs G N n sc body = some fn.body) (hp : fn.np = ps.length) (hl : fn.nl = N.length)
    (hnp : fn.np ≤ fn.nl) (hsp : spM X.K fn.np (callF P (k + 1) i) vs H Q E0) :
    PSs X.nox body (TSm X.K (exec (cfg P k) fn.body)) ∧ TSm X.K (exec (cfg P k) fn.body) { nx := fun _ H' => Q .non H', rt := Q } (L2.start N vs) H := by
  refine ⟨ss_ok n body fn.body X.nox W hb, fun l => ?_⟩
  obtain ⟨hlen, hsp⟩ := hsp
  obtain ⟨μ, F, ds, h, rds, rh, out⟩ := hsp
  have hdl : ds.length = fn.np := by rw [rds.length, hlen]
  refine ⟨μ, F, ds.map some ++ List.replicate (fn.nl - fn.np) none, h, ⟨?_, ?_⟩, rh, ?_⟩
  · unfold L2.start
    simp only [List.length_append, List.length_map, List.length_replicate]
    rw [hdl, hlen, hl]
  · intro j d e
    unfold L2.start
    have hj : j < ds.length := by
      rcases Nat.lt_or_ge j ds.length with h1 | h1
      · exact h1
      · rw [List.getElem?_append_right (by simpa using h1)] at e
        rw [List.getElem?_replicate] at e
        split at e <;> cases e
    rw [List.getElem?_append_left (by simpa using hj), List.getElem?_map] at e
    have e2 : ds[j]? = some d := by
      cases e3 : ds[j]? with
      | none => rw [e3] at e; cases e
      | some d' => rw [e3] at e; simpa using e
    obtain ⟨v, ev, rv⟩ := rds.get e2
    refine ⟨v, ?_, rv⟩
    have hj2 : j < vs.length := (List.getElem?_eq_some_iff.mp ev).1
    rw [List.getElem?_append_left (by simpa using hj2), List.getElem?_map, ev]
    rfl
  · simp only [callF, hi, runFn, if_pos hdl] at out
    have out : Out X.K (relE X.K) μ F H Q ((exec (cfg P k) fn.body (ds.map some ++ List.replicate (fn.nl - fn.np) none) h).bind fun fl h1 => match fl with
      | .nx _ => fin fn.mode h .non h1
      | .rt d => fin fn.mode h d h1
      | _ => .no) := out
    cases er : exec (cfg P k) fn.body (ds.map some ++ List.replicate (fn.nl - fn.np) none) h with
    | exc _ _ _ => rw [er] at out; exact out.elim
    | no => rw [er] at out; exact out.elim
    | ok fl h1 =>
      rw [er, R.bind_ok] at out
      have done : ∀ (d : D), Out X.K (relE X.K) μ F H Q (fin fn.mode h d h1) → ∀ (μ' : List Addr) (H' : Hp) (x : V) (G : Frs), RW X.K μ' H' [d] [x] G → RH X.K μ' (G ++ F) H' h1 → μ <+: μ' → Mo H H' → LenOk X.K H' → Q x H' := fun d out μ' H' x G w rh' p m l' => by
        cases ef : fin fn.mode h d h1 with
        | exc _ _ _ => rw [ef] at out; exact out.elim
        | no => rw [ef] at out; exact out.elim
        | ok d' h' =>
          rw [ef] at out
          obtain ⟨μ2, G', p2, w2, q2⟩ := fin_out w rh' p rh ef
          exact out μ2 H' x G' w2 q2 p2 m l'
      cases fl with
      | nx s1 => exact fun μ' H' σ' rs' rh' p m l' => done .non out μ' H' .non [] (.val rfl .nil) rh' p m l'
      | rt d => exact fun μ' H' x G w rh' p m l' => done d out μ' H' x G w rh' p m l'
      | bk _ => exact out.elim
      | ct _ => exact out.elim
end Mp

namespace Mp
open PySem PySem.Spec L2
/-! ### a whole program -/
structure Src where
  name : Str
  st : Stmt
  N : List Str
  ps : List Str
/-- a look at the names of a def's scope -/
def scB (N P : List Str) (sc : Scope) : Bool :=
  decide (sc.kind = .function) && !sc.isCoroutine && !sc.isGenerator && decide N.Nodup && decide (N.take P.length = P) && P.all (fun x => decide (sc.names.lookup x = some .local) || decide (sc.names.lookup x = some .cell)) && sc.names.all (fun y => !decide (y.2 = .free))
theorem fnScope_of {N P : List Str} {sc : Scope} (h : scB N P sc = true) : FnScope N P sc := by
  unfold scB at h
  simp only [Bool.and_eq_true, Bool.not_eq_true', decide_eq_true_eq, List.all_eq_true, Bool.or_eq_true, decide_eq_false_iff_not] at h
  obtain ⟨⟨⟨⟨⟨⟨h1, h2⟩, h3⟩, h4⟩, h5⟩, h6⟩, h7⟩ := h
  exact ⟨h1, h2, h3, h4, h5, h6, h7⟩
def fuel : Nat := 1000
/-- the compact text of the def -/
def srcB (G : Gs) (s : Src) (fn : Fn) : Bool :=
  scB s.N s.ps (dScope s.st) && decide (cvSs G s.N fuel (dScope s.st) (dBody s.st) = some fn.body) && decide (fn.np = s.ps.length) && decide (fn.nl = s.N.length) && decide (fn.np ≤ fn.nl)
/-- a def of the module, as the top has left it -/
def DefAt (K : PySem.W.Frag) (mg : Str → Option Value) (s : Src) (f : Addr) (fd : FuncData) : Prop :=
  ∃ (oc : Value) (od : Option Addr) (kV doc pm : Value) (an : Option Addr) (cdv ct : Value) (osl : Array (Option Value)),
    fd = PySem.W.fnOf s.name s.name (dArgs s.st) (dBody s.st) (dScope s.st) .none kV doc pm an cdv ct ∧ K.lookup f = some ⟨oc, od, .func fd, osl⟩ ∧ PySem.W.codeIn K cdv s.name = true ∧ mg s.name = some (.ref f) ∧ PySem.W.keepIn K (.ref f) = true
theorem def_at {K : PySem.W.Frag} {h : Heap} {mg : Str → Option Value} {s : Src} {f : Addr} {oc : Value} {od : Option Addr} {kV doc pm : Value} {an : Option Addr} {cdv ct : Value} {osl : Array (Option Value)} (X : K.In h) (G : h.Ns mainGlobals mg) (a : PySem.W.nsIn K mainGlobals s.name = some (some (.ref f)))
    (l : K.lookup f = some ⟨oc, od, .func (PySem.W.fnOf s.name s.name (dArgs s.st) (dBody s.st) (dScope s.st) .none kV doc pm an cdv ct), osl⟩) (c : PySem.W.codeIn K cdv s.name = true) (k : PySem.W.keepIn K (.ref f) = true) :
    ∃ f fd, DefAt K mg s f fd := ⟨f, _, oc, od, kV, doc, pm, an, cdv, ct, osl, rfl, l, c, PySem.W.mg_of X G a, k⟩
/-- how its arguments bind -/
def BindB (s : Src) : Prop := ∀ (kV doc pm : Value) (an : Option Addr) (cdv ct : Value) (us : List Value), us.length = s.ps.length → bindArgs (PySem.W.fnOf s.name s.name (dArgs s.st) (dBody s.st) (dScope s.st) .none kV doc pm an cdv ct) ⟨us, []⟩ = pure (s.ps.zip us)
inductive AllOk (G : Gs) : List Src → List Fn → Prop where
  | nil : AllOk G [] []
  | cons {s : Src} {fn : Fn} {ss : List Src} {fs : List Fn} : srcB G s fn = true → BindB s → AllOk G ss fs → AllOk G (s :: ss) (fn :: fs)
def fnsB (G : Gs) (ss : List Src) (fs : List Fn) : Bool := G.fns.all fun e => match ss[e.2.1]?, fs[e.2.1]? with
  | some s, some fn => decide (s.name = e.1) && decide (fn.np = e.2.2)
  | _, _ => false
theorem AllOk.at {G : Gs} {ss : List Src} {fs : List Fn} (h : AllOk G ss fs) : ∀ (i : Nat) (s : Src) (fn : Fn), ss[i]? = some s → fs[i]? = some fn → srcB G s fn = true ∧ BindB s := by
  induction h with
  | nil => intro i s fn h; simp at h
  | cons h1 h2 _ ih =>
    intro i s fn e1 e2
    cases i with
    | zero =>
      simp only [List.getElem?_cons_zero, Option.some.injEq] at e1 e2
      subst e1 e2
      exact ⟨h1, h2⟩
    | succ i =>
      simp only [List.getElem?_cons_succ] at e1 e2
      exact ih i s fn e1 e2
theorem fns_at {G : Gs} {ss : List Src} {fs : List Fn} (h : fnsB G ss fs = true) {x : Str} {i np : Nat} (e : G.fns.lookup x = some (i, np)) : ∃ s fn, ss[i]? = some s ∧ s.name = x ∧ fs[i]? = some fn ∧ fn.np = np := by
  unfold fnsB at h
  rw [List.all_eq_true] at h
  have q := h _ (PySem.mem_of_lookup e)
  simp only at q
  split at q
  · rename_i s fn e1 e2
    simp only [Bool.and_eq_true, decide_eq_true_eq] at q
    exact ⟨s, fn, e1, q.1, e2, q.2⟩
  · cases q
section
variable {G : Gs} {P : Prog} {ss : List Src} {PP : Program} {w : World} {K : PySem.W.Frag} {mg : Str → Option Value} {base : Heap}
def CstOk (G : Gs) (P : Prog) (K : PySem.W.Frag) (mg : Str → Option Value) : Prop := ∀ x i, G.cst.lookup x = some i → ∃ d v u, P.cst[i]? = some d ∧ mg x = some u ∧ RelV v u ∧ ∀ μ H, RD K μ H d v
theorem prog_ok (O : AllOk G ss P.fns) (OF : fnsB G ss P.fns = true) (hd : ∀ s ∈ ss, ∃ f fd, DefAt K mg s f fd) (hc : CstOk G P K mg) (hb : ∀ x ∈ G.bl, mg x = none) :
    ∀ (k i : Nat) (s : Src) (fn : Fn) (f : Addr) (fd : FuncData), ss[i]? = some s → P.fns[i]? = some fn → DefAt K mg s f fd → FnOk PP w K mg base CX0 k f fd s.ps (spM K fn.np (callF P k i)) ∧ Binds K fd s.ps [] := by
  intro k
  induction k with
  | zero =>
    intro i s fn f fd hs hf hdf
    obtain ⟨oc, od, kV, doc, pm, an, cdv, ct, osl, rfl, lk, hcd, hm, hk⟩ := hdf
    obtain ⟨hsb, hbind⟩ := O.at i s fn hs hf
    have hnp : fn.np = s.ps.length := by
      simp only [srcB, Bool.and_eq_true, decide_eq_true_eq] at hsb
      exact hsb.1.1.2
    refine ⟨⟨fun vs H Q E h => h.1.trans hnp, fun A outer s0 H args us vs Q E hr he hb' hv h => ?_⟩, .all (hbind kV doc pm an cdv ct)⟩
    obtain ⟨_, μ, F, ds, hh, _, _, out⟩ := h
    exact out.elim
  | succ k ih =>
    intro i s fn f fd hs hf hdf
    obtain ⟨oc, od, kV, doc, pm, an, cdv, ct, osl, rfl, lk, hcd, hm, hk⟩ := hdf
    obtain ⟨hsb, hbind⟩ := O.at i s fn hs hf
    simp only [srcB, Bool.and_eq_true, decide_eq_true_eq] at hsb
    obtain ⟨⟨⟨⟨h1, h2⟩, h3⟩, h4⟩, h5⟩ := hsb
    have S := fnScope_of h1
    refine ⟨fn_of lk hcd S (fun vs H Q E h => h.1.trans h3) fun A outer s0 H vs Q E hr hsp => ?_, .all (hbind kV doc pm an cdv ct)⟩
    have W : Wx G s.N P k top (dScope s.st) (cxOf CX0 PP w K mg base s.N s.name (dScope s.st) f cdv A outer s0 H E).nox :=
      ⟨rfl, S.kind, rfl, S.nd, rfl, fun _ _ => rfl, rfl, hr, fun x j np hx => by
        obtain ⟨s', fn', hs', rfl, hf', rfl⟩ := fns_at OF hx
        obtain ⟨f', fd', D'⟩ := hd s' (List.mem_of_getElem? hs')
        obtain ⟨F', b'⟩ := ih j s' fn' f' fd' hs' hf' D'
        obtain ⟨_, _, _, _, _, _, _, _, _, _, _, _, m', k'⟩ := D'
        exact ⟨f', fd', s'.ps, F', m', k', b'⟩, hc, hb⟩
    obtain ⟨hl, rest⟩ := hsp
    obtain ⟨p1, p2⟩ := call_ok (X := cxOf CX0 PP w K mg base s.N s.name (dScope s.st) f cdv A outer s0 H E) (ps := s.ps) (vs := vs) (Q := Q) (H := H) W hf h2 h3 h4 h5 ⟨hl, rest⟩
    exact ⟨_, p1.nox, p2⟩
/-- the law's def, for the law's end -/
theorem law_fn {k i : Nat} {s : Src} {fn : Fn} {fa : Addr} {x : Str} (O : AllOk G ss P.fns) (OF : fnsB G ss P.fns = true) (hs : ss[i]? = some s) (hf : P.fns[i]? = some fn) (hps : s.ps = [x]) (hmg : mg s.name = some (.ref fa)) (hbs : ∀ (kV doc pm : Value) (an : Option Addr) (cdv ct : Value) (s0 : Shared) (u : Value), BindsTo s0 (PySem.W.fnOf s.name s.name (dArgs s.st) (dBody s.st) (dScope s.st) .none kV doc pm an cdv ct) ⟨[u], []⟩ [(x, u)])
    (hd : ∀ s ∈ ss, ∃ f fd, DefAt K mg s f fd) (hc : CstOk G P K mg) (hb : ∀ x ∈ G.bl, mg x = none) :
    ∃ fd : FuncData, (∀ (s : Shared) (u : Value), BindsTo s fd ⟨[u], []⟩ [(x, u)]) ∧ ∀ base : Heap, K.In base → base.Ns mainGlobals mg → FnOk PP w K mg base CX0 k fa fd [x] (spM K 1 (callF P k i)) := by
  obtain ⟨f, fd, D⟩ := hd s (List.mem_of_getElem? hs)
  have ef : f = fa := by
    obtain ⟨_, _, _, _, _, _, _, _, _, _, _, _, m, _⟩ := D
    rw [hmg] at m
    cases m
    rfl
  subst ef
  have hnp : fn.np = 1 := by
    obtain ⟨hsb, _⟩ := O.at i s fn hs hf
    simp only [srcB, Bool.and_eq_true, decide_eq_true_eq] at hsb
    rw [hsb.1.1.2, hps]
    rfl
  refine ⟨fd, ?_, fun base _ _ => ?_⟩
  · obtain ⟨_, _, kV, doc, pm, an, cdv, ct, _, rfl, _⟩ := D
    exact fun s0 u => hbs kV doc pm an cdv ct s0 u
  · have := (prog_ok (PP := PP) (w := w) (base := base) O OF hd hc hb k i s fn f fd hs hf D).1
    rw [hps, hnp] at this
    exact this
end
/-! ### constants of the module -/
mutual
def cstB (K : PySem.W.Frag) : Nat → D → Value → Bool
  | _, .int i, .int j _ => i == j
  | _, .str i, .str j _ => i == j
  | _, .bl i, .bool j => i == j
  | _, .non, .none => true
  | n + 1, .tup ds, .ref a => match K.lookup a with
    | some o => (match o.cls, o.dict, o.data with
      | .type c, none, .seq its _ => c == "tuple" && decide (its.size ≤ 1000) && cstsB K n ds its.toList
      | _, _, _ => false)
    | none => false
  | _, _, _ => false
def cstsB (K : PySem.W.Frag) : Nat → List D → List Value → Bool
  | _, [], [] => true
  | n + 1, d :: ds, u :: us => cstB K n d u && cstsB K n ds us
  | _, _, _ => false
end
mutual
theorem cst_of {K : PySem.W.Frag} : ∀ (n : Nat) (d : D) (u : Value), cstB K n d u = true → ∃ v, RelV v u ∧ ∀ μ H, RD K μ H d v
  | n, .int i, u, h => by
    cases u <;> simp only [cstB, Bool.false_eq_true, reduceCtorEq] at h
    simp only [beq_iff_eq] at h
    subst h
    exact ⟨.int i, ⟨_, rfl⟩, fun _ _ => by simp only [RD]⟩
  | n, .str i, u, h => by
    cases u <;> simp only [cstB, Bool.false_eq_true, reduceCtorEq] at h
    simp only [beq_iff_eq] at h
    subst h
    exact ⟨.str i, ⟨_, rfl⟩, fun _ _ => by simp only [RD]⟩
  | n, .bl i, u, h => by
    cases u <;> simp only [cstB, Bool.false_eq_true, reduceCtorEq] at h
    simp only [beq_iff_eq] at h
    subst h
    exact ⟨.bl i, rfl, fun _ _ => by simp only [RD]⟩
  | n, .non, u, h => by
    cases u <;> simp only [cstB, Bool.false_eq_true, reduceCtorEq] at h
    exact ⟨.non, rfl, fun _ _ => by simp only [RD]⟩
  | 0, .tup ds, u, h => by cases u <;> simp [cstB] at h
  | n + 1, .tup ds, u, h => by
    cases u <;> simp only [cstB, Bool.false_eq_true, reduceCtorEq] at h
    rename_i a
    cases e : K.lookup a with
    | none => rw [e] at h; simp at h
    | some o =>
      rw [e] at h
      simp only at h
      split at h
      · rename_i c its nn e1 e2 e3
        simp only [Bool.and_eq_true, beq_iff_eq, decide_eq_true_eq] at h
        obtain ⟨⟨rfl, hz⟩, h⟩ := h
        obtain ⟨vs, r, q⟩ := csts_of n ds its.toList h
        refine ⟨.ref a, rfl, fun μ H => ?_⟩
        simp only [RD]
        refine ⟨a, vs, rfl, .inr ⟨o, its, nn, e, e1, e2, e3, by rw [sizeLine_eq]; omega, r⟩, q μ H⟩
      · cases h
  | n, .lst _, u, h => by cases u <;> cases n <;> simp [cstB] at h
  | n, .ref _, u, h => by cases u <;> cases n <;> simp [cstB] at h
  | n, .fz _, u, h => by cases u <;> cases n <;> simp [cstB] at h
theorem csts_of {K : PySem.W.Frag} : ∀ (n : Nat) (ds : List D) (us : List Value), cstsB K n ds us = true → ∃ vs, Vals vs us ∧ ∀ μ H, RDs K μ H ds vs
  | n, [], us, h => by
    cases us with
    | nil => exact ⟨[], .nil, fun _ _ => rfl⟩
    | cons _ _ => cases n <;> simp [cstsB] at h
  | 0, d :: ds, us, h => by simp [cstsB] at h
  | n + 1, d :: ds, us, h => by
    cases us with
    | nil => simp [cstsB] at h
    | cons u us =>
      simp only [cstsB, Bool.and_eq_true] at h
      obtain ⟨v, r1, q1⟩ := cst_of n d u h.1
      obtain ⟨vs, r2, q2⟩ := csts_of n ds us h.2
      exact ⟨v :: vs, .cons r1 r2, fun μ H => by simp only [RDs]; exact ⟨v, vs, rfl, q1 μ H, q2 μ H⟩⟩
end
theorem cst_mk {P : Prog} {K : PySem.W.Frag} {h : Heap} {mg : Str → Option Value} {x : Str} {i n : Nat} {d : D} {u : Value} (X : K.In h) (G : h.Ns mainGlobals mg) (e : P.cst[i]? = some d) (a : PySem.W.nsIn K mainGlobals x = some (some u)) (b : cstB K n d u = true) :
    ∃ d v u, P.cst[i]? = some d ∧ mg x = some u ∧ RelV v u ∧ ∀ μ H, RD K μ H d v := by
  obtain ⟨v, r, q⟩ := cst_of n d u b
  exact ⟨d, v, u, e, PySem.W.mg_of X G a, r, q⟩
/-! ### the law -/
/-- what is left to show of the law: its outcome at every script -/
def LawTrue (P : Prog) (k i : Nat) : Prop := ∀ ns : List Int, ns.length ≤ 63 → ∃ h, callF P k i [.fz ns] [] = .ok (.bl true) h
theorem law_sp {P : Prog} {k i : Nat} (L : LawTrue P k i) (K : PySem.W.Frag) (H : Hp) (a : Addr) (ns : List Int) (hl : ns.length ≤ 63) (hO : Only H) (hS : SqL K H a (ns.map V.int)) : spM K 1 (callF P k i) [.ref a] H (fun v _ => v = .bl true) fun _ _ _ => False := by
  obtain ⟨h, e⟩ := L ns hl
  have hz : FzL K H a (ns.map V.int) := by
    rcases hS with (q | q) | q
    · rcases hO a with q' | ⟨o, xs, q'⟩
      · rw [q] at q'; cases q'
      · rw [q] at q'; cases q'
    · exact .inl q
    · exact .inr q
  refine ⟨rfl, [], [], [.fz ns], [], ?_, ⟨rfl, fun i o b e1 => by simp at e1, fun p hp => by simp at hp, by simp⟩, ?_⟩
  · simp only [RDs, RD]
    exact ⟨_, [], rfl, ⟨a, rfl, hz⟩, rfl⟩
  · rw [e]
    intro μ' H' x G w rh p m l
    exact (RW.bl_of (show RW K μ' H' [.bl true] [x] G from w)).1
end Mp

namespace Mp
open PySem PySem.Spec L2
/-! ### running the compact text by simp -/
section
variable (C : Cfg) (s : Stm) (h : Hm)
@[simp] theorem rb_ok {α β : Type} (a : α) (h : Hm) (f : α → Hm → R β) : (R.ok a h).bind f = f a h := rfl
@[simp] theorem rb_no {α β : Type} (f : α → Hm → R β) : (R.no : R α).bind f = .no := rfl
@[simp] theorem ro_some {α : Type} (a : α) : R.of (some a) h = .ok a h := rfl
@[simp] theorem ro_none {α : Type} : (R.of none h : R α) = .no := rfl
@[simp] theorem ro_ite {α : Type} (c : Prop) [Decidable c] (a b : Option α) : R.of (if c then a else b) h = if c then R.of a h else R.of b h := by split <;> rfl
theorem rb_ite {α β : Type} (c : Prop) [Decidable c] (a b : R α) (f : α → Hm → R β) : (if c then a else b).bind f = if c then a.bind f else b.bind f := by split <;> rfl
@[simp] theorem ev_non : ev C .non s h = .ok .non h := rfl
@[simp] theorem ev_bl (b : Bool) : ev C (.bl b) s h = .ok (.bl b) h := rfl
@[simp] theorem ev_int (i : Int) : ev C (.int i) s h = .ok (.int i) h := rfl
@[simp] theorem ev_str (i : Str) : ev C (.str i) s h = .ok (.str i) h := rfl
@[simp] theorem ev_var (i : Nat) : ev C (.var i) s h = (match s[i]? with | some (some d) => .ok d h | _ => .no) := rfl
@[simp] theorem ev_cst (i : Nat) : ev C (.cst i) s h = R.of C.cst[i]? h := rfl
@[simp] theorem ev_op (o : Bop) (a b : E) : ev C (.op o a b) s h = (ev C a s h).bind fun x h1 => (ev C b s h1).bind fun y h2 => R.of (bop h2 o x y) h2 := by simp only [ev] <;> rfl
@[simp] theorem ev_neg (a : E) : ev C (.neg a) s h = (ev C a s h).bind fun x h1 => R.of (negD x) h1 := by simp only [ev] <;> rfl
@[simp] theorem ev_cmp (o : Cop) (a b : E) : ev C (.cmp o a b) s h = (ev C a s h).bind fun x h1 => (ev C b s h1).bind fun y h2 => R.of ((cop h2 o x y).map .bl) h2 := by simp only [ev] <;> rfl
@[simp] theorem ev_chain (o p : Cop) (a b c : E) : ev C (.chain o p a b c) s h = (ev C a s h).bind fun x h1 => (ev C b s h1).bind fun y h2 => (R.of (copM h2 o x y) h2).bind fun k h3 => if k then (ev C c s h3).bind fun z h4 => R.of ((cop h4 p y z).map .bl) h4 else .ok (.bl false) h3 := by simp only [ev] <;> rfl
@[simp] theorem ev_and (a b : E) : ev C (.and a b) s h = (ev C a s h).bind fun x h1 => (R.of (truth h1 x) h1).bind fun k h2 => if k then ev C b s h2 else .ok x h2 := by simp only [ev] <;> rfl
@[simp] theorem ev_or (a b : E) : ev C (.or a b) s h = (ev C a s h).bind fun x h1 => (R.of (truth h1 x) h1).bind fun k h2 => if k then .ok x h2 else ev C b s h2 := by simp only [ev] <;> rfl
@[simp] theorem ev_not (a : E) : ev C (.not a) s h = (ev C a s h).bind fun x h1 => (R.of (truth h1 x) h1).bind fun k h2 => .ok (.bl (!k)) h2 := by simp only [ev] <;> rfl
@[simp] theorem ev_ite (c a b : E) : ev C (.ite c a b) s h = (evT C c s h).bind fun k h1 => if k then ev C a s h1 else ev C b s h1 := by simp only [ev] <;> rfl
@[simp] theorem ev_tup (es : E) : ev C (.tup es) s h = (evs C es s h).bind fun ds h1 => let p := mats ds h1; .ok (.tup p.1) p.2 := by simp only [ev] <;> rfl
@[simp] theorem ev_lst (es : E) : ev C (.lst es) s h = (evs C es s h).bind fun ds h1 => let p := mats ds h1; .ok (.lst p.1) p.2 := by simp only [ev] <;> rfl
@[simp] theorem ev_ix (a i : E) : ev C (.ix a i) s h = (ev C a s h).bind fun x h1 => (ev C i s h1).bind fun y h2 => R.of (ixD h2 x y) h2 := by simp only [ev] <;> rfl
@[simp] theorem ev_sl (a lo hi : E) : ev C (.sl a lo hi) s h = (ev C a s h).bind fun x h1 => (evO C lo s h1).bind fun l h2 => (evO C hi s h2).bind fun u h3 => R.of (slD h3 x l u) h3 := by simp only [ev] <;> rfl
@[simp] theorem ev_rev (a : E) : ev C (.rev a) s h = (ev C a s h).bind fun x h1 => R.of (revD h1 x) h1 := by simp only [ev] <;> rfl
@[simp] theorem ev_call (f : Nat) (es : E) : ev C (.call f es) s h = (evs C es s h).bind fun ds h1 => let p := mats ds h1; C.call f p.1 p.2 := by simp only [ev] <;> rfl
@[simp] theorem ev_bi (b : Bi) (es : E) : ev C (.bi b es) s h = (evs C es s h).bind fun ds h1 => R.of (bi h1 b ds) h1 := by simp only [ev] <;> rfl
@[simp] theorem ev_me (m : Me) (o es : E) : ev C (.me m o es) s h = (ev C o s h).bind fun x h1 => (evs C es s h1).bind fun ds h2 => let p := mats ds h2; (R.of (meth p.2 m x p.1) p.2).bind fun r _ => .ok r.1 r.2 := by simp only [ev] <;> rfl
@[simp] theorem ev_isi (a : E) (ts : List Ty) : ev C (.isi a ts) s h = (ev C a s h).bind fun x h1 => R.of (isiD h1 x ts) h1 := by simp only [ev] <;> rfl
/-- a comprehension's turn, by its parts -/
def turnE (elt : E) (own : List Nat) (tg cs : E) (s : Stm) (x : D) (h2 : Hm) : R (Option D) := (asg C tg x (wipeS s own) h2).bind fun s1 h3 => (evC C cs s1 h3).bind fun k h4 =>
  if k then (ev C elt s1 h4).bind fun y h5 => let p := mat1 y h5; .ok (some p.1) p.2 else .ok none h4
theorem ev_comp (elt : E) (own : List Nat) (tg it cs : E) : ev C (.comp elt own tg it cs) s h = (evI C it s h).bind fun v h1 => (compL v.ck (turnE C elt own tg cs s) v.xs h1).bind fun ys h6 => .ok (.lst ys) h6 := by simp only [ev] <;> rfl
/-- .. of two clauses: a turn of the first -/
def turnE2 (elt : E) (own : List Nat) (tg cs : E) (own1 : List Nat) (tg1 it1 cs1 : E) (s : Stm) (x : D) (h2 : Hm) : R (List D) := (asg C tg x (wipeS s own) h2).bind fun s1 h3 => (evC C cs s1 h3).bind fun k h4 =>
  if k then (evI C it1 s1 h4).bind fun v1 h5 => compL v1.ck (turnE C elt own1 tg1 cs1 s1) v1.xs h5 else .ok [] h4
theorem ev_comp2 (elt : E) (own : List Nat) (tg it cs : E) (own1 : List Nat) (tg1 it1 cs1 : E) : ev C (.comp2 elt own tg it cs own1 tg1 it1 cs1) s h = (evI C it s h).bind fun v h1 => (compL2 v.ck (turnE2 C elt own tg cs own1 tg1 it1 cs1 s) v.xs h1).bind fun ys h6 => if ys.length ≤ 16777216 then .ok (.lst ys) h6 else .no := by simp only [ev] <;> rfl
@[simp] theorem evs_nil : evs C .nil s h = .ok [] h := by simp only [evs] <;> rfl
@[simp] theorem evs_cons (a as : E) : evs C (.cons a as) s h = (ev C a s h).bind fun d h1 => (evs C as s h1).bind fun ds h2 => .ok (d :: ds) h2 := by simp only [evs] <;> rfl
@[simp] theorem evO_nil : evO C .nil s h = .ok none h := by simp only [evO] <;> rfl
@[simp] theorem evO_cons (a as : E) : evO C (.cons a as) s h = (ev C a s h).bind fun d h1 => (match d with | .int i => .ok (some i) h1 | _ => .no) := by simp only [evO] <;> rfl
@[simp] theorem evT_and (a b : E) : evT C (.and a b) s h = (evT C a s h).bind fun k h1 => if k then evT C b s h1 else .ok false h1 := by simp only [evT] <;> rfl
@[simp] theorem evT_or (a b : E) : evT C (.or a b) s h = (evT C a s h).bind fun k h1 => if k then .ok true h1 else evT C b s h1 := by simp only [evT] <;> rfl
@[simp] theorem evT_not (a : E) : evT C (.not a) s h = (evT C a s h).bind fun k h1 => .ok (!k) h1 := by simp only [evT] <;> rfl
@[simp] theorem evT_cmp (o : Cop) (a b : E) : evT C (.cmp o a b) s h = (ev C a s h).bind fun x h1 => (ev C b s h1).bind fun y h2 => R.of (cop h2 o x y) h2 := by simp only [evT] <;> rfl
@[simp] theorem evT_cons (a as : E) : evT C (.cons a as) s h = (ev C a s h).bind fun x h1 => R.of (truth h1 x) h1 := by simp only [evT] <;> rfl
@[simp] theorem evC_nil : evC C .nil s h = .ok true h := by simp only [evC] <;> rfl
@[simp] theorem evC_cons (a as : E) : evC C (.cons a as) s h = (evT C a s h).bind fun k h1 => if k then evC C as s h1 else .ok false h1 := by simp only [evC] <;> rfl
@[simp] theorem evI_range (es : E) : evI C (.range es) s h = (evs C es s h).bind fun ds h1 => (R.of (rangeV ds) h1).bind fun xs h2 => .ok ⟨xs, []⟩ h2 := by simp only [evI] <;> rfl
@[simp] theorem evI_rangeLen (e : E) : evI C (.rangeLen e) s h = (ev C e s h).bind fun x h1 => (R.of (asQ h1 x) h1).bind fun xs h2 => .ok ⟨rangeD 0 xs.length, []⟩ h2 := by simp only [evI] <;> rfl
@[simp] theorem evI_zip (es : E) : evI C (.zip es) s h = (evs C es s h).bind fun ds h1 => (R.of (zipV h1 ds) h1).bind fun v h2 => .ok v h2 := by simp only [evI] <;> rfl
@[simp] theorem evI_enum (e : E) : evI C (.enum e) s h = (ev C e s h).bind fun x h1 => (R.of (asQ h1 x) h1).bind fun xs _ => .ok ⟨enumD 0 xs, idep h1 x⟩ h1 := by simp only [evI] <;> rfl
@[simp] theorem ev_sortSet (e : E) : ev C (.sortSet e) s h = (ev C e s h).bind fun d h1 => R.of (sortSetD h1 d) h1 := by simp only [ev] <;> rfl
@[simp] theorem ev_lenSet (e : E) : ev C (.lenSet e) s h = (ev C e s h).bind fun d h1 => R.of (lenSetD h1 d) h1 := by simp only [ev] <;> rfl
@[simp] theorem ev_listRange (es : E) : ev C (.listRange es) s h = (evs C es s h).bind fun ds h1 => R.of ((rangeV ds).map .lst) h1 := by simp only [ev] <;> rfl
@[simp] theorem ev_tupRange (es : E) : ev C (.tupRange es) s h = (evs C es s h).bind fun ds h1 => R.of ((rangeV ds).map .tup) h1 := by simp only [ev] <;> rfl
@[simp] theorem evI_cons (e r : E) : evI C (.cons e r) s h = (ev C e s h).bind fun x h1 => (R.of (asQ h1 x) h1).bind fun xs _ => .ok ⟨xs, idep h1 x⟩ h1 := by simp only [evI] <;> rfl
@[simp] theorem asg_nm (i : Nat) (d : D) : asg C (.nm i) d s h = .ok (s.set i (some d)) h := by simp only [asg] <;> rfl
@[simp] theorem asg_tp (ts : E) (ds : List D) : asg C (.tp ts) (.tup ds) s h = asgs C ts ds s h := by simp only [asg] <;> rfl
@[simp] theorem asg_ix (o i : E) (d : D) : asg C (.ix o i) d s h = (ev C o s h).bind fun x h1 => (ev C i s h1).bind fun y h2 => (match setIx h2 x y d with | some h3 => .ok s h3 | none => .no) := by simp only [asg] <;> rfl
@[simp] theorem asgs_nil : asgs C .nil [] s h = .ok s h := by simp only [asgs] <;> rfl
@[simp] theorem asgs_cons (t ts : E) (d : D) (ds : List D) : asgs C (.cons t ts) (d :: ds) s h = (asg C t d s h).bind fun s1 h1 => asgs C ts ds s1 h1 := by simp only [asgs] <;> rfl
@[simp] theorem ex_nop : exec C .nop s h = .ok (.nx s) h := by simp only [exec] <;> rfl
theorem ex_seq (a b : S) : exec C (.seq a b) s h = (exec C a s h).bind fun f h1 => (match f with | .nx s1 => exec C b s1 h1 | f => .ok f h1) := by simp only [exec] <;> rfl
@[simp] theorem ex_ex (e : E) : exec C (.ex e) s h = (ev C e s h).bind fun _ h1 => .ok (.nx s) h1 := by simp only [exec] <;> rfl
@[simp] theorem ex_set (tg e : E) : exec C (.set tg e) s h = (ev C e s h).bind fun d h1 => let p := mat1 d h1; (asg C tg p.1 s p.2).bind fun s1 h2 => .ok (.nx s1) h2 := by simp only [exec] <;> rfl
@[simp] theorem ex_set2 (tg tg2 e : E) : exec C (.set2 tg tg2 e) s h = (ev C e s h).bind fun d h1 => let p := mat1 d h1; (asg C tg p.1 s p.2).bind fun s1 h2 => (asg C tg2 p.1 s1 h2).bind fun s2 h3 => .ok (.nx s2) h3 := by simp only [exec] <;> rfl
@[simp] theorem ex_par2 (i j : Nat) (a b : E) : exec C (.par2 i j a b) s h = (evs C (.cons a (.cons b .nil)) s h).bind fun ds h1 => let p := mats ds h1; (match p.1 with | [x, y] => .ok (.nx ((s.set i (some x)).set j (some y))) p.2 | _ => .no) := by simp only [exec] <;> rfl
@[simp] theorem ex_par3 (i j k : Nat) (a b c : E) : exec C (.par3 i j k a b c) s h = (evs C (.cons a (.cons b (.cons c .nil))) s h).bind fun ds h1 => let p := mats ds h1; (match p.1 with | [x, y, z] => .ok (.nx (((s.set i (some x)).set j (some y)).set k (some z))) p.2 | _ => .no) := by simp only [exec] <;> rfl
@[simp] theorem ex_aug (i : Nat) (o : Bop) (e : E) : exec C (.aug i o e) s h = (match s[i]? with | some (some x) => (ev C e s h).bind fun y h1 => (R.of (augD h1 o x y) h1).bind fun z h2 => .ok (.nx (s.set i (some z))) h2 | _ => .no) := by simp only [exec] <;> rfl
@[simp] theorem ex_augIx (a i : E) (o : Bop) (e : E) : exec C (.augIx a i o e) s h = (ev C a s h).bind fun x h1 => (ev C i s h1).bind fun y h2 => (match x, y with
    | .ref p, .int k => (R.of (ixL h2 (.ref p) k) h2).bind fun v h3 => (ev C e s h3).bind fun w h4 => (R.of (augI o v w) h4).bind fun z h5 => match setIx h5 (.ref p) (.int k) z with
      | some h6 => .ok (.nx s) h6
      | none => .no
    | _, _ => .no) := by simp only [exec] <;> rfl
@[simp] theorem ex_ite (c : E) (a b : S) : exec C (.ite c a b) s h = (evT C c s h).bind fun k h1 => if k then exec C a s h1 else exec C b s h1 := by simp only [exec] <;> rfl
/-- a loop's turn, by its parts -/
def turnS (tg : E) (b : S) (x : D) (s1 : Stm) (h2 : Hm) : R Fl := (asg C tg x s1 h2).bind fun s2 h3 => exec C b s2 h3
theorem ex_loop (tg it : E) (b : S) : exec C (.loop tg it b) s h = (evI C it s h).bind fun v h1 => loopL v.ck (turnS C tg b) v.xs s h1 := by simp only [exec] <;> rfl
theorem ex_whl (c : E) (b : S) : exec C (.whl c b) s h = whileL (fun s1 h1 => evT C c s1 h1) (fun s1 h1 => exec C b s1 h1) C.wf s h := by simp only [exec] <;> rfl
@[simp] theorem ex_ret (e : E) : exec C (.ret e) s h = (ev C e s h).bind fun d h1 => .ok (.rt d) h1 := by simp only [exec] <;> rfl
@[simp] theorem ex_retn : exec C .retn s h = .ok (.rt .non) h := by simp only [exec] <;> rfl
@[simp] theorem ex_brk : exec C .brk s h = .ok (.bk s) h := by simp only [exec] <;> rfl
@[simp] theorem ex_cnt : exec C .cnt s h = .ok (.ct s) h := by simp only [exec] <;> rfl
end
/-! operations -/
section
variable (h : Hm) (a b : Int)
@[simp] theorem op_addI : bop h .add (.int a) (.int b) = some (.int (a + b)) := rfl
@[simp] theorem op_subI : bop h .sub (.int a) (.int b) = some (.int (a - b)) := rfl
@[simp] theorem op_modI : bop h .mod (.int a) (.int b) = if 0 < b then some (.int (a % b)) else none := rfl
@[simp] theorem op_fdivI : bop h .fdiv (.int a) (.int b) = if 0 < b ∧ b < 18446744073709551616 then some (.int (a / b)) else none := rfl
theorem small_iff : (small a || small b) = true ↔ (-18446744073709551616 < a ∧ a < 18446744073709551616) ∨ (-18446744073709551616 < b ∧ b < 18446744073709551616) := by
  simp [small]
@[simp] theorem op_mulI : bop h .mul (.int a) (.int b) = if (-18446744073709551616 < a ∧ a < 18446744073709551616) ∨ (-18446744073709551616 < b ∧ b < 18446744073709551616) then some (.int (a * b)) else none := by
  show (if (small a || small b) = true then some (D.int (a * b)) else none) = _
  simp only [small_iff]
@[simp] theorem op_negI : negD (.int a) = some (.int (-a)) := rfl
@[simp] theorem op_addS (a b : Str) : bop h .add (.str a) (.str b) = sz a.length b.length (.str (a ++ b)) := rfl
@[simp] theorem op_addT (a b : List D) : bop h .add (.tup a) (.tup b) = sz a.length b.length (.tup (a ++ b)) := rfl
@[simp] theorem c_lt : cop h .lt (.int a) (.int b) = some (decide (a < b)) := rfl
@[simp] theorem c_le : cop h .le (.int a) (.int b) = some (decide (a ≤ b)) := rfl
@[simp] theorem c_gt : cop h .gt (.int a) (.int b) = some (decide (b < a)) := rfl
@[simp] theorem c_ge : cop h .ge (.int a) (.int b) = some (decide (b ≤ a)) := rfl
@[simp] theorem c_eq : cop h .eq (.int a) (.int b) = some (decide (a = b)) := rfl
@[simp] theorem c_ne : cop h .ne (.int a) (.int b) = some (!decide (a = b)) := rfl
@[simp] theorem c_eqB (a b : Bool) : cop h .eq (.bl a) (.bl b) = some (decide (a = b)) := rfl
@[simp] theorem c_neB (a b : Bool) : cop h .ne (.bl a) (.bl b) = some (!decide (a = b)) := rfl
@[simp] theorem c_eqS (a b : Str) : cop h .eq (.str a) (.str b) = some (decide (a = b)) := rfl
@[simp] theorem c_neS (a b : Str) : cop h .ne (.str a) (.str b) = some (!decide (a = b)) := rfl
@[simp] theorem cm_lt : copM h .lt (.int a) (.int b) = some (decide (a < b)) := rfl
@[simp] theorem cm_le : copM h .le (.int a) (.int b) = some (decide (a ≤ b)) := rfl
@[simp] theorem cm_eq : copM h .eq (.int a) (.int b) = some (decide (a = b)) := rfl
@[simp] theorem c_isN (x : D) : cop h .is x .non = some (decide (x = .non)) := by cases x <;> rfl
@[simp] theorem c_isnN (x : D) : cop h .isn x .non = some (!decide (x = .non)) := by cases x <;> rfl
@[simp] theorem t_bl (b : Bool) : truth h (.bl b) = some b := rfl
@[simp] theorem t_int : truth h (.int a) = some (a != 0) := rfl
@[simp] theorem t_non : truth h .non = some false := rfl
@[simp] theorem t_tup (xs : List D) : truth h (.tup xs) = some (!xs.isEmpty) := rfl
@[simp] theorem t_lst (xs : List D) : truth h (.lst xs) = some (!xs.isEmpty) := rfl
@[simp] theorem au_add : augD h .add (.int a) (.int b) = some (.int (a + b)) := rfl
@[simp] theorem au_sub : augD h .sub (.int a) (.int b) = some (.int (a - b)) := rfl
@[simp] theorem au_mul : augD h .mul (.int a) (.int b) = if (-18446744073709551616 < a ∧ a < 18446744073709551616) ∨ (-18446744073709551616 < b ∧ b < 18446744073709551616) then some (.int (a * b)) else none := op_mulI h a b
@[simp] theorem au_fdiv : augD h .fdiv (.int a) (.int b) = if 0 < b ∧ b < 18446744073709551616 then some (.int (a / b)) else none := rfl
@[simp] theorem q_tup (xs : List D) : asQ h (.tup xs) = some xs := rfl
@[simp] theorem q_lst (xs : List D) : asQ h (.lst xs) = some xs := rfl
@[simp] theorem l_lst (xs : List D) : asL h (.lst xs) = some xs := rfl
@[simp] theorem dep_tup (xs : List D) : idep h (.tup xs) = [] := rfl
@[simp] theorem dep_lst (xs : List D) : idep h (.lst xs) = [] := rfl
@[simp] theorem ck_nil (xs : List D) : Itv.ck ⟨xs, []⟩ h = true := rfl
def oxs : O → List D
  | .lst xs => xs
@[simp] theorem oxs_lst (xs : List D) : oxs (.lst xs) = xs := rfl
@[simp] theorem l_ref (p : Nat) : asL h (.ref p) = (h[p]?).map oxs := by
  simp only [asL]
  cases h[p]? with
  | none => rfl
  | some o => cases o; rfl
@[simp] theorem q_ref (p : Nat) : asQ h (.ref p) = (h[p]?).map oxs := by rw [← l_ref]; rfl
@[simp] theorem len_ref (p : Nat) : lenD h (.ref p) = (h[p]?).map fun o => .int (oxs o).length := by
  show (asQ h (.ref p)).map _ = _
  rw [q_ref, Option.map_map]; rfl
@[simp] theorem ix_ref (p : Nat) (i : Int) : ixD h (.ref p) (.int i) = (h[p]?).bind fun o => atI (oxs o) i := by
  show ixL h (.ref p) i = _
  unfold ixL
  rw [l_ref]
  cases h[p]? <;> rfl
@[simp] theorem ixL_ref (p : Nat) (i : Int) : ixL h (.ref p) i = (h[p]?).bind fun o => atI (oxs o) i := ix_ref h p i
@[simp] theorem si_ref (p : Nat) (k : Int) (v : D) : setIx h (.ref p) (.int k) v = (h[p]?).bind fun o => (ixN (oxs o).length k).map fun j => h.set p (.lst ((oxs o).set j v)) := by
  simp only [setIx]
  cases h[p]? with
  | none => rfl
  | some o => cases o with
    | lst xs => simp only [Option.bind_some, oxs_lst]; cases ixN xs.length k <;> rfl
@[simp] theorem me_app (p : Nat) (d : D) : meth h .append (.ref p) [d] = (h[p]?).bind fun o => if (oxs o).length < 16777216 then some (.non, h.set p (.lst (oxs o ++ [d]))) else none := by
  simp only [meth]
  cases h[p]? with
  | none => rfl
  | some o => cases o; rfl
@[simp] theorem me_popAt (p : Nat) (k : Int) : meth h .popAt (.ref p) [.int k] = (h[p]?).bind fun o => (ixN (oxs o).length k).bind fun j => ((oxs o)[j]?).map fun y => (y, h.set p (.lst ((oxs o).eraseIdx j))) := by
  simp only [meth]
  cases h[p]? with
  | none => rfl
  | some o => cases o with
    | lst xs =>
      simp only [Option.bind_some, oxs_lst]
      cases ixN xs.length k with
      | none => rfl
      | some j => simp only [Option.bind_some]; cases xs[j]? <;> rfl
@[simp] theorem sl_tup (xs : List D) (lo hi : Option Int) : slD h (.tup xs) lo hi = some (.tup (cutD xs lo hi)) := rfl
@[simp] theorem sl_lst (xs : List D) (lo hi : Option Int) : slD h (.lst xs) lo hi = some (.lst (cutD xs lo hi)) := rfl
@[simp] theorem sl_fz (xs : List Int) (lo hi : Option Int) : slD h (.fz xs) lo hi = some (.lst ((cutD xs lo hi).map .int)) := rfl
@[simp] theorem sl_ref (p : Nat) (lo hi : Option Int) : slD h (.ref p) lo hi = (h[p]?).map fun o => .lst (cutD (oxs o) lo hi) := by
  show (asL h (.ref p)).map _ = _
  rw [l_ref, Option.map_map]; rfl
@[simp] theorem fin0 (d : D) (h1 : Hm) : fin 0 h d h1 = .ok d h1 := rfl
@[simp] theorem ix_tup (xs : List D) (i : Int) : ixD h (.tup xs) (.int i) = atI xs i := rfl
@[simp] theorem ix_lst (xs : List D) (i : Int) : ixD h (.lst xs) (.int i) = atI xs i := rfl
@[simp] theorem m_non : mat1 .non h = (.non, h) := rfl
@[simp] theorem m_bl (b : Bool) : mat1 (.bl b) h = (.bl b, h) := rfl
@[simp] theorem m_int : mat1 (.int a) h = (.int a, h) := rfl
@[simp] theorem m_str (x : Str) : mat1 (.str x) h = (.str x, h) := rfl
@[simp] theorem m_tup (xs : List D) : mat1 (.tup xs) h = (.tup xs, h) := rfl
@[simp] theorem m_lst (xs : List D) : mat1 (.lst xs) h = (.ref h.length, h ++ [.lst xs]) := rfl
@[simp] theorem m_ref (i : Nat) : mat1 (.ref i) h = (.ref i, h) := rfl
@[simp] theorem m_fz (ns : List Int) : mat1 (.fz ns) h = (.fz ns, h) := rfl
@[simp] theorem ms_nil' : mats [] h = ([], h) := rfl
@[simp] theorem ms_cons' (d : D) (ds : List D) : mats (d :: ds) h = ((mat1 d h).1 :: (mats ds (mat1 d h).2).1, (mats ds (mat1 d h).2).2) := rfl
@[simp] theorem b_len (x : D) : bi h .len [x] = lenD h x := rfl
@[simp] theorem len_tup (xs : List D) : lenD h (.tup xs) = some (.int xs.length) := rfl
@[simp] theorem len_lst (xs : List D) : lenD h (.lst xs) = some (.int xs.length) := rfl
@[simp] theorem len_fz (xs : List Int) : lenD h (.fz xs) = some (.int xs.length) := rfl
@[simp] theorem b_int (i : Int) : bi h .int [.int i] = some (.int i) := rfl
@[simp] theorem b_tuple (x : D) : bi h .tuple [x] = (asQ h x).map .tup := rfl
@[simp] theorem b_list (x : D) : bi h .list [x] = (asQ h x).map .lst := rfl
@[simp] theorem b_sum (x : D) : bi h .sum [x] = sumD h x := rfl
@[simp] theorem b_all (x : D) : bi h .all [x] = allD h x := rfl
@[simp] theorem b_any (x : D) : bi h .any [x] = anyD h x := rfl
@[simp] theorem b_max (x : D) : bi h .max [x] = maxD h x := rfl
@[simp] theorem b_min (x : D) : bi h .min [x] = minD h x := rfl
@[simp] theorem b_max2 : bi h .max2 [.int a, .int b] = some (.int (if b > a then b else a)) := rfl
@[simp] theorem b_min2 : bi h .min2 [.int a, .int b] = some (.int (if b < a then b else a)) := rfl
@[simp] theorem b_abs : bi h .abs [.int a] = some (.int (if a < 0 then -a else a)) := rfl
end
/-- lists of ints -/
@[simp] theorem allInts_map : ∀ ns : List Int, allInts (ns.map .int) = some ns
  | [] => rfl
  | n :: ns => by simp [allInts, allInts_map ns]
@[simp] theorem allBls_map : ∀ ns : List Bool, allBls (ns.map .bl) = some ns
  | [] => rfl
  | n :: ns => by simp [allBls, allBls_map ns]
theorem atI_nat' {α : Type} (xs : List α) (i : Nat) : atI xs (i : Int) = xs[i]? := by
  unfold atI ixN
  rw [if_pos (by omega)]
  split
  · rfl
  · rename_i h
    rw [Option.bind_none, List.getElem?_eq_none (by omega)]
theorem atI_map {α β : Type} (f : α → β) (xs : List α) (i : Int) : atI (xs.map f) i = (atI xs i).map f := by
  unfold atI
  rw [List.length_map]
  cases ixN xs.length i <;> simp
theorem atI_in {α : Type} (xs : List α) (i : Int) (h0 : 0 ≤ i) (h1 : i < xs.length) : atI xs i = xs[i.toNat]? := by
  unfold atI ixN
  rw [if_pos h0, if_pos h1]
  rfl
theorem compL_map {ck : Hm → Bool} {f : D → Hm → R (Option D)} {h : Hm} (hc : ck h = true) : ∀ {xs : List D} {g : D → D}, (∀ x ∈ xs, f x h = .ok (some (g x)) h) → compL ck f xs h = .ok (xs.map g) h
  | [], g, _ => by simp [compL, hc]
  | x :: xs, g, q => by
    simp only [compL, hc, if_true, q x List.mem_cons_self, rb_ok, compL_map hc fun y hy => q y (List.mem_cons_of_mem _ hy), List.map_cons]
theorem compL_filter {ck : Hm → Bool} {f : D → Hm → R (Option D)} {h : Hm} (hc : ck h = true) : ∀ {xs : List D} {g : D → Option D}, (∀ x ∈ xs, f x h = .ok (g x) h) → compL ck f xs h = .ok (xs.filterMap g) h
  | [], g, _ => by simp [compL, hc]
  | x :: xs, g, q => by
    simp only [compL, hc, if_true, q x List.mem_cons_self, rb_ok, compL_filter hc fun y hy => q y (List.mem_cons_of_mem _ hy)]
    cases e : g x <;> simp [e]
/-- .. over a list that is the image of one -/
theorem compL_mapO {α β : Type} {ck : Hm → Bool} {f : D → Hm → R (Option D)} {h : Hm} {enc : α → D} {dec : β → D} {g : α → β} (hc : ck h = true) (xs : List α) (q : ∀ x ∈ xs, f (enc x) h = .ok (some (dec (g x))) h) : compL ck f (xs.map enc) h = .ok ((xs.map g).map dec) h := by
  induction xs with
  | nil => simp [compL, hc]
  | cons x xs ih => simp only [List.map_cons, compL, hc, if_true, q x List.mem_cons_self, rb_ok, ih fun y hy => q y (List.mem_cons_of_mem _ hy)]
theorem compL_filterO {α β : Type} {ck : Hm → Bool} {f : D → Hm → R (Option D)} {h : Hm} {enc : α → D} {dec : β → D} {g : α → Option β} (hc : ck h = true) (xs : List α) (q : ∀ x ∈ xs, f (enc x) h = .ok ((g x).map dec) h) : compL ck f (xs.map enc) h = .ok ((xs.filterMap g).map dec) h := by
  induction xs with
  | nil => simp [compL, hc]
  | cons x xs ih =>
    simp only [List.map_cons, compL, hc, if_true, q x List.mem_cons_self, rb_ok, ih fun y hy => q y (List.mem_cons_of_mem _ hy), List.filterMap_cons]
    cases e : g x <;> simp [e]
/-- a loop that runs to its end under an invariant by the turn -/
theorem loopL_inv {ck : Hm → Bool} {f : D → Stm → Hm → R Fl} (I : Nat → Stm → Hm → Prop) (hck : ∀ i s h, I i s h → ck h = true) : ∀ (xs : List D) (i : Nat) (s : Stm) (h : Hm), I i s h →
    (∀ (j : Nat) (x : D) (s : Stm) (h : Hm), xs[j]? = some x → I (i + j) s h → ∃ s' h', (f x s h = .ok (.nx s') h' ∨ f x s h = .ok (.ct s') h') ∧ I (i + j + 1) s' h') →
    ∃ s' h', loopL ck f xs s h = .ok (.nx s') h' ∧ I (i + xs.length) s' h'
  | [], i, s, h, hi, _ => ⟨s, h, by simp [loopL, hck i s h hi], hi⟩
  | x :: xs, i, s, h, hi, step => by
    obtain ⟨s1, h1, e, i1⟩ := step 0 x s h rfl hi
    obtain ⟨s2, h2, e2, i2⟩ := loopL_inv I hck xs (i + 1) s1 h1 i1 fun j y s h ej ij => by
      have := step (j + 1) y s h (by simpa using ej) (by rw [show i + (j + 1) = i + 1 + j by omega]; exact ij)
      rw [show i + (j + 1) + 1 = i + 1 + j + 1 by omega] at this
      exact this
    refine ⟨s2, h2, ?_, by rw [List.length_cons, show i + (xs.length + 1) = i + 1 + xs.length by omega]; exact i2⟩
    simp only [loopL, hck i s h hi, if_true]
    rcases e with e | e <;> simp [e, e2]
/-- .. with effects in a comprehension -/
theorem compL_inv {ck : Hm → Bool} {f : D → Hm → R (Option D)} (I : Nat → List D → Hm → Prop) (hck : ∀ i a h, I i a h → ck h = true) : ∀ (xs : List D) (i : Nat) (acc : List D) (h : Hm), I i acc h →
    (∀ (j : Nat) (x : D) (acc : List D) (h : Hm), xs[j]? = some x → I (i + j) acc h → ∃ o h', f x h = .ok o h' ∧ I (i + j + 1) (acc ++ o.toList) h') →
    ∃ ys h', compL ck f xs h = .ok ys h' ∧ I (i + xs.length) (acc ++ ys) h'
  | [], i, acc, h, hi, _ => ⟨[], h, by simp [compL, hck i acc h hi], by simpa using hi⟩
  | x :: xs, i, acc, h, hi, step => by
    obtain ⟨o, h1, e, i1⟩ := step 0 x acc h rfl hi
    obtain ⟨ys, h2, e2, i2⟩ := compL_inv I hck xs (i + 1) (acc ++ o.toList) h1 i1 fun j y acc h ej ij => by
      have := step (j + 1) y acc h (by simpa using ej) (by rw [show i + (j + 1) = i + 1 + j by omega]; exact ij)
      rw [show i + (j + 1) + 1 = i + 1 + j + 1 by omega] at this
      exact this
    refine ⟨o.toList ++ ys, h2, ?_, by rw [List.length_cons, show i + (xs.length + 1) = i + 1 + xs.length by omega, ← List.append_assoc]; exact i2⟩
    simp only [compL, hck i acc h hi, if_true, e, rb_ok, e2]
    cases o <;> rfl
theorem whileL_inv {c : Stm → Hm → R Bool} {f : Stm → Hm → R Fl} (I : Nat → Stm → Hm → Prop) : ∀ (n m : Nat) (s : Stm) (h : Hm), m < n → I m s h →
    (∀ (m : Nat) (s : Stm) (h : Hm), I m s h → ∃ b h1, c s h = .ok b h1 ∧ (b = true → ∃ s' h' m', (f s h1 = .ok (.nx s') h' ∨ f s h1 = .ok (.ct s') h') ∧ m' < m ∧ I m' s' h')) →
    ∃ s' h' m' h1, whileL c f n s h = .ok (.nx s') h1 ∧ I m' s' h' ∧ c s' h' = .ok false h1
  | 0, m, s, h, hm, _, _ => by omega
  | n + 1, m, s, h, hm, hi, step => by
    obtain ⟨b, h1, e, q⟩ := step m s h hi
    cases b with
    | false => exact ⟨s, h, m, h1, by simp [whileL, e], hi, e⟩
    | true =>
      obtain ⟨s', h', m', e2, hm', hi'⟩ := q rfl
      obtain ⟨s2, h2, m2, h3, e3, i3, c3⟩ := whileL_inv I n m' s' h' (by omega) hi' step
      refine ⟨s2, h2, m2, h3, ?_, i3, c3⟩
      simp only [whileL, e, rb_ok, if_true]
      rcases e2 with e2 | e2 <;> simp [e2, e3]
/-- a while by its invariant -/
theorem whl_inv {C : Cfg} {c : E} {b : S} (I : Nat → Stm → Hm → Prop) {m : Nat} {s : Stm} {h : Hm} (hm : m < C.wf) (hi : I m s h)
    (step : ∀ (m : Nat) (s : Stm) (h : Hm), I m s h → ∃ b' h1, evT C c s h = .ok b' h1 ∧ (b' = true → ∃ s' h' m', (exec C b s h1 = .ok (.nx s') h' ∨ exec C b s h1 = .ok (.ct s') h') ∧ m' < m ∧ I m' s' h')) :
    ∃ s' h' m' h1, exec C (.whl c b) s h = .ok (.nx s') h1 ∧ I m' s' h' ∧ evT C c s' h' = .ok false h1 := by
  rw [ex_whl]
  exact whileL_inv I C.wf m s h hm hi step
end Mp

namespace Mp
open PySem PySem.Spec L2
/-! ### what a run comes to, by what holds behind it -/
def W {α : Type} (r : R α) (Q : α → Hm → Prop) : Prop := ∃ a h, r = .ok a h ∧ Q a h
section
variable {α β : Type} {a : α} {h : Hm} {Q Q' : α → Hm → Prop} {r : R α}
@[simp] theorem W_ok : W (.ok a h) Q ↔ Q a h := ⟨fun ⟨_, _, e, q⟩ => (by cases e; exact q), fun q => ⟨a, h, rfl, q⟩⟩
@[simp] theorem W_no : W (.no : R α) Q ↔ False := ⟨fun ⟨_, _, e, _⟩ => (nomatch e), fun q => q.elim⟩
@[simp] theorem W_bind {f : α → Hm → R β} {Q : β → Hm → Prop} : W (r.bind f) Q ↔ W r fun a h => W (f a h) Q := by
  cases r with
  | ok a h => simp
  | exc _ _ _ => exact ⟨fun ⟨_, _, e, _⟩ => (by simp [R.bind] at e), fun ⟨_, _, e, _⟩ => (by cases e)⟩
  | no => simp
theorem W.imp (w : W r Q) (q : ∀ a h, Q a h → Q' a h) : W r Q' := let ⟨a, h, e, p⟩ := w; ⟨a, h, e, q a h p⟩
theorem W.of (e : r = .ok a h) (q : Q a h) : W r Q := ⟨a, h, e, q⟩
theorem W_if {c : Prop} [Decidable c] {x y : R α} (p : c → W x Q) (q : ¬ c → W y Q) : W (if c then x else y) Q := by
  by_cases hc : c
  · rw [if_pos hc]; exact p hc
  · rw [if_neg hc]; exact q hc
end
/-- go on behind a statement -/
def Kn (C : Cfg) (b : S) (Q : Fl → Hm → Prop) (f : Fl) (h : Hm) : Prop := match f with
  | .nx s => W (exec C b s h) Q
  | f => Q f h
section
variable {C : Cfg} {a b : S} {s : Stm} {h : Hm} {Q : Fl → Hm → Prop}
@[simp] theorem Kn_nx : Kn C b Q (.nx s) h = W (exec C b s h) Q := rfl
@[simp] theorem Kn_rt {d : D} : Kn C b Q (.rt d) h = Q (.rt d) h := rfl
@[simp] theorem Kn_bk : Kn C b Q (.bk s) h = Q (.bk s) h := rfl
@[simp] theorem Kn_ct : Kn C b Q (.ct s) h = Q (.ct s) h := rfl
theorem W_seq (w : W (exec C a s h) (Kn C b Q)) : W (exec C (.seq a b) s h) Q := by
  rw [ex_seq, W_bind]
  refine w.imp fun f h' q => ?_
  cases f <;> simp_all [Kn]
/-- a loop by its invariant: i turns are done -/
theorem W_loop {tg it : E} (I : Nat → Stm → Hm → Prop) {v : Itv} {h1 : Hm} (ev : evI C it s h = .ok v h1) (h0 : I 0 s h1) (hck : ∀ i s h, I i s h → v.ck h = true)
    (step : ∀ i x s h, v.xs[i]? = some x → I i s h → W (turnS C tg b x s h) fun f h' => (match f with
      | .nx s' => I (i + 1) s' h'
      | .ct s' => I (i + 1) s' h'
      | .bk s' => Q (.nx s') h'
      | .rt d => Q (.rt d) h'))
    (fin : ∀ s h, I v.xs.length s h → Q (.nx s) h) : W (exec C (.loop tg it b) s h) Q := by
  rw [ex_loop, ev, rb_ok]
  have : ∀ (xs : List D) (i : Nat) (s : Stm) (h : Hm), i + xs.length = v.xs.length → v.xs.drop i = xs → I i s h → W (loopL v.ck (turnS C tg b) xs s h) Q := by
    intro xs
    induction xs with
    | nil =>
      intro i s h hl e q
      simp only [List.length_nil, Nat.add_zero] at hl
      subst hl
      simp only [loopL, hck _ s h q, if_true, W_ok]
      exact fin s h q
    | cons x xs ih =>
      intro i s h hl e q
      have hi : v.xs[i]? = some x := by
        have := congrArg (fun l => l[0]?) e
        simpa using this
      have e' : v.xs.drop (i + 1) = xs := by
        rw [← List.drop_drop, e]; rfl
      simp only [loopL, hck i s h q, if_true, W_bind]
      refine (step i x s h hi q).imp fun f h' p => ?_
      have hl' : i + 1 + xs.length = v.xs.length := by rw [List.length_cons] at hl; omega
      cases f with
      | nx s' => exact ih (i + 1) s' h' hl' e' p
      | ct s' => exact ih (i + 1) s' h' hl' e' p
      | bk s' => exact W_ok.mpr p
      | rt d => exact W_ok.mpr p
  exact this v.xs 0 s h1 (by simp) rfl h0
/-- a loop that looks for the first turn that hands out something -/
theorem W_find {tg it : E} (g : Nat → Option D) (I : Nat → Stm → Hm → Prop) (J : Hm → Prop) {v : Itv} {h1 : Hm} (ev : evI C it s h = .ok v h1) (h0 : I 0 s h1) (hck : ∀ i s h, I i s h → v.ck h = true)
    (step : ∀ i x s h, v.xs[i]? = some x → I i s h → W (turnS C tg b x s h) fun f h' => match g i with
      | some d => f = .rt d ∧ J h'
      | none => ∃ s', (f = .nx s' ∨ f = .ct s') ∧ I (i + 1) s' h')
    (fin : ∀ s h, (List.range v.xs.length).findSome? g = none → I v.xs.length s h → Q (.nx s) h) (fin2 : ∀ d h, (List.range v.xs.length).findSome? g = some d → J h → Q (.rt d) h) : W (exec C (.loop tg it b) s h) Q := by
  refine W_loop (fun i s h => I i s h ∧ (List.range i).findSome? g = none) (v := v) (h1 := h1) ev ⟨h0, rfl⟩ (fun i s h q => hck i s h q.1) (fun i x s h hx q => ?_) (fun s h q => fin s h q.2 q.1)
  have hi : i < v.xs.length := (List.getElem?_eq_some_iff.mp hx).1
  refine (step i x s h hx q.1).imp fun f h' p => ?_
  have none_next : g i = none → (List.range (i + 1)).findSome? g = none := fun e => by
    rw [List.range_succ, List.findSome?_append, q.2]; simp [e]
  cases e : g i with
  | none =>
    rw [e] at p
    obtain ⟨s', p | p, q'⟩ := p
    · subst p; exact ⟨q', none_next e⟩
    · subst p; exact ⟨q', none_next e⟩
  | some d =>
    rw [e] at p
    obtain ⟨rfl, j⟩ := p
    refine fin2 d h' ?_ j
    have e1 : List.range v.xs.length = List.range i ++ ([i] ++ (List.range (v.xs.length - (i + 1))).map (i + 1 + ·)) := by
      rw [← List.append_assoc, ← List.range_succ, ← List.range_add]
      congr 1; omega
    rw [e1, List.findSome?_append, q.2]
    simp [e]
end
/-- a call of a def -/
theorem W_run {C : Cfg} {fn : Fn} {ds : List D} {h : Hm} {Q : D → Hm → Prop} (hl : ds.length = fn.np) (w : W (exec C fn.body (ds.map some ++ List.replicate (fn.nl - fn.np) none) h) fun fl h1 => match fl with
    | .nx _ => W (fin fn.mode h .non h1) Q
    | .rt d => W (fin fn.mode h d h1) Q
    | _ => False) : W (runFn C fn ds h) Q := by
  unfold runFn
  rw [if_pos hl, W_bind]
  refine w.imp fun fl h1 q => ?_
  cases fl <;> first | exact q | exact False.elim q
theorem W.eq {α : Type} {r : R α} {a : α} {h : Hm} (w : W r fun a' h' => a' = a ∧ h' = h) : r = .ok a h := by
  obtain ⟨a', h', e, rfl, rfl⟩ := w
  exact e
/-! what is new lies behind the rest -/
section
variable (h t : Hm) (a b c x : O)
@[simp] theorem at0 : (h ++ a :: t)[h.length]? = some a := by simp
@[simp] theorem at1 : (h ++ a :: b :: t)[h.length + 1]? = some b := by
  rw [List.getElem?_append_right (by omega), show h.length + 1 - h.length = 1 by omega]; rfl
@[simp] theorem at2 : (h ++ a :: b :: c :: t)[h.length + 2]? = some c := by
  rw [List.getElem?_append_right (by omega), show h.length + 2 - h.length = 2 by omega]; rfl
@[simp] theorem set0 : (h ++ a :: t).set h.length x = h ++ x :: t := by
  rw [List.set_append_right _ _ (by omega), Nat.sub_self]; rfl
@[simp] theorem set1 : (h ++ a :: b :: t).set (h.length + 1) x = h ++ a :: x :: t := by
  rw [List.set_append_right _ _ (by omega), show h.length + 1 - h.length = 1 by omega]; rfl
@[simp] theorem set2 : (h ++ a :: b :: c :: t).set (h.length + 2) x = h ++ a :: b :: x :: t := by
  rw [List.set_append_right _ _ (by omega), show h.length + 2 - h.length = 2 by omega]; rfl
variable {h}
theorem at_app {p : Nat} {o : O} (e : h[p]? = some o) : (h ++ t)[p]? = some o := by
  rw [List.getElem?_append_left (List.getElem?_eq_some_iff.mp e).1]; exact e
end
@[simp] theorem fin1_app (h t : Hm) (d : D) : fin 1 h d (h ++ t) = R.of (lift h.length (h ++ t) d) h := by
  simp [fin]
@[simp] theorem fin1_same (h : Hm) (d : D) : fin 1 h d h = R.of (lift h.length h d) h := by
  simp [fin]
@[simp] theorem lift_int (n : Nat) (h : Hm) (i : Int) : lift n h (.int i) = some (.int i) := rfl
@[simp] theorem lift_non (n : Nat) (h : Hm) : lift n h .non = some .non := rfl
@[simp] theorem lift_bl (n : Nat) (h : Hm) (i : Bool) : lift n h (.bl i) = some (.bl i) := rfl
theorem belows_ints (n : Nat) : ∀ xs : List Int, belows n (xs.map .int) = true
  | [] => by simp [belows]
  | x :: xs => by simp [belows, below, belows_ints n xs]
theorem lift_tup {n : Nat} {h : Hm} {xs : List D} (e : belows n xs = true) : lift n h (.tup xs) = some (.tup xs) := by
  simp [lift, below, e]
theorem lift_ints (n : Nat) (h : Hm) (xs : List Int) : lift n h (.tup (xs.map .int)) = some (.tup (xs.map .int)) := lift_tup (belows_ints n xs)
theorem lift_new {h t : Hm} {xs : List D} (e : belows h.length xs = true) : lift h.length (h ++ .lst xs :: t) (.ref h.length) = some (.lst xs) := by
  simp [lift, e]
theorem pow63 : (2 : Int) ^ 63 = 9223372036854775808 := by rfl
@[simp] theorem op_mulL (h : Hm) (xs : List D) (k : Int) : bop h .mul (.lst xs) (.int k) = if -9223372036854775808 ≤ k ∧ k < 9223372036854775808 ∧ xs.length * k.toNat ≤ 16777216 then some (.lst (List.replicate k.toNat xs).flatten) else none := by
  show mulL h (.lst xs) k = _
  simp only [mulL, l_lst, pow63]
@[simp] theorem ai_add (a b : Int) : augI .add (.int a) (.int b) = some (.int (a + b)) := rfl
theorem belows_enc {α : Type} (n : Nat) (f : α → Int) : ∀ xs : List α, belows n (xs.map fun b => .int (f b)) = true
  | [] => by simp [belows]
  | x :: xs => by simp [belows, below, belows_enc n f xs]
/-! the law's box -/
def BH (cells : List Int) (a z : Int) (g : Hm) : Hm := .lst (cells.map .int) :: .lst [.ref 0, .int a, .int z] :: g
section
variable (c : List Int) (a z : Int) (g t : Hm) (o : O) (i : Nat)
@[simp] theorem BH_len : (BH c a z g).length = g.length + 2 := rfl
@[simp] theorem BH_get : (BH c a z g)[i + 2]? = g[i]? := rfl
@[simp] theorem BH_set : (BH c a z g).set (i + 2) o = BH c a z (g.set i o) := rfl
@[simp] theorem BH_app : BH c a z g ++ t = BH c a z (g ++ t) := rfl
end
section
variable (c : List Int) (a z : Int) (g t : Hm) (o1 o2 o3 x : O)
@[simp high] theorem BH_at0 : (BH c a z (g ++ o1 :: t))[g.length + 2]? = some o1 := at0 g t o1
@[simp high] theorem BH_at1 : (BH c a z (g ++ o1 :: o2 :: t))[g.length + 3]? = some o2 := at1 g t o1 o2
@[simp high] theorem BH_at2 : (BH c a z (g ++ o1 :: o2 :: o3 :: t))[g.length + 4]? = some o3 := at2 g t o1 o2 o3
@[simp high] theorem BH_set0 : (BH c a z (g ++ o1 :: t)).set (g.length + 2) x = BH c a z (g ++ x :: t) := congrArg (BH c a z) (set0 g t o1 x)
@[simp high] theorem BH_set1 : (BH c a z (g ++ o1 :: o2 :: t)).set (g.length + 3) x = BH c a z (g ++ o1 :: x :: t) := congrArg (BH c a z) (set1 g t o1 o2 x)
@[simp high] theorem BH_set2 : (BH c a z (g ++ o1 :: o2 :: o3 :: t)).set (g.length + 4) x = BH c a z (g ++ o1 :: o2 :: x :: t) := congrArg (BH c a z) (set2 g t o1 o2 o3 x)
end
theorem rangeV2 (a b : Int) (h1 : -1000000 ≤ a) (h2 : a ≤ 1000000) (h3 : -1000000 ≤ b) (h4 : b ≤ 1000000) : rangeV [.int a, .int b] = some (rangeD a b) := by
  have e1 : okR a = true := by unfold okR; exact decide_eq_true (by omega)
  have e2 : okR b = true := by unfold okR; exact decide_eq_true (by omega)
  have e3 : decide (b - a ≤ 16777216) = true := decide_eq_true (by omega)
  simp only [rangeV, e1, e2, e3, Bool.and_self, if_true]
theorem rangeV1 (b : Int) (h3 : -1000000 ≤ b) (h4 : b ≤ 1000000) : rangeV [.int b] = some (rangeD 0 b) := by
  have e2 : okR b = true := by unfold okR; exact decide_eq_true (by omega)
  have e3 : decide (b ≤ 16777216) = true := decide_eq_true (by omega)
  simp only [rangeV, e2, e3, Bool.and_self, if_true]
@[simp] theorem rangeD_len (a b : Int) : (rangeD a b).length = (b - a).toNat := by simp [rangeD]
theorem rangeD_get {a b : Int} {i : Nat} {x : D} (e : (rangeD a b)[i]? = some x) : x = .int (a + (i : Nat)) ∧ i < (b - a).toNat := by
  obtain ⟨h1, h2⟩ := List.getElem?_eq_some_iff.mp e
  rw [rangeD_len] at h1
  simp [rangeD] at h2
  exact ⟨h2.symm, h1⟩
theorem map_get {α : Type} {enc : α → D} {xs : List α} {i : Nat} {x : D} (e : (xs.map enc)[i]? = some x) : ∃ y, xs[i]? = some y ∧ x = enc y := by
  rw [List.getElem?_map, Option.map_eq_some_iff] at e
  obtain ⟨y, e1, e2⟩ := e
  exact ⟨y, e1, e2.symm⟩
@[simp] theorem sumD_lst (h : Hm) (ns : List Int) : sumD h (.lst (ns.map .int)) = some (.int ns.sum) := by simp [sumD]
@[simp] theorem sumD_tup (h : Hm) (ns : List Int) : sumD h (.tup (ns.map .int)) = some (.int ns.sum) := by simp [sumD]
@[simp] theorem atI_0 {α : Type} (x : α) (xs : List α) : atI (x :: xs) 0 = some x := by simp [atI, ixN]
@[simp] theorem atI_1 {α : Type} (x y : α) (xs : List α) : atI (x :: y :: xs) 1 = some y := by
  have : (1 : Int) < ((xs.length : Int) + 1 + 1) := by omega
  simp [atI, ixN, this]
@[simp] theorem atI_2 {α : Type} (x y z : α) (xs : List α) : atI (x :: y :: z :: xs) 2 = some z := by
  have : (2 : Int) < ((xs.length : Int) + 1 + 1 + 1) := by omega
  simp [atI, ixN, this]
/-- a comprehension that keeps the heap -/
theorem ev_comp_map {α β : Type} {C : Cfg} {elt tg it cs : E} {own : List Nat} {s : Stm} {h h1 : Hm} {enc : α → D} {dec : β → D} (g : α → β) {xs : List α} {deps : List (Nat × List D)} (ei : evI C it s h = .ok ⟨xs.map enc, deps⟩ h1)
    (hc : (⟨xs.map enc, deps⟩ : Itv).ck h1 = true) (q : ∀ x ∈ xs, turnE C elt own tg cs s (enc x) h1 = .ok (some (dec (g x))) h1) : ev C (.comp elt own tg it cs) s h = .ok (.lst ((xs.map g).map dec)) h1 := by
  rw [ev_comp, ei, rb_ok, compL_mapO hc xs q, rb_ok]
theorem ev_comp_filter {α β : Type} {C : Cfg} {elt tg it cs : E} {own : List Nat} {s : Stm} {h h1 : Hm} {enc : α → D} {dec : β → D} (g : α → Option β) {xs : List α} {deps : List (Nat × List D)} (ei : evI C it s h = .ok ⟨xs.map enc, deps⟩ h1)
    (hc : (⟨xs.map enc, deps⟩ : Itv).ck h1 = true) (q : ∀ x ∈ xs, turnE C elt own tg cs s (enc x) h1 = .ok ((g x).map dec) h1) : ev C (.comp elt own tg it cs) s h = .ok (.lst ((xs.filterMap g).map dec)) h1 := by
  rw [ev_comp, ei, rb_ok, compL_filterO hc xs q, rb_ok]
/-- .. over range(len(..)) or range(n) -/
theorem rangeD_nat (n : Nat) : rangeD 0 (n : Int) = (List.range n).map fun i : Nat => D.int (i : Int) := by
  simp [rangeD]
/-! plain values -/
mutual
def pl : Nat → D → Bool
  | _, .int _ => true
  | _, .bl _ => true
  | _, .str _ => true
  | _, .non => true
  | n + 1, .tup ds => pls n ds
  | _, _ => false
def pls : Nat → List D → Bool
  | _, [] => true
  | n, d :: ds => pl n d && pls n ds
end
theorem pls_get : ∀ {n : Nat} {ds : List D} {i : Nat} {d : D}, pls n ds = true → ds[i]? = some d → pl n d = true
  | n, [], i, d, _, e => by simp at e
  | n, x :: ds, 0, d, h, e => by
    simp only [pls, Bool.and_eq_true] at h
    simp at e; subst e; exact h.1
  | n, x :: ds, i + 1, d, h, e => by
    simp only [pls, Bool.and_eq_true] at h
    exact pls_get h.2 (by simpa using e)
theorem mat1_pl {n : Nat} {d : D} (q : pl n d = true) (h : Hm) : mat1 d h = (d, h) := by
  cases d <;> first | rfl | (cases n <;> simp [pl] at q)
theorem toPs_ints (f : Nat → Option PyData) : ∀ xs : List Int, toPs f (xs.map .int) = some (xs.map .int)
  | [] => rfl
  | x :: xs => by simp [toPs, toP, toPs_ints f xs]
theorem lay_ints : ∀ xs : List Int, PyData.canLayAll0 (xs.map .int) = true
  | [] => by simp [PyData.canLayAll0]
  | x :: xs => by simp [PyData.canLayAll0, PyData.canLay0, lay_ints xs]
theorem dep_ints : ∀ xs : List Int, PyData.depthAll (xs.map .int) = 0
  | [] => by simp [PyData.depthAll]
  | x :: xs => by simp [PyData.depthAll, PyData.depth, dep_ints xs]
theorem shaped_ints (xs : List Int) : SeqAt.shaped (.list (xs.map .int)) = true := by
  simp [SeqAt.shaped, PyData.canLay0, PyData.depth, lay_ints, dep_ints]
theorem shaped_int (x : Int) : SeqAt.shaped (.int x) = true := by simp [SeqAt.shaped, PyData.canLay0, PyData.depth]
theorem index_ints {h : Hm} {p : Nat} {xs : List Int} {d : Int} {j : Nat} (hp : h[p]? = some (.lst (xs.map .int))) (hj : xs.findIdx? (fun x => decide (x = d)) = some j) : meth h .index (.ref p) [.int d] = some (.int (j : Nat), h) := by
  have e1 : asQ h (.ref p) = some (xs.map .int) := by rw [q_ref, hp]; rfl
  have e2 : findQ h (xs.map .int) (.int d) = some (xs.map .int, .int d) := by
    simp [findQ, datum, toP, toPs_ints, shaped_ints, shaped_int]
  have e3 : (xs.map PyData.int).findIdx? (fun z => PyData.eqv z (.int d)) = some j := by
    rw [List.findIdx?_map]
    have : ((fun z => PyData.eqv z (.int d)) ∘ PyData.int) = fun x : Int => decide (x = d) := by
      funext x
      by_cases hx : x = d <;> simp [PyData.eqv, hx]
    rw [this]
    exact hj
  show srM gIndex h (.ref p) [.int d] = _
  simp only [srM, srD, e1, e2, gIndex, e3, Option.map_some]
theorem in_ints {h : Hm} (xs : List Int) (x : Int) : inQ h (.int x) (xs.map .int) = some (decide (x ∈ xs)) := by
  have e : (xs.map PyData.int).any (fun z => PyData.eqv z (.int x)) = decide (x ∈ xs) := by
    induction xs with
    | nil => rfl
    | cons y ys ih =>
      have e0 : PyData.eqv (.int y) (.int x) = decide (y = x) := by by_cases hx : y = x <;> simp [PyData.eqv, hx]
      rw [List.map_cons, List.any_cons, ih, e0]
      by_cases hx : x = y
      · subst hx; simp
      · have hy : ¬ y = x := fun z => hx z.symm
        simp [hx, hy]
  simp [inQ, datum, toP, toPs_ints, shaped_ints, shaped_int, e]
theorem in_lst {h : Hm} (xs : List Int) (x : Int) : cop h .inn (.int x) (.lst (xs.map .int)) = some (decide (x ∈ xs)) := in_ints xs x
theorem nin_lst {h : Hm} (xs : List Int) (x : Int) : cop h .nin (.int x) (.lst (xs.map .int)) = some (!decide (x ∈ xs)) := by
  show (inQ h (.int x) (xs.map .int)).map (fun b => !b) = _
  rw [in_ints]; rfl
theorem in_tup {h : Hm} (xs : List Int) (x : Int) : cop h .inn (.int x) (.tup (xs.map .int)) = some (decide (x ∈ xs)) := in_ints xs x
theorem nin_tup {h : Hm} (xs : List Int) (x : Int) : cop h .nin (.int x) (.tup (xs.map .int)) = some (!decide (x ∈ xs)) := by
  show (inQ h (.int x) (xs.map .int)).map (fun b => !b) = _
  rw [in_ints]; rfl
/-! slices -/
theorem cut_take {α : Type} (xs : List α) (k : Nat) : cutD xs none (some (k : Int)) = xs.take k := by
  unfold cutD
  rw [HT.sIx_none, HT.sIx_nat, List.drop_zero, Nat.sub_zero]
  by_cases h : k ≤ xs.length
  · rw [Nat.min_eq_left h]
  · rw [Nat.min_eq_right (by omega), List.take_length, List.take_of_length_le (by omega)]
theorem cut_drop {α : Type} (xs : List α) (k : Nat) : cutD xs (some (k : Int)) none = xs.drop k := by
  unfold cutD
  rw [HT.sIx_none, HT.sIx_nat]
  by_cases h : k ≤ xs.length
  · rw [Nat.min_eq_left h, List.take_of_length_le (by simp)]
  · rw [Nat.min_eq_right (by omega), Nat.sub_self, List.take_zero, List.drop_eq_nil_of_le (by omega)]
theorem cut_from1 {α : Type} (xs : List α) : cutD xs (some 1) none = xs.drop 1 := cut_drop xs 1
theorem sum_b (h : Hm) (bs : List Bool) : anyD h (.lst (bs.map .bl)) = some (.bl (bs.any id)) := by simp [anyD]
theorem all_b (h : Hm) (bs : List Bool) : allD h (.lst (bs.map .bl)) = some (.bl (bs.all id)) := by simp [allD]
/-- a comprehension with effects, by its invariant -/
theorem W_comp {C : Cfg} {elt tg it cs : E} {own : List Nat} {s : Stm} {h : Hm} {Q : D → Hm → Prop} (w : W (evI C it s h) fun v h1 => ∃ I : Nat → List D → Hm → Prop, I 0 [] h1 ∧ (∀ i acc h, I i acc h → v.ck h = true) ∧
    (∀ i x acc h, v.xs[i]? = some x → I i acc h → W (turnE C elt own tg cs s x h) fun o h' => I (i + 1) (acc ++ o.toList) h') ∧ ∀ ys h, I v.xs.length ys h → Q (.lst ys) h) : W (ev C (.comp elt own tg it cs) s h) Q := by
  obtain ⟨v, h1, ei, I, h0, hck, step, fin⟩ := w
  rw [ev_comp, ei, rb_ok, W_bind]
  obtain ⟨ys, h', e, i1⟩ := compL_inv I hck v.xs 0 [] h1 h0 fun j x acc h ej ij => by
    rw [Nat.zero_add] at ij ⊢
    obtain ⟨o, h', e, q⟩ := step j x acc h ej ij
    exact ⟨o, h', e, q⟩
  rw [Nat.zero_add, List.nil_append] at i1
  exact .of e (W_ok.mpr (fin ys h' i1))
@[simp] theorem atI_last {α : Type} (xs : List α) (x : α) : atI (xs ++ [x]) (-1) = some x := by
  have h1 : ¬ (0 : Int) ≤ -1 := by omega
  have h2 : (0 : Int) ≤ -1 + (((xs ++ [x]).length : Nat) : Int) := by rw [List.length_append, List.length_singleton]; omega
  have h3 : (-1 + (((xs ++ [x]).length : Nat) : Int)).toNat = xs.length := by rw [List.length_append, List.length_singleton]; omega
  simp only [atI, ixN, h1, if_false, h2, if_true, h3, Option.bind_some]
  rw [if_pos (by omega)]
  simp
theorem pls_enc {α : Type} (n : Nat) (f : α → Int) : ∀ xs : List α, pls n (xs.map fun b => .int (f b)) = true
  | [] => by simp [pls]
  | x :: xs => by simp [pls, pl, pls_enc n f xs]
theorem ix_nat {n i : Nat} (h : i < n) : ixN n (i : Int) = some i := by
  unfold ixN
  rw [if_pos (by omega), if_pos (by omega)]; rfl
theorem compL2_pure {α : Type} {ck : Hm → Bool} {f : D → Hm → R (List D)} {h : Hm} {enc : α → D} {g : α → List D} (hc : ck h = true) (xs : List α) (q : ∀ x ∈ xs, f (enc x) h = .ok (g x) h) : compL2 ck f (xs.map enc) h = .ok (xs.flatMap g) h := by
  induction xs with
  | nil => simp [compL2, hc]
  | cons x xs ih => simp only [List.map_cons, compL2, hc, if_true, q x List.mem_cons_self, rb_ok, ih fun y hy => q y (List.mem_cons_of_mem _ hy), List.flatMap_cons]
theorem ev_comp2_pure {α : Type} {C : Cfg} {elt tg it cs tg1 it1 cs1 : E} {own own1 : List Nat} {s : Stm} {h h1 : Hm} {enc : α → D} (g : α → List D) {xs : List α} {deps : List (Nat × List D)} (ei : evI C it s h = .ok ⟨xs.map enc, deps⟩ h1)
    (hc : (⟨xs.map enc, deps⟩ : Itv).ck h1 = true) (q : ∀ x ∈ xs, turnE2 C elt own tg cs own1 tg1 it1 cs1 s (enc x) h1 = .ok (g x) h1) (hl : (xs.flatMap g).length ≤ 1000000) : ev C (.comp2 elt own tg it cs own1 tg1 it1 cs1) s h = .ok (.lst (xs.flatMap g)) h1 := by
  rw [ev_comp2, ei, rb_ok, compL2_pure hc xs q, rb_ok, if_pos (by omega)]
end Mp

namespace Mp
open PySem PySem.Spec L2
/-! ### naturals, and more that the laws share -/
def NL (ns : List Nat) : List D := ns.map fun b => D.int (b : Nat)
theorem nl_eq (ns : List Nat) : NL ns = (ns.map fun b : Nat => (b : Int)).map .int := by unfold NL; rw [List.map_map]; rfl
@[simp] theorem nl_len (ns : List Nat) : (NL ns).length = ns.length := by simp [NL]
theorem nl_cons (n : Nat) (ns : List Nat) : NL (n :: ns) = .int n :: NL ns := rfl
theorem nl_app (ns ms : List Nat) : NL (ns ++ ms) = NL ns ++ NL ms := by simp [NL]
theorem nl_get (ns : List Nat) (i : Nat) : (NL ns)[i]? = (ns[i]?).map fun b : Nat => D.int (b : Nat) := by simp [NL]
section
variable (h : Hm) (a b : Nat)
theorem opN_add : bop h .add (.int (a : Nat)) (.int (b : Nat)) = some (.int ((a + b : Nat))) := by rw [op_addI, Int.natCast_add]
theorem opN_mul (ha : a < 1000000000) : bop h .mul (.int (a : Nat)) (.int (b : Nat)) = some (.int ((a * b : Nat))) := by
  rw [op_mulI, if_pos (.inl (by omega)), Int.natCast_mul]
theorem opN_mod (hb : 0 < b) : bop h .mod (.int (a : Nat)) (.int (b : Nat)) = some (.int ((a % b : Nat))) := by
  rw [op_modI, if_pos (by omega), Int.natCast_emod]
theorem opN_fdiv (hb : 0 < b) (hb2 : b < 1000000000) : bop h .fdiv (.int (a : Nat)) (.int (b : Nat)) = some (.int ((a / b : Nat))) := by
  rw [op_fdivI, if_pos ⟨by omega, by omega⟩, Int.natCast_ediv]
theorem opN_sub (hb : b ≤ a) : bop h .sub (.int (a : Nat)) (.int (b : Nat)) = some (.int ((a - b : Nat))) := by
  rw [op_subI, Int.ofNat_sub hb]
theorem cN_eq : cop h .eq (.int (a : Nat)) (.int (b : Nat)) = some (decide (a = b)) := by
  rw [c_eq]; congr 1; exact decide_eq_decide.mpr (by omega)
theorem cN_ne : cop h .ne (.int (a : Nat)) (.int (b : Nat)) = some (!decide (a = b)) := by
  rw [c_ne]; congr 2; exact decide_eq_decide.mpr (by omega)
theorem cN_lt : cop h .lt (.int (a : Nat)) (.int (b : Nat)) = some (decide (a < b)) := by
  rw [c_lt]; congr 1; exact decide_eq_decide.mpr (by omega)
theorem cN_le : cop h .le (.int (a : Nat)) (.int (b : Nat)) = some (decide (a ≤ b)) := by
  rw [c_le]; congr 1; exact decide_eq_decide.mpr (by omega)
theorem cN_gt : cop h .gt (.int (a : Nat)) (.int (b : Nat)) = some (decide (b < a)) := by
  rw [c_gt]; congr 1; exact decide_eq_decide.mpr (by omega)
theorem cN_ge : cop h .ge (.int (a : Nat)) (.int (b : Nat)) = some (decide (b ≤ a)) := by
  rw [c_ge]; congr 1; exact decide_eq_decide.mpr (by omega)
theorem rangeD_nn : rangeD (a : Nat) (b : Nat) = (List.range (b - a)).map fun i : Nat => D.int ((a + i : Nat)) := by
  unfold rangeD
  rw [show ((b : Int) - (a : Int)).toNat = b - a by omega]
  exact List.map_congr_left fun i _ => by rw [Int.natCast_add]
end
theorem in_nl (h : Hm) (ns : List Nat) (x : Nat) : cop h .inn (.int (x : Nat)) (.tup (NL ns)) = some (decide (x ∈ ns)) := by
  rw [nl_eq, in_tup]; congr 1
  exact decide_eq_decide.mpr ⟨fun m => by
    obtain ⟨y, hy, e⟩ := List.mem_map.mp m
    have : y = x := by omega
    subst this; exact hy, fun m => List.mem_map_of_mem m⟩
theorem nin_nl (h : Hm) (ns : List Nat) (x : Nat) : cop h .nin (.int (x : Nat)) (.tup (NL ns)) = some (!decide (x ∈ ns)) := by
  have := in_nl h ns x
  show (cop h .inn (.int (x : Nat)) (.tup (NL ns))).map (fun b => !b) = _
  rw [this]; rfl
/-! equality -/
theorem eqvAll_ints : ∀ xs ys : List Int, PyData.eqvAll (xs.map .int) (ys.map .int) = decide (xs = ys)
  | [], [] => by simp [PyData.eqvAll]
  | [], y :: ys => by simp [PyData.eqvAll]
  | x :: xs, [] => by simp [PyData.eqvAll]
  | x :: xs, y :: ys => by
    have e0 : PyData.eqv (.int x) (.int y) = decide (x = y) := by by_cases hx : x = y <;> simp [PyData.eqv, hx]
    simp only [List.map_cons, PyData.eqvAll, e0, eqvAll_ints xs ys]
    by_cases h1 : x = y <;> by_cases h2 : xs = ys <;> simp [h1, h2]
theorem eq_lstI (h : Hm) (xs ys : List Int) : cop h .eq (.lst (xs.map .int)) (.lst (ys.map .int)) = some (decide (xs = ys)) := by
  show deq h (.lst (xs.map .int)) (.lst (ys.map .int)) = _
  have e1 : ∀ xs : List Int, datum h (.lst (xs.map .int)) = some (.list (xs.map .int)) := fun xs => by simp [datum, toP, toPs_ints]
  simp only [deq, e1, shaped_ints, Bool.and_self, if_true, PyData.eqv, eqvAll_ints]
theorem shaped_tints (xs : List Int) : SeqAt.shaped (.tuple (xs.map .int)) = true := by
  simp [SeqAt.shaped, PyData.canLay0, PyData.depth, lay_ints, dep_ints]
theorem eq_tupI (h : Hm) (xs ys : List Int) : cop h .eq (.tup (xs.map .int)) (.tup (ys.map .int)) = some (decide (xs = ys)) := by
  show deq h (.tup (xs.map .int)) (.tup (ys.map .int)) = _
  have e1 : ∀ xs : List Int, datum h (.tup (xs.map .int)) = some (.tuple (xs.map .int)) := fun xs => by simp [datum, toP, toPs_ints]
  simp only [deq, e1, shaped_tints, Bool.and_self, if_true, PyData.eqv, eqvAll_ints]
theorem map_cast_inj {xs ys : List Nat} (e : xs.map (fun b : Nat => (b : Int)) = ys.map fun b : Nat => (b : Int)) : xs = ys := by
  induction xs generalizing ys with
  | nil => cases ys <;> simp at e ⊢
  | cons x xs ih =>
    cases ys with
    | nil => simp at e
    | cons y ys =>
      simp only [List.map_cons, List.cons.injEq] at e
      rw [ih e.2, show x = y by omega]
theorem eq_nl (h : Hm) (xs ys : List Nat) : cop h .eq (.tup (NL xs)) (.tup (NL ys)) = some (decide (xs = ys)) := by
  rw [nl_eq, nl_eq, eq_tupI]; congr 1
  exact decide_eq_decide.mpr ⟨map_cast_inj, fun e => by rw [e]⟩
/-! most and least -/
theorem max_lst (h : Hm) (n : Int) (ns : List Int) : maxD h (.lst ((n :: ns).map .int)) = some (.int (ns.foldl max n)) := by
  simp only [maxD, q_lst, allInts_map]
/-! lists that go up -/
theorem strict_uniqueN : ∀ {xs ys : List Nat}, xs.Pairwise (· < ·) → ys.Pairwise (· < ·) → (∀ k, k ∈ xs ↔ k ∈ ys) → xs = ys
  | [], [], _, _, _ => rfl
  | [], y :: ys, _, _, h => by have := (h y).mpr List.mem_cons_self; simp at this
  | x :: xs, [], _, _, h => by have := (h x).mp List.mem_cons_self; simp at this
  | x :: xs, y :: ys, hx, hy, h => by
    obtain ⟨hx1, hx2⟩ := List.pairwise_cons.mp hx
    obtain ⟨hy1, hy2⟩ := List.pairwise_cons.mp hy
    have e : x = y := by
      rcases List.mem_cons.mp ((h x).mp List.mem_cons_self) with e | m
      · exact e
      · rcases List.mem_cons.mp ((h y).mpr List.mem_cons_self) with e | m2
        · exact e.symm
        · have := hy1 x m
          have := hx1 y m2
          omega
    subst e
    rw [strict_uniqueN hx2 hy2 fun k => ⟨fun m => (List.mem_cons.mp ((h k).mp (List.mem_cons_of_mem _ m))).elim (fun e => by have := hx1 k m; omega) id, fun m => (List.mem_cons.mp ((h k).mpr (List.mem_cons_of_mem _ m))).elim (fun e => by have := hy1 k m; omega) id⟩]
theorem range_up (n : Nat) : (List.range n).Pairwise (· < ·) := List.pairwise_lt_range
theorem filter_up {l : List Nat} (p : Nat → Bool) (h : l.Pairwise (· < ·)) : (l.filter p).Pairwise (· < ·) := List.Pairwise.filter p h
/-- the first one that holds -/
theorem first_of {p : Nat → Bool} {j n : Nat} (hj : j < n) (hp : p j = true) (hn : ∀ i, i < j → p i = false) : ((List.range n).filter p)[0]? = some j := by
  have e1 : List.range n = List.range j ++ ([j] ++ (List.range (n - (j + 1))).map (j + 1 + ·)) := by
    rw [← List.append_assoc, ← List.range_succ, ← List.range_add]
    congr 1; omega
  have e2 : (List.range j).filter p = [] := List.filter_eq_nil_iff.mpr fun i hi => by rw [hn i (List.mem_range.mp hi)]; simp
  have e3 : [j].filter p = [j] := by simp [hp]
  rw [e1, List.filter_append, e2, List.filter_append, e3]
  rfl
theorem fm_filter {α β : Type} (p : α → Bool) (f : α → β) (l : List α) : (l.filterMap fun x => if p x = true then some (f x) else none) = (l.filter p).map f := by
  induction l with
  | nil => rfl
  | cons x l ih =>
    rw [List.filterMap_cons, List.filter_cons, ih]
    by_cases h : p x = true <;> simp [h]
theorem dedup_len (ns : List Int) : (dedupI ns).length ≤ ns.length := by
  have : ∀ n, n ≤ ns.length → (dedupI (ns.take n)).length ≤ n := fun n => by
    induction n with
    | zero => intro _; simp [dedupI]
    | succ n ih =>
      intro h
      have e : ns.take (n + 1) = ns.take n ++ [ns[n]'(by omega)] := by rw [List.take_add_one, List.getElem?_eq_getElem (by omega)]; rfl
      have := ih (by omega)
      rw [e, dedup_snoc]
      split
      · omega
      · rw [List.length_append, List.length_singleton]; omega
  have h := this ns.length (Nat.le_refl _)
  rwa [List.take_length] at h
theorem sortSet_up {ns : List Int} : ns = sortBy leI (dedupI ns) ↔ ns.Pairwise (· < ·) :=
  ⟨fun e => by rw [e]; exact sorted_strict _, fun u => strict_unique u (sorted_strict ns) fun k => (mem_sortSet ns k).symm⟩
theorem sortSet_len (ns : List Int) : (sortBy leI (dedupI ns)).length ≤ ns.length := by
  rw [(sortBy_perm (dedupI ns)).length_eq]; exact dedup_len ns
/-! plain values, by their shape -/
theorem pls_mem {n : Nat} {ds : List D} {d : D} (h : pls n ds = true) (m : d ∈ ds) : pl n d = true := by
  obtain ⟨i, hi, e⟩ := List.getElem_of_mem m
  exact pls_get h (by rw [List.getElem?_eq_getElem hi, e])
theorem pls_of {n : Nat} : ∀ {ds : List D}, (∀ d ∈ ds, pl n d = true) → pls n ds = true
  | [], _ => by simp [pls]
  | d :: ds, h => by
    simp only [pls, Bool.and_eq_true]
    exact ⟨h d List.mem_cons_self, pls_of fun x hx => h x (List.mem_cons_of_mem _ hx)⟩
theorem pl_up : ∀ (n : Nat) (d : D), pl n d = true → pl (n + 1) d = true
  | n, .int _, _ => by simp [pl]
  | n, .bl _, _ => by simp [pl]
  | n, .str _, _ => by simp [pl]
  | n, .non, _ => by simp [pl]
  | 0, .tup _, h => by simp [pl] at h
  | n + 1, .tup ds, h => by
    simp only [pl] at h ⊢
    exact pls_of fun d hd => pl_up n d (pls_mem h hd)
  | 0, .lst _, h => by simp [pl] at h
  | n + 1, .lst _, h => by simp [pl] at h
  | 0, .ref _, h => by simp [pl] at h
  | n + 1, .ref _, h => by simp [pl] at h
  | 0, .fz _, h => by simp [pl] at h
  | n + 1, .fz _, h => by simp [pl] at h
theorem pl_le {n m : Nat} {d : D} (h : pl n d = true) (l : n ≤ m) : pl m d = true := by
  induction m with
  | zero => have : n = 0 := by omega
            subst this; exact h
  | succ m ih =>
    by_cases e : n = m + 1
    · subst e; exact h
    · exact pl_up m d (ih (by omega))
def leaf : D → Bool
  | .int _ => true
  | .bl _ => true
  | .str s => PyData.strOk s
  | .non => true
  | _ => false
theorem strOk_of (s : String) : PyData.strOk (Str.ofString s) = true := by
  rw [Str.ofString_eq_toList]
  simp only [PyData.strOk, Array.all_eq_true_iff_forall_mem, List.mem_toArray, List.mem_map, decide_eq_true_eq]
  rintro n ⟨c, _, rfl⟩
  have := c.valid
  simp only [UInt32.isValidChar, Nat.isValidChar] at this
  show c.val.toNat < _
  omega
/-- nested tuples of at most L items -/
def shp (L : Nat) : Nat → D → Prop
  | 0, d => leaf d = true
  | n + 1, d => leaf d = true ∨ ∃ ds, d = .tup ds ∧ ds.length ≤ L ∧ ∀ x ∈ ds, shp L n x
theorem leaf_pl (n : Nat) {d : D} (h : leaf d = true) : pl n d = true := by cases d <;> first | (simp [pl]; done) | (simp [leaf] at h)
theorem leaf_shp (L n : Nat) {d : D} (h : leaf d = true) : shp L n d := by
  cases n with
  | zero => exact h
  | succ n => exact .inl h
theorem shp_pl {L : Nat} : ∀ {n : Nat} {d : D}, shp L n d → pl n d = true
  | 0, d, h => leaf_pl 0 h
  | n + 1, d, h => by
    rcases h with h | ⟨ds, rfl, _, h⟩
    · exact leaf_pl _ h
    · simp only [pl]; exact pls_of fun x hx => shp_pl (h x hx)
theorem shp_le {L M : Nat} (l : L ≤ M) : ∀ {n m : Nat} {d : D}, n ≤ m → shp L n d → shp M m d
  | 0, m, d, _, h => leaf_shp _ _ h
  | n + 1, 0, d, hn, _ => by omega
  | n + 1, m + 1, d, hn, h => by
    rcases h with h | ⟨ds, rfl, hl, h⟩
    · exact .inl h
    · exact .inr ⟨ds, rfl, by omega, fun x hx => shp_le l (by omega) (h x hx)⟩
mutual
theorem shp_toP {L : Nat} : ∀ {n : Nat} {d : D}, shp L n d → ∃ p : PyData, (∀ f, toP f d = some p) ∧ p.canLay0 = true ∧ p.depth ≤ n
  | 0, d, h => leaf_toP 0 h
  | n + 1, d, h => by
    rcases h with h | ⟨ds, rfl, _, h⟩
    · exact leaf_toP _ h
    · obtain ⟨ps, e, l, dp, _⟩ := shps_toP (L := L) (n := n) ds h
      exact ⟨.tuple ps, fun f => by simp only [toP, e f, Option.map_some], by simpa [PyData.canLay0] using l, by simp only [PyData.depth]; omega⟩
theorem leaf_toP (n : Nat) {d : D} (h : leaf d = true) : ∃ p : PyData, (∀ f, toP f d = some p) ∧ p.canLay0 = true ∧ p.depth ≤ n := by
  cases d with
  | int i => exact ⟨.int i, fun _ => rfl, by simp [PyData.canLay0], by simp [PyData.depth]⟩
  | bl i => exact ⟨.bool i, fun _ => rfl, by simp [PyData.canLay0], by simp [PyData.depth]⟩
  | non => exact ⟨.none, fun _ => rfl, by simp [PyData.canLay0], by simp [PyData.depth]⟩
  | str i => exact ⟨.str i, fun _ => rfl, by simpa [PyData.canLay0, leaf] using h, by simp [PyData.depth]⟩
  | _ => simp [leaf] at h
theorem shps_toP {L n : Nat} : ∀ (ds : List D), (∀ x ∈ ds, shp L n x) → ∃ ps : List PyData, (∀ f, toPs f ds = some ps) ∧ PyData.canLayAll0 ps = true ∧ PyData.depthAll ps ≤ n ∧ ps.length = ds.length
  | [], _ => ⟨[], fun _ => rfl, by simp [PyData.canLayAll0], by simp [PyData.depthAll], rfl⟩
  | d :: ds, h => by
    obtain ⟨p, e1, l1, d1⟩ := shp_toP (h d List.mem_cons_self)
    obtain ⟨ps, e2, l2, d2, n2⟩ := shps_toP ds fun x hx => h x (List.mem_cons_of_mem _ hx)
    exact ⟨p :: ps, fun f => by simp only [toPs, e1 f, e2 f], by simp only [PyData.canLayAll0, l1, l2, Bool.and_self], by simp only [PyData.depthAll]; omega, by simp [n2]⟩
end
theorem eq_nil_tup {L n : Nat} {ds : List D} (hs : ∀ x ∈ ds, shp L n x) (hn : n ≤ 60) (h : Hm) : cop h .eq (.tup ds) (.tup []) = some ds.isEmpty := by
  obtain ⟨ps, e, l, dp, hl⟩ := shps_toP ds hs
  show deq h (.tup ds) (.tup []) = _
  have e1 : datum h (.tup ds) = some (.tuple ps) := by simp only [datum, toP, e, Option.map_some]
  have e2 : datum h (.tup []) = some (.tuple []) := rfl
  have s1 : SeqAt.shaped (.tuple ps) = true := by
    simp [SeqAt.shaped, PyData.canLay0, PyData.depth, l]; omega
  have s2 : SeqAt.shaped (.tuple []) = true := shaped_tints []
  simp only [deq, e1, e2, s1, s2, Bool.and_self, if_true, PyData.eqv]
  cases ps <;> cases ds <;> simp [PyData.eqvAll] at hl ⊢
/-- .. of small ints alone -/
def cl (L : Nat) : Nat → D → Prop
  | 0, d => ∃ i, d = .int i ∧ -100000 ≤ i ∧ i ≤ 100000
  | n + 1, d => (∃ i, d = .int i ∧ -100000 ≤ i ∧ i ≤ 100000) ∨ ∃ ds, d = .tup ds ∧ ds.length ≤ L ∧ ∀ x ∈ ds, cl L n x
theorem cl_shp {L : Nat} : ∀ {n : Nat} {d : D}, cl L n d → shp L n d
  | 0, d, ⟨i, e, _⟩ => by subst e; rfl
  | n + 1, d, .inl ⟨i, e, _⟩ => by subst e; exact .inl rfl
  | n + 1, d, .inr ⟨ds, e, l, h⟩ => .inr ⟨ds, e, l, fun x hx => cl_shp (h x hx)⟩
theorem mem_cut {α : Type} {xs : List α} {lo hi : Option Int} {x : α} (h : x ∈ cutD xs lo hi) : x ∈ xs := by
  unfold cutD at h
  exact List.mem_of_mem_drop (List.mem_of_mem_take h)
theorem cut_len {α : Type} (xs : List α) (lo hi : Option Int) : (cutD xs lo hi).length ≤ xs.length := by
  unfold cutD
  simp; omega
theorem cut_one {α : Type} (xs : List α) : (cutD xs none (some 1)).length ≤ 1 := by
  have := cut_take xs 1
  rw [show ((1 : Nat) : Int) = 1 from rfl] at this
  rw [this, List.length_take]; omega
theorem at_some {α : Type} {xs : List α} {i : Nat} (h : i < xs.length) : ∃ x, atI xs (i : Int) = some x ∧ x ∈ xs := ⟨xs[i], by rw [atI_nat', List.getElem?_eq_getElem h], List.getElem_mem h⟩
theorem W_at {xs : List D} {i : Nat} {h : Hm} {Q : D → Hm → Prop} (hi : i < xs.length) (q : ∀ x ∈ xs, Q x h) : W (R.of (atI xs (i : Int)) h) Q := by
  obtain ⟨x, e, m⟩ := at_some hi
  rw [e, ro_some, W_ok]
  exact q x m
theorem log_small {i : Int} (h1 : -100000 ≤ i) (h2 : i ≤ 100000) : i.natAbs.log2 < 1920 := by
  by_cases h0 : i.natAbs = 0
  · rw [h0]; decide
  · have : i.natAbs.log2 < 17 := (Nat.log2_lt h0).mpr (by omega)
    omega
theorem cut_drop1 {α : Type} (xs : List α) (k : Nat) : cutD xs (some ((k : Int) + 1)) none = xs.drop (k + 1) := by
  have := cut_drop xs (k + 1)
  rwa [Int.natCast_add] at this
/-! more of lists -/
theorem me_ext (h : Hm) (i j : Nat) : meth h .extend (.ref i) [.ref j] = (h[i]?).bind fun o => (h[j]?).bind fun o2 => if (oxs o).length + (oxs o2).length ≤ 16777216 then some (.non, h.set i (.lst (oxs o ++ oxs o2))) else none := by
  simp only [meth]
  cases h[i]? with
  | none => rfl
  | some o =>
    cases o
    cases h[j]? with
    | none => rfl
    | some o2 => cases o2; rfl
theorem me_ins (h : Hm) (i : Nat) (k : Int) (d : D) : meth h .insert (.ref i) [.int k, d] = (h[i]?).bind fun o => if (oxs o).length < 16777216 ∧ 0 ≤ k ∧ k < 9223372036854775808 then some (.non, h.set i (.lst ((oxs o).take k.toNat ++ [d] ++ (oxs o).drop k.toNat))) else none := by
  simp only [meth, pow63]
  cases h[i]? with
  | none => rfl
  | some o => cases o; rfl
theorem sz_ok1000 {α : Type} {a b : Nat} (x : α) (h : a + b ≤ 16777216) : sz a b x = some x := if_pos h
theorem add_refs {h : Hm} {i j : Nat} {xs ys : List D} (e1 : h[i]? = some (.lst xs)) (e2 : h[j]? = some (.lst ys)) (hl : xs.length + ys.length ≤ 16777216) : bop h .add (.ref i) (.ref j) = some (.lst (xs ++ ys)) := by
  show addL h (.ref i) (.ref j) = _
  simp only [addL, l_ref, e1, e2, Option.map_some, oxs_lst]
  exact if_pos hl
theorem add_lsts {h : Hm} {xs ys : List D} (hl : xs.length + ys.length ≤ 16777216) : bop h .add (.lst xs) (.lst ys) = some (.lst (xs ++ ys)) := by
  show addL h (.lst xs) (.lst ys) = _
  simp only [addL, l_lst]
  exact if_pos hl
theorem add_lref {h : Hm} {j : Nat} {xs ys : List D} (e2 : h[j]? = some (.lst ys)) (hl : xs.length + ys.length ≤ 16777216) : bop h .add (.lst xs) (.ref j) = some (.lst (xs ++ ys)) := by
  show addL h (.lst xs) (.ref j) = _
  simp only [addL, l_lst, l_ref, e2, Option.map_some, oxs_lst]
  exact if_pos hl
theorem add_rl {h : Hm} {i : Nat} {xs ys : List D} (e1 : h[i]? = some (.lst xs)) (hl : xs.length + ys.length ≤ 16777216) : bop h .add (.ref i) (.lst ys) = some (.lst (xs ++ ys)) := by
  show addL h (.ref i) (.lst ys) = _
  simp only [addL, l_lst, l_ref, e1, Option.map_some, oxs_lst]
  exact if_pos hl
theorem mats_pl : ∀ {n : Nat} (ds : List D) (h : Hm), pls n ds = true → mats ds h = (ds, h)
  | n, [], h, _ => rfl
  | n, d :: ds, h, q => by
    simp only [pls, Bool.and_eq_true] at q
    rw [ms_cons', mat1_pl q.1, mats_pl ds h q.2]
/-! what is new lies behind -/
def Ext (h h' : Hm) : Prop := ∃ t, h' = h ++ t
theorem Ext.refl (h : Hm) : Ext h h := ⟨[], by simp⟩
theorem Ext.app {h h' : Hm} (e : Ext h h') (t : Hm) : Ext h (h' ++ t) := by
  obtain ⟨u, rfl⟩ := e
  exact ⟨u ++ t, by simp⟩
theorem Ext.set {h h' : Hm} (e : Ext h h') {p : Nat} (hp : h.length ≤ p) (o : O) : Ext h (h'.set p o) := by
  obtain ⟨u, rfl⟩ := e
  exact ⟨u.set (p - h.length) o, by rw [List.set_append_right _ _ hp]⟩
theorem Ext.fin {h h' : Hm} (e : Ext h h') (d : D) : fin 1 h d h' = R.of (lift h.length h' d) h := by
  obtain ⟨u, rfl⟩ := e
  exact fin1_app h u d
theorem set_self {h : Hm} {p : Nat} {o : O} (e : h[p]? = some o) (x : O) : (h.set p x)[p]? = some x := List.getElem?_set_self (List.getElem?_eq_some_iff.mp e).1
theorem set_ne {h : Hm} {p q : Nat} {o : O} (e : h[p]? = some o) (hn : q ≠ p) (x : O) : (h.set q x)[p]? = some o := by rw [List.getElem?_set_ne hn]; exact e
theorem lt_of_at {h : Hm} {p : Nat} {o : O} (e : h[p]? = some o) : p < h.length := (List.getElem?_eq_some_iff.mp e).1
theorem at_new (h : Hm) (o : O) : (h ++ [o])[h.length]? = some o := at0 h [] o
/-! more of naturals -/
theorem sum_cast : ∀ ns : List Nat, (ns.map fun b : Nat => (b : Int)).sum = ((ns.sum : Nat) : Int)
  | [] => rfl
  | n :: ns => by rw [List.map_cons, List.sum_cons, List.sum_cons, sum_cast ns]; omega
theorem sum_nl (h : Hm) (ns : List Nat) : sumD h (.tup (NL ns)) = some (.int ((ns.sum : Nat))) := by rw [nl_eq, sumD_tup, sum_cast]
theorem nl_rep (n x : Nat) : NL (List.replicate n x) = List.replicate n (.int (x : Nat)) := by simp [NL]
theorem zeros (h : Hm) (n : Nat) (hn : n ≤ 1000000) : bop h .mul (.lst [.int 0]) (.int (n : Nat)) = some (.lst (NL (List.replicate n 0))) := by
  rw [op_mulL, if_pos ⟨by omega, by omega, by simp; omega⟩, nl_rep, List.flatten_replicate_singleton]; rfl
theorem nl_set (ns : List Nat) (j x : Nat) : (NL ns).set j (.int (x : Nat)) = NL (ns.set j x) := by
  unfold NL
  rw [List.map_set]
theorem nl_at {ns : List Nat} {i : Nat} (hi : i < ns.length) : atI (NL ns) ((i : Nat) : Int) = some (.int ((ns.getD i 0 : Nat))) := by
  rw [atI_nat', nl_get, List.getElem?_eq_getElem hi, List.getD_eq_getElem?_getD, List.getElem?_eq_getElem hi]; rfl
theorem nl_enum {ns : List Nat} {i : Nat} {x : D} (e : (enumD 0 (NL ns))[i]? = some x) : x = .tup [.int (i : Nat), .int ((ns.getD i 0 : Nat))] ∧ i < ns.length := by
  rw [enumD_get] at e
  by_cases hi : i < ns.length
  · rw [nl_get, List.getElem?_eq_getElem hi] at e
    refine ⟨?_, hi⟩
    rw [List.getD_eq_getElem?_getD, List.getElem?_eq_getElem hi]
    simpa using e.symm
  · rw [nl_get, List.getElem?_eq_none (by omega)] at e
    simp at e
/-! the least pair -/
def PR (r : Nat × Nat) : D := .tup [.int (r.1 : Nat), .int (r.2 : Nat)]
@[simp] theorem mat_PR (r : Nat × Nat) (h : Hm) : mat1 (PR r) h = (PR r, h) := rfl
def pP (r : Nat × Nat) : PyData := .tuple [.int (r.1 : Nat), .int (r.2 : Nat)]
def ltP (x y : Nat × Nat) : Bool := decide (x.1 < y.1) || (decide (x.1 = y.1) && decide (x.2 < y.2))
def best : List (Nat × Nat) → Nat × Nat
  | [] => (0, 0)
  | r :: rs => rs.foldl (fun a y => if ltP y a = true then y else a) r
theorem lt_pP (x y : Nat × Nat) : PySem.W.dataLt (pP x) (pP y) = ltP x y := by
  have al : ∀ a b : Int, PySem.W.alike (.int a) (.int b) = true := fun a b => by simp [PySem.W.alike]
  have eq0 : ∀ a b : Nat, PyData.eqv (.int (a : Nat)) (.int (b : Nat)) = decide (a = b) := fun a b => by
    by_cases h : a = b
    · subst h; simp [PyData.eqv]
    · have : ¬ (a : Int) = (b : Int) := by omega
      simp [PyData.eqv, h, this]
  have lt0 : ∀ a b : Nat, PySem.W.dataLt (.int (a : Nat)) (.int (b : Nat)) = decide (a < b) := fun a b => by
    rw [PySem.W.dataLt_int]; exact decide_eq_decide.mpr (by omega)
  unfold pP ltP
  rw [PySem.W.dataLt_tuple]
  by_cases h1 : x.1 = y.1
  · rw [PySem.W.dataLt_all_yes (al _ _) (by rw [eq0, decide_eq_true h1])]
    by_cases h2 : x.2 = y.2
    · have hl : ¬ x.2 < y.2 := by omega
      have hl1 : ¬ x.1 < y.1 := by omega
      rw [PySem.W.dataLt_all_yes (al _ _) (by rw [eq0, decide_eq_true h2])]
      simp [h1, h2]
      rfl
    · rw [PySem.W.dataLt_all_no (al _ _) (by rw [eq0, decide_eq_false h2]), lt0]
      simp [h1]
  · rw [PySem.W.dataLt_all_no (al _ _) (by rw [eq0, decide_eq_false h1]), lt0]
    simp [h1]
theorem toPs_pr (f : Nat → Option PyData) : ∀ R : List (Nat × Nat), toPs f (R.map PR) = some (R.map pP)
  | [] => rfl
  | x :: r => by simp [toPs, toP, toPs_pr f r, PR, pP]
theorem dep_pr : ∀ r : List (Nat × Nat), PyData.depthAll (r.map pP) ≤ 1
  | [] => by simp [PyData.depthAll]
  | x :: r => by
    have := dep_pr r
    simp [PyData.depthAll, PyData.depth, pP]; omega
theorem zip_map2 {α β γ : Type} (f : α → β) (g : α → γ) : ∀ l : List α, (l.map f).zip (l.map g) = l.map fun x => (f x, g x)
  | [] => rfl
  | x :: l => by simp [zip_map2 f g l]
theorem min_pr {h : Hm} {d : D} {R : List (Nat × Nat)} (hd : asQ h d = some (R.map PR)) (ne : R ≠ []) : minD h d = some (PR (best R)) := by
  cases R with
  | nil => exact absurd rfl ne
  | cons r rs =>
    have al : ∀ x y, PySem.W.alike (pP x) (pP y) = true := fun x y => by simp [pP, PySem.W.alike, PySem.W.alikeAll]
    have e1 : alikeAllB ((r :: rs).map pP) = true := by
      simp only [alikeAllB, List.all_eq_true]
      intro x hx y hy
      obtain ⟨x, _, rfl⟩ := List.mem_map.mp hx
      obtain ⟨y, _, rfl⟩ := List.mem_map.mp hy
      exact al x y
    have e2 : ((r :: rs).map pP).all someB = true := by
      rw [List.all_map, List.all_eq_true]
      intro x _; rfl
    have e3 := dep_pr (r :: rs)
    have e4 : allInts ((r :: rs).map PR) = none := by simp [allInts, PR]
    have key : ∀ (rs : List (Nat × Nat)) (r : Nat × Nat), minZ PySem.W.dataLt (PR r, pP r) (rs.map fun x => (PR x, pP x)) = (PR (best (r :: rs)), pP (best (r :: rs))) := fun rs => by
      induction rs with
      | nil => intro r; rfl
      | cons y rs ih =>
        intro r
        show minZ PySem.W.dataLt (if PySem.W.dataLt (pP y) (pP r) = true then (PR y, pP y) else (PR r, pP r)) (rs.map fun x => (PR x, pP x)) = _
        rw [lt_pP]
        have eb : best (r :: y :: rs) = best ((if ltP y r = true then y else r) :: rs) := rfl
        rw [eb, ← ih]
        congr 1
        split <;> rfl
    simp only [minD, hd, e4, minPD, toPs_pr, e1, e2, Bool.and_self, Bool.true_and]
    rw [if_pos (decide_eq_true (Nat.le_trans e3 (by omega))), zip_map2, List.map_cons]
    simp only [key]
theorem enumD_len' : ∀ (xs : List D) (n : Nat), (enumD n xs).length = xs.length
  | [], _ => rfl
  | x :: xs, n => by simp [enumD, enumD_len' xs]
theorem set_same {h : Hm} {p : Nat} {o : O} (e : h[p]? = some o) : h.set p o = h := by
  apply List.ext_getElem?
  intro i
  by_cases hi : p = i
  · subst hi; rw [set_self e, e]
  · rw [List.getElem?_set_ne hi]
theorem enum_map {α : Type} (f : α → D) (xs : List α) (d : α) : enumD 0 (xs.map f) = (List.range xs.length).map fun i => D.tup [.int (i : Nat), f (xs.getD i d)] := by
  apply List.ext_getElem?
  intro i
  rw [enumD_get, List.getElem?_map, List.getElem?_map]
  by_cases hi : i < xs.length
  · rw [List.getElem?_range hi, List.getElem?_eq_getElem hi]; simp [hi]
  · rw [List.getElem?_eq_none (by omega), List.getElem?_eq_none (by simp; omega)]; rfl
theorem nl_enum_map (ns : List Nat) : enumD 0 (NL ns) = (List.range ns.length).map fun i => D.tup [.int (i : Nat), .int ((ns.getD i 0 : Nat))] := enum_map _ ns 0
theorem count_nl (h : Hm) (l : List Nat) (k : Nat) : meth h .count (.tup (NL l)) [.int (k : Nat)] = some (.int ((l.count k : Nat)), h) := by
  have e1 : findQ h (NL l) (.int (k : Nat)) = some ((l.map fun b : Nat => (b : Int)).map .int, .int (k : Nat)) := by
    rw [nl_eq]
    simp only [findQ, datum, toP, toPs_ints, shaped_ints, shaped_int, Bool.and_self, if_true]
  have e3 : ((l.map fun b : Nat => (b : Int)).map PyData.int).countP (fun z => PyData.eqv z (.int (k : Nat))) = l.count k := by
    rw [List.map_map, List.countP_map, List.count]
    congr 1
    funext x
    have : ((x : Int) == (k : Int)) = (x == k) := by rw [Bool.eq_iff_iff, beq_iff_eq, beq_iff_eq]; omega
    simp only [Function.comp, PyData.eqv, this]
  show srM gCount h (.tup (NL l)) [.int (k : Nat)] = _
  simp only [srM, srD, q_tup, e1, gCount, e3, Option.map_some]
/-! kinds -/
def isNum (d : D) (a b : Int) : Bool := match d with
  | .int i => decide (a ≤ i) && decide (i ≤ b)
  | _ => false
def isTupD (d : D) : Bool := match d with
  | .tup _ => true
  | _ => false
theorem isi_tup {n : Nat} {d : D} (p : pl n d = true) (h : Hm) : isiD h d [.tuple] = some (.bl (isTupD d)) := by
  cases d <;> first | rfl | (cases n <;> simp [pl] at p)
def intsD : List D → List Int
  | [] => []
  | .int i :: ds => i :: intsD ds
  | _ :: ds => intsD ds
theorem ints_all {a b : Int} : ∀ ds : List D, ds.all (fun d => isNum d a b) = true → ds = (intsD ds).map .int
  | [], _ => rfl
  | d :: ds, h => by
    simp only [List.all_cons, Bool.and_eq_true] at h
    cases d with
    | int i => simp only [intsD, List.map_cons]; rw [← ints_all ds h.2]
    | _ => simp [isNum] at h
def nats (ds : List D) : List Nat := (intsD ds).map Int.toNat
theorem nats_all {b : Int} : ∀ ds : List D, ds.all (fun d => isNum d 0 b) = true → ds = NL (nats ds) ∧ ∀ x ∈ nats ds, (x : Int) ≤ b
  | [], _ => ⟨rfl, by simp [nats, intsD]⟩
  | d :: ds, h => by
    simp only [List.all_cons, Bool.and_eq_true] at h
    obtain ⟨h1, h2⟩ := nats_all ds h.2
    cases d with
    | int i =>
      have hi := h.1
      simp only [isNum, Bool.and_eq_true, decide_eq_true_eq] at hi
      have e : nats (.int i :: ds) = i.toNat :: nats ds := rfl
      rw [e, nl_cons]
      refine ⟨by rw [← h1, show ((i.toNat : Nat) : Int) = i by omega], fun x hx => ?_⟩
      rcases List.mem_cons.mp hx with rfl | hx
      · omega
      · exact h2 x hx
    | _ => simp [isNum] at h
theorem nats_nl : ∀ ns : List Nat, nats (NL ns) = ns
  | [] => rfl
  | n :: ns => by
    have ih := nats_nl ns
    unfold nats at ih ⊢
    rw [nl_cons, intsD, List.map_cons, ih]; rfl
end Mp

namespace Mp.K51
open PySem PySem.Spec L2
def topS (i : Nat) : Stmt := PySem.Challenge.pw_suitsall_k51_whole_fair_turns.main.body.getD i (.Pass ⟨0, 0, 0, 0⟩)
def b_is_number : Mp.S := (.ret (.and (.isi (.var 0) [.int]) (.and (.not (.isi (.var 0) [.bool])) (.chain .le .le (.var 1) (.var 0) (.var 2)))))
def f_is_number : Mp.Fn := ⟨3, 3, 0, b_is_number⟩
def s_is_number : Src := ⟨"is_number", topS 1, ["value", "least", "most"], ["value", "least", "most"]⟩
def c1_are_shares : Mp.E := (.comp (.call 0 (.cons (.var 1) (.cons (.int 1) (.cons (.cst 1) .nil)))) [1] (.nm 1) (.cons (.var 0) .nil) .nil)
def b_are_shares : Mp.S := (.seq (.ite (.or (.not (.cons (.isi (.var 0) [.tuple]) .nil)) (.not (.cons (.chain .le .le (.int 1) (.bi .len (.cons (.var 0) .nil)) (.cst 0)) .nil))) (.ret (.bl false)) .nop)
  (.ret (.bi .all (.cons c1_are_shares .nil))))
def f_are_shares : Mp.Fn := ⟨1, 2, 0, b_are_shares⟩
def s_are_shares : Src := ⟨"are_shares", topS 5, ["value", "share"], ["value"]⟩
def b_window_of : Mp.S := (.ret (.tup (.cons (.op .fdiv (.op .mul (.op .sub (.var 2) (.int 1)) (.var 1)) (.var 0)) (.cons (.op .fdiv (.op .sub (.op .add (.op .mul (.var 2) (.var 1)) (.var 0)) (.int 1)) (.var 0)) .nil))))
def f_window_of : Mp.Fn := ⟨3, 3, 0, b_window_of⟩
def s_window_of : Src := ⟨"window_of", topS 6, ["share", "total", "k"], ["share", "total", "k"]⟩
def l1_fair_turns : Mp.S := (.loop (.tp (.cons (.nm 6) (.cons (.nm 7) .nil))) (.enum (.var 0)) (.seq (.set (.tp (.cons (.nm 8) (.cons (.nm 9) .nil))) (.call 2 (.cons (.var 7) (.cons (.var 1) (.cons (.op .add (.ix (.var 2) (.var 6)) (.int 1)) .nil)))))
  (.ite (.and (.cmp .lt (.ix (.var 2) (.var 6)) (.var 7)) (.cmp .le (.var 8) (.var 4))) (.ex (.me .append (.var 5) (.cons (.tup (.cons (.var 9) (.cons (.var 6) .nil))) .nil))) .nop)))
def l2_fair_turns : Mp.S := (.loop (.nm 4) (.range (.cons (.var 1) .nil)) (.seq (.set (.nm 5) (.lst .nil))
  (.seq l1_fair_turns
  (.seq (.ex (.me .append (.var 3) (.cons (.ix (.bi .min (.cons (.var 5) .nil)) (.int 1)) .nil)))
  (.augIx (.var 2) (.ix (.var 3) (.neg (.int 1))) .add (.int 1))))))
def b_fair_turns : Mp.S := (.seq (.par3 1 2 3 (.bi .sum (.cons (.var 0) .nil)) (.op .mul (.lst (.cons (.int 0) .nil)) (.bi .len (.cons (.var 0) .nil))) (.lst .nil))
  (.seq l2_fair_turns
  (.ret (.bi .tuple (.cons (.var 3) .nil)))))
def f_fair_turns : Mp.Fn := ⟨1, 10, 1, b_fair_turns⟩
def s_fair_turns : Src := ⟨"fair_turns", topS 7, ["shares", "total", "had", "found", "t", "rows", "person", "share", "start", "end"], ["shares"]⟩
def c1_are_fair : Mp.E := (.comp (.call 0 (.cons (.var 5) (.cons (.int 0) (.cons (.op .sub (.bi .len (.cons (.var 0) .nil)) (.int 1)) .nil)))) [5] (.nm 5) (.cons (.var 1) .nil) .nil)
def l1_are_fair : Mp.S := (.loop (.tp (.cons (.nm 4) (.cons (.nm 5) .nil))) (.enum (.var 1)) (.seq (.augIx (.var 3) (.var 5) .add (.int 1))
  (.seq (.set (.tp (.cons (.nm 6) (.cons (.nm 7) .nil))) (.call 2 (.cons (.ix (.var 0) (.var 5)) (.cons (.var 2) (.cons (.ix (.var 3) (.var 5)) .nil)))))
  (.ite (.or (.cmp .gt (.ix (.var 3) (.var 5)) (.ix (.var 0) (.var 5))) (.not (.cons (.chain .le .lt (.var 6) (.var 4) (.var 7)) .nil))) (.ret (.bl false)) .nop))))
def b_are_fair : Mp.S := (.seq (.par2 2 3 (.bi .sum (.cons (.var 0) .nil)) (.op .mul (.lst (.cons (.int 0) .nil)) (.bi .len (.cons (.var 0) .nil))))
  (.seq (.ite (.or (.not (.cons (.isi (.var 1) [.tuple]) .nil)) (.cmp .ne (.bi .len (.cons (.var 1) .nil)) (.var 2))) (.ret (.bl false)) .nop)
  (.seq (.ite (.not (.cons (.bi .all (.cons c1_are_fair .nil)) .nil)) (.ret (.bl false)) .nop)
  (.seq l1_are_fair
  (.ret (.bl true))))))
def f_are_fair : Mp.Fn := ⟨2, 8, 1, b_are_fair⟩
def s_are_fair : Src := ⟨"are_fair", topS 8, ["shares", "value", "total", "had", "t", "person", "start", "end"], ["shares", "value"]⟩
def c1_debts_behind : Mp.E := (.comp (.op .sub (.op .mul (.var 3) (.me .count (.sl (.var 1) .nil (.cons (.var 2) .nil)) (.cons (.var 4) .nil))) (.op .mul (.var 2) (.var 5))) [4, 5] (.tp (.cons (.nm 4) (.cons (.nm 5) .nil))) (.enum (.var 0)) .nil)
def b_debts_behind : Mp.S := (.seq (.set (.nm 3) (.bi .sum (.cons (.var 0) .nil)))
  (.ret (.bi .tuple (.cons c1_debts_behind .nil))))
def f_debts_behind : Mp.Fn := ⟨3, 6, 0, b_debts_behind⟩
def s_debts_behind : Src := ⟨"debts_behind", topS 9, ["shares", "turns", "t", "total", "person", "share"], ["shares", "turns", "t"]⟩
def l1_first_unfair : Mp.S := (.loop (.tp (.cons (.nm 4) (.cons (.nm 5) .nil))) (.enum (.call 5 (.cons (.var 0) (.cons (.var 1) (.cons (.var 3) .nil))))) (.ite (.not (.cons (.chain .lt .lt (.neg (.var 2)) (.var 5) (.var 2)) .nil)) (.ret (.tup (.cons (.var 3) (.cons (.var 4) .nil)))) .nop))
def l2_first_unfair : Mp.S := (.loop (.nm 3) (.range (.cons (.int 1) (.cons (.op .add (.bi .len (.cons (.var 1) .nil)) (.int 1)) .nil))) l1_first_unfair)
def b_first_unfair : Mp.S := (.seq (.set (.nm 2) (.bi .sum (.cons (.var 0) .nil)))
  (.seq l2_first_unfair
  (.ret .non)))
def f_first_unfair : Mp.Fn := ⟨2, 6, 0, b_first_unfair⟩
def s_first_unfair : Src := ⟨"first_unfair", topS 10, ["shares", "turns", "total", "t", "person", "debt"], ["shares", "turns"]⟩
def b__law_box : Mp.S := (.ret (.lst (.cons (.bi .list (.cons (.sl (.var 0) .nil (.cons (.int 63) .nil)) .nil)) (.cons (.int 0) (.cons (.op .add (.int 4711) (.bi .len (.cons (.var 0) .nil))) .nil)))))
def f__law_box : Mp.Fn := ⟨1, 1, 0, b__law_box⟩
def s__law_box : Src := ⟨"_law_box", topS 12, ["script"], ["script"]⟩
def b__law_load : Mp.S := (.seq (.set (.nm 1) (.ix (.var 0) (.int 0)))
  (.seq (.ite (.cmp .gt (.bi .len (.cons (.var 1) .nil)) (.int 0)) (.seq (.set (.nm 2) (.bi .int (.cons (.me .popAt (.var 1) (.cons (.int 0) .nil)) .nil)))
  (.seq (.set (.nm 3) (.ite (.cmp .ge (.var 2) (.int 0)) (.op .mul (.int 2) (.var 2)) (.op .sub (.op .mul (.neg (.int 2)) (.var 2)) (.int 1))))
  (.seq (.ite (.cmp .ge (.var 3) (.int 1000000000000000000)) (.ret (.var 3)) .nop)
  (.set (.ix (.var 0) (.int 2)) (.op .mod (.bi .int (.cons (.op .add (.op .add (.op .mul (.ix (.var 0) (.int 2)) (.int 69621)) (.op .mul (.var 3) (.int 48271))) (.int 11)) .nil)) (.int 2147483647)))))) .nop)
  (.seq (.set (.nm 4) (.op .mod (.bi .int (.cons (.op .add (.op .mul (.ix (.var 0) (.int 2)) (.int 48271)) (.int 17)) .nil)) (.int 2147483629)))
  (.seq (.set (.nm 5) (.op .mod (.bi .int (.cons (.op .add (.op .mul (.var 4) (.int 69621)) (.int 5)) .nil)) (.int 2147483587)))
  (.seq (.set (.ix (.var 0) (.int 2)) (.op .mod (.bi .int (.cons (.op .add (.op .mul (.var 5) (.int 40692)) (.int 3)) .nil)) (.int 2147483563)))
  (.ret (.op .add (.op .add (.op .mul (.var 4) (.int 4611686014132420609)) (.op .mul (.var 5) (.int 2147483647))) (.ix (.var 0) (.int 2)))))))))
def f__law_load : Mp.Fn := ⟨1, 6, 0, b__law_load⟩
def s__law_load : Src := ⟨"_law_load", topS 13, ["box", "cells", "cell", "size", "first", "second"], ["box"]⟩
def b__law_draw : Mp.S := (.seq (.ite (.cmp .lt (.ix (.var 0) (.int 1)) (.var 1)) (.set (.ix (.var 0) (.int 1)) (.call 8 (.cons (.var 0) .nil))) .nop)
  (.seq (.set (.nm 2) (.op .mod (.bi .int (.cons (.ix (.var 0) (.int 1)) .nil)) (.var 1)))
  (.seq (.set (.ix (.var 0) (.int 1)) (.op .fdiv (.ix (.var 0) (.int 1)) (.var 1)))
  (.ret (.var 2)))))
def f__law_draw : Mp.Fn := ⟨2, 3, 0, b__law_draw⟩
def s__law_draw : Src := ⟨"_law_draw", topS 14, ["box", "many", "digit"], ["box", "many"]⟩
def c1__law_same : Mp.E := (.comp (.call 10 (.cons (.ix (.var 0) (.var 2)) (.cons (.ix (.var 1) (.var 2)) .nil))) [2] (.nm 2) (.rangeLen (.var 0)) .nil)
def b__law_same : Mp.S := (.seq (.ite (.or (.and (.cons (.isi (.var 0) [.tuple]) .nil) (.cons (.isi (.var 1) [.tuple]) .nil)) (.and (.cons (.isi (.var 0) [.list]) .nil) (.cons (.isi (.var 1) [.list]) .nil))) (.ret (.and (.cmp .eq (.bi .len (.cons (.var 0) .nil)) (.bi .len (.cons (.var 1) .nil))) (.bi .all (.cons c1__law_same .nil)))) .nop)
  (.seq (.ite (.or (.cons (.isi (.var 0) [.bool]) .nil) (.cons (.isi (.var 1) [.bool]) .nil)) (.ret (.and (.isi (.var 0) [.bool]) (.and (.isi (.var 1) [.bool]) (.cmp .eq (.var 0) (.var 1))))) .nop)
  (.seq (.ite (.or (.and (.cons (.isi (.var 0) [.int]) .nil) (.cons (.isi (.var 1) [.int]) .nil)) (.and (.cons (.isi (.var 0) [.str]) .nil) (.cons (.isi (.var 1) [.str]) .nil))) (.ret (.cmp .eq (.var 0) (.var 1))) .nop)
  (.ret (.and (.cmp .is (.var 0) .non) (.cmp .is (.var 1) .non))))))
def f__law_same : Mp.Fn := ⟨2, 3, 0, b__law_same⟩
def s__law_same : Src := ⟨"_law_same", topS 15, ["a", "b", "k"], ["a", "b"]⟩
def b__law_bent : Mp.S := (.seq (.ite (.and (.cons (.isi (.var 1) [.tuple]) .nil) (.and (.cmp .gt (.bi .len (.cons (.var 1) .nil)) (.int 0)) (.cmp .gt (.call 9 (.cons (.var 0) (.cons (.int 5) .nil))) (.int 0)))) (.seq (.set (.nm 2) (.call 9 (.cons (.var 0) (.cons (.bi .len (.cons (.var 1) .nil)) .nil))))
  (.ret (.op .add (.op .add (.sl (.var 1) .nil (.cons (.var 2) .nil)) (.tup (.cons (.call 11 (.cons (.var 0) (.cons (.ix (.var 1) (.var 2)) .nil))) .nil))) (.sl (.var 1) (.cons (.op .add (.var 2) (.int 1)) .nil) .nil)))) .nop)
  (.seq (.set (.nm 3) (.call 9 (.cons (.var 0) (.cons (.int 8) .nil))))
  (.seq (.ite (.cons (.isi (.var 1) [.tuple]) .nil) (.ret (.ix (.lst (.cons (.op .add (.var 1) (.sl (.var 1) .nil (.cons (.int 1) .nil))) (.cons (.sl (.var 1) (.cons (.int 1) .nil) .nil) (.cons (.rev (.var 1)) (.cons (.op .add (.var 1) (.tup (.cons (.int 0) .nil))) (.cons (.tup (.cons (.var 1) .nil)) (.cons (.sl (.var 1) .nil (.cons (.neg (.int 1)) .nil)) (.cons .non (.cons (.op .add (.var 1) (.tup (.cons (.tup (.cons (.int 0) (.cons (.int 1) .nil))) .nil))) .nil))))))))) (.var 3))) .nop)
  (.seq (.ite (.and (.cons (.isi (.var 1) [.int]) .nil) (.not (.cons (.isi (.var 1) [.bool]) .nil))) (.ret (.ix (.lst (.cons (.op .add (.var 1) (.int 1)) (.cons (.op .sub (.var 1) (.int 1)) (.cons (.int 0) (.cons (.cmp .eq (.var 1) (.int 1)) (.cons .non (.cons (.bi .str (.cons (.var 1) .nil)) (.cons (.tup (.cons (.var 1) .nil)) (.cons (.op .add (.var 1) (.int 2)) .nil))))))))) (.var 3))) .nop)
  (.seq (.ite (.cons (.isi (.var 1) [.str]) .nil) (.ret (.ix (.lst (.cons (.op .add (.var 1) (.str "H")) (.cons (.sl (.var 1) (.cons (.int 1) .nil) .nil) (.cons (.rev (.var 1)) (.cons (.op .add (.str "A") (.var 1)) (.cons (.int 0) (.cons .non (.cons (.str "") (.cons (.op .add (.var 1) (.str " ")) .nil))))))))) (.var 3))) .nop)
  (.ret (.ix (.lst (.cons (.int 0) (.cons (.int 1) (.cons .non (.cons (.bl true) (.cons (.str "a") (.cons (.tup .nil) (.cons (.tup (.cons (.int 0) .nil)) (.cons (.str "H") .nil))))))))) (.var 3))))))))
def f__law_bent : Mp.Fn := ⟨2, 4, 0, b__law_bent⟩
def s__law_bent : Src := ⟨"_law_bent", topS 16, ["box", "value", "at", "pick"], ["box", "value"]⟩
def l1__law_first : Mp.S := (.loop (.nm 5) (.rangeLen (.var 0)) (.ite (.or (.cmp .lt (.ix (.var 3) (.var 5)) (.op .fdiv (.op .mul (.var 4) (.ix (.var 0) (.var 5))) (.var 2))) (.cmp .gt (.ix (.var 3) (.var 5)) (.op .fdiv (.op .sub (.op .add (.op .mul (.var 4) (.ix (.var 0) (.var 5))) (.var 2)) (.int 1)) (.var 2)))) (.ret (.tup (.cons (.var 4) (.cons (.var 5) .nil)))) .nop))
def l2__law_first : Mp.S := (.loop (.nm 4) (.range (.cons (.int 1) (.cons (.op .add (.bi .len (.cons (.var 1) .nil)) (.int 1)) .nil))) (.seq (.augIx (.var 3) (.ix (.var 1) (.op .sub (.var 4) (.int 1))) .add (.int 1))
  l1__law_first))
def b__law_first : Mp.S := (.seq (.par2 2 3 (.bi .sum (.cons (.var 0) .nil)) (.op .mul (.lst (.cons (.int 0) .nil)) (.bi .len (.cons (.var 0) .nil))))
  (.seq l2__law_first
  (.ret .non)))
def f__law_first : Mp.Fn := ⟨2, 6, 1, b__law_first⟩
def s__law_first : Src := ⟨"_law_first", topS 17, ["shares", "turns", "total", "had", "t", "k"], ["shares", "turns"]⟩
def c1__law_is_fair : Mp.E := (.comp (.and (.isi (.var 2) [.int]) (.and (.not (.isi (.var 2) [.bool])) (.and (.cmp .le (.int 0) (.var 2)) (.cmp .lt (.var 2) (.bi .len (.cons (.var 0) .nil)))))) [2] (.nm 2) (.cons (.var 1) .nil) .nil)
def b__law_is_fair : Mp.S := (.seq (.ite (.or (.not (.cons (.isi (.var 1) [.tuple]) .nil)) (.or (.cmp .ne (.bi .len (.cons (.var 1) .nil)) (.bi .sum (.cons (.var 0) .nil))) (.not (.cons (.bi .all (.cons c1__law_is_fair .nil)) .nil)))) (.ret (.bl false)) .nop)
  (.ret (.cmp .is (.call 12 (.cons (.var 0) (.cons (.var 1) .nil))) .non)))
def f__law_is_fair : Mp.Fn := ⟨2, 3, 0, b__law_is_fair⟩
def s__law_is_fair : Src := ⟨"_law_is_fair", topS 18, ["shares", "value", "k"], ["shares", "value"]⟩
def c1__law_in_windows : Mp.E := (.comp (.var 6) [6] (.nm 6) (.rangeLen (.var 1)) (.cons (.cmp .eq (.ix (.var 1) (.var 6)) (.var 3)) .nil))
def l1__law_in_windows : Mp.S := (.loop (.nm 5) (.rangeLen (.var 4)) (.ite (.or (.cmp .lt (.ix (.var 4) (.var 5)) (.op .fdiv (.op .mul (.var 5) (.var 2)) (.ix (.var 0) (.var 3)))) (.cmp .ge (.ix (.var 4) (.var 5)) (.op .fdiv (.op .sub (.op .add (.op .mul (.op .add (.var 5) (.int 1)) (.var 2)) (.ix (.var 0) (.var 3))) (.int 1)) (.ix (.var 0) (.var 3))))) (.ret (.bl false)) .nop))
def l2__law_in_windows : Mp.S := (.loop (.nm 3) (.rangeLen (.var 0)) (.seq (.set (.nm 4) c1__law_in_windows)
  (.seq (.ite (.cmp .ne (.bi .len (.cons (.var 4) .nil)) (.ix (.var 0) (.var 3))) (.ret (.bl false)) .nop)
  l1__law_in_windows)))
def b__law_in_windows : Mp.S := (.seq (.set (.nm 2) (.bi .sum (.cons (.var 0) .nil)))
  (.seq l2__law_in_windows
  (.ret (.bl true))))
def f__law_in_windows : Mp.Fn := ⟨2, 7, 1, b__law_in_windows⟩
def s__law_in_windows : Src := ⟨"_law_in_windows", topS 19, ["shares", "value", "total", "k", "spots", "i", "t"], ["shares", "value"]⟩
def c1_law : Mp.E := (.comp (.op .add (.int 1) (.call 9 (.cons (.var 1) (.cons (.ix (.lst (.cons (.int 4) (.cons (.int 9) (.cons (.int 60) .nil)))) (.call 9 (.cons (.var 1) (.cons (.int 3) .nil)))) .nil)))) [16] (.nm 16) (.range (.cons (.op .add (.int 1) (.call 9 (.cons (.var 1) (.cons (.int 6) .nil)))) .nil)) .nil)
def c2_law : Mp.E := (.comp (.tup (.cons (.op .fdiv (.op .sub (.op .add (.op .mul (.op .add (.ix (.var 6) (.var 16)) (.int 1)) (.var 5)) (.ix (.var 3) (.var 16))) (.int 1)) (.ix (.var 3) (.var 16))) (.cons (.var 16) .nil))) [16] (.nm 16) (.rangeLen (.var 3)) (.cons (.and (.cmp .lt (.ix (.var 6) (.var 16)) (.ix (.var 3) (.var 16))) (.cmp .le (.op .fdiv (.op .mul (.ix (.var 6) (.var 16)) (.var 5)) (.ix (.var 3) (.var 16))) (.var 8))) .nil))
def l1_law : Mp.S := (.loop (.nm 8) (.range (.cons (.var 5) .nil)) (.seq (.set (.nm 9) c2_law)
  (.seq (.ex (.me .append (.var 7) (.cons (.ix (.bi .min (.cons (.var 9) .nil)) (.int 1)) .nil)))
  (.augIx (.var 6) (.ix (.var 7) (.neg (.int 1))) .add (.int 1)))))
def c3_law : Mp.E := (.comp (.op .sub (.op .sub (.bi .len (.cons (.var 3) .nil)) (.int 1)) (.var 16)) [16] (.nm 16) (.cons (.var 4) .nil) .nil)
def c4_law : Mp.E := (.comp (.call 11 (.cons (.var 1) (.cons (.var 4) .nil))) [17] (.nm 17) (.range (.cons (.int 4) .nil)) .nil)
def l2_law : Mp.S := (.loop (.nm 14) (.cons (.op .add (.var 13) c4_law) .nil) (.seq (.set (.nm 15) (.call 13 (.cons (.var 3) (.cons (.var 14) .nil))))
  (.ite (.or (.not (.cons (.call 10 (.cons (.call 4 (.cons (.var 3) (.cons (.var 14) .nil))) (.cons (.var 15) .nil))) .nil)) (.and (.cons (.var 15) .nil) (.not (.cons (.call 14 (.cons (.var 3) (.cons (.var 14) .nil))) .nil)))) (.ret (.bl false)) .nop)))
def l3_law : Mp.S := (.loop (.nm 14) (.cons (.tup (.cons (.bi .tuple (.cons (.var 12) .nil)) (.cons (.rev (.var 4)) (.cons (.op .add (.sl (.var 4) (.cons (.int 1) .nil) .nil) (.sl (.var 4) .nil (.cons (.int 1) .nil))) .nil)))) .nil) (.ite (.or (.not (.cons (.call 10 (.cons (.call 6 (.cons (.var 3) (.cons (.var 14) .nil))) (.cons (.call 12 (.cons (.var 3) (.cons (.var 14) .nil))) .nil))) .nil)) (.cmp .ne (.call 14 (.cons (.var 3) (.cons (.var 14) .nil))) (.call 13 (.cons (.var 3) (.cons (.var 14) .nil))))) (.ret (.bl false)) .nop))
def c5_law : Mp.E := (.comp (.var 16) [16] (.nm 16) (.cons (.sl (.var 12) .nil (.cons (.var 8) .nil)) .nil) (.cons (.cmp .eq (.var 16) (.var 18)) .nil))
def c6_law : Mp.E := (.comp (.op .sub (.op .mul (.var 5) (.bi .len (.cons c5_law .nil))) (.op .mul (.var 8) (.ix (.var 3) (.var 18)))) [18] (.nm 18) (.rangeLen (.var 3)) .nil)
def c7_law : Mp.E := (.comp (.call 11 (.cons (.var 1) (.cons (.var 3) .nil))) [17] (.nm 17) (.range (.cons (.int 4) .nil)) .nil)
def c8_law : Mp.E := (.comp (.and (.isi (.var 19) [.int]) (.and (.not (.isi (.var 19) [.bool])) (.and (.cmp .le (.int 1) (.var 19)) (.cmp .le (.var 19) (.int 60))))) [19] (.nm 19) (.cons (.var 14) .nil) .nil)
def l4_law : Mp.S := (.loop (.nm 14) (.cons (.op .add (.var 9) c7_law) .nil) (.seq (.set (.nm 15) (.and (.isi (.var 14) [.tuple]) (.and (.cmp .le (.int 1) (.bi .len (.cons (.var 14) .nil))) (.and (.cmp .le (.bi .len (.cons (.var 14) .nil)) (.int 12)) (.bi .all (.cons c8_law .nil))))))
  (.ite (.not (.cons (.call 10 (.cons (.call 1 (.cons (.var 14) .nil)) (.cons (.var 15) .nil))) .nil)) (.ret (.bl false)) .nop)))
def l5_law : Mp.S := (.loop (.nm 2) (.range (.cons (.int 5) .nil)) (.seq (.set (.nm 3) (.bi .tuple (.cons c1_law .nil)))
  (.seq (.set (.tp (.cons (.nm 4) (.cons (.nm 5) .nil))) (.tup (.cons (.call 3 (.cons (.var 3) .nil)) (.cons (.bi .sum (.cons (.var 3) .nil)) .nil))))
  (.seq (.ite (.or (.not (.cons (.call 13 (.cons (.var 3) (.cons (.var 4) .nil))) .nil)) (.or (.not (.cons (.call 14 (.cons (.var 3) (.cons (.var 4) .nil))) .nil)) (.cmp .isn (.call 6 (.cons (.var 3) (.cons (.var 4) .nil))) .non))) (.ret (.bl false)) .nop)
  (.seq (.set (.tp (.cons (.nm 6) (.cons (.nm 7) .nil))) (.tup (.cons (.op .mul (.lst (.cons (.int 0) .nil)) (.bi .len (.cons (.var 3) .nil))) (.cons (.lst .nil) .nil))))
  (.seq l1_law
  (.seq (.ite (.or (.not (.cons (.call 10 (.cons (.var 4) (.cons (.bi .tuple (.cons (.var 7) .nil)) .nil))) .nil)) (.and (.cmp .lt (.var 5) (.int 100)) (.cmp .isn (.call 6 (.cons (.var 3) (.cons (.op .mul (.var 4) (.int 3)) .nil))) .non))) (.ret (.bl false)) .nop)
  (.seq (.par2 10 11 (.call 9 (.cons (.var 1) (.cons (.var 5) .nil))) (.call 9 (.cons (.var 1) (.cons (.var 5) .nil))))
  (.seq (.set (.nm 12) (.bi .list (.cons (.var 4) .nil)))
  (.seq (.set (.tp (.cons (.ix (.var 12) (.var 10)) (.cons (.ix (.var 12) (.var 11)) .nil))) (.tup (.cons (.ix (.var 12) (.var 11)) (.cons (.ix (.var 12) (.var 10)) .nil))))
  (.seq (.set (.nm 13) (.lst (.cons (.var 4) (.cons (.bi .tuple (.cons (.var 12) .nil)) (.cons (.op .add (.sl (.var 4) (.cons (.int 1) .nil) .nil) (.sl (.var 4) .nil (.cons (.int 1) .nil))) (.cons (.rev (.var 4)) (.cons (.sl (.var 4) (.cons (.int 1) .nil) .nil) (.cons (.op .add (.var 4) (.sl (.var 4) .nil (.cons (.int 1) .nil))) (.cons .non (.cons (.int 0) (.cons (.op .mul (.tup (.cons (.int 0) .nil)) (.var 5)) (.cons (.bi .tuple (.cons c3_law .nil)) (.cons (.op .mul (.tup (.cons (.bl true) .nil)) (.var 5)) .nil)))))))))))))
  (.seq l2_law
  (.seq l3_law
  (.seq (.set (.nm 8) (.call 9 (.cons (.var 1) (.cons (.op .add (.var 5) (.int 1)) .nil))))
  (.seq (.ite (.not (.cons (.call 10 (.cons (.call 5 (.cons (.var 3) (.cons (.bi .tuple (.cons (.var 12) .nil)) (.cons (.var 8) .nil)))) (.cons (.bi .tuple (.cons c6_law .nil)) .nil))) .nil)) (.ret (.bl false)) .nop)
  (.seq (.set (.nm 9) (.lst (.cons (.var 3) (.cons (.tup .nil) (.cons (.op .add (.var 3) (.tup (.cons (.int 0) .nil))) (.cons (.op .add (.var 3) (.tup (.cons (.int 61) .nil))) (.cons (.op .mul (.tup (.cons (.int 1) .nil)) (.int 12)) (.cons (.op .mul (.tup (.cons (.int 1) .nil)) (.int 13)) (.cons .non (.cons (.int 3) (.cons (.tup (.cons (.bl true) .nil)) (.cons (.tup (.cons (.str "1") .nil)) .nil))))))))))))
  l4_law))))))))))))))))
def b_law : Mp.S := (.seq (.set (.nm 1) (.call 7 (.cons (.var 0) .nil)))
  (.seq l5_law
  (.ret (.bl true))))
def f_law : Mp.Fn := ⟨1, 20, 0, b_law⟩
def s_law : Src := ⟨"law", topS 20, ["script", "box", "turn", "shares", "told", "total", "had", "due", "t", "rows", "i", "j", "mixed", "values", "value", "fine", "k", "step", "one", "x"], ["script"]⟩
def prog : Mp.Prog := ⟨[f_is_number, f_are_shares, f_window_of, f_fair_turns, f_are_fair, f_debts_behind, f_first_unfair, f__law_box, f__law_load, f__law_draw, f__law_same, f__law_bent, f__law_first, f__law_is_fair, f__law_in_windows, f_law], [.int 12, .int 60], 100⟩
def Ck (k : Nat) : Cfg := ⟨callF prog k, prog.cst, prog.wf⟩
@[simp] theorem Ck_call (k : Nat) : (Ck k).call = callF prog k := rfl
@[simp] theorem Ck_cst (k : Nat) : (Ck k).cst = [.int 12, .int 60] := rfl
@[simp] theorem Ck_wf (k : Nat) : (Ck k).wf = 100 := rfl
def gs : Mp.Gs := ⟨[("is_number", 0, 3), ("are_shares", 1, 1), ("window_of", 2, 3), ("fair_turns", 3, 1), ("are_fair", 4, 2), ("debts_behind", 5, 3), ("first_unfair", 6, 2), ("_law_box", 7, 1), ("_law_load", 8, 1), ("_law_draw", 9, 2), ("_law_same", 10, 2), ("_law_bent", 11, 2), ("_law_first", 12, 2), ("_law_is_fair", 13, 2), ("_law_in_windows", 14, 2), ("law", 15, 1)], [("MAX_PEOPLE_OF_SHARES", 0), ("MAX_SHARE", 1)], ["all", "bool", "enumerate", "int", "isinstance", "len", "list", "min", "range", "str", "sum", "tuple"]⟩
def srcs : List Src := [s_is_number, s_are_shares, s_window_of, s_fair_turns, s_are_fair, s_debts_behind, s_first_unfair, s__law_box, s__law_load, s__law_draw, s__law_same, s__law_bent, s__law_first, s__law_is_fair, s__law_in_windows, s_law]
theorem sb_is_number : srcB gs s_is_number f_is_number = true := by decide +kernel
theorem bd_is_number : BindB s_is_number := fun _ _ _ _ _ _ us hl => match us, hl with | [_, _, _], _ => rfl
theorem sb_are_shares : srcB gs s_are_shares f_are_shares = true := by decide +kernel
theorem bd_are_shares : BindB s_are_shares := fun _ _ _ _ _ _ us hl => match us, hl with | [_], _ => rfl
theorem sb_window_of : srcB gs s_window_of f_window_of = true := by decide +kernel
theorem bd_window_of : BindB s_window_of := fun _ _ _ _ _ _ us hl => match us, hl with | [_, _, _], _ => rfl
theorem sb_fair_turns : srcB gs s_fair_turns f_fair_turns = true := by decide +kernel
theorem bd_fair_turns : BindB s_fair_turns := fun _ _ _ _ _ _ us hl => match us, hl with | [_], _ => rfl
theorem sb_are_fair : srcB gs s_are_fair f_are_fair = true := by decide +kernel
theorem bd_are_fair : BindB s_are_fair := fun _ _ _ _ _ _ us hl => match us, hl with | [_, _], _ => rfl
theorem sb_debts_behind : srcB gs s_debts_behind f_debts_behind = true := by decide +kernel
theorem bd_debts_behind : BindB s_debts_behind := fun _ _ _ _ _ _ us hl => match us, hl with | [_, _, _], _ => rfl
theorem sb_first_unfair : srcB gs s_first_unfair f_first_unfair = true := by decide +kernel
theorem bd_first_unfair : BindB s_first_unfair := fun _ _ _ _ _ _ us hl => match us, hl with | [_, _], _ => rfl
theorem sb__law_box : srcB gs s__law_box f__law_box = true := by decide +kernel
theorem bd__law_box : BindB s__law_box := fun _ _ _ _ _ _ us hl => match us, hl with | [_], _ => rfl
theorem sb__law_load : srcB gs s__law_load f__law_load = true := by decide +kernel
theorem bd__law_load : BindB s__law_load := fun _ _ _ _ _ _ us hl => match us, hl with | [_], _ => rfl
theorem sb__law_draw : srcB gs s__law_draw f__law_draw = true := by decide +kernel
theorem bd__law_draw : BindB s__law_draw := fun _ _ _ _ _ _ us hl => match us, hl with | [_, _], _ => rfl
theorem sb__law_same : srcB gs s__law_same f__law_same = true := by decide +kernel
theorem bd__law_same : BindB s__law_same := fun _ _ _ _ _ _ us hl => match us, hl with | [_, _], _ => rfl
theorem sb__law_bent : srcB gs s__law_bent f__law_bent = true := by decide +kernel
theorem bd__law_bent : BindB s__law_bent := fun _ _ _ _ _ _ us hl => match us, hl with | [_, _], _ => rfl
theorem sb__law_first : srcB gs s__law_first f__law_first = true := by decide +kernel
theorem bd__law_first : BindB s__law_first := fun _ _ _ _ _ _ us hl => match us, hl with | [_, _], _ => rfl
theorem sb__law_is_fair : srcB gs s__law_is_fair f__law_is_fair = true := by decide +kernel
theorem bd__law_is_fair : BindB s__law_is_fair := fun _ _ _ _ _ _ us hl => match us, hl with | [_, _], _ => rfl
theorem sb__law_in_windows : srcB gs s__law_in_windows f__law_in_windows = true := by decide +kernel
theorem bd__law_in_windows : BindB s__law_in_windows := fun _ _ _ _ _ _ us hl => match us, hl with | [_, _], _ => rfl
theorem sb_law : srcB gs s_law f_law = true := by decide +kernel
theorem bd_law : BindB s_law := fun _ _ _ _ _ _ us hl => match us, hl with | [_], _ => rfl
theorem r_is_number (k : Nat) (ds : List D) (h : Hm) : callF prog (k + 1) 0 ds h = runFn (Ck k) f_is_number ds h := rfl
theorem r_are_shares (k : Nat) (ds : List D) (h : Hm) : callF prog (k + 1) 1 ds h = runFn (Ck k) f_are_shares ds h := rfl
theorem r_window_of (k : Nat) (ds : List D) (h : Hm) : callF prog (k + 1) 2 ds h = runFn (Ck k) f_window_of ds h := rfl
theorem r_fair_turns (k : Nat) (ds : List D) (h : Hm) : callF prog (k + 1) 3 ds h = runFn (Ck k) f_fair_turns ds h := rfl
theorem r_are_fair (k : Nat) (ds : List D) (h : Hm) : callF prog (k + 1) 4 ds h = runFn (Ck k) f_are_fair ds h := rfl
theorem r_debts_behind (k : Nat) (ds : List D) (h : Hm) : callF prog (k + 1) 5 ds h = runFn (Ck k) f_debts_behind ds h := rfl
theorem r_first_unfair (k : Nat) (ds : List D) (h : Hm) : callF prog (k + 1) 6 ds h = runFn (Ck k) f_first_unfair ds h := rfl
theorem r__law_box (k : Nat) (ds : List D) (h : Hm) : callF prog (k + 1) 7 ds h = runFn (Ck k) f__law_box ds h := rfl
theorem r__law_load (k : Nat) (ds : List D) (h : Hm) : callF prog (k + 1) 8 ds h = runFn (Ck k) f__law_load ds h := rfl
theorem r__law_draw (k : Nat) (ds : List D) (h : Hm) : callF prog (k + 1) 9 ds h = runFn (Ck k) f__law_draw ds h := rfl
theorem r__law_same (k : Nat) (ds : List D) (h : Hm) : callF prog (k + 1) 10 ds h = runFn (Ck k) f__law_same ds h := rfl
theorem r__law_bent (k : Nat) (ds : List D) (h : Hm) : callF prog (k + 1) 11 ds h = runFn (Ck k) f__law_bent ds h := rfl
theorem r__law_first (k : Nat) (ds : List D) (h : Hm) : callF prog (k + 1) 12 ds h = runFn (Ck k) f__law_first ds h := rfl
theorem r__law_is_fair (k : Nat) (ds : List D) (h : Hm) : callF prog (k + 1) 13 ds h = runFn (Ck k) f__law_is_fair ds h := rfl
theorem r__law_in_windows (k : Nat) (ds : List D) (h : Hm) : callF prog (k + 1) 14 ds h = runFn (Ck k) f__law_in_windows ds h := rfl
theorem r_law (k : Nat) (ds : List D) (h : Hm) : callF prog (k + 1) 15 ds h = runFn (Ck k) f_law ds h := rfl
theorem allOk : AllOk gs srcs prog.fns := .cons sb_is_number bd_is_number (.cons sb_are_shares bd_are_shares (.cons sb_window_of bd_window_of (.cons sb_fair_turns bd_fair_turns (.cons sb_are_fair bd_are_fair (.cons sb_debts_behind bd_debts_behind (.cons sb_first_unfair bd_first_unfair (.cons sb__law_box bd__law_box (.cons sb__law_load bd__law_load (.cons sb__law_draw bd__law_draw (.cons sb__law_same bd__law_same (.cons sb__law_bent bd__law_bent (.cons sb__law_first bd__law_first (.cons sb__law_is_fair bd__law_is_fair (.cons sb__law_in_windows bd__law_in_windows (.cons sb_law bd_law (.nil))))))))))))))))
theorem fnsOk : fnsB gs srcs prog.fns = true := by decide +kernel
end Mp.K51


namespace Mp.K51
open PySem PySem.Spec L2
/-! ### the box -/
theorem c_box (k : Nat) (ns : List Int) : callF prog (k + 1) 7 [.fz ns] [] = .ok (.lst [.ref 0, .int 0, .int (4711 + ns.length)]) [.lst ((cutD ns none (some 63)).map .int)] := by
  rw [r__law_box]
  simp [runFn, f__law_box, b__law_box]
theorem c_load (k : Nat) (cells : List Int) (a z : Int) (g : Hm) : ∃ size cells' z', callF prog (k + 1) 8 [.ref 1] (BH cells a z g) = .ok (.int size) (BH cells' a z' g) := by
  rw [r__law_load]
  cases cells with
  | nil => simp [runFn, f__law_load, b__law_load, ex_seq, BH, atI, ixN]
  | cons c cells =>
    by_cases h0 : 0 ≤ c
    · by_cases h1 : 1000000000000000000 ≤ 2 * c <;> simp [runFn, f__law_load, b__law_load, ex_seq, BH, atI, ixN, h0, h1] <;> exact ⟨_, rfl⟩
    · by_cases h1 : 1000000000000000000 ≤ -2 * c - 1 <;> simp [runFn, f__law_load, b__law_load, ex_seq, BH, atI, ixN, h0, h1] <;> exact ⟨_, rfl⟩
theorem c_draw (k : Nat) (cells : List Int) (a z : Int) (g : Hm) (many : Int) (h0 : 0 < many) (h1 : many < 1073741824) : ∃ d cells' a' z', callF prog (k + 2) 9 [.ref 1, .int many] (BH cells a z g) = .ok (.int d) (BH cells' a' z' g) ∧ 0 ≤ d ∧ d < many := by
  rw [r__law_draw]
  have h2 : many < 18446744073709551616 := by omega
  by_cases hc : a < many
  · obtain ⟨size, cells', z', e⟩ := c_load k cells a z g
    simp only [BH] at e
    simp [runFn, f__law_draw, b__law_draw, ex_seq, BH, atI, ixN, hc, e, h0, h2]
    exact ⟨_, ⟨rfl, _, rfl⟩, Int.emod_nonneg _ (by omega), Int.emod_lt_of_pos _ h0⟩
  · simp [runFn, f__law_draw, b__law_draw, ex_seq, BH, atI, ixN, hc, h0, h2]
    exact ⟨_, ⟨rfl, _, rfl⟩, Int.emod_nonneg _ (by omega), Int.emod_lt_of_pos _ h0⟩
/-- a draw at the law's level; any number below `many` -/
theorem w_draw {cells : List Int} {a z : Int} {g : Hm} {many : Int} {Q : D → Hm → Prop} (h0 : 0 < many) (h1 : many < 1073741824) (q : ∀ (d : Nat) cells' a' z', (d : Int) < many → Q (.int d) (BH cells' a' z' g)) : W (callF prog 99 9 [.ref 1, .int many] (BH cells a z g)) Q := by
  obtain ⟨d, c, a', z', e, p, r⟩ := c_draw 97 cells a z g many h0 h1
  refine .of e ?_
  have := q d.toNat c a' z' (by omega)
  rw [show ((d.toNat : Nat) : Int) = d by omega] at this
  exact this
theorem c_same : ∀ (n : Nat) (d : D) (k : Nat) (h : Hm), pl n d = true → callF prog (k + n + 1) 10 [d, d] h = .ok (.bl true) h
  | n, .int i, k, h, _ => by rw [r__law_same]; simp [runFn, f__law_same, b__law_same, ex_seq, isiD, isTy]
  | n, .bl i, k, h, _ => by rw [r__law_same]; cases i <;> simp [runFn, f__law_same, b__law_same, ex_seq, isiD, isTy]
  | n, .str i, k, h, _ => by rw [r__law_same]; simp [runFn, f__law_same, b__law_same, ex_seq, isiD, isTy]
  | n, .non, k, h, _ => by rw [r__law_same]; simp [runFn, f__law_same, b__law_same, ex_seq, isiD, isTy]
  | n + 1, .tup ds, k, h, q => by
    have q : pls n ds = true := by simpa only [pl] using q
    have ih := fun (d : D) (hd : d ∈ ds) (h : Hm) => c_same n d k h (by
      obtain ⟨i, hi, e⟩ := List.getElem_of_mem hd
      exact pls_get q (by rw [List.getElem?_eq_getElem hi, e]))
    have ec : ev (Ck (k + (n + 1))) c1__law_same [some (.tup ds), some (.tup ds), none] h = .ok (.lst ((((List.range ds.length).map fun _ => true)).map .bl)) h := by
      unfold c1__law_same
      rw [ev_comp]
      simp only [evI_rangeLen, ev_var, List.getElem?_cons_zero, rb_ok, q_tup, ro_some]
      rw [rangeD, show ((ds.length : Int) - 0).toNat = ds.length by omega, compL_mapO (dec := D.bl) (g := fun _ => true) rfl]
      · simp only [rb_ok]
      · intro x hx
        have hx : x < ds.length := List.mem_range.mp hx
        have ea : atI ds ((x : Nat) : Int) = some ds[x] := by rw [atI_nat', List.getElem?_eq_getElem hx]
        have := ih ds[x] (List.getElem_mem hx) h
        rw [Nat.add_assoc] at this
        have em : ∀ h, mat1 ds[x] h = (ds[x], h) := fun h => mat1_pl (n := n) (pls_get q (List.getElem?_eq_getElem hx)) h
        simp [turnE, wipeS, ea, this, em]
    rw [show k + (n + 1) + 1 = (k + (n + 1)) + 1 from rfl, r__law_same]
    simp only [runFn, f__law_same, b__law_same]
    simp [ec, ex_seq, isiD, isTy, allD, -List.map_map]
  | 0, .tup ds, k, h, q => by simp [pl] at q
  | 0, .lst ds, k, h, q => by simp [pl] at q
  | 0, .ref ds, k, h, q => by simp [pl] at q
  | 0, .fz ds, k, h, q => by simp [pl] at q
  | n + 1, .lst ds, k, h, q => by simp [pl] at q
  | n + 1, .ref ds, k, h, q => by simp [pl] at q
  | n + 1, .fz ds, k, h, q => by simp [pl] at q
theorem same99 (d : D) (h : Hm) (q : pl 6 d = true) : callF prog 99 10 [d, d] h = .ok (.bl true) h := c_same 6 d 92 h q
end Mp.K51

namespace Mp.K51
open PySem PySem.Spec L2
/-! ### fair turns: plain mathematics -/
def sumR (n : Nat) (f : Nat → Nat) : Nat := ((List.range n).map f).sum
theorem sumR_succ (n : Nat) (f : Nat → Nat) : sumR (n + 1) f = sumR n f + f n := by
  unfold sumR
  rw [List.range_succ, List.map_append, List.sum_append]; simp
theorem sumR_le {f g : Nat → Nat} : ∀ n, (∀ k, k < n → f k ≤ g k) → sumR n f ≤ sumR n g
  | 0, _ => by simp [sumR]
  | n + 1, h => by
    rw [sumR_succ, sumR_succ]
    have := sumR_le n fun k hk => h k (by omega)
    have := h n (by omega)
    omega
theorem sumR_lt {f g : Nat → Nat} {j : Nat} : ∀ n, j < n → (∀ k, k < n → f k ≤ g k) → f j < g j → sumR n f + 1 ≤ sumR n g
  | 0, h, _, _ => by omega
  | n + 1, hj, h, hl => by
    rw [sumR_succ, sumR_succ]
    by_cases e : j = n
    · subst e
      have := sumR_le j fun k hk => h k (by omega)
      omega
    · have := sumR_lt n (by omega) (fun k hk => h k (by omega)) hl
      have := h n (by omega)
      omega
theorem sumR_mul (f : Nat → Nat) (a : Nat) : ∀ n, sumR n (fun k => f k * a) = sumR n f * a
  | 0 => by simp [sumR]
  | n + 1 => by rw [sumR_succ, sumR_succ, sumR_mul f a n, Nat.add_mul]
theorem sumR_mul' (f : Nat → Nat) (a n : Nat) : sumR n (fun k => a * f k) = a * sumR n f := by
  rw [Nat.mul_comm, ← sumR_mul]
  unfold sumR
  congr 1
  exact List.map_congr_left fun k _ => Nat.mul_comm _ _
theorem sumR_zero {f : Nat → Nat} {n k : Nat} (h : sumR n f = 0) (hk : k < n) : f k = 0 := by
  have := sumR_lt (f := fun _ => 0) (g := f) (j := k) n hk (fun _ _ => Nat.zero_le _)
  by_cases e : 0 < f k
  · have := this e
    omega
  · omega
theorem sumR_getD : ∀ sh : List Nat, sumR sh.length (fun k => sh.getD k 0) = sh.sum
  | [] => rfl
  | s :: sh => by
    have ih := sumR_getD sh
    unfold sumR at ih ⊢
    rw [List.length_cons, List.range_succ_eq_map, List.map_cons, List.map_map, List.sum_cons, List.sum_cons]
    rw [← ih]
    rfl
theorem sumR_count (n : Nat) : ∀ v : List Nat, (∀ x ∈ v, x < n) → sumR n (fun k => v.count k) = v.length
  | [], _ => by
    have := sumR_mul (fun _ => 0) 0 n
    simpa [sumR] using this
  | x :: v, h => by
    have ih := sumR_count n v fun y hy => h y (List.mem_cons_of_mem _ hy)
    have hx := h x List.mem_cons_self
    have key : ∀ m, sumR m (fun k => (x :: v).count k) = sumR m (fun k => v.count k) + (if x < m then 1 else 0) := fun m => by
      induction m with
      | zero => simp [sumR]
      | succ m ihm =>
        rw [sumR_succ, sumR_succ, ihm, List.count_cons]
        by_cases e : x = m
        · subst e
          have h1 : ¬ x < x := by omega
          have h2 : x < x + 1 := by omega
          simp [h1, h2]; omega
        · have e' : ¬ (x == m) = true := by simpa using e
          by_cases h1 : x < m
          · have h2 : x < m + 1 := by omega
            simp [h1, h2, e]; omega
          · have h2 : ¬ x < m + 1 := by omega
            simp [h1, h2, e]
    rw [key, ih, if_pos hx, List.length_cons]
section
variable (sh : List Nat)
abbrev tot : Nat := sh.sum
def s (k : Nat) : Nat := sh.getD k 0
def ct (v : List Nat) (t k : Nat) : Nat := (v.take t).count k
structure WfS : Prop where
  ne : 0 < sh.length
  len : sh.length ≤ 6
  bd : ∀ k, k < sh.length → 1 ≤ s sh k ∧ s sh k ≤ 60
end
section
variable {sh : List Nat} (w : WfS sh)
include w
theorem sum_s : sumR sh.length (s sh) = tot sh := sumR_getD sh
theorem T_pos : 0 < tot sh := by
  have h := sumR_lt (f := fun _ => 0) (g := s sh) (j := 0) sh.length w.ne (fun _ _ => Nat.zero_le _) (by have := w.bd 0 w.ne; omega)
  rw [sum_s w] at h
  omega
theorem T_le : tot sh ≤ 360 := by
  have h := sumR_le (f := s sh) (g := fun _ => 60) sh.length fun k hk => (w.bd k hk).2
  have e := sumR_mul (fun _ => 1) 60 sh.length
  have e1 : sumR sh.length (fun _ => 1) = sh.length := by
    have : ∀ m, sumR m (fun _ => 1) = m := fun m => by
      induction m with
      | zero => rfl
      | succ m ih => rw [sumR_succ, ih]
    exact this _
  rw [sum_s w] at h
  rw [e1] at e
  have hl := w.len
  have e2 : sumR sh.length (fun _ => 60) = sumR sh.length (fun k => 1 * 60) := rfl
  omega
theorem s_le {k : Nat} (hk : k < sh.length) : s sh k ≤ tot sh := by
  have h := sumR_lt (f := fun j => if j = k then 0 else s sh j) (g := s sh) (j := k) sh.length hk (fun j _ => by split <;> omega) (by have := w.bd k hk; simp; omega)
  have hs := sum_s w
  have := sumR_le (f := fun j => if j = k then s sh j else 0) (g := s sh) sh.length (fun j _ => by split <;> omega)
  have h2 : s sh k ≤ sumR sh.length (fun j => if j = k then s sh j else 0) := by
    have : ∀ m, k < m → s sh k ≤ sumR m (fun j => if j = k then s sh j else 0) := fun m => by
      induction m with
      | zero => intro h; omega
      | succ m ih =>
        intro h
        rw [sumR_succ]
        by_cases e : m = k
        · subst e; simp
        · have := ih (by omega); omega
    exact this _ hk
  omega
end
/-! bad moments; windows -/
section
variable (sh : List Nat)
def bad (v : List Nat) (t k : Nat) : Bool := decide (tot sh * (ct v t k + 1) ≤ t * s sh k) || decide (t * s sh k + tot sh ≤ tot sh * ct v t k)
def stO (c k : Nat) : Nat := c * tot sh / s sh k
def enO (c k : Nat) : Nat := ((c + 1) * tot sh + s sh k - 1) / s sh k
def winB (v : List Nat) (t : Nat) : Bool := decide (ct v t (v.getD t 0) < s sh (v.getD t 0)) && (decide (stO sh (ct v t (v.getD t 0)) (v.getD t 0) ≤ t) && decide (t < enO sh (ct v t (v.getD t 0)) (v.getD t 0)))
def fairB (v : List Nat) : Bool := (List.range v.length).all fun i => (List.range sh.length).all fun k => !bad sh v (i + 1) k
def winsB (v : List Nat) : Bool := (List.range v.length).all fun t => winB sh v t
structure Vl (v : List Nat) : Prop where
  len : v.length = tot sh
  lt : ∀ x ∈ v, x < sh.length
end
theorem ct_succ {v : List Nat} {t : Nat} (h : t < v.length) (k : Nat) : ct v (t + 1) k = ct v t k + if v.getD t 0 = k then 1 else 0 := by
  unfold ct
  rw [List.take_add_one, List.getElem?_eq_getElem h, List.count_append, List.getD_eq_getElem?_getD, List.getElem?_eq_getElem h]
  by_cases e : v[t] = k
  · simp [e]
  · simp [e]
theorem st_le {sh : List Nat} {c k t : Nat} (hs : 0 < s sh k) : stO sh c k ≤ t ↔ c * tot sh < (t + 1) * s sh k := by
  unfold stO
  rw [← Nat.lt_succ_iff, Nat.div_lt_iff_lt_mul hs]
theorem en_gt {sh : List Nat} {c k t : Nat} (hs : 0 < s sh k) : t < enO sh c k ↔ t * s sh k < (c + 1) * tot sh := by
  unfold enO
  rw [← Nat.succ_le_iff, Nat.le_div_iff_mul_le hs, Nat.succ_mul]
  omega
section
variable {sh : List Nat} (w : WfS sh) {v : List Nat} (hv : Vl sh v)
include w hv
theorem v_lt {t : Nat} (h : t < v.length) : v.getD t 0 < sh.length := by
  rw [List.getD_eq_getElem?_getD, List.getElem?_eq_getElem h]
  exact hv.lt _ (List.getElem_mem h)
theorem win_iff {t : Nat} (h : t < v.length) : winB sh v t = true ↔ ct v t (v.getD t 0) * tot sh < (t + 1) * s sh (v.getD t 0) ∧ t * s sh (v.getD t 0) < (ct v t (v.getD t 0) + 1) * tot sh := by
  have hk := v_lt w hv h
  have hs := (w.bd _ hk).1
  unfold winB
  rw [Bool.and_eq_true, Bool.and_eq_true, decide_eq_true_eq, decide_eq_true_eq, decide_eq_true_eq, st_le hs, en_gt hs]
  constructor
  · exact fun z => z.2
  · rintro ⟨h1, h2⟩
    refine ⟨?_, h1, h2⟩
    have hl : (t + 1) * s sh (v.getD t 0) ≤ tot sh * s sh (v.getD t 0) := Nat.mul_le_mul_right _ (by rw [← hv.len]; omega)
    rw [Nat.mul_comm (tot sh)] at hl
    exact Nat.lt_of_mul_lt_mul_right (Nat.lt_of_lt_of_le h1 hl)
theorem wins_all : winsB sh v = true ↔ ∀ t, t < v.length → winB sh v t = true := by
  unfold winsB
  rw [List.all_eq_true]
  exact ⟨fun h t ht => h t (List.mem_range.mpr ht), fun h t ht => h t (List.mem_range.mp ht)⟩
theorem fair_all : fairB sh v = true ↔ ∀ t, t < v.length → ∀ k, k < sh.length → bad sh v (t + 1) k = false := by
  unfold fairB
  rw [List.all_eq_true]
  constructor
  · intro h t ht k hk
    have := List.all_eq_true.mp (h t (List.mem_range.mpr ht)) k (List.mem_range.mpr hk)
    simpa using this
  · intro h t ht
    refine List.all_eq_true.mpr fun k hk => ?_
    rw [h t (List.mem_range.mp ht) k (List.mem_range.mp hk)]; rfl
omit hv in
theorem bad_iff {t k : Nat} : bad sh v t k = false ↔ t * s sh k < tot sh * (ct v t k + 1) ∧ tot sh * ct v t k < t * s sh k + tot sh := by
  unfold bad
  rw [Bool.or_eq_false_iff, decide_eq_false_iff_not, decide_eq_false_iff_not]
  omega
theorem ct_end {k : Nat} : ct v v.length k = v.count k := by
  unfold ct
  rw [List.take_length]
theorem ups (h : winsB sh v = true) : ∀ t, t ≤ v.length → ∀ k, tot sh * ct v t k < t * s sh k + tot sh
  | 0, _, k => by simp [ct]; exact T_pos w
  | t + 1, ht, k => by
    have ih := ups h t (by omega) k
    rw [ct_succ (by omega)]
    by_cases e : v.getD t 0 = k
    · have := ((win_iff w hv (by omega)).mp ((wins_all w hv).mp h t (by omega))).1
      rw [e] at this
      rw [if_pos e, Nat.mul_add, Nat.mul_one, Nat.mul_comm]
      omega
    · rw [if_neg e, Nat.add_zero, Nat.succ_mul]; omega
theorem cts (h : winsB sh v = true) {k : Nat} (hk : k < sh.length) : v.count k = s sh k := by
  have le : ∀ j, v.count j ≤ s sh j := fun j => by
    have := ups w hv h v.length (Nat.le_refl _) j
    rw [ct_end w hv, hv.len] at this
    have : tot sh * v.count j < tot sh * (s sh j + 1) := by rw [Nat.mul_add, Nat.mul_one]; exact this
    have := Nat.lt_of_mul_lt_mul_left this
    omega
  have e := sumR_count sh.length v hv.lt
  rw [hv.len, ← sum_s w] at e
  by_cases hl : v.count k < s sh k
  · have := sumR_lt (f := fun k => v.count k) (g := s sh) sh.length hk (fun j _ => le j) hl
    omega
  · have := le k
    omega
theorem los (h : winsB sh v = true) : ∀ d t, t + d = v.length → ∀ k, k < sh.length → t * s sh k < tot sh * (ct v t k + 1)
  | 0, t, ht, k, hk => by
    rw [Nat.add_zero] at ht
    subst ht
    rw [ct_end w hv, cts w hv h hk, hv.len, Nat.mul_add]
    have := T_pos w
    omega
  | d + 1, t, ht, k, hk => by
    have ih := los h d (t + 1) (by omega) k hk
    rw [ct_succ (by omega)] at ih
    by_cases e : v.getD t 0 = k
    · have := ((win_iff w hv (by omega)).mp ((wins_all w hv).mp h t (by omega))).2
      rw [e] at this
      rw [Nat.mul_comm (tot sh)]
      exact this
    · simp only [if_neg e, Nat.add_zero, Nat.succ_mul] at ih; omega
theorem fair_wins : fairB sh v = winsB sh v := by
  rw [Bool.eq_iff_iff]
  constructor
  · intro h
    refine (wins_all w hv).mpr fun t ht => (win_iff w hv ht).mpr ?_
    have hk := v_lt w hv ht
    have h1 := (bad_iff w).mp ((fair_all w hv).mp h t ht _ hk)
    rw [ct_succ ht, if_pos rfl] at h1
    refine ⟨?_, ?_⟩
    · have := h1.2
      rw [Nat.mul_add, Nat.mul_one] at this
      rw [Nat.mul_comm (ct _ _ _)]
      omega
    · cases t with
      | zero => rw [Nat.zero_mul, Nat.mul_comm]; exact Nat.mul_pos (T_pos w) (by omega)
      | succ t =>
        have := ((bad_iff w).mp ((fair_all w hv).mp h t (by omega) _ hk)).1
        rw [Nat.mul_comm (tot sh)] at this
        exact this
  · intro h
    refine (fair_all w hv).mpr fun t ht k hk => (bad_iff w).mpr ⟨?_, ?_⟩
    · exact los w hv h (v.length - (t + 1)) (t + 1) (by omega) k hk
    · exact ups w hv h (t + 1) (by omega) k
end
/-! whoever has to have it first -/
theorem best_mem {R : List (Nat × Nat)} (h : R ≠ []) : best R ∈ R ∧ ∀ r ∈ R, (best R).1 ≤ r.1 := by
  cases R with
  | nil => exact absurd rfl h
  | cons r rs =>
    clear h
    show rs.foldl (fun a y => if ltP y a = true then y else a) r ∈ r :: rs ∧ ∀ x ∈ r :: rs, (rs.foldl (fun a y => if ltP y a = true then y else a) r).1 ≤ x.1
    induction rs generalizing r with
    | nil => exact ⟨List.mem_cons_self, fun x hx => by simp at hx; subst hx; exact Nat.le_refl _⟩
    | cons y rs ih =>
      rw [List.foldl_cons]
      obtain ⟨h1, h2⟩ := ih (if ltP y r = true then y else r)
      have hm : ∀ z, z = (if ltP y r = true then y else r) → z = y ∨ z = r := fun z e => by
        rw [e]; split
        · exact .inl rfl
        · exact .inr rfl
      have hle : (if ltP y r = true then y else r).1 ≤ y.1 ∧ (if ltP y r = true then y else r).1 ≤ r.1 := by
        unfold ltP
        split
        · rename_i hc
          simp only [Bool.or_eq_true, Bool.and_eq_true, decide_eq_true_eq] at hc
          omega
        · rename_i hc
          simp only [Bool.or_eq_true, Bool.and_eq_true, decide_eq_true_eq] at hc
          omega
      refine ⟨?_, fun x hx => ?_⟩
      · rcases List.mem_cons.mp h1 with e | m
        · rcases hm _ e with e | e
          · rw [e]; exact List.mem_cons_of_mem _ List.mem_cons_self
          · rw [e]; exact List.mem_cons_self
        · exact List.mem_cons_of_mem _ (List.mem_cons_of_mem _ m)
      · have h0 := h2 _ List.mem_cons_self
        rcases List.mem_cons.mp hx with rfl | hx
        · omega
        · rcases List.mem_cons.mp hx with rfl | hx
          · omega
          · exact h2 x (List.mem_cons_of_mem _ hx)
section
variable (sh : List Nat)
def okR (f : List Nat) (t k : Nat) : Bool := decide (f.count k < s sh k) && decide (stO sh (f.count k) k ≤ t)
def rowsR (f : List Nat) (t n : Nat) : List (Nat × Nat) := (List.range n).filterMap fun k => if okR sh f t k = true then some (enO sh (f.count k) k, k) else none
def edf : Nat → List Nat
  | 0 => []
  | t + 1 => edf t ++ [(best (rowsR sh (edf t) t sh.length)).2]
end
theorem mem_rows {sh f : List Nat} {t n : Nat} {r : Nat × Nat} : r ∈ rowsR sh f t n ↔ r.2 < n ∧ okR sh f t r.2 = true ∧ r.1 = enO sh (f.count r.2) r.2 := by
  unfold rowsR
  rw [List.mem_filterMap]
  constructor
  · rintro ⟨k, hk, e⟩
    split at e
    · rename_i hc
      cases e
      exact ⟨List.mem_range.mp hk, hc, rfl⟩
    · cases e
  · rintro ⟨h1, h2, h3⟩
    refine ⟨r.2, List.mem_range.mpr h1, ?_⟩
    rw [if_pos h2, ← h3]
theorem edf_len (sh : List Nat) : ∀ t, (edf sh t).length = t
  | 0 => rfl
  | t + 1 => by rw [edf, List.length_append, edf_len sh t]; rfl
section
variable {sh : List Nat} (w : WfS sh)
include w
theorem divsum {f : Nat → Nat} {d : Nat} (h : ∀ k, k < sh.length → f k * tot sh ≤ d * s sh k) : sumR sh.length f ≤ d := by
  have h1 := sumR_le (f := fun k => f k * tot sh) (g := fun k => d * s sh k) sh.length h
  rw [sumR_mul, sumR_mul', sum_s w] at h1
  exact Nat.le_of_mul_le_mul_right h1 (T_pos w)
theorem rows_ne {f : List Nat} {t : Nat} (ht : t < tot sh) (hf : ∀ x ∈ f, x < sh.length) (hl : f.length = t) : rowsR sh f t sh.length ≠ [] := fun e => by
  have key : ∀ k, k < sh.length → (t + 1) * s sh k ≤ f.count k * tot sh := fun k hk => by
    have hs := (w.bd k hk).1
    by_cases h1 : f.count k < s sh k
    · by_cases h2 : stO sh (f.count k) k ≤ t
      · have : (enO sh (f.count k) k, k) ∈ rowsR sh f t sh.length := mem_rows.mpr ⟨hk, by simp [okR, h1, h2], rfl⟩
        rw [e] at this
        simp at this
      · rw [st_le hs] at h2
        omega
    · have : (t + 1) * s sh k ≤ tot sh * f.count k := Nat.mul_le_mul (by omega) (by omega)
      rwa [Nat.mul_comm (tot sh)] at this
  have h1 := sumR_le (f := fun k => (t + 1) * s sh k) (g := fun k => f.count k * tot sh) sh.length key
  rw [sumR_mul (fun k => f.count k), sumR_mul', sum_s w, sumR_count _ _ hf, hl, Nat.succ_mul] at h1
  have := T_pos w
  omega
structure Edf (t : Nat) : Prop where
  lt : ∀ x ∈ edf sh t, x < sh.length
  le : ∀ k, (edf sh t).count k ≤ s sh k
  inv : ∀ D, t ≤ D → D ≤ tot sh → sumR sh.length (fun k => D * s sh k / tot sh - (edf sh t).count k) + t ≤ D
  win : ∀ i, i < t → winB sh (edf sh t) i = true
theorem edf0 : Edf (sh := sh) 0 := ⟨by simp [edf], by simp [edf], fun D _ hD => by
  have := divsum w (f := fun k => D * s sh k / tot sh - (edf sh 0).count k) (d := D) fun k hk => by
    simp only [edf, List.count_nil, Nat.sub_zero]
    exact Nat.div_mul_le_self _ _
  omega, by simp⟩
theorem edf_step {t : Nat} (ht : t < tot sh) (e : Edf (sh := sh) t) : Edf (sh := sh) (t + 1) ∧ okR sh (edf sh t) t (best (rowsR sh (edf sh t) t sh.length)).2 = true := by
  have hlen := edf_len sh t
  have ne := rows_ne w ht e.lt hlen
  obtain ⟨bm, bl⟩ := best_mem ne
  obtain ⟨b1, b2, b3⟩ := mem_rows.mp bm
  have hE : edf sh (t + 1) = edf sh t ++ [(best (rowsR sh (edf sh t) t sh.length)).2] := rfl
  refine ⟨?_, b2⟩
  generalize hb : best (rowsR sh (edf sh t) t sh.length) = b at *
  have hok := b2
  unfold okR at b2
  rw [Bool.and_eq_true, decide_eq_true_eq, decide_eq_true_eq] at b2
  obtain ⟨c1, c2⟩ := b2
  have hs := (w.bd _ b1).1
  have cnt : ∀ k, (edf sh (t + 1)).count k = (edf sh t).count k + if b.2 = k then 1 else 0 := fun k => by
    rw [hE, List.count_append]
    by_cases e : b.2 = k
    · simp [e]
    · simp [e]
  refine ⟨fun x hx => ?_, fun k => ?_, fun D h1 h2 => ?_, fun i hi => ?_⟩
  · rw [hE] at hx
    rcases List.mem_append.mp hx with hx | hx
    · exact e.lt x hx
    · have : x = b.2 := by simpa using hx
      subst this; exact b1
  · rw [cnt]
    by_cases h : b.2 = k
    · subst h; rw [if_pos rfl]; omega
    · rw [if_neg h]; exact e.le k
  · by_cases hD : b.1 ≤ D
    · have inv := e.inv D (by omega) h2
      have hge : (edf sh t).count b.2 + 1 ≤ D * s sh b.2 / tot sh := by
        rw [b3] at hD
        have : ¬ D < enO sh ((edf sh t).count b.2) b.2 := by omega
        rw [en_gt hs] at this
        rw [Nat.le_div_iff_mul_le (T_pos w)]
        omega
      have := sumR_lt (f := fun k => D * s sh k / tot sh - (edf sh (t + 1)).count k) (g := fun k => D * s sh k / tot sh - (edf sh t).count k) (j := b.2) sh.length b1 (fun k _ => by
        rw [cnt]; omega) (by rw [cnt, if_pos rfl]; omega)
      omega
    · have := divsum w (f := fun k => D * s sh k / tot sh - (edf sh (t + 1)).count k) (d := D - (t + 1)) fun k hk => by
        have hsk := (w.bd k hk).1
        by_cases h0 : D * s sh k / tot sh ≤ (edf sh t).count k
        · have : D * s sh k / tot sh - (edf sh (t + 1)).count k = 0 := by rw [cnt]; omega
          rw [this]; omega
        · have dl : D * s sh k / tot sh ≤ s sh k := by
            have := Nat.mul_le_mul_right (s sh k) h2
            exact Nat.div_le_of_le_mul (by omega)
          have dm := Nat.div_mul_le_self (D * s sh k) (tot sh)
          have na : ¬ stO sh ((edf sh t).count k) k ≤ t := fun h => by
            have hm : (enO sh ((edf sh t).count k) k, k) ∈ rowsR sh (edf sh t) t sh.length := mem_rows.mpr ⟨hk, by simp only [okR, Bool.and_eq_true, decide_eq_true_eq]; exact ⟨by omega, h⟩, rfl⟩
            have := bl _ hm
            have : D < enO sh ((edf sh t).count k) k := by dsimp only at this; omega
            rw [en_gt hsk] at this
            have h3 : ((edf sh t).count k + 1) * tot sh ≤ D * s sh k / tot sh * tot sh := Nat.mul_le_mul_right _ (by omega)
            omega
          rw [st_le hsk] at na
          have : D * s sh k / tot sh - (edf sh (t + 1)).count k ≤ D * s sh k / tot sh - (edf sh t).count k := by rw [cnt]; omega
          refine Nat.le_trans (Nat.mul_le_mul_right _ this) ?_
          rw [Nat.sub_mul, Nat.sub_mul]
          omega
      omega
  · have tk : ∀ i k, i ≤ t → ct (edf sh (t + 1)) i k = ct (edf sh t) i k := fun i k hi => by
      unfold ct
      rw [hE, List.take_append_of_le_length (by omega)]
    by_cases hi2 : i < t
    · have := e.win i hi2
      have eg : (edf sh (t + 1)).getD i 0 = (edf sh t).getD i 0 := by
        rw [hE, List.getD_eq_getElem?_getD, List.getElem?_append_left (by omega), ← List.getD_eq_getElem?_getD]
      unfold winB at this ⊢
      rw [eg, tk i _ (by omega)]
      exact this
    · have : i = t := by omega
      subst this
      have eg : (edf sh (i + 1)).getD i 0 = b.2 := by
        rw [hE, List.getD_eq_getElem?_getD, List.getElem?_append_right (by omega), hlen, Nat.sub_self]; rfl
      have ec : ct (edf sh (i + 1)) i b.2 = (edf sh i).count b.2 := by
        rw [tk i _ (Nat.le_refl _)]
        unfold ct
        rw [List.take_of_length_le (by omega)]
      unfold winB
      rw [eg, ec, Bool.and_eq_true, Bool.and_eq_true, decide_eq_true_eq, decide_eq_true_eq, decide_eq_true_eq]
      refine ⟨c1, c2, ?_⟩
      rw [en_gt hs]
      have inv := e.inv i (Nat.le_refl _) (by omega)
      have z := sumR_zero (k := b.2) (show sumR sh.length (fun k => i * s sh k / tot sh - (edf sh i).count k) = 0 by omega) b1
      have : i * s sh b.2 / tot sh < (edf sh i).count b.2 + 1 := by omega
      rwa [Nat.div_lt_iff_lt_mul (T_pos w)] at this
theorem edf_all : ∀ t, t ≤ tot sh → Edf (sh := sh) t
  | 0, _ => edf0 w
  | t + 1, h => (edf_step w (by omega) (edf_all t (by omega))).1
theorem edf_vl : Vl sh (edf sh (tot sh)) := ⟨edf_len _ _, (edf_all w _ (Nat.le_refl _)).lt⟩
theorem edf_wins : winsB sh (edf sh (tot sh)) = true := (wins_all w (edf_vl w)).mpr fun t ht => (edf_all w _ (Nat.le_refl _)).win t (by rwa [edf_len] at ht)
theorem edf_fair : fairB sh (edf sh (tot sh)) = true := by rw [fair_wins w (edf_vl w)]; exact edf_wins w
/-! again and again -/
theorem fair_app {v u : List Nat} (hv : Vl sh v) (hw : winsB sh v = true) (hu : fairB sh u = true) : fairB sh (v ++ u) = true := by
  have hu' : ∀ t, t < u.length → ∀ k, k < sh.length → bad sh u (t + 1) k = false := fun t ht k hk => by
    have := List.all_eq_true.mp (List.all_eq_true.mp hu t (List.mem_range.mpr ht)) k (List.mem_range.mpr hk)
    simpa using this
  have hv' := (fair_all w hv).mp (by rw [fair_wins w hv]; exact hw)
  unfold fairB
  refine List.all_eq_true.mpr fun t ht => List.all_eq_true.mpr fun k hk => ?_
  have ht := List.mem_range.mp ht
  have hk := List.mem_range.mp hk
  rw [Bool.not_eq_true']
  rw [List.length_append] at ht
  by_cases h : t < v.length
  · have := hv' t h k hk
    have e : ct (v ++ u) (t + 1) k = ct v (t + 1) k := by
      unfold ct
      rw [List.take_append_of_le_length (by omega)]
    unfold bad at this ⊢
    rw [e]
    exact this
  · have h2 := (bad_iff w).mp (hu' (t - v.length) (by omega) k hk)
    have e : ct (v ++ u) (t + 1) k = s sh k + ct u (t - v.length + 1) k := by
      unfold ct
      rw [List.take_append, List.count_append, List.take_of_length_le (by omega), cts w hv hw hk, show t + 1 - v.length = t - v.length + 1 by omega]
    rw [bad_iff w, e]
    have hl := hv.len
    generalize hr : t - v.length + 1 = r at *
    have er : t + 1 = tot sh + (r : Nat) := by omega
    rw [er]
    constructor
    · have := h2.1
      rw [Nat.add_mul, show s sh k + ct u r k + 1 = s sh k + (ct u r k + 1) by omega, Nat.mul_add]
      omega
    · have := h2.2
      rw [Nat.add_mul, Nat.mul_add]
      omega
end
end Mp.K51

namespace Mp.K51
open PySem PySem.Spec L2
/-! ### the turns told -/
abbrev SD (sh : List Nat) : D := .tup (NL sh)
theorem c_win (k : Nat) (sh : List Nat) (j c : Nat) (hs : 0 < s sh j) (hs2 : s sh j ≤ 60) (hT : tot sh ≤ 360) (hc : c ≤ 1000) (h : Hm) : callF prog (k + 1) 2 [.int (s sh j : Nat), .int (tot sh : Nat), .int ((c + 1 : Nat))] h = .ok (.tup [.int (stO sh c j : Nat), .int (enO sh c j : Nat)]) h := by
  rw [r_window_of]
  refine W.eq (W_run rfl ?_)
  show W (exec (Ck k) b_window_of [some (.int (s sh j : Nat)), some (.int (tot sh : Nat)), some (.int ((c + 1 : Nat)))] h) _
  unfold b_window_of
  have o1 : ∀ h, bop h .sub (.int ((c + 1 : Nat))) (.int 1) = some (.int (c : Nat)) := fun h => opN_sub h (c + 1) 1 (by omega)
  have o2 := fun h => opN_mul h c (tot sh) (by omega)
  have o3 := fun h => opN_mul h (c + 1) (tot sh) (by omega)
  have o4 := fun h => opN_fdiv h (c * tot sh) (s sh j) hs (by omega)
  have o5 : ∀ h, bop h .sub (.int (((c + 1) * tot sh + s sh j : Nat))) (.int 1) = some (.int (((c + 1) * tot sh + s sh j - 1 : Nat))) := fun h => opN_sub h _ 1 (by omega)
  have o6 := fun h => opN_fdiv h ((c + 1) * tot sh + s sh j - 1) (s sh j) hs (by omega)
  simp -implicitDefEqProofs only [ex_ret, ev_tup, ev_op, ev_int, ev_var, evs_cons, evs_nil, List.getElem?_cons_zero, List.getElem?_cons_succ, rb_ok, o1, o2, o3, o4, opN_add, o5, o6, ro_some, ms_cons', ms_nil', m_int, W_ok, f_window_of, fin0, stO, enO, and_self]
def hadL (n : Nat) (f : List Nat) : List Nat := (List.range n).map fun k => f.count k
theorem had_len (n : Nat) (f : List Nat) : (hadL n f).length = n := by simp [hadL]
theorem had_get {n k : Nat} (f : List Nat) (h : k < n) : (hadL n f).getD k 0 = f.count k := by
  unfold hadL
  rw [List.getD_eq_getElem?_getD, List.getElem?_map, List.getElem?_range h]; rfl
theorem had_nil (n : Nat) : hadL n [] = List.replicate n 0 := by
  unfold hadL
  apply List.ext_getElem?
  intro i
  rw [List.getElem?_map, List.getElem?_replicate]
  by_cases h : i < n
  · rw [List.getElem?_range h, if_pos h]; rfl
  · rw [List.getElem?_eq_none (by simp; omega), if_neg h]; rfl
theorem had_set {n k : Nat} (f : List Nat) (h : k < n) : (hadL n f).set k (f.count k + 1) = hadL n (f ++ [k]) := by
  apply List.ext_getElem?
  intro i
  by_cases e : i = k
  · subst e
    rw [List.getElem?_set_self (by rw [had_len]; exact h)]
    unfold hadL
    rw [List.getElem?_map, List.getElem?_range h]
    simp
  · rw [List.getElem?_set_ne (fun z => e z.symm)]
    unfold hadL
    rw [List.getElem?_map, List.getElem?_map]
    have : ∀ x, x ≠ k → (f ++ [k]).count x = f.count x := fun x hx => by simp [hx.symm]
    by_cases h2 : i < n
    · rw [List.getElem?_range h2, Option.map_some, Option.map_some, this i e]
    · rw [List.getElem?_eq_none (by simp; omega)]; rfl
theorem ix_h {h : Hm} {p : Nat} {l : List Nat} (e : h[p]? = some (.lst (NL l))) {i : Nat} (hi : i < l.length) : ixD h (.ref p) (.int (i : Nat)) = some (.int ((l.getD i 0 : Nat))) := by
  rw [ix_ref, e, Option.bind_some, oxs_lst, nl_at hi]
theorem si_h {h : Hm} {p : Nat} {l : List Nat} (e : h[p]? = some (.lst (NL l))) {i : Nat} (hi : i < l.length) (x : Nat) : setIx h (.ref p) (.int (i : Nat)) (.int (x : Nat)) = some (h.set p (.lst (NL (l.set i x)))) := by
  rw [si_ref, e, Option.bind_some, oxs_lst, ix_nat (by rw [nl_len]; exact hi), Option.map_some, nl_set]
theorem ix_last {h : Hm} {p : Nat} {l : List Nat} {x : Nat} (e : h[p]? = some (.lst (NL (l ++ [x])))) : ixD h (.ref p) (.int (-1)) = some (.int (x : Nat)) := by
  rw [ix_ref, e, Option.bind_some, oxs_lst, nl_app]
  exact atI_last _ _
theorem aug1 {C : Cfg} {a i : E} {s0 : Stm} {h : Hm} {p k : Nat} {l : List Nat} {Q : Fl → Hm → Prop} (ea : ev C a s0 h = .ok (.ref p) h) (ei : ev C i s0 h = .ok (.int (k : Nat)) h) (e : h[p]? = some (.lst (NL l))) (hk : k < l.length) (q : Q (.nx s0) (h.set p (.lst (NL (l.set k (l.getD k 0 + 1)))))) : W (exec C (.augIx a i .add (.int 1)) s0 h) Q := by
  have e1 : ixL h (.ref p) ((k : Nat) : Int) = some (.int ((l.getD k 0 : Nat))) := by rw [ixL_ref, e, Option.bind_some, oxs_lst, nl_at hk]
  have e2 := si_h e hk (l.getD k 0 + 1)
  rw [Int.natCast_add] at e2
  have e2 : setIx h (.ref p) (.int (k : Nat)) (.int ((l.getD k 0 : Nat) + 1)) = some (h.set p (.lst (NL (l.set k (l.getD k 0 + 1))))) := e2
  simp -implicitDefEqProofs only [ex_augIx, ea, ei, rb_ok, e1, ro_some, ev_int, ai_add, e2, W_ok]
  exact q
theorem rows_succ (sh f : List Nat) (t i : Nat) : rowsR sh f t (i + 1) = rowsR sh f t i ++ if okR sh f t i = true then [(enO sh (f.count i) i, i)] else [] := by
  unfold rowsR
  rw [List.range_succ, List.filterMap_append]
  congr 1
  by_cases h : okR sh f t i = true <;> simp [h]
theorem rows_le (sh f : List Nat) (t i : Nat) : (rowsR sh f t i).length ≤ i := by
  unfold rowsR
  have := List.length_filterMap_le (fun k => if okR sh f t k = true then some (enO sh (f.count k) k, k) else none) (List.range i)
  rwa [List.length_range] at this
theorem w_rows {sh : List Nat} (w : WfS sh) (k : Nat) (f : List Nat) (t : Nat) (hf : f.length ≤ 360) (h : Hm) (p2 p5 : Nat) (x3 x6 x7 x8 x9 : Option D) (e2 : h[p2]? = some (.lst (NL (hadL sh.length f)))) (e5 : h[p5]? = some (.lst [])) (hne : p5 ≠ p2) {Q : Fl → Hm → Prop}
    (q : ∀ x6 x7 x8 x9, Q (.nx [some (SD sh), some (.int (tot sh : Nat)), some (.ref p2), x3, some (.int (t : Nat)), some (.ref p5), x6, x7, x8, x9]) (h.set p5 (.lst ((rowsR sh f t sh.length).map PR)))) :
    W (exec (Ck (k + 1)) l1_fair_turns [some (SD sh), some (.int (tot sh : Nat)), some (.ref p2), x3, some (.int (t : Nat)), some (.ref p5), x6, x7, x8, x9] h) Q := by
  unfold l1_fair_turns
  have hT := T_le w
  refine W_loop (fun i st h' => h' = h.set p5 (.lst ((rowsR sh f t i).map PR)) ∧ ∃ x6 x7 x8 x9, st = [some (SD sh), some (.int (tot sh : Nat)), some (.ref p2), x3, some (.int (t : Nat)), some (.ref p5), x6, x7, x8, x9]) (v := ⟨enumD 0 (NL sh), []⟩) (h1 := h)
    (by simp -implicitDefEqProofs only [evI_enum, ev_var, List.getElem?_cons_zero, rb_ok, q_tup, ro_some, dep_tup]) ⟨?_, _, _, _, _, rfl⟩ (fun _ _ _ _ => rfl) ?_ ?_
  · have : (rowsR sh f t 0).map PR = [] := rfl
    rw [this]
    exact (set_same e5).symm
  · rintro i x st h' hx ⟨rfl, x6, x7, x8, x9, rfl⟩
    obtain ⟨rfl, hi⟩ := nl_enum hx
    have hs := (w.bd i hi).1
    have hs2 := (w.bd i hi).2
    have cle : f.count i ≤ 360 := Nat.le_trans List.count_le_length hf
    have cw := fun h => c_win k sh i (f.count i) hs hs2 hT (by omega) h
    have rl := rows_le sh f t i
    have hl := w.len
    rw [rows_succ]
    generalize hR : rowsR sh f t i = R at *
    have k5 : (h.set p5 (.lst (R.map PR)))[p5]? = some (.lst (R.map PR)) := set_self e5 _
    have k2 : (h.set p5 (.lst (R.map PR)))[p2]? = some (.lst (NL (hadL sh.length f))) := set_ne e2 hne _
    have g2 := ix_h k2 (i := i) (by rw [had_len]; exact hi)
    rw [had_get f hi] at g2
    have es : sh.getD i 0 = s sh i := rfl
    rw [es]
    have o1 : ∀ h, bop h .add (.int (f.count i : Nat)) (.int 1) = some (.int ((f.count i + 1 : Nat))) := fun h => opN_add h _ 1
    simp -implicitDefEqProofs only [turnS, asg_tp, asgs_cons, asgs_nil, asg_nm, rb_ok, List.set_cons_zero, List.set_cons_succ]
    refine W_seq ?_
    simp -implicitDefEqProofs only [ex_set, ev_call, ev_op, ev_ix, ev_int, ev_var, evs_cons, evs_nil, List.getElem?_cons_zero, List.getElem?_cons_succ, rb_ok, g2, o1, ro_some, ms_cons', ms_nil', m_int, Ck_call, cw, m_tup, asg_tp, asgs_cons, asgs_nil, asg_nm, List.set_cons_zero, List.set_cons_succ, W_ok, Kn_nx]
    have ok : okR sh f t i = (decide (f.count i < s sh i) && decide (stO sh (f.count i) i ≤ t)) := rfl
    by_cases h1 : f.count i < s sh i
    · by_cases h2 : stO sh (f.count i) i ≤ t
      · have hk : (R.map PR).length < 16777216 := by rw [List.length_map]; omega
        have eP : D.tup [.int (enO sh (f.count i) i : Nat), .int (i : Nat)] = PR (enO sh (f.count i) i, i) := rfl
        rw [ok, decide_eq_true h1, decide_eq_true h2]
        simp -implicitDefEqProofs only [ex_ite, evT_and, evT_cmp, ev_ix, ev_var, List.getElem?_cons_zero, List.getElem?_cons_succ, rb_ok, g2, ro_some, cN_lt, cN_le, h1, h2, decide_true, if_true, ex_ex, ev_me, ev_tup, evs_cons, evs_nil, ms_cons', ms_nil', m_int, m_tup, me_app, k5, Option.bind_some, oxs_lst, hk, List.set_set, W_ok, Bool.and_self]
        exact ⟨by rw [List.map_append]; rfl, _, _, _, _, rfl⟩
      · rw [ok, decide_eq_true h1, decide_eq_false h2]
        simp -implicitDefEqProofs only [ex_ite, evT_and, evT_cmp, ev_ix, ev_var, List.getElem?_cons_zero, List.getElem?_cons_succ, rb_ok, g2, ro_some, cN_lt, cN_le, h1, h2, decide_true, decide_false, if_true, Bool.false_eq_true, if_false, ex_nop, W_ok, Bool.and_false, List.append_nil]
        exact ⟨by trivial, _, _, _, _, rfl⟩
    · rw [ok, decide_eq_false h1]
      simp -implicitDefEqProofs only [ex_ite, evT_and, evT_cmp, ev_ix, ev_var, List.getElem?_cons_zero, List.getElem?_cons_succ, rb_ok, g2, ro_some, cN_lt, h1, decide_false, Bool.false_eq_true, if_false, ex_nop, W_ok, Bool.false_and, List.append_nil]
      exact ⟨by trivial, _, _, _, _, rfl⟩
  · rintro st h' ⟨rfl, x6, x7, x8, x9, rfl⟩
    have : (enumD 0 (NL sh)).length = sh.length := by rw [enumD_len', nl_len]
    rw [this]
    exact q x6 x7 x8 x9
theorem c_fair (k : Nat) {sh : List Nat} (w : WfS sh) (h : Hm) : callF prog (k + 2) 3 [SD sh] h = .ok (.tup (NL (edf sh (tot sh)))) h := by
  rw [r_fair_turns]
  have hT := T_le w
  have hT0 := T_pos w
  have hl := w.len
  refine W.eq (W_run rfl ?_)
  show W (exec (Ck (k + 1)) b_fair_turns [some (SD sh), none, none, none, none, none, none, none, none, none] h) _
  unfold b_fair_turns
  refine W_seq ?_
  have z := fun h => zeros h sh.length (by omega)
  have sn := fun h => sum_nl h sh
  simp -implicitDefEqProofs only [ex_par3, ev_bi, ev_op, ev_lst, ev_int, ev_var, evs_cons, evs_nil, List.getElem?_cons_zero, rb_ok, b_sum, sn, ro_some, b_len, len_tup, nl_len, ms_cons', ms_nil', m_int, z, m_lst, List.set_cons_zero, List.set_cons_succ, W_ok, Kn_nx]
  refine W_seq ?_
  unfold l2_fair_turns
  have rv := rangeV1 (tot sh : Nat) (by omega) (by omega)
  have hA : Ext h (h ++ [.lst (NL (List.replicate sh.length 0))] ++ [.lst []]) := ((Ext.refl h).app _).app _
  have h2 : (h ++ [.lst (NL (List.replicate sh.length 0))] ++ [.lst []])[h.length]? = some (.lst (NL (hadL sh.length []))) := by rw [had_nil]; exact at_app _ (at_new h _)
  have h3 : (h ++ [.lst (NL (List.replicate sh.length 0))] ++ [.lst []])[(h ++ [O.lst (NL (List.replicate sh.length 0))]).length]? = some (.lst (NL [])) := at_new _ _
  have hp3 : h.length < (h ++ [O.lst (NL (List.replicate sh.length 0))]).length := by simp
  generalize h ++ [O.lst (NL (List.replicate sh.length 0))] ++ [.lst []] = hA' at *
  generalize (h ++ [O.lst (NL (List.replicate sh.length 0))]).length = p3 at *
  refine W_loop (fun i st h' => Ext h h' ∧ h'[h.length]? = some (.lst (NL (hadL sh.length (edf sh i)))) ∧ h'[p3]? = some (.lst (NL (edf sh i))) ∧ ∃ x4 x5 x6 x7 x8 x9, st = [some (SD sh), some (.int (tot sh : Nat)), some (.ref h.length), some (.ref p3), x4, x5, x6, x7, x8, x9]) (v := ⟨rangeD 0 (tot sh : Nat), []⟩) (h1 := hA')
    (by simp -implicitDefEqProofs only [evI_range, ev_var, evs_cons, evs_nil, List.getElem?_cons_zero, List.getElem?_cons_succ, rb_ok, ro_some, rv]) ⟨hA, h2, h3, _, _, _, _, _, _, rfl⟩ (fun _ _ _ _ => rfl) ?_ ?_
  · rintro t x st h' hx ⟨hE, h2, h3, x4, x5, x6, x7, x8, x9, rfl⟩
    obtain ⟨rfl, ht⟩ := rangeD_get hx
    have ht : t < tot sh := by omega
    have ed := edf_all w t (by omega)
    have el := edf_len sh t
    have ne := rows_ne w ht ed.lt el
    have bm := (mem_rows.mp (best_mem ne).1).1
    simp -implicitDefEqProofs only [turnS, asg_nm, rb_ok, List.set_cons_zero, List.set_cons_succ, Int.zero_add]
    refine W_seq ?_
    simp -implicitDefEqProofs only [ex_set, ev_lst, evs_nil, rb_ok, ms_nil', m_lst, asg_nm, List.set_cons_zero, List.set_cons_succ, W_ok, Kn_nx]
    have lp3 := lt_of_at h3
    have lp2 := lt_of_at h2
    have k2 : (h' ++ [O.lst []])[h.length]? = _ := at_app _ h2
    have k3 : (h' ++ [O.lst []])[p3]? = _ := at_app _ h3
    have k5 : (h' ++ [O.lst []])[h'.length]? = some (.lst []) := at_new h' _
    have hE := hE.app [O.lst []]
    have l5 : h.length ≤ h'.length := by omega
    generalize h' ++ [O.lst []] = h1 at *
    generalize h'.length = p5 at *
    have n52 : p5 ≠ h.length := by omega
    have n53 : p5 ≠ p3 := by omega
    refine W_seq (w_rows w k (edf sh t) t (by omega) h1 h.length p5 _ _ _ _ _ k2 k5 n52 fun x6 x7 x8 x9 => ?_)
    simp -implicitDefEqProofs only [Kn_nx]
    have j2 := set_ne k2 n52 (.lst ((rowsR sh (edf sh t) t sh.length).map PR))
    have j3 := set_ne k3 n53 (.lst ((rowsR sh (edf sh t) t sh.length).map PR))
    have j5 := set_self k5 (.lst ((rowsR sh (edf sh t) t sh.length).map PR))
    have hE := hE.set l5 (.lst ((rowsR sh (edf sh t) t sh.length).map PR))
    generalize h1.set p5 (.lst ((rowsR sh (edf sh t) t sh.length).map PR)) = h2' at *
    have mn : minD h2' (.ref p5) = some (PR (best (rowsR sh (edf sh t) t sh.length))) := min_pr (by rw [q_ref, j5]; rfl) ne
    have e1 : edf sh (t + 1) = edf sh t ++ [(best (rowsR sh (edf sh t) t sh.length)).2] := rfl
    rw [e1]
    generalize best (rowsR sh (edf sh t) t sh.length) = b at *
    have ixb : ∀ h, ixD h (PR b) (.int 1) = some (.int (b.2 : Nat)) := fun h => by rw [PR, ix_tup, atI_1]
    have hk : (NL (edf sh t)).length < 16777216 := by rw [nl_len]; omega
    refine W_seq ?_
    simp -implicitDefEqProofs only [ex_ex, ev_me, ev_ix, ev_bi, ev_int, ev_var, evs_cons, evs_nil, List.getElem?_cons_zero, List.getElem?_cons_succ, rb_ok, b_min, mn, ro_some, ixb, ms_cons', ms_nil', m_int, me_app, j3, Option.bind_some, oxs_lst, hk, if_true, W_ok, Kn_nx]
    have eN : NL (edf sh t) ++ [.int (b.2 : Nat)] = NL (edf sh t ++ [b.2]) := by rw [nl_app]; rfl
    rw [eN]
    have n32 : p3 ≠ h.length := by omega
    have i2 := set_ne j2 n32 (.lst (NL (edf sh t ++ [b.2])))
    have i3 := set_self j3 (.lst (NL (edf sh t ++ [b.2])))
    have hE := hE.set (by omega) (.lst (NL (edf sh t ++ [b.2]))) (p := p3)
    generalize h2'.set p3 (.lst (NL (edf sh t ++ [b.2]))) = h3' at *
    have lst := ix_last i3
    refine aug1 (k := b.2) (by simp -implicitDefEqProofs only [ev_var, List.getElem?_cons_zero, List.getElem?_cons_succ]) (by simp -implicitDefEqProofs only [ev_ix, ev_neg, ev_int, op_negI, ev_var, List.getElem?_cons_zero, List.getElem?_cons_succ, rb_ok, ro_some, lst]) i2 (by rw [had_len]; exact bm) ?_
    rw [had_get _ bm, had_set _ bm]
    exact ⟨hE.set (Nat.le_refl _) _, set_self i2 _, set_ne i3 (fun z => n32 z.symm) _, _, _, _, _, _, _, rfl⟩
  · rintro st h' ⟨hE, h2, h3, x4, x5, x6, x7, x8, x9, rfl⟩
    rw [rangeD_len, show ((tot sh : Int) - 0).toNat = tot sh by omega] at h3
    have fm : f_fair_turns.mode = 1 := rfl
    have lf := lift_tup (n := h.length) (h := h') (by rw [nl_eq]; exact belows_ints h.length ((edf sh (tot sh)).map fun b : Nat => (b : Int)) : belows h.length (NL (edf sh (tot sh))) = true)
    simp -implicitDefEqProofs only [Kn_nx, ex_ret, ev_bi, ev_var, evs_cons, evs_nil, List.getElem?_cons_zero, List.getElem?_cons_succ, rb_ok, b_tuple, q_ref, h3, Option.map_some, oxs_lst, ro_some, W_ok, fm, hE.fin, lf, and_self]
end Mp.K51

namespace Mp.K51
open PySem PySem.Spec L2
/-! ### debts; the first that is too great -/
def debt (sh v : List Nat) (t k : Nat) : Int := ((tot sh * ct v t k : Nat) : Int) - ((t * s sh k : Nat) : Int)
def debtsL (sh v : List Nat) (t : Nat) : List Int := (List.range sh.length).map fun k => debt sh v t k
theorem bad_debt (sh v : List Nat) (t k : Nat) : bad sh v t k = !(decide (-(tot sh : Int) < debt sh v t k) && decide (debt sh v t k < (tot sh : Int))) := by
  unfold bad debt
  rw [Nat.mul_add, Nat.mul_one]
  generalize tot sh * ct v t k = x
  generalize t * s sh k = y
  generalize tot sh = T
  by_cases h1 : x + T ≤ y <;> by_cases h2 : y + T ≤ x <;> by_cases h3 : -(T : Int) < (x : Int) - (y : Int) <;> by_cases h4 : (x : Int) - (y : Int) < (T : Int) <;> simp only [h1, h2, h3, h4, decide_true, decide_false, Bool.or_self, Bool.or_true, Bool.true_or, Bool.or_false, Bool.and_self, Bool.and_true, Bool.and_false, Bool.not_true, Bool.not_false] <;> omega
theorem c_debts (k : Nat) {sh : List Nat} (w : WfS sh) (v : List Nat) (t : Nat) (ht : t ≤ 1200) (h : Hm) : callF prog (k + 1) 5 [SD sh, .tup (NL v), .int (t : Nat)] h = .ok (.tup ((debtsL sh v t).map .int)) h := by
  rw [r_debts_behind]
  have hT := T_le w
  refine W.eq (W_run rfl ?_)
  show W (exec (Ck k) b_debts_behind [some (SD sh), some (.tup (NL v)), some (.int (t : Nat)), none, none, none] h) _
  unfold b_debts_behind
  refine W_seq ?_
  have sn := fun h => sum_nl h sh
  simp -implicitDefEqProofs only [ex_set, ev_bi, ev_var, evs_cons, evs_nil, List.getElem?_cons_zero, rb_ok, b_sum, sn, ro_some, m_int, asg_nm, List.set_cons_zero, List.set_cons_succ, W_ok, Kn_nx]
  have ec : ev (Ck k) c1_debts_behind [some (SD sh), some (.tup (NL v)), some (.int (t : Nat)), some (.int (tot sh : Nat)), none, none] h = .ok (.lst ((debtsL sh v t).map .int)) h := by
    unfold c1_debts_behind debtsL
    refine ev_comp_map (enc := fun i : Nat => D.tup [.int (i : Nat), .int ((sh.getD i 0 : Nat))]) (dec := D.int) (fun j => debt sh v t j) (xs := List.range sh.length) (deps := []) (by simp -implicitDefEqProofs only [evI_enum, ev_var, List.getElem?_cons_zero, rb_ok, q_tup, ro_some, dep_tup, nl_enum_map]) rfl fun j hj => ?_
    have es : sh.getD j 0 = s sh j := rfl
    rw [es]
    have ct' : (NL v).take t = NL (v.take t) := by unfold NL; rw [List.map_take]
    have cn := fun h => count_nl h (v.take t) j
    have o1 := fun h => opN_mul h (tot sh) ((v.take t).count j) (by omega)
    have o2 := fun h => opN_mul h t (s sh j) (by omega)
    simp -implicitDefEqProofs only [turnE, wipeS, asg_tp, asgs_cons, asgs_nil, asg_nm, List.set_cons_zero, List.set_cons_succ, evC_nil, if_true, ev_op, ev_me, ev_sl, evO_nil, evO_cons, ev_var, evs_cons, evs_nil, List.getElem?_cons_zero, List.getElem?_cons_succ, rb_ok, ro_some, sl_tup, cut_take, ct', ms_cons', ms_nil', m_int, cn, o1, o2, op_subI]
    rfl
  have sT : f_debts_behind.mode = 0 := rfl
  simp -implicitDefEqProofs only [ex_ret, ev_bi, evs_cons, evs_nil, ec, rb_ok, b_tuple, q_lst, Option.map_some, ro_some, W_ok, sT, fin0, and_self]
def firstK (sh v : List Nat) (t : Nat) (k : Nat) : Option D := if bad sh v t k = true then some (.tup [.int (t : Nat), .int (k : Nat)]) else none
def firstT (sh v : List Nat) (i : Nat) : Option D := (List.range sh.length).findSome? (firstK sh v (i + 1))
def first (sh v : List Nat) : D := ((List.range v.length).findSome? (firstT sh v)).getD .non
theorem c_first (k : Nat) {sh : List Nat} (w : WfS sh) (v : List Nat) (hv : v.length ≤ 1200) (h : Hm) : callF prog (k + 2) 6 [SD sh, .tup (NL v)] h = .ok (first sh v) h := by
  rw [r_first_unfair]
  have hT := T_le w
  refine W.eq (W_run rfl ?_)
  show W (exec (Ck (k + 1)) b_first_unfair [some (SD sh), some (.tup (NL v)), none, none, none, none] h) _
  unfold b_first_unfair
  refine W_seq ?_
  have sn := fun h => sum_nl h sh
  simp -implicitDefEqProofs only [ex_set, ev_bi, ev_var, evs_cons, evs_nil, List.getElem?_cons_zero, rb_ok, b_sum, sn, ro_some, m_int, asg_nm, List.set_cons_zero, List.set_cons_succ, W_ok, Kn_nx]
  refine W_seq ?_
  unfold l2_first_unfair
  have rv := rangeV2 1 ((v.length : Nat) + 1) (by omega) (by omega) (by omega) (by omega)
  refine W_find (firstT sh v) (fun _ st h' => h' = h ∧ ∃ x3 x4 x5, st = [some (SD sh), some (.tup (NL v)), some (.int (tot sh : Nat)), x3, x4, x5]) (fun h' => h' = h) (v := ⟨rangeD 1 ((v.length : Nat) + 1), []⟩) (h1 := h)
    (by simp -implicitDefEqProofs only [evI_range, ev_op, ev_bi, ev_int, ev_var, evs_cons, evs_nil, List.getElem?_cons_zero, List.getElem?_cons_succ, rb_ok, b_len, len_tup, nl_len, op_addI, ro_some, rv]) ⟨rfl, _, _, _, rfl⟩ (fun _ _ _ _ => rfl) ?_ ?_ ?_
  · rintro i x st h' hx ⟨rfl, x3, x4, x5, rfl⟩
    obtain ⟨rfl, hi⟩ := rangeD_get hx
    have hi : i < v.length := by omega
    rw [show (1 : Int) + (i : Nat) = ((i + 1 : Nat) : Int) by omega]
    simp -implicitDefEqProofs only [turnS, asg_nm, rb_ok, List.set_cons_zero, List.set_cons_succ]
    unfold l1_first_unfair firstT
    have cd := fun h => c_debts k w v (i + 1) (by omega) h
    have dl : (debtsL sh v (i + 1)).length = sh.length := by simp [debtsL]
    refine W_find (firstK sh v (i + 1)) (fun _ st h2 => h2 = h' ∧ ∃ x4 x5, st = [some (SD sh), some (.tup (NL v)), some (.int (tot sh : Nat)), some (.int ((i + 1 : Nat))), x4, x5]) (fun h2 => h2 = h') (v := ⟨enumD 0 ((debtsL sh v (i + 1)).map .int), []⟩) (h1 := h')
      (by simp -implicitDefEqProofs only [evI_enum, ev_call, ev_var, evs_cons, evs_nil, List.getElem?_cons_zero, List.getElem?_cons_succ, rb_ok, ms_cons', ms_nil', m_tup, m_int, Ck_call, cd, q_tup, ro_some, dep_tup]) ⟨rfl, _, _, rfl⟩ (fun _ _ _ _ => rfl) ?_ ?_ ?_
    · rintro j x st h2 hx ⟨rfl, x4, x5, rfl⟩
      have hj : j < sh.length := by
        have := (List.getElem?_eq_some_iff.mp hx).1
        rwa [enumD_len', List.length_map, dl] at this
      have ex : x = .tup [.int (j : Nat), .int (debt sh v (i + 1) j)] := by
        have hx : (enumD 0 ((debtsL sh v (i + 1)).map .int))[j]? = some x := hx
        rw [enumD_get, List.getElem?_map] at hx
        unfold debtsL at hx
        rw [List.getElem?_map, List.getElem?_range hj] at hx
        simpa using hx.symm
      subst ex
      have bd := bad_debt sh v (i + 1) j
      unfold firstK
      simp -implicitDefEqProofs only [turnS, asg_tp, asgs_cons, asgs_nil, asg_nm, rb_ok, List.set_cons_zero, List.set_cons_succ]
      by_cases h1 : -(tot sh : Int) < debt sh v (i + 1) j <;> by_cases h2 : debt sh v (i + 1) j < (tot sh : Int) <;> simp only [h1, h2, decide_true, decide_false, Bool.and_self, Bool.and_true, Bool.and_false, Bool.not_true, Bool.not_false] at bd <;> rw [bd] <;>
        simp -implicitDefEqProofs only [ex_ite, evT_not, evT_cons, ev_chain, ev_neg, ev_var, List.getElem?_cons_zero, List.getElem?_cons_succ, rb_ok, op_negI, ro_some, cm_lt, c_lt, h1, h2, decide_true, decide_false, Option.map_some, if_true, Bool.false_eq_true, if_false, t_bl, Bool.not_true, Bool.not_false, ex_ret, ex_nop, ev_tup, evs_cons, evs_nil, ms_cons', ms_nil', m_int, W_ok, and_self] <;> exact ⟨_, .inl rfl, by trivial, _, _, rfl⟩
    · rintro st h2 e ⟨rfl, x4, x5, rfl⟩
      rw [enumD_len', List.length_map, dl] at e
      rw [e]
      exact ⟨_, .inl rfl, rfl, _, _, _, rfl⟩
    · rintro d h2 e rfl
      rw [enumD_len', List.length_map, dl] at e
      rw [e]
      exact ⟨rfl, rfl⟩
  · rintro st h' e ⟨rfl, x3, x4, x5, rfl⟩
    rw [rangeD_len, show ((v.length : Int) + 1 - 1).toNat = v.length by omega] at e
    have : first sh v = .non := by rw [first, e]; rfl
    simp -implicitDefEqProofs only [Kn_nx, ex_ret, ev_non, rb_ok, W_ok, f_first_unfair, fin0, this, and_self]
  · rintro d h' e rfl
    rw [rangeD_len, show ((v.length : Int) + 1 - 1).toNat = v.length by omega] at e
    have : first sh v = d := by rw [first, e]; rfl
    simp -implicitDefEqProofs only [Kn_rt, W_ok, f_first_unfair, fin0, this, and_self]
theorem bad_law {sh : List Nat} (w : WfS sh) (v : List Nat) (t k : Nat) : bad sh v t k = (decide (ct v t k < t * s sh k / tot sh) || decide ((t * s sh k + tot sh - 1) / tot sh < ct v t k)) := by
  have hT := T_pos w
  unfold bad
  have h1 : ct v t k < t * s sh k / tot sh ↔ tot sh * (ct v t k + 1) ≤ t * s sh k := by
    rw [Nat.lt_iff_add_one_le, Nat.le_div_iff_mul_le hT, Nat.mul_comm]
  have h2 : (t * s sh k + tot sh - 1) / tot sh < ct v t k ↔ t * s sh k + tot sh ≤ tot sh * ct v t k := by
    rw [Nat.div_lt_iff_lt_mul hT, Nat.mul_comm (ct v t k)]; omega
  rw [decide_eq_decide.mpr h1, decide_eq_decide.mpr h2]
theorem c_lfirst (k : Nat) {sh : List Nat} (w : WfS sh) (v : List Nat) (hv : v.length ≤ 1200) (hlt : ∀ x ∈ v, x < sh.length) (h : Hm) : callF prog (k + 1) 12 [SD sh, .tup (NL v)] h = .ok (first sh v) h := by
  rw [r__law_first]
  have hT := T_le w
  have hT0 := T_pos w
  have hl := w.len
  refine W.eq (W_run rfl ?_)
  show W (exec (Ck k) b__law_first [some (SD sh), some (.tup (NL v)), none, none, none, none] h) _
  unfold b__law_first
  refine W_seq ?_
  have z := fun h => zeros h sh.length (by omega)
  have sn := fun h => sum_nl h sh
  simp -implicitDefEqProofs only [ex_par2, ev_bi, ev_op, ev_lst, ev_int, ev_var, evs_cons, evs_nil, List.getElem?_cons_zero, rb_ok, b_sum, sn, ro_some, b_len, len_tup, nl_len, ms_cons', ms_nil', m_int, z, m_lst, List.set_cons_zero, List.set_cons_succ, W_ok, Kn_nx]
  refine W_seq ?_
  unfold l2__law_first
  have rv := rangeV2 1 ((v.length : Nat) + 1) (by omega) (by omega) (by omega) (by omega)
  have fm : f__law_first.mode = 1 := rfl
  refine W_find (firstT sh v) (fun i st h' => (Ext h h' ∧ h'[h.length]? = some (.lst (NL (hadL sh.length (v.take i))))) ∧ ∃ x4 x5, st = [some (SD sh), some (.tup (NL v)), some (.int (tot sh : Nat)), some (.ref h.length), x4, x5]) (fun h' => Ext h h') (v := ⟨rangeD 1 ((v.length : Nat) + 1), []⟩) (h1 := h ++ [.lst (NL (List.replicate sh.length 0))])
    (by simp -implicitDefEqProofs only [evI_range, ev_op, ev_bi, ev_int, ev_var, evs_cons, evs_nil, List.getElem?_cons_zero, List.getElem?_cons_succ, rb_ok, b_len, len_tup, nl_len, op_addI, ro_some, rv]) ⟨⟨(Ext.refl h).app _, by rw [List.take_zero, had_nil]; exact at_new h _⟩, _, _, rfl⟩ (fun _ _ _ _ => rfl) ?_ ?_ ?_
  · rintro i x st h' hx ⟨⟨hE, h3⟩, x4, x5, rfl⟩
    obtain ⟨rfl, hi⟩ := rangeD_get hx
    have hi : i < v.length := by omega
    rw [show (1 : Int) + (i : Nat) = ((i + 1 : Nat) : Int) by omega]
    simp -implicitDefEqProofs only [turnS, asg_nm, rb_ok, List.set_cons_zero, List.set_cons_succ]
    have hvi : v.getD i 0 < sh.length := by
      rw [List.getD_eq_getElem?_getD, List.getElem?_eq_getElem hi]; exact hlt _ (List.getElem_mem hi)
    have gv : ∀ h, ixD h (.tup (NL v)) (.int (i : Nat)) = some (.int ((v.getD i 0 : Nat))) := fun h => by rw [ix_tup]; exact nl_at hi
    have o1 : ∀ h, bop h .sub (.int ((i + 1 : Nat))) (.int 1) = some (.int (i : Nat)) := fun h => opN_sub h (i + 1) 1 (by omega)
    refine W_seq (aug1 (k := v.getD i 0) (by simp -implicitDefEqProofs only [ev_var, List.getElem?_cons_zero, List.getElem?_cons_succ]) (by simp -implicitDefEqProofs only [ev_ix, ev_op, ev_int, ev_var, List.getElem?_cons_zero, List.getElem?_cons_succ, rb_ok, o1, ro_some, gv]) h3 (by rw [had_len]; exact hvi) ?_)
    simp -implicitDefEqProofs only [Kn_nx]
    have tk : v.take (i + 1) = v.take i ++ [v.getD i 0] := by
      rw [List.take_add_one, List.getElem?_eq_getElem hi, List.getD_eq_getElem?_getD, List.getElem?_eq_getElem hi]; rfl
    rw [had_get _ hvi, had_set _ hvi, ← tk]
    have hE := hE.set (Nat.le_refl _) (.lst (NL (hadL sh.length (v.take (i + 1)))))
    have h3 := set_self h3 (.lst (NL (hadL sh.length (v.take (i + 1)))))
    generalize h'.set h.length (.lst (NL (hadL sh.length (v.take (i + 1))))) = h1 at *
    unfold l1__law_first firstT
    refine W_find (firstK sh v (i + 1)) (fun _ st h2 => h2 = h1 ∧ ∃ x5, st = [some (SD sh), some (.tup (NL v)), some (.int (tot sh : Nat)), some (.ref h.length), some (.int ((i + 1 : Nat))), x5]) (fun h2 => h2 = h1) (v := ⟨rangeD 0 (sh.length : Nat), []⟩) (h1 := h1)
      (by simp -implicitDefEqProofs only [evI_rangeLen, ev_var, List.getElem?_cons_zero, List.getElem?_cons_succ, rb_ok, q_tup, ro_some, nl_len]) ⟨rfl, _, rfl⟩ (fun _ _ _ _ => rfl) ?_ ?_ ?_
    · rintro j x st h2 hx ⟨rfl, x5, rfl⟩
      obtain ⟨rfl, hj⟩ := rangeD_get hx
      have hj : j < sh.length := by omega
      have g3 := ix_h h3 (i := j) (by rw [had_len]; exact hj)
      rw [had_get _ hj] at g3
      have gs : ∀ h, ixD h (SD sh) (.int (j : Nat)) = some (.int (s sh j : Nat)) := fun h => by rw [ix_tup]; exact nl_at hj
      have bd := bad_law w v (i + 1) j
      have o2 := fun h => opN_mul h (i + 1) (s sh j) (by omega)
      have o3 := fun h => opN_fdiv h ((i + 1) * s sh j) (tot sh) hT0 (by omega)
      have o4 : ∀ h, bop h .sub (.int (((i + 1) * s sh j + tot sh : Nat))) (.int 1) = some (.int (((i + 1) * s sh j + tot sh - 1 : Nat))) := fun h => opN_sub h _ 1 (by omega)
      have o5 := fun h => opN_fdiv h ((i + 1) * s sh j + tot sh - 1) (tot sh) hT0 (by omega)
      have ect : (v.take (i + 1)).count j = ct v (i + 1) j := rfl
      rw [ect] at g3
      unfold firstK
      simp -implicitDefEqProofs only [turnS, asg_nm, rb_ok, List.set_cons_zero, List.set_cons_succ, Int.zero_add]
      by_cases h1 : ct v (i + 1) j < (i + 1) * s sh j / tot sh <;> by_cases h2 : ((i + 1) * s sh j + tot sh - 1) / tot sh < ct v (i + 1) j <;> simp only [h1, h2, decide_true, decide_false, Bool.or_self, Bool.or_true, Bool.true_or] at bd <;> rw [bd] <;>
        simp -implicitDefEqProofs only [ex_ite, evT_or, evT_cmp, ev_op, ev_ix, ev_int, ev_var, List.getElem?_cons_zero, List.getElem?_cons_succ, rb_ok, g3, gs, o2, o3, opN_add, o4, o5, ro_some, cN_lt, cN_gt, h1, h2, decide_true, decide_false, if_true, Bool.false_eq_true, if_false, ex_ret, ex_nop, ev_tup, evs_cons, evs_nil, ms_cons', ms_nil', m_int, W_ok, and_self] <;> exact ⟨_, .inl rfl, by trivial, _, rfl⟩
    · rintro st h2 e ⟨rfl, x5, rfl⟩
      rw [rangeD_len, show ((sh.length : Int) - 0).toNat = sh.length by omega] at e
      rw [e]
      exact ⟨_, .inl rfl, ⟨hE, h3⟩, _, _, rfl⟩
    · rintro d h2 e rfl
      rw [rangeD_len, show ((sh.length : Int) - 0).toNat = sh.length by omega] at e
      rw [e]
      exact ⟨rfl, hE⟩
  · rintro st h' e ⟨⟨hE, _⟩, x4, x5, rfl⟩
    rw [rangeD_len, show ((v.length : Int) + 1 - 1).toNat = v.length by omega] at e
    have : first sh v = .non := by rw [first, e]; rfl
    simp -implicitDefEqProofs only [Kn_nx, ex_ret, ev_non, rb_ok, W_ok, fm, hE.fin, lift_non, ro_some, this, and_self]
  · rintro d h' e hE
    rw [rangeD_len, show ((v.length : Int) + 1 - 1).toNat = v.length by omega] at e
    have : first sh v = d := by rw [first, e]; rfl
    obtain ⟨i, _, e2⟩ := List.exists_of_findSome?_eq_some e
    obtain ⟨j, _, e3⟩ := List.exists_of_findSome?_eq_some e2
    have lf : lift h.length h' d = some d := by
      unfold firstK at e3
      split at e3
      · rw [← Option.some.inj e3]; exact lift_ints h.length h' [_, _]
      · cases e3
    simp -implicitDefEqProofs only [Kn_rt, W_ok, fm, hE.fin, lf, ro_some, this, and_self]
theorem first_non {sh v : List Nat} : decide (first sh v = .non) = fairB sh v := by
  have key : (List.range v.length).findSome? (firstT sh v) = none ↔ fairB sh v = true := by
    unfold fairB
    rw [List.findSome?_eq_none_iff, List.all_eq_true]
    refine forall_congr' fun i => forall_congr' fun _ => ?_
    unfold firstT
    rw [List.findSome?_eq_none_iff, List.all_eq_true]
    refine forall_congr' fun j => forall_congr' fun _ => ?_
    unfold firstK
    cases bad sh v (i + 1) j <;> simp
  cases e : (List.range v.length).findSome? (firstT sh v) with
  | none =>
    have : first sh v = .non := by rw [first, e]; rfl
    rw [this, key.mp e]; simp
  | some d =>
    have e0 : first sh v = d := by rw [first, e]; rfl
    have nf : fairB sh v = false := by
      cases h : fairB sh v with
      | false => rfl
      | true => rw [key.mpr h] at e; cases e
    obtain ⟨i, _, e2⟩ := List.exists_of_findSome?_eq_some e
    obtain ⟨j, _, e3⟩ := List.exists_of_findSome?_eq_some e2
    rw [nf, e0]
    unfold firstK at e3
    split at e3
    · rw [← Option.some.inj e3]; simp
    · cases e3
end Mp.K51

namespace Mp.K51
open PySem PySem.Spec L2
theorem c_isnum (k n : Nat) (d : D) (a b : Int) (h : Hm) (p : pl n d = true) : callF prog (k + 1) 0 [d, .int a, .int b] h = .ok (.bl (isNum d a b)) h := by
  rw [r_is_number]
  cases d with
  | int i =>
    by_cases h1 : a ≤ i <;> by_cases h2 : i ≤ b <;> simp -implicitDefEqProofs [runFn, f_is_number, b_is_number, isiD, isTy, isNum, h1, h2]
  | lst _ => cases n <;> simp [pl] at p
  | ref _ => cases n <;> simp [pl] at p
  | fz _ => cases n <;> simp [pl] at p
  | _ => simp -implicitDefEqProofs [runFn, f_is_number, b_is_number, isiD, isTy, isNum]
/-! ### what are shares -/
def isShares (d : D) : Bool := match d with
  | .tup ds => (decide (1 ≤ (ds.length : Int)) && decide ((ds.length : Int) ≤ 12)) && ds.all fun x => isNum x 1 60
  | _ => false
theorem c_shares (k : Nat) (d : D) (h : Hm) (p : pl 6 d = true) : callF prog (k + 2) 1 [d] h = .ok (.bl (isShares d)) h := by
  rw [r_are_shares]
  refine W.eq (W_run rfl ?_)
  show W (exec (Ck (k + 1)) b_are_shares [some d, none] h) _
  unfold b_are_shares
  refine W_seq ?_
  have ti := fun h => isi_tup p h
  cases ht : isTupD d with
  | false =>
    have e : isShares d = false := by cases d <;> first | rfl | simp [isTupD] at ht
    rw [ht] at ti
    simp -implicitDefEqProofs only [ex_ite, evT_or, evT_not, evT_cons, ev_isi, ev_var, List.getElem?_cons_zero, rb_ok, ti, ro_some, t_bl, Bool.not_false, if_true, ex_ret, ev_bl, W_ok, Kn_rt, f_are_shares, fin0, e, and_self]
  | true =>
    rw [ht] at ti
    cases d with
    | tup ds =>
      have pr : pls 5 ds = true := by simpa only [pl] using p
      have ec : ∀ h, ev (Ck (k + 1)) c1_are_shares [some (.tup ds), none] h = .ok (.lst ((ds.map fun x => isNum x 1 60).map .bl)) h := fun h => by
        unfold c1_are_shares
        have := ev_comp_map (C := Ck (k + 1)) (elt := .call 0 (.cons (.var 1) (.cons (.int 1) (.cons (.cst 1) .nil)))) (tg := .nm 1) (it := .cons (.var 0) .nil) (cs := .nil) (own := [1]) (s := [some (.tup ds), none]) (h := h) (h1 := h) (enc := id) (dec := D.bl) (fun x => isNum x 1 60) (xs := ds) (deps := []) (by simp -implicitDefEqProofs only [evI_cons, ev_var, List.getElem?_cons_zero, rb_ok, ro_some, q_tup, dep_tup, List.map_id_fun, id]) rfl fun x hx => by
          have px := pls_mem pr hx
          have mx := fun h => mat1_pl px h
          have cx := fun h => c_isnum k 5 x 1 60 h px
          simp -implicitDefEqProofs only [turnE, wipeS, id, asg_nm, List.set_cons_zero, List.set_cons_succ, evC_nil, if_true, ev_call, ev_int, ev_cst, Ck_cst, ev_var, evs_cons, evs_nil, List.getElem?_cons_zero, List.getElem?_cons_succ, rb_ok, ro_some, ms_cons', ms_nil', mx, m_int, Ck_call, cx, m_bl]
        exact this
      have ea : (ds.map fun x => isNum x 1 60).all id = ds.all fun x => isNum x 1 60 := by rw [List.all_map]; rfl
      have e : isShares (.tup ds) = ((decide (1 ≤ (ds.length : Int)) && decide ((ds.length : Int) ≤ 12)) && ds.all fun x => isNum x 1 60) := rfl
      rw [e]
      by_cases h1 : 1 ≤ (ds.length : Int) <;> by_cases h2 : (ds.length : Int) ≤ 12 <;> simp -implicitDefEqProofs only [ex_ite, evT_or, evT_not, evT_cons, ev_isi, ev_chain, ev_bi, ev_int, ev_cst, Ck_cst, ev_var, evs_cons, evs_nil, List.getElem?_cons_zero, rb_ok, ti, ro_some, t_bl, Bool.not_true, Bool.not_false, Bool.false_eq_true, if_false, if_true, b_len, len_tup, cm_le, c_le, h1, h2, decide_true, decide_false, Option.map_some, ex_ret, ex_nop, ev_bl, W_ok, Kn_rt, Kn_nx, ec, b_all, all_b, ea, f_are_shares, fin0, Bool.and_self, Bool.and_true, Bool.true_and, Bool.and_false, Bool.false_and, and_self]
    | _ => simp [isTupD] at ht
/-! ### what is fair -/
def isFair (sh : List Nat) (d : D) : Bool := match d with
  | .tup ds => decide (ds.length = tot sh) && (ds.all (fun x => isNum x 0 ((sh.length : Int) - 1)) && fairB sh (nats ds))
  | _ => false
theorem fair_nl {sh v : List Nat} (hv : Vl sh v) : isFair sh (.tup (NL v)) = fairB sh v := by
  have h1 : (NL v).length = tot sh := by rw [nl_len]; exact hv.len
  have h2 : (NL v).all (fun x => isNum x 0 ((sh.length : Int) - 1)) = true := by
    rw [List.all_eq_true]
    intro x hx
    obtain ⟨y, hy, rfl⟩ := List.mem_map.mp hx
    have := hv.lt y hy
    simp only [isNum, Bool.and_eq_true, decide_eq_true_eq]; omega
  simp only [isFair, h1, h2, nats_nl, decide_true, Bool.true_and]
theorem vl_of {sh : List Nat} {ds : List D} (h1 : ds.length = tot sh) (h2 : ds.all (fun x => isNum x 0 ((sh.length : Int) - 1)) = true) : Vl sh (nats ds) ∧ ds = NL (nats ds) := by
  obtain ⟨e, hb⟩ := nats_all ds h2
  refine ⟨⟨?_, fun x hx => ?_⟩, e⟩
  · have := congrArg List.length e
    rw [nl_len] at this; omega
  · have := hb x hx
    omega
def winG (sh v : List Nat) (t : Nat) : Option D := if winB sh v t = true then none else some (.bl false)
theorem winG_all {sh v : List Nat} : (List.range v.length).findSome? (winG sh v) = if winsB sh v = true then none else some (.bl false) := by
  unfold winsB
  generalize List.range v.length = l
  induction l with
  | nil => rfl
  | cons x l ih =>
    rw [List.findSome?_cons, List.all_cons, ih]
    unfold winG
    cases winB sh v x <;> simp
theorem c_isfair (k : Nat) {sh : List Nat} (w : WfS sh) (d : D) (h : Hm) (p : pl 6 d = true) : callF prog (k + 2) 4 [SD sh, d] h = .ok (.bl (isFair sh d)) h := by
  rw [r_are_fair]
  have hT := T_le w
  have hT0 := T_pos w
  have hl := w.len
  have fm : f_are_fair.mode = 1 := rfl
  refine W.eq (W_run rfl ?_)
  show W (exec (Ck (k + 1)) b_are_fair [some (SD sh), some d, none, none, none, none, none, none] h) _
  unfold b_are_fair
  refine W_seq ?_
  have z := fun h => zeros h sh.length (by omega)
  have sn := fun h => sum_nl h sh
  simp -implicitDefEqProofs only [ex_par2, ev_bi, ev_op, ev_lst, ev_int, ev_var, evs_cons, evs_nil, List.getElem?_cons_zero, rb_ok, b_sum, sn, ro_some, b_len, len_tup, nl_len, ms_cons', ms_nil', m_int, z, m_lst, List.set_cons_zero, List.set_cons_succ, W_ok, Kn_nx]
  have hE : Ext h (h ++ [.lst (NL (List.replicate sh.length 0))]) := (Ext.refl h).app _
  have h3 : (h ++ [.lst (NL (List.replicate sh.length 0))])[h.length]? = some (.lst (NL (hadL sh.length []))) := by rw [had_nil]; exact at_new h _
  generalize h ++ [O.lst (NL (List.replicate sh.length 0))] = h0 at *
  refine W_seq ?_
  have ti := fun h => isi_tup p h
  cases ht : isTupD d with
  | false =>
    have e : isFair sh d = false := by cases d <;> first | rfl | simp [isTupD] at ht
    rw [ht] at ti
    simp -implicitDefEqProofs only [ex_ite, evT_or, evT_not, evT_cons, ev_isi, ev_var, List.getElem?_cons_zero, List.getElem?_cons_succ, rb_ok, ti, ro_some, t_bl, Bool.not_false, if_true, ex_ret, ev_bl, W_ok, Kn_rt, fm, hE.fin, lift_bl, e, and_self]
  | true =>
    rw [ht] at ti
    cases d with
    | tup ds =>
      have pr : pls 5 ds = true := by simpa only [pl] using p
      by_cases h2 : ds.length = tot sh
      · have ne : (!decide (ds.length = tot sh)) = false := by simp [h2]
        simp -implicitDefEqProofs only [ex_ite, evT_or, evT_not, evT_cons, evT_cmp, ev_isi, ev_bi, evs_cons, evs_nil, ev_var, List.getElem?_cons_zero, List.getElem?_cons_succ, rb_ok, ti, ro_some, t_bl, Bool.not_true, Bool.false_eq_true, if_false, b_len, len_tup, cN_ne, ne, ex_nop, W_ok, Kn_nx]
        refine W_seq ?_
        have ec : ∀ x3 h, ev (Ck (k + 1)) c1_are_fair [some (SD sh), some (.tup ds), some (.int (tot sh : Nat)), x3, none, none, none, none] h = .ok (.lst ((ds.map fun x => isNum x 0 ((sh.length : Int) - 1)).map .bl)) h := fun x3 h => by
          unfold c1_are_fair
          have := ev_comp_map (C := Ck (k + 1)) (elt := .call 0 (.cons (.var 5) (.cons (.int 0) (.cons (.op .sub (.bi .len (.cons (.var 0) .nil)) (.int 1)) .nil)))) (tg := .nm 5) (it := .cons (.var 1) .nil) (cs := .nil) (own := [5]) (s := [some (SD sh), some (.tup ds), some (.int (tot sh : Nat)), x3, none, none, none, none]) (h := h) (h1 := h) (enc := id) (dec := D.bl) (fun x => isNum x 0 ((sh.length : Int) - 1)) (xs := ds) (deps := []) (by simp -implicitDefEqProofs only [evI_cons, ev_var, List.getElem?_cons_zero, List.getElem?_cons_succ, rb_ok, ro_some, q_tup, dep_tup, List.map_id_fun, id]) rfl fun x hx => by
            have px := pls_mem pr hx
            have mx := fun h => mat1_pl px h
            have cx := fun h => c_isnum k 5 x 0 ((sh.length : Int) - 1) h px
            simp -implicitDefEqProofs only [turnE, wipeS, id, asg_nm, List.set_cons_zero, List.set_cons_succ, evC_nil, if_true, ev_call, ev_op, ev_bi, ev_int, ev_var, evs_cons, evs_nil, List.getElem?_cons_zero, List.getElem?_cons_succ, rb_ok, b_len, len_tup, nl_len, op_subI, ro_some, ms_cons', ms_nil', mx, m_int, Ck_call, cx, m_bl]
          exact this
        have ea : (ds.map fun x => isNum x 0 ((sh.length : Int) - 1)).all id = ds.all fun x => isNum x 0 ((sh.length : Int) - 1) := by rw [List.all_map]; rfl
        cases hA : ds.all fun x => isNum x 0 ((sh.length : Int) - 1) with
        | false =>
          have e : isFair sh (.tup ds) = false := by simp only [isFair, hA, Bool.false_and, Bool.and_false]
          rw [hA] at ea
          simp -implicitDefEqProofs only [ex_ite, evT_not, evT_cons, ev_bi, evs_cons, evs_nil, ec, rb_ok, b_all, all_b, ea, ro_some, t_bl, Bool.not_false, if_true, ex_ret, ev_bl, W_ok, Kn_rt, fm, hE.fin, lift_bl, e, and_self]
        | true =>
          rw [hA] at ea
          simp -implicitDefEqProofs only [ex_ite, evT_not, evT_cons, ev_bi, evs_cons, evs_nil, ec, rb_ok, b_all, all_b, ea, ro_some, t_bl, Bool.not_true, Bool.false_eq_true, if_false, ex_nop, W_ok, Kn_nx]
          clear ec ea
          obtain ⟨hv, ed⟩ := vl_of h2 hA
          have e : isFair sh (.tup ds) = fairB sh (nats ds) := by simp only [isFair, hA, decide_eq_true h2, Bool.true_and]
          rw [e, fair_wins w hv]
          generalize nats ds = v at *
          subst ed
          clear e pr ti ht p hA
          have hvl := hv.len
          refine W_seq ?_
          unfold l1_are_fair
          refine W_find (winG sh v) (fun i st h' => (Ext h h' ∧ h'[h.length]? = some (.lst (NL (hadL sh.length (v.take i))))) ∧ ∃ x4 x5 x6 x7, st = [some (SD sh), some (.tup (NL v)), some (.int (tot sh : Nat)), some (.ref h.length), x4, x5, x6, x7]) (fun h' => Ext h h') (v := ⟨enumD 0 (NL v), []⟩) (h1 := h0)
            (by simp -implicitDefEqProofs only [evI_enum, ev_var, List.getElem?_cons_zero, List.getElem?_cons_succ, rb_ok, q_tup, ro_some, dep_tup]) ⟨⟨hE, by rw [List.take_zero]; exact h3⟩, _, _, _, _, rfl⟩ (fun _ _ _ _ => rfl) ?_ ?_ ?_
          · clear hE h3
            rintro i x st h' hx ⟨⟨hE, h3⟩, x4, x5, x6, x7, rfl⟩
            obtain ⟨rfl, hi⟩ := nl_enum hx
            have hk : v.getD i 0 < sh.length := v_lt w hv hi
            have tk : v.take (i + 1) = v.take i ++ [v.getD i 0] := by
              rw [List.take_add_one, List.getElem?_eq_getElem hi, List.getD_eq_getElem?_getD, List.getElem?_eq_getElem hi]; rfl
            have wb : winB sh v i = (decide (ct v i (v.getD i 0) < s sh (v.getD i 0)) && (decide (stO sh (ct v i (v.getD i 0)) (v.getD i 0) ≤ i) && decide (i < enO sh (ct v i (v.getD i 0)) (v.getD i 0)))) := rfl
            have cs := ct_succ hi (v.getD i 0)
            rw [if_pos rfl] at cs
            have cle : ct v i (v.getD i 0) ≤ 360 := by
              have : (v.take i).count (v.getD i 0) ≤ (v.take i).length := List.count_le_length
              rw [List.length_take] at this
              unfold ct; omega
            unfold winG
            simp -implicitDefEqProofs only [turnS, asg_tp, asgs_cons, asgs_nil, asg_nm, rb_ok, List.set_cons_zero, List.set_cons_succ]
            generalize v.getD i 0 = j at *
            refine W_seq (aug1 (k := j) (by simp -implicitDefEqProofs only [ev_var, List.getElem?_cons_zero, List.getElem?_cons_succ]) (by simp -implicitDefEqProofs only [ev_var, List.getElem?_cons_zero, List.getElem?_cons_succ]) h3 (by rw [had_len]; exact hk) ?_)
            simp -implicitDefEqProofs only [Kn_nx]
            rw [had_get _ hk, had_set _ hk, ← tk]
            have hE := hE.set (Nat.le_refl _) (.lst (NL (hadL sh.length (v.take (i + 1)))))
            have h3 := set_self h3 (.lst (NL (hadL sh.length (v.take (i + 1)))))
            generalize h'.set h.length (.lst (NL (hadL sh.length (v.take (i + 1))))) = h1 at *
            have g3 := ix_h h3 (i := j) (by rw [had_len]; exact hk)
            rw [had_get _ hk] at g3
            have ect : (v.take (i + 1)).count j = ct v i j + 1 := cs
            rw [ect] at g3
            have gs : ∀ h, ixD h (SD sh) (.int (j : Nat)) = some (.int (s sh j : Nat)) := fun h => by rw [ix_tup]; exact nl_at hk
            have cw := fun h => c_win k sh j (ct v i j) (w.bd j hk).1 (w.bd j hk).2 hT (by omega) h
            refine W_seq ?_
            simp -implicitDefEqProofs only [ex_set, ev_call, ev_ix, ev_var, evs_cons, evs_nil, List.getElem?_cons_zero, List.getElem?_cons_succ, rb_ok, gs, g3, ro_some, ms_cons', ms_nil', m_int, Ck_call, cw, m_tup, asg_tp, asgs_cons, asgs_nil, asg_nm, List.set_cons_zero, List.set_cons_succ, W_ok, Kn_nx]
            by_cases c1 : ct v i j < s sh j
            · have c1' : ¬ s sh j < ct v i j + 1 := by omega
              have cp1 : copM h1 .le (.int (stO sh (ct v i j) j : Nat)) (.int (i : Nat)) = some (decide (stO sh (ct v i j) j ≤ i)) := by
                rw [cm_le]; congr 1; exact decide_eq_decide.mpr (by omega)
              by_cases c2 : stO sh (ct v i j) j ≤ i
              · by_cases c3 : i < enO sh (ct v i j) j
                · rw [wb, decide_eq_true c1, decide_eq_true c2, decide_eq_true c3]
                  simp -implicitDefEqProofs only [ex_ite, evT_or, evT_not, evT_cons, evT_cmp, ev_chain, ev_ix, ev_var, List.getElem?_cons_zero, List.getElem?_cons_succ, rb_ok, g3, gs, ro_some, cN_gt, c1', decide_false, Bool.false_eq_true, if_false, cp1, c2, c3, decide_true, if_true, cN_lt, Option.map_some, t_bl, Bool.not_true, ex_nop, W_ok, Bool.and_self]
                  exact ⟨_, .inl rfl, ⟨hE, h3⟩, _, _, _, _, rfl⟩
                · rw [wb, decide_eq_true c1, decide_eq_true c2, decide_eq_false c3]
                  simp -implicitDefEqProofs only [ex_ite, evT_or, evT_not, evT_cons, evT_cmp, ev_chain, ev_ix, ev_var, List.getElem?_cons_zero, List.getElem?_cons_succ, rb_ok, g3, gs, ro_some, cN_gt, c1', decide_false, Bool.false_eq_true, if_false, cp1, c2, c3, decide_true, if_true, cN_lt, Option.map_some, t_bl, Bool.not_false, ex_ret, ev_bl, W_ok, Bool.and_false, hE, and_self]
              · rw [wb, decide_eq_true c1, decide_eq_false c2]
                simp -implicitDefEqProofs only [ex_ite, evT_or, evT_not, evT_cons, evT_cmp, ev_chain, ev_ix, ev_var, List.getElem?_cons_zero, List.getElem?_cons_succ, rb_ok, g3, gs, ro_some, cN_gt, c1', decide_false, Bool.false_eq_true, if_false, cp1, c2, if_true, t_bl, Bool.not_false, ex_ret, ev_bl, W_ok, Bool.and_false, Bool.false_and, hE, and_self]
            · have c1' : s sh j < ct v i j + 1 := by omega
              rw [wb, decide_eq_false c1]
              simp -implicitDefEqProofs only [ex_ite, evT_or, evT_cmp, ev_ix, ev_var, List.getElem?_cons_zero, List.getElem?_cons_succ, rb_ok, g3, gs, ro_some, cN_gt, c1', decide_true, if_true, ex_ret, ev_bl, W_ok, Bool.false_and, Bool.false_eq_true, if_false, hE, and_self]
          · rintro st h' e ⟨⟨hE, _⟩, x4, x5, x6, x7, rfl⟩
            rw [enumD_len', nl_len, winG_all] at e
            have ew : winsB sh v = true := by
              cases hw : winsB sh v with
              | true => rfl
              | false => rw [hw] at e; simp at e
            simp -implicitDefEqProofs only [Kn_nx, ex_ret, ev_bl, rb_ok, W_ok, fm, hE.fin, lift_bl, ro_some, ew, and_self]
          · rintro d h' e hE
            rw [enumD_len', nl_len, winG_all] at e
            cases hw : winsB sh v with
            | true => rw [hw] at e; simp at e
            | false =>
              rw [hw] at e
              simp only [Bool.false_eq_true, if_false, Option.some.injEq] at e
              subst e
              simp -implicitDefEqProofs only [Kn_rt, W_ok, fm, hE.fin, lift_bl, ro_some, and_self]
      · have e : isFair sh (.tup ds) = false := by simp only [isFair, decide_eq_false h2, Bool.false_and]
        have ne : (!decide (ds.length = tot sh)) = true := by simp [h2]
        simp -implicitDefEqProofs only [ex_ite, evT_or, evT_not, evT_cons, evT_cmp, ev_isi, ev_bi, evs_cons, evs_nil, ev_var, List.getElem?_cons_zero, List.getElem?_cons_succ, rb_ok, ti, ro_some, t_bl, Bool.not_true, Bool.false_eq_true, if_false, b_len, len_tup, cN_ne, ne, if_true, ex_ret, ev_bl, W_ok, Kn_rt, fm, hE.fin, lift_bl, e, and_self]
    | _ => simp [isTupD] at ht
end Mp.K51

namespace Mp.K51
open PySem PySem.Spec L2
theorem lnum {n : Nat} (k : Nat) (sh : List Nat) (x : D) (p : pl n x = true) (x1 : Option D) (h : Hm) : ev (Ck k) (.and (.isi (.var 2) [.int]) (.and (.not (.isi (.var 2) [.bool])) (.and (.cmp .le (.int 0) (.var 2)) (.cmp .lt (.var 2) (.bi .len (.cons (.var 0) .nil)))))) [some (SD sh), x1, some x] h = .ok (.bl (isNum x 0 ((sh.length : Int) - 1))) h := by
  cases x with
  | int i =>
    have e : decide (i < (sh.length : Int)) = decide (i ≤ (sh.length : Int) - 1) := decide_eq_decide.mpr (by omega)
    by_cases h1 : 0 ≤ i <;> by_cases h2 : i ≤ (sh.length : Int) - 1 <;> simp -implicitDefEqProofs only [ev_and, ev_not, ev_isi, ev_cmp, ev_bi, ev_int, ev_var, evs_cons, evs_nil, List.getElem?_cons_zero, List.getElem?_cons_succ, rb_ok, isiD, isTy, List.any_cons, List.any_nil, Bool.or_false, ro_some, t_bl, if_true, Bool.not_false, b_len, len_tup, nl_len, c_le, c_lt, e, h1, h2, decide_true, decide_false, Bool.false_eq_true, if_false, Option.map_some, isNum, Bool.and_self, Bool.and_true, Bool.and_false, Bool.false_and, Bool.true_and]
  | lst _ => cases n <;> simp [pl] at p
  | ref _ => cases n <;> simp [pl] at p
  | fz _ => cases n <;> simp [pl] at p
  | _ => simp -implicitDefEqProofs [isiD, isTy, isNum]
theorem c_lisfair (k : Nat) {sh : List Nat} (w : WfS sh) (d : D) (h : Hm) (p : pl 6 d = true) : callF prog (k + 2) 13 [SD sh, d] h = .ok (.bl (isFair sh d)) h := by
  rw [r__law_is_fair]
  have hT := T_le w
  have sn := fun h => sum_nl h sh
  refine W.eq (W_run rfl ?_)
  show W (exec (Ck (k + 1)) b__law_is_fair [some (SD sh), some d, none] h) _
  unfold b__law_is_fair
  refine W_seq ?_
  have ti := fun h => isi_tup p h
  cases ht : isTupD d with
  | false =>
    have e : isFair sh d = false := by cases d <;> first | rfl | simp [isTupD] at ht
    rw [ht] at ti
    simp -implicitDefEqProofs only [ex_ite, evT_or, evT_not, evT_cons, ev_isi, ev_var, List.getElem?_cons_zero, List.getElem?_cons_succ, rb_ok, ti, ro_some, t_bl, Bool.not_false, if_true, ex_ret, ev_bl, W_ok, Kn_rt, f__law_is_fair, fin0, e, and_self]
  | true =>
    rw [ht] at ti
    cases d with
    | tup ds =>
      have pr : pls 5 ds = true := by simpa only [pl] using p
      by_cases h2 : ds.length = tot sh
      · have ne : (!decide (ds.length = tot sh)) = false := by simp [h2]
        have ec : ∀ h, ev (Ck (k + 1)) c1__law_is_fair [some (SD sh), some (.tup ds), none] h = .ok (.lst ((ds.map fun x => isNum x 0 ((sh.length : Int) - 1)).map .bl)) h := fun h => by
          unfold c1__law_is_fair
          have := ev_comp_map (C := Ck (k + 1)) (elt := .and (.isi (.var 2) [.int]) (.and (.not (.isi (.var 2) [.bool])) (.and (.cmp .le (.int 0) (.var 2)) (.cmp .lt (.var 2) (.bi .len (.cons (.var 0) .nil)))))) (tg := .nm 2) (it := .cons (.var 1) .nil) (cs := .nil) (own := [2]) (s := [some (SD sh), some (.tup ds), none]) (h := h) (h1 := h) (enc := id) (dec := D.bl) (fun x => isNum x 0 ((sh.length : Int) - 1)) (xs := ds) (deps := []) (by simp -implicitDefEqProofs only [evI_cons, ev_var, List.getElem?_cons_zero, List.getElem?_cons_succ, rb_ok, ro_some, q_tup, dep_tup, List.map_id_fun, id]) rfl fun x hx => by
            have ln := fun h => lnum (k + 1) sh x (pls_mem pr hx) (some (.tup ds)) h
            simp -implicitDefEqProofs only [turnE, wipeS, id, asg_nm, List.set_cons_zero, List.set_cons_succ, evC_nil, if_true, rb_ok, ln, m_bl]
          exact this
        have ea : (ds.map fun x => isNum x 0 ((sh.length : Int) - 1)).all id = ds.all fun x => isNum x 0 ((sh.length : Int) - 1) := by rw [List.all_map]; rfl
        cases hA : ds.all fun x => isNum x 0 ((sh.length : Int) - 1) with
        | false =>
          have e : isFair sh (.tup ds) = false := by simp only [isFair, hA, Bool.false_and, Bool.and_false]
          rw [hA] at ea
          simp -implicitDefEqProofs only [ex_ite, evT_or, evT_not, evT_cons, evT_cmp, ev_isi, ev_bi, evs_cons, evs_nil, ev_var, List.getElem?_cons_zero, List.getElem?_cons_succ, ti, b_len, len_tup, b_sum, sn, cN_ne, ne, ec, rb_ok, b_all, all_b, ea, ro_some, t_bl, Bool.not_true, Bool.not_false, Bool.false_eq_true, if_false, if_true, ex_ret, ev_bl, W_ok, Kn_rt, f__law_is_fair, fin0, e, and_self]
        | true =>
          rw [hA] at ea
          obtain ⟨hv, ed⟩ := vl_of h2 hA
          have e : isFair sh (.tup ds) = fairB sh (nats ds) := by simp only [isFair, hA, decide_eq_true h2, Bool.true_and]
          have cf : ∀ h, callF prog (k + 1) 12 [SD sh, .tup ds] h = .ok (first sh (nats ds)) h := fun h => by
            have := c_lfirst k w (nats ds) (by rw [hv.len]; omega) hv.lt h
            rwa [← ed] at this
          have fn := first_non (sh := sh) (v := nats ds)
          simp -implicitDefEqProofs only [ex_ite, evT_or, evT_not, evT_cons, evT_cmp, ev_isi, ev_bi, evs_cons, evs_nil, ev_var, List.getElem?_cons_zero, List.getElem?_cons_succ, ti, b_len, len_tup, b_sum, sn, cN_ne, ne, ec, rb_ok, b_all, all_b, ea, ro_some, t_bl, Bool.not_true, Bool.false_eq_true, if_false, ex_nop, W_ok, Kn_nx, ex_ret, ev_cmp, ev_call, ev_non, ms_cons', ms_nil', m_tup, Ck_call, cf, c_isN, fn, Option.map_some, f__law_is_fair, fin0, e, and_self]
      · have e : isFair sh (.tup ds) = false := by simp only [isFair, decide_eq_false h2, Bool.false_and]
        have ne : (!decide (ds.length = tot sh)) = true := by simp [h2]
        simp -implicitDefEqProofs only [ex_ite, evT_or, evT_not, evT_cons, evT_cmp, ev_isi, ev_bi, evs_cons, evs_nil, ev_var, List.getElem?_cons_zero, List.getElem?_cons_succ, rb_ok, ti, ro_some, t_bl, Bool.not_true, Bool.false_eq_true, if_false, b_len, len_tup, b_sum, sn, cN_ne, ne, if_true, ex_ret, ev_bl, W_ok, Kn_rt, f__law_is_fair, fin0, e, and_self]
    | _ => simp [isTupD] at ht
/-! ### the law's windows -/
def spots (v : List Nat) (m k : Nat) : List Nat := (List.range m).filter fun t => decide (v.getD t 0 = k)
theorem spots_succ (v : List Nat) (m k : Nat) : spots v (m + 1) k = spots v m k ++ if v.getD m 0 = k then [m] else [] := by
  unfold spots
  rw [List.range_succ, List.filter_append]
  congr 1
  by_cases h : v.getD m 0 = k <;> simp [h, -List.getD_eq_getElem?_getD]
theorem spots_len {v : List Nat} (k : Nat) : ∀ m, m ≤ v.length → (spots v m k).length = ct v m k
  | 0, _ => by simp [spots, ct]
  | m + 1, h => by
    rw [spots_succ, ct_succ (by omega), List.length_append, spots_len k m (by omega)]
    by_cases e : v.getD m 0 = k <;> simp [e, -List.getD_eq_getElem?_getD]
theorem spots_pre (v : List Nat) (k : Nat) {m l : Nat} (h : m ≤ l) : ∃ r, spots v l k = spots v m k ++ r := by
  induction l with
  | zero => have : m = 0 := by omega
            subst this; exact ⟨[], by simp⟩
  | succ l ih =>
    by_cases e : m = l + 1
    · subst e; exact ⟨[], by simp⟩
    · obtain ⟨r, hr⟩ := ih (by omega)
      rw [spots_succ, hr, List.append_assoc]
      exact ⟨_, rfl⟩
theorem spots_at {v : List Nat} {t : Nat} (h : t < v.length) : (spots v v.length (v.getD t 0))[ct v t (v.getD t 0)]? = some t := by
  obtain ⟨r, hr⟩ := spots_pre v (v.getD t 0) (show t + 1 ≤ v.length by omega)
  rw [hr, spots_succ, if_pos rfl, ← spots_len _ t (by omega), List.append_assoc, List.getElem?_append_right (Nat.le_refl _), Nat.sub_self]; rfl
theorem spots_get {v : List Nat} {k i t : Nat} (h : (spots v v.length k)[i]? = some t) : t < v.length ∧ v.getD t 0 = k ∧ i = ct v t k := by
  have hm := List.mem_of_getElem? h
  unfold spots at hm
  rw [List.mem_filter, List.mem_range, decide_eq_true_eq] at hm
  obtain ⟨h1, h2⟩ := hm
  refine ⟨h1, h2, ?_⟩
  have hu : (spots v v.length k).Pairwise (· < ·) := List.Pairwise.filter _ List.pairwise_lt_range
  have h3 := spots_at h1
  rw [h2] at h3
  rw [List.pairwise_iff_getElem] at hu
  obtain ⟨a1, a2⟩ := List.getElem?_eq_some_iff.mp h
  obtain ⟨b1, b2⟩ := List.getElem?_eq_some_iff.mp h3
  by_cases c1 : i < ct v t k
  · have := hu _ _ a1 b1 c1; omega
  · by_cases c2 : ct v t k < i
    · have := hu _ _ b1 a1 c2; omega
    · omega
def inW (sh v : List Nat) (k i : Nat) : Bool := decide (stO sh i k ≤ (spots v v.length k).getD i 0) && decide ((spots v v.length k).getD i 0 < enO sh i k)
def inG (sh v : List Nat) (k i : Nat) : Option D := if inW sh v k i = true then none else some (.bl false)
def kG (sh v : List Nat) (k : Nat) : Option D := if (spots v v.length k).length = s sh k then (List.range (spots v v.length k).length).findSome? (inG sh v k) else some (.bl false)
theorem kG_some {sh v : List Nat} {k : Nat} {d : D} (h : kG sh v k = some d) : d = .bl false := by
  unfold kG at h
  split at h
  · obtain ⟨i, _, e⟩ := List.exists_of_findSome?_eq_some h
    unfold inG at e
    split at e
    · cases e
    · cases e; rfl
  · cases h; rfl
theorem kG_all {sh v : List Nat} (w : WfS sh) (hv : Vl sh v) : (List.range sh.length).findSome? (kG sh v) = none ↔ winsB sh v = true := by
  rw [List.findSome?_eq_none_iff]
  have sl : ∀ k, (spots v v.length k).length = v.count k := fun k => by rw [spots_len k _ (Nat.le_refl _), ct_end w hv]
  constructor
  · intro h
    refine (wins_all w hv).mpr fun t ht => ?_
    have hk := v_lt w hv ht
    have h1 := h _ (List.mem_range.mpr hk)
    have sa := spots_at ht
    generalize hj : v.getD t 0 = j at *
    unfold kG at h1
    split at h1
    · rename_i hc
      obtain ⟨hi, _⟩ := List.getElem?_eq_some_iff.mp sa
      have h2 := List.findSome?_eq_none_iff.mp h1 _ (List.mem_range.mpr hi)
      unfold inG at h2
      split at h2
      · rename_i h3
        unfold inW at h3
        rw [List.getD_eq_getElem?_getD, sa] at h3
        unfold winB
        rw [hj, Bool.and_eq_true, decide_eq_true_eq]
        exact ⟨by omega, h3⟩
      · cases h2
    · cases h1
  · intro h k hk
    have hk := List.mem_range.mp hk
    have hc := cts w hv h hk
    unfold kG
    rw [if_pos (by rw [sl]; exact hc), List.findSome?_eq_none_iff]
    intro i hi
    have hi := List.mem_range.mp hi
    obtain ⟨h1, h2, h3⟩ := spots_get (List.getElem?_eq_getElem hi)
    have wb := (wins_all w hv).mp h _ h1
    unfold winB at wb
    rw [h2, ← h3, Bool.and_eq_true] at wb
    unfold inG inW
    rw [List.getD_eq_getElem?_getD, List.getElem?_eq_getElem hi]
    exact if_pos wb.2
theorem c_wins (k : Nat) {sh v : List Nat} (w : WfS sh) (hv : Vl sh v) (h : Hm) : callF prog (k + 1) 14 [SD sh, .tup (NL v)] h = .ok (.bl (winsB sh v)) h := by
  rw [r__law_in_windows]
  have hT := T_le w
  have hT0 := T_pos w
  have hl := w.len
  have hvl := hv.len
  have fm : f__law_in_windows.mode = 1 := rfl
  have sn := fun h => sum_nl h sh
  refine W.eq (W_run rfl ?_)
  show W (exec (Ck k) b__law_in_windows [some (SD sh), some (.tup (NL v)), none, none, none, none, none] h) _
  unfold b__law_in_windows
  refine W_seq ?_
  simp -implicitDefEqProofs only [ex_set, ev_bi, ev_var, evs_cons, evs_nil, List.getElem?_cons_zero, rb_ok, b_sum, sn, ro_some, m_int, asg_nm, List.set_cons_zero, List.set_cons_succ, W_ok, Kn_nx]
  refine W_seq ?_
  unfold l2__law_in_windows
  refine W_find (kG sh v) (fun _ st h' => Ext h h' ∧ ∃ x3 x4 x5 x6, st = [some (SD sh), some (.tup (NL v)), some (.int (tot sh : Nat)), x3, x4, x5, x6]) (fun h' => Ext h h') (v := ⟨rangeD 0 (sh.length : Nat), []⟩) (h1 := h)
    (by simp -implicitDefEqProofs only [evI_rangeLen, ev_var, List.getElem?_cons_zero, List.getElem?_cons_succ, rb_ok, q_tup, ro_some, nl_len]) ⟨Ext.refl h, _, _, _, _, rfl⟩ (fun _ _ _ _ => rfl) ?_ ?_ ?_
  · rintro j x st h' hx ⟨hE, x3, x4, x5, x6, rfl⟩
    obtain ⟨rfl, hj⟩ := rangeD_get hx
    have hj : j < sh.length := by omega
    have gs : ∀ h, ixD h (SD sh) (.int (j : Nat)) = some (.int (s sh j : Nat)) := fun h => by rw [ix_tup]; exact nl_at hj
    have hs := (w.bd j hj).1
    have hs2 := (w.bd j hj).2
    have ec : ∀ x4 x5 h, ev (Ck k) c1__law_in_windows [some (SD sh), some (.tup (NL v)), some (.int (tot sh : Nat)), some (.int (j : Nat)), x4, x5, x6] h = .ok (.lst (NL (spots v v.length j))) h := fun x4 x5 h => by
      unfold c1__law_in_windows spots
      have := ev_comp_filter (C := Ck k) (elt := .var 6) (tg := .nm 6) (it := .rangeLen (.var 1)) (cs := .cons (.cmp .eq (.ix (.var 1) (.var 6)) (.var 3)) .nil) (own := [6]) (s := [some (SD sh), some (.tup (NL v)), some (.int (tot sh : Nat)), some (.int (j : Nat)), x4, x5, x6]) (h := h) (h1 := h) (enc := fun b : Nat => D.int (b : Nat)) (dec := fun b : Nat => D.int (b : Nat)) (fun t => if decide (v.getD t 0 = j) = true then some t else none) (xs := List.range v.length) (deps := []) (by simp -implicitDefEqProofs only [evI_rangeLen, ev_var, List.getElem?_cons_zero, List.getElem?_cons_succ, rb_ok, q_tup, ro_some, nl_len, rangeD_nat]) rfl fun t ht => by
        have ht := List.mem_range.mp ht
        have gv : ∀ h, ixD h (.tup (NL v)) (.int (t : Nat)) = some (.int ((v.getD t 0 : Nat))) := fun h => by rw [ix_tup]; exact nl_at ht
        generalize v.getD t 0 = u at *
        by_cases hc : u = j <;> simp -implicitDefEqProofs only [turnE, wipeS, asg_nm, List.set_cons_zero, List.set_cons_succ, evC_cons, evC_nil, evT_cmp, ev_ix, ev_var, List.getElem?_cons_zero, List.getElem?_cons_succ, rb_ok, gv, cN_eq, hc, ro_some, decide_true, decide_false, if_true, Bool.false_eq_true, if_false, m_int, Option.map_some, Option.map_none]
      rw [fm_filter (fun t => decide (v.getD t 0 = j)) (fun x => x), List.map_id'] at this
      exact this
    have sle : (spots v v.length j).length ≤ v.length := by
      unfold spots
      have := List.length_filter_le (fun t => decide (v.getD t 0 = j)) (List.range v.length)
      rwa [List.length_range] at this
    simp -implicitDefEqProofs only [turnS, asg_nm, rb_ok, List.set_cons_zero, List.set_cons_succ, Int.zero_add]
    refine W_seq ?_
    simp -implicitDefEqProofs only [ex_set, ec, rb_ok, m_lst, asg_nm, List.set_cons_zero, List.set_cons_succ, W_ok, Kn_nx]
    have h4 := at_new h' (.lst (NL (spots v v.length j)))
    have hE := hE.app [.lst (NL (spots v v.length j))]
    generalize h' ++ [O.lst (NL (spots v v.length j))] = h1 at *
    generalize h'.length = p at *
    unfold kG
    have lp : lenD h1 (.ref p) = some (.int ((spots v v.length j).length : Nat)) := by rw [len_ref, h4, Option.map_some, oxs_lst, nl_len]
    refine W_seq ?_
    by_cases hL : (spots v v.length j).length = s sh j
    · have ne : (!decide ((spots v v.length j).length = s sh j)) = false := by simp [hL]
      rw [if_pos hL]
      simp -implicitDefEqProofs only [ex_ite, evT_cmp, ev_bi, ev_ix, ev_var, evs_cons, evs_nil, List.getElem?_cons_zero, List.getElem?_cons_succ, rb_ok, b_len, lp, gs, ro_some, cN_ne, ne, Bool.false_eq_true, if_false, ex_nop, W_ok, Kn_nx]
      unfold l1__law_in_windows
      refine W_find (inG sh v j) (fun _ st h2 => h2 = h1 ∧ ∃ x5, st = [some (SD sh), some (.tup (NL v)), some (.int (tot sh : Nat)), some (.int (j : Nat)), some (.ref p), x5, x6]) (fun h2 => h2 = h1) (v := ⟨rangeD 0 ((spots v v.length j).length : Nat), []⟩) (h1 := h1)
        (by simp -implicitDefEqProofs only [evI_rangeLen, ev_var, List.getElem?_cons_zero, List.getElem?_cons_succ, rb_ok, q_ref, h4, Option.map_some, oxs_lst, ro_some, nl_len]) ⟨rfl, _, rfl⟩ (fun _ _ _ _ => rfl) ?_ ?_ ?_
      · rintro i x st h2 hx ⟨rfl, x5, rfl⟩
        obtain ⟨rfl, hi⟩ := rangeD_get hx
        have hi : i < (spots v v.length j).length := by omega
        have g4 := ix_h h4 hi
        unfold inG inW
        generalize (spots v v.length j).getD i 0 = t at *
        have o1 := fun h => opN_mul h i (tot sh) (by omega)
        have o2 := fun h => opN_fdiv h (i * tot sh) (s sh j) hs (by omega)
        have o3 : ∀ h, bop h .add (.int (i : Nat)) (.int 1) = some (.int ((i + 1 : Nat))) := fun h => opN_add h i 1
        have o4 := fun h => opN_mul h (i + 1) (tot sh) (by omega)
        have o5 : ∀ h, bop h .sub (.int (((i + 1) * tot sh + s sh j : Nat))) (.int 1) = some (.int (((i + 1) * tot sh + s sh j - 1 : Nat))) := fun h => opN_sub h _ 1 (by omega)
        have o6 := fun h => opN_fdiv h ((i + 1) * tot sh + s sh j - 1) (s sh j) hs (by omega)
        have es : stO sh i j = i * tot sh / s sh j := rfl
        have ee : enO sh i j = ((i + 1) * tot sh + s sh j - 1) / s sh j := rfl
        rw [es, ee]
        simp -implicitDefEqProofs only [turnS, asg_nm, rb_ok, List.set_cons_zero, List.set_cons_succ, Int.zero_add]
        by_cases q1 : i * tot sh / s sh j ≤ t
        · have q1' : ¬ t < i * tot sh / s sh j := by omega
          by_cases q2 : t < ((i + 1) * tot sh + s sh j - 1) / s sh j
          · have q2' : ¬ ((i + 1) * tot sh + s sh j - 1) / s sh j ≤ t := by omega
            simp -implicitDefEqProofs only [ex_ite, evT_or, evT_cmp, ev_op, ev_ix, ev_int, ev_var, List.getElem?_cons_zero, List.getElem?_cons_succ, rb_ok, g4, gs, o1, o2, o3, o4, opN_add, o5, o6, ro_some, cN_lt, cN_ge, q1', q2', q1, q2, decide_true, decide_false, if_true, Bool.false_eq_true, if_false, Bool.and_self, ex_nop, W_ok]
            exact ⟨_, .inl rfl, by trivial, _, rfl⟩
          · have q2' : ((i + 1) * tot sh + s sh j - 1) / s sh j ≤ t := by omega
            simp -implicitDefEqProofs only [ex_ite, evT_or, evT_cmp, ev_op, ev_ix, ev_int, ev_var, List.getElem?_cons_zero, List.getElem?_cons_succ, rb_ok, g4, gs, o1, o2, o3, o4, opN_add, o5, o6, ro_some, cN_lt, cN_ge, q1', q2', q1, q2, decide_true, decide_false, if_true, Bool.false_eq_true, if_false, Bool.and_false, ex_ret, ev_bl, W_ok, and_self]
        · have q1' : t < i * tot sh / s sh j := by omega
          simp -implicitDefEqProofs only [ex_ite, evT_or, evT_cmp, ev_op, ev_ix, ev_int, ev_var, List.getElem?_cons_zero, List.getElem?_cons_succ, rb_ok, g4, gs, o1, o2, ro_some, cN_lt, q1', q1, decide_true, decide_false, if_true, Bool.false_eq_true, if_false, Bool.false_and, ex_ret, ev_bl, W_ok, and_self]
      · rintro st h2 e ⟨rfl, x5, rfl⟩
        rw [rangeD_len, show (((spots v v.length j).length : Int) - 0).toNat = (spots v v.length j).length by omega] at e
        rw [e]
        exact ⟨_, .inl rfl, hE, _, _, _, _, rfl⟩
      · rintro d h2 e rfl
        rw [rangeD_len, show (((spots v v.length j).length : Int) - 0).toNat = (spots v v.length j).length by omega] at e
        rw [e]
        exact ⟨rfl, hE⟩
    · have ne : (!decide ((spots v v.length j).length = s sh j)) = true := by simp [hL]
      rw [if_neg hL]
      simp -implicitDefEqProofs only [ex_ite, evT_cmp, ev_bi, ev_ix, ev_var, evs_cons, evs_nil, List.getElem?_cons_zero, List.getElem?_cons_succ, rb_ok, b_len, lp, gs, ro_some, cN_ne, ne, if_true, ex_ret, ev_bl, W_ok, Kn_rt, hE, and_self]
  · rintro st h' e ⟨hE, x3, x4, x5, x6, rfl⟩
    rw [rangeD_len, show ((sh.length : Int) - 0).toNat = sh.length by omega, kG_all w hv] at e
    simp -implicitDefEqProofs only [Kn_nx, ex_ret, ev_bl, rb_ok, W_ok, fm, hE.fin, lift_bl, ro_some, e, and_self]
  · rintro d h' e hE
    rw [rangeD_len, show ((sh.length : Int) - 0).toNat = sh.length by omega] at e
    have hw : winsB sh v = false := by
      cases hw : winsB sh v with
      | false => rfl
      | true => rw [(kG_all w hv).mpr hw] at e; cases e
    obtain ⟨j, _, e2⟩ := List.exists_of_findSome?_eq_some e
    have := kG_some e2
    subst this
    simp -implicitDefEqProofs only [Kn_rt, W_ok, fm, hE.fin, lift_bl, ro_some, hw, and_self]
end Mp.K51

namespace Mp.K51
open PySem PySem.Spec L2
/-! ### bent values -/
theorem w_bentI (L m : Nat) (i : Int) (h1 : -100000 ≤ i) (h2 : i ≤ 100000) (k : Nat) (c : List Int) (a z : Int) (g : Hm) {Q : D → Hm → Prop} (q : ∀ d' c a z, shp (L + 1) (m + 1) d' → Q d' (BH c a z g)) : W (callF prog (k + 3) 11 [.ref 1, .int i] (BH c a z g)) Q := by
  rw [show k + 3 = (k + 2) + 1 by omega, r__law_bent]
  refine W_run rfl ?_
  show W (exec (Ck (k + 2)) b__law_bent [some (.ref 1), some (.int i), none, none] (BH c a z g)) _
  unfold b__law_bent
  refine W_seq ?_
  have nt : ∀ h, isiD h (.int i) [.tuple] = some (.bl false) := fun h => rfl
  simp -implicitDefEqProofs [nt]
  refine W_seq ?_
  obtain ⟨p, c, a, z, e, p0, p8⟩ := c_draw k c a z g 8 (by omega) (by omega)
  simp -implicitDefEqProofs [e]
  obtain ⟨j, rfl⟩ : ∃ j : Nat, p = (j : Int) := ⟨p.toNat, by omega⟩
  refine W_seq ?_
  simp -implicitDefEqProofs [nt]
  refine W_seq ?_
  have lg := log_small h1 h2
  simp -implicitDefEqProofs [isiD, isTy, strD, bi, lg]
  refine W_at (by show j < 8; omega) fun x hx => ?_
  simp -implicitDefEqProofs only [Kn_rt, f__law_bent, fin0, W_ok]
  refine q x _ _ _ ?_
  simp only [List.mem_cons, List.not_mem_nil, or_false] at hx
  rcases hx with rfl | rfl | rfl | rfl | rfl | rfl | rfl | rfl
  · exact .inl rfl
  · exact .inl rfl
  · exact .inl rfl
  · exact .inl rfl
  · exact .inl rfl
  · exact .inl (strOk_of _)
  · exact .inr ⟨_, rfl, by simp, fun x hx => by
      have : x = .int i := by simpa using hx
      subst this; exact leaf_shp _ _ rfl⟩
  · exact .inl rfl
theorem w_bent (L : Nat) (hL : L ≤ 1000) (hL1 : 1 ≤ L) : ∀ (n : Nat) (d : D), cl L n d → ∀ (k : Nat) (c : List Int) (a z : Int) (g : Hm) {Q : D → Hm → Prop}, (∀ d' c a z, shp (L + 1) (n + 1) d' → Q d' (BH c a z g)) → W (callF prog (n + k + 3) 11 [.ref 1, d] (BH c a z g)) Q
  | 0, d, ⟨i, e, h1, h2⟩, k, c, a, z, g, Q, q => by
    subst e
    rw [Nat.zero_add]
    exact w_bentI L 0 i h1 h2 k c a z g q
  | n + 1, d, .inl ⟨i, e, h1, h2⟩, k, c, a, z, g, Q, q => by
    subst e
    exact w_bentI L (n + 1) i h1 h2 (n + 1 + k) c a z g q
  | n + 1, d, .inr ⟨ds, e, hl, hc⟩, k, c, a, z, g, Q, q => by
    subst e
    have hpd : ∀ x ∈ ds, shp (L + 1) (n + 1) x := fun x hx => shp_le (by omega) (by omega) (cl_shp (hc x hx))
    have pt : ∀ xs : List D, xs.length ≤ L + 1 → (∀ x ∈ xs, shp (L + 1) (n + 1) x) → shp (L + 1) (n + 1 + 1) (.tup xs) := fun xs hx h => .inr ⟨xs, rfl, hx, h⟩
    rw [show n + 1 + k + 3 = (n + k + 3) + 1 by omega, r__law_bent]
    refine W_run rfl ?_
    show W (exec (Ck (n + k + 3)) b__law_bent [some (.ref 1), some (.tup ds), none, none] (BH c a z g)) _
    have isT : ∀ h, isiD h (.tup ds) [.tuple] = some (.bl true) := fun h => rfl
    have pick : ∀ (c : List Int) (a z : Int) (x2 : Option D), W (exec (Ck (n + k + 3)) (.seq (.set (.nm 3) (.call 9 (.cons (.var 0) (.cons (.int 8) .nil))))
        (match b__law_bent with | .seq _ (.seq _ r) => r | _ => .nop)) [some (.ref 1), some (.tup ds), x2, none] (BH c a z g)) (fun fl h1 => match fl with
        | .nx _ => W (fin f__law_bent.mode (BH c a z g) .non h1) Q
        | .rt d => W (fin f__law_bent.mode (BH c a z g) d h1) Q
        | _ => False) := fun c a z x2 => by
      refine W_seq ?_
      obtain ⟨p, c1, a1, z1, e, p0, p8⟩ := c_draw (n + k + 1) c a z g 8 (by omega) (by omega)
      have e : callF prog (n + k + 3) 9 [.ref 1, .int 8] (BH c a z g) = .ok (.int p) (BH c1 a1 z1 g) := e
      simp -implicitDefEqProofs [e]
      obtain ⟨m, rfl⟩ : ∃ m : Nat, p = (m : Int) := ⟨p.toNat, by omega⟩
      unfold b__law_bent
      refine W_seq ?_
      have c1l := cut_len ds none (some 1)
      have c1o := cut_one ds
      have s1 : ∀ (x : D), sz ds.length (cutD ds none (some 1)).length x = some x := fun x => sz_ok1000 x (by omega)
      have s2 : ∀ (x : D), sz ds.length [D.int 0].length x = some x := fun x => sz_ok1000 x (by simp; omega)
      have s3 : ∀ (x : D), sz ds.length [D.tup [.int 0, .int 1]].length x = some x := fun x => sz_ok1000 x (by simp; omega)
      have rv : ∀ h, revD h (.tup ds) = some (.tup ds.reverse) := fun h => rfl
      simp -implicitDefEqProofs only [ex_ite, evT_cons, ev_isi, ev_var, List.getElem?_cons_zero, List.getElem?_cons_succ, rb_ok, isT, ro_some, t_bl, if_true, ex_ret, ev_ix, ev_lst, evs_cons, evs_nil, ev_op, ev_sl, evO_nil, evO_cons, ev_int, ev_neg, op_negI, ev_rev, ev_tup, ev_non, sl_tup, rv, op_addT, s1, s2, s3, ms_cons', ms_nil', m_tup, m_int, m_non, ix_lst, W_bind]
      refine W_at (by simp; omega) fun x hx => ?_
      simp -implicitDefEqProofs only [Kn_rt, f__law_bent, fin0, W_ok]
      refine q x _ _ _ ?_
      have mc : ∀ lo hi, ∀ x ∈ cutD ds lo hi, shp (L + 1) (n + 1) x := fun lo hi x hx => hpd x (mem_cut hx)
      simp only [List.mem_cons, List.not_mem_nil, or_false] at hx
      rcases hx with rfl | rfl | rfl | rfl | rfl | rfl | rfl | rfl
      · exact pt _ (by rw [List.length_append]; omega) fun x hx => by
          rcases List.mem_append.mp hx with hx | hx
          · exact hpd x hx
          · exact mc _ _ x hx
      · exact pt _ (by have := cut_len ds (some 1) none; omega) (mc _ _)
      · exact pt _ (by rw [List.length_reverse]; omega) fun x hx => hpd x (List.mem_reverse.mp hx)
      · exact pt _ (by rw [List.length_append, List.length_singleton]; omega) fun x hx => by
          rcases List.mem_append.mp hx with hx | hx
          · exact hpd x hx
          · have : x = .int 0 := by simpa using hx
            subst this; exact leaf_shp _ _ rfl
      · exact pt _ (by simp) fun x hx => by
          have : x = .tup ds := by simpa using hx
          subst this
          exact shp_le (by omega) (Nat.le_refl _) (cl_shp (.inr ⟨ds, rfl, hl, hc⟩))
      · exact pt _ (by have := cut_len ds none (some (-1)); omega) (mc _ _)
      · exact leaf_shp _ _ rfl
      · exact pt _ (by rw [List.length_append, List.length_singleton]; omega) fun x hx => by
          rcases List.mem_append.mp hx with hx | hx
          · exact hpd x hx
          · have : x = .tup [.int 0, .int 1] := by simpa using hx
            subst this
            exact .inr ⟨_, rfl, by simp; omega, fun y hy => by
              simp only [List.mem_cons, List.not_mem_nil, or_false] at hy
              rcases hy with rfl | rfl <;> exact leaf_shp _ _ rfl⟩
    have pick' : ∀ (c0 : List Int) (a0 z0 : Int) (c : List Int) (a z : Int) (x2 : Option D), W (exec (Ck (n + k + 3)) (.seq (.set (.nm 3) (.call 9 (.cons (.var 0) (.cons (.int 8) .nil))))
        (match b__law_bent with | .seq _ (.seq _ r) => r | _ => .nop)) [some (.ref 1), some (.tup ds), x2, none] (BH c a z g)) (fun fl h1 => match fl with
        | .nx _ => W (fin f__law_bent.mode (BH c0 a0 z0 g) .non h1) Q
        | .rt d => W (fin f__law_bent.mode (BH c0 a0 z0 g) d h1) Q
        | _ => False) := fun c0 a0 z0 c a z x2 => (pick c a z x2).imp fun fl h1 w => w
    unfold b__law_bent
    refine W_seq ?_
    by_cases h0 : ds.length = 0
    · have hlt : ¬ (0 : Int) < ((ds.length : Nat) : Int) := by omega
      simp -implicitDefEqProofs only [ex_ite, evT_and, evT_cons, evT_cmp, ev_isi, ev_bi, ev_int, evs_cons, evs_nil, ev_var, List.getElem?_cons_zero, List.getElem?_cons_succ, rb_ok, isT, ro_some, t_bl, if_true, b_len, len_tup, c_gt, hlt, decide_false, Bool.false_eq_true, if_false, ex_nop, W_ok, Kn_nx]
      exact pick' _ _ _ _ _ _ _
    · have hlt : (0 : Int) < ((ds.length : Nat) : Int) := by omega
      obtain ⟨p, c1, a1, z1, e, p0, p5⟩ := c_draw (n + k + 1) c a z g 5 (by omega) (by omega)
      have e : callF prog (n + k + 3) 9 [.ref 1, .int 5] (BH c a z g) = .ok (.int p) (BH c1 a1 z1 g) := e
      by_cases hp0 : 0 < p
      · simp -implicitDefEqProofs only [ex_ite, evT_and, evT_cons, evT_cmp, ev_isi, ev_bi, ev_int, ev_call, evs_cons, evs_nil, ev_var, List.getElem?_cons_zero, List.getElem?_cons_succ, rb_ok, isT, ro_some, t_bl, if_true, b_len, len_tup, c_gt, hlt, decide_true, ms_cons', ms_nil', m_ref, m_int, Ck_call, e, hp0]
        refine W_seq ?_
        obtain ⟨j, c2, a2, z2, e2, j0, jl⟩ := c_draw (n + k + 1) c1 a1 z1 g (ds.length : Nat) hlt (by omega)
        have e2 : callF prog (n + k + 3) 9 [.ref 1, .int (ds.length : Nat)] (BH c1 a1 z1 g) = .ok (.int j) (BH c2 a2 z2 g) := e2
        obtain ⟨i, rfl⟩ : ∃ i : Nat, j = (i : Int) := ⟨j.toNat, by omega⟩
        have hi : i < ds.length := by omega
        simp -implicitDefEqProofs only [ex_set, ev_call, ev_bi, evs_cons, evs_nil, ev_var, List.getElem?_cons_zero, List.getElem?_cons_succ, rb_ok, b_len, len_tup, ro_some, ms_cons', ms_nil', m_ref, m_int, Ck_call, e2, asg_nm, List.set_cons_zero, List.set_cons_succ, W_ok, Kn_nx]
        have gx : ∀ h, ixD h (.tup ds) (.int (i : Nat)) = some ds[i] := fun h => by rw [ix_tup, atI_nat', List.getElem?_eq_getElem hi]
        have mx := fun h => mat1_pl (shp_pl (cl_shp (hc ds[i] (List.getElem_mem hi)))) h
        simp -implicitDefEqProofs only [ex_ret, ev_op, ev_sl, ev_tup, ev_call, ev_ix, ev_int, evO_nil, evO_cons, evs_cons, evs_nil, ev_var, List.getElem?_cons_zero, List.getElem?_cons_succ, rb_ok, ro_some, sl_tup, cut_take, cut_drop1, op_addI, gx, ms_cons', ms_nil', m_ref, mx, Ck_call, W_bind, W_ok]
        refine w_bent L hL hL1 n ds[i] (hc _ (List.getElem_mem hi)) k c2 a2 z2 g fun d' c3 a3 z3 hd' => ?_
        have md := fun h => mat1_pl (shp_pl hd') h
        have s1 : ∀ (x : D), sz (ds.take i).length [d'].length x = some x := fun x => sz_ok1000 x (by simp; omega)
        have s2 : ∀ (x : D), sz (ds.take i ++ [d']).length (ds.drop (i + 1)).length x = some x := fun x => sz_ok1000 x (by simp; omega)
        simp -implicitDefEqProofs only [W_ok, W_bind, rb_ok, ms_cons', ms_nil', md, op_addT, s1, s2, ro_some, Kn_rt, f__law_bent, fin0]
        refine q _ _ _ _ (pt _ (by simp; omega) fun x hx => ?_)
        rcases List.mem_append.mp hx with hx | hx
        · rcases List.mem_append.mp hx with hx | hx
          · exact hpd x (List.mem_of_mem_take hx)
          · have : x = d' := by simpa using hx
            subst this; exact hd'
        · exact hpd x (List.mem_of_mem_drop hx)
      · simp -implicitDefEqProofs only [ex_ite, evT_and, evT_cons, evT_cmp, ev_isi, ev_bi, ev_int, ev_call, evs_cons, evs_nil, ev_var, List.getElem?_cons_zero, List.getElem?_cons_succ, rb_ok, isT, ro_some, t_bl, if_true, b_len, len_tup, c_gt, hlt, decide_true, ms_cons', ms_nil', m_ref, m_int, Ck_call, e, hp0, decide_false, Bool.false_eq_true, if_false, ex_nop, W_ok, Kn_nx]
        exact pick' _ _ _ _ _ _ _
end Mp.K51

namespace Mp.K51
open PySem PySem.Spec L2
/-! ### parts of the law -/
theorem w_c1 (c : List Int) (a z : Int) (gg : Hm) (x0 x2 x3 x4 x5 x6 x7 x8 x9 x10 x11 x12 x13 x14 x15 x16 x17 x18 x19 : Option D) {Q : D → Hm → Prop} (qe : ∀ (sh : List Nat) c a z, WfS sh → Q (.lst (NL sh)) (BH c a z gg)) :
    W (ev (Ck 99) c1_law [x0, some (.ref 1), x2, x3, x4, x5, x6, x7, x8, x9, x10, x11, x12, x13, x14, x15, x16, x17, x18, x19] (BH c a z gg)) Q := by
  unfold c1_law
  refine W_comp ?_
  simp -implicitDefEqProofs only [evI_range, ev_op, ev_call, ev_int, ev_var, evs_cons, evs_nil, List.getElem?_cons_zero, List.getElem?_cons_succ, rb_ok, ms_cons', ms_nil', m_ref, m_int, Ck_call, W_bind]
  refine w_draw (by omega) (by omega) fun n0 c a z hn => ?_
  have rv := rangeV1 (1 + (n0 : Nat)) (by omega) (by omega)
  simp -implicitDefEqProofs only [op_addI, ro_some, rv, W_ok]
  refine ⟨fun i acc h => ∃ (sh : List Nat) (c : List Int) (a z : Int), h = BH c a z gg ∧ acc = NL sh ∧ sh.length = i ∧ ∀ x ∈ sh, 1 ≤ x ∧ x ≤ 60, ⟨[], c, a, z, rfl, rfl, rfl, by simp⟩, fun _ _ _ _ => rfl, ?_, ?_⟩
  · rintro i x acc h hx ⟨sh, c, a, z, rfl, rfl, hl, hb⟩
    simp -implicitDefEqProofs only [turnE, wipeS, asg_nm, List.set_cons_zero, List.set_cons_succ, evC_nil, if_true, ev_op, ev_call, ev_ix, ev_lst, ev_int, ev_var, evs_cons, evs_nil, List.getElem?_cons_zero, List.getElem?_cons_succ, rb_ok, ms_cons', ms_nil', m_ref, m_int, Ck_call, W_bind]
    refine w_draw (by omega) (by omega) fun d c a z hd => ?_
    have pick : ∃ m : Nat, 0 < m ∧ m ≤ 60 ∧ ∀ h, ixD h (.lst [.int 4, .int 9, .int 60]) (.int (d : Nat)) = some (.int (m : Nat)) := by
      have : d = 0 ∨ d = 1 ∨ d = 2 := by omega
      rcases this with rfl | rfl | rfl
      · exact ⟨4, by omega, by omega, fun h => rfl⟩
      · exact ⟨9, by omega, by omega, fun h => rfl⟩
      · exact ⟨60, by omega, by omega, fun h => rfl⟩
    obtain ⟨m, m0, m60, em⟩ := pick
    simp -implicitDefEqProofs only [em, ro_some, W_ok, rb_ok, m_int, W_bind]
    refine w_draw (by omega) (by omega) fun e c a z he => ?_
    simp -implicitDefEqProofs only [op_addI, ro_some, W_ok, rb_ok, m_int]
    refine ⟨sh ++ [e + 1], c, a, z, rfl, ?_, by simp [hl], fun x hx => ?_⟩
    · rw [nl_app, show (1 : Int) + (e : Nat) = ((e + 1 : Nat) : Int) by omega]; rfl
    · rcases List.mem_append.mp hx with hx | hx
      · exact hb x hx
      · have : x = e + 1 := by simpa using hx
        omega
  · rintro ys h ⟨sh, c, a, z, rfl, rfl, hl, hb⟩
    rw [rangeD_len] at hl
    refine qe sh c a z ⟨by omega, by omega, fun k hk => ?_⟩
    unfold s
    rw [List.getD_eq_getElem?_getD, List.getElem?_eq_getElem hk]
    exact hb _ (List.getElem_mem hk)
theorem ev_c2 {sh : List Nat} (w : WfS sh) (f : List Nat) (hf : f.length ≤ 360) (t : Nat) (h : Hm) (p6 : Nat) (h6 : h[p6]? = some (.lst (NL (hadL sh.length f)))) (x0 x1 x2 x4 x7 x9 x10 x11 x12 x13 x14 x15 x16 x17 x18 x19 : Option D) :
    ev (Ck 99) c2_law [x0, x1, x2, some (SD sh), x4, some (.int (tot sh : Nat)), some (.ref p6), x7, some (.int (t : Nat)), x9, x10, x11, x12, x13, x14, x15, x16, x17, x18, x19] h = .ok (.lst ((rowsR sh f t sh.length).map PR)) h := by
  have hT := T_le w
  unfold c2_law rowsR
  refine ev_comp_filter (enc := fun i : Nat => D.int (i : Nat)) (dec := PR) (fun k => if okR sh f t k = true then some (enO sh (f.count k) k, k) else none) (xs := List.range sh.length) (deps := []) (by simp -implicitDefEqProofs only [evI_rangeLen, ev_var, List.getElem?_cons_zero, List.getElem?_cons_succ, rb_ok, q_tup, ro_some, nl_len, rangeD_nat]) rfl fun j hj => ?_
  have hj := List.mem_range.mp hj
  have hs := (w.bd j hj).1
  have hs2 := (w.bd j hj).2
  have gs : ∀ h, ixD h (SD sh) (.int (j : Nat)) = some (.int (s sh j : Nat)) := fun h => by rw [ix_tup]; exact nl_at hj
  have g6 := ix_h h6 (i := j) (by rw [had_len]; exact hj)
  rw [had_get _ hj] at g6
  have cle : f.count j ≤ 360 := Nat.le_trans List.count_le_length hf
  have ok : okR sh f t j = (decide (f.count j < s sh j) && decide (stO sh (f.count j) j ≤ t)) := rfl
  have eP : PR (enO sh (f.count j) j, j) = .tup [.int ((((f.count j + 1) * tot sh + s sh j - 1) / s sh j : Nat)), .int (j : Nat)] := rfl
  have es : stO sh (f.count j) j = f.count j * tot sh / s sh j := rfl
  generalize f.count j = u at *
  have o1 := fun h => opN_mul h u (tot sh) (by omega)
  have o2 := fun h => opN_fdiv h (u * tot sh) (s sh j) hs (by omega)
  have o3 : ∀ h, bop h .add (.int (u : Nat)) (.int 1) = some (.int ((u + 1 : Nat))) := fun h => opN_add h u 1
  have o4 := fun h => opN_mul h (u + 1) (tot sh) (by omega)
  have o5 : ∀ h, bop h .sub (.int (((u + 1) * tot sh + s sh j : Nat))) (.int 1) = some (.int (((u + 1) * tot sh + s sh j - 1 : Nat))) := fun h => opN_sub h _ 1 (by omega)
  have o6 := fun h => opN_fdiv h ((u + 1) * tot sh + s sh j - 1) (s sh j) hs (by omega)
  rw [es] at ok
  rw [ok]
  by_cases q1 : u < s sh j <;> by_cases q2 : u * tot sh / s sh j ≤ t <;>
    simp -implicitDefEqProofs only [turnE, wipeS, asg_nm, List.set_cons_zero, List.set_cons_succ, evC_cons, evC_nil, evT_and, evT_cmp, ev_op, ev_ix, ev_int, ev_var, List.getElem?_cons_zero, List.getElem?_cons_succ, rb_ok, g6, gs, o1, o2, ro_some, cN_lt, cN_le, q1, q2, decide_true, decide_false, if_true, Bool.false_eq_true, if_false, Bool.and_self, Bool.and_false, Bool.false_and, ev_tup, evs_cons, evs_nil, o3, o4, opN_add, o5, o6, ms_cons', ms_nil', m_int, m_tup, Option.map_some, Option.map_none, eP]
theorem w_l1 {sh : List Nat} (w : WfS sh) (B h : Hm) (hE : Ext B h) (p6 p7 : Nat) (b6 : B.length ≤ p6) (b7 : B.length ≤ p7) (ne : p6 ≠ p7) (h6 : h[p6]? = some (.lst (NL (hadL sh.length [])))) (h7 : h[p7]? = some (.lst (NL []))) (x0 x1 x2 x4 x8 x9 x10 x11 x12 x13 x14 x15 x16 x17 x18 x19 : Option D) {Q : Fl → Hm → Prop}
    (qe : ∀ h x8 x9, Ext B h → h[p7]? = some (.lst (NL (edf sh (tot sh)))) → Q (.nx [x0, x1, x2, some (SD sh), x4, some (.int (tot sh : Nat)), some (.ref p6), some (.ref p7), x8, x9, x10, x11, x12, x13, x14, x15, x16, x17, x18, x19]) h) :
    W (exec (Ck 99) l1_law [x0, x1, x2, some (SD sh), x4, some (.int (tot sh : Nat)), some (.ref p6), some (.ref p7), x8, x9, x10, x11, x12, x13, x14, x15, x16, x17, x18, x19] h) Q := by
  have hT := T_le w
  unfold l1_law
  have rv := rangeV1 (tot sh : Nat) (by omega) (by omega)
  refine W_loop (fun i st h' => Ext B h' ∧ h'[p6]? = some (.lst (NL (hadL sh.length (edf sh i)))) ∧ h'[p7]? = some (.lst (NL (edf sh i))) ∧ ∃ x8 x9, st = [x0, x1, x2, some (SD sh), x4, some (.int (tot sh : Nat)), some (.ref p6), some (.ref p7), x8, x9, x10, x11, x12, x13, x14, x15, x16, x17, x18, x19]) (v := ⟨rangeD 0 (tot sh : Nat), []⟩) (h1 := h)
    (by simp -implicitDefEqProofs only [evI_range, ev_var, evs_cons, evs_nil, List.getElem?_cons_zero, List.getElem?_cons_succ, rb_ok, ro_some, rv]) ⟨hE, h6, h7, _, _, rfl⟩ (fun _ _ _ _ => rfl) ?_ ?_
  · clear hE h6 h7
    rintro t x st h' hx ⟨hE, h6, h7, x8, x9, rfl⟩
    obtain ⟨rfl, ht⟩ := rangeD_get hx
    have ht : t < tot sh := by omega
    have ed := edf_all w t (by omega)
    have el := edf_len sh t
    have rne := rows_ne w ht ed.lt el
    have bm := (mem_rows.mp (best_mem rne).1).1
    have k2 := ev_c2 w (edf sh t) (by omega) t h' p6 h6
    simp -implicitDefEqProofs only [turnS, asg_nm, rb_ok, List.set_cons_zero, List.set_cons_succ, Int.zero_add]
    refine W_seq ?_
    simp -implicitDefEqProofs only [ex_set, k2, rb_ok, m_lst, asg_nm, List.set_cons_zero, List.set_cons_succ, W_ok, Kn_nx]
    have j6 : (h' ++ [O.lst ((rowsR sh (edf sh t) t sh.length).map PR)])[p6]? = _ := at_app _ h6
    have j7 : (h' ++ [O.lst ((rowsR sh (edf sh t) t sh.length).map PR)])[p7]? = _ := at_app _ h7
    have j9 := at_new h' (.lst ((rowsR sh (edf sh t) t sh.length).map PR))
    have hE := hE.app [.lst ((rowsR sh (edf sh t) t sh.length).map PR)]
    generalize h' ++ [O.lst ((rowsR sh (edf sh t) t sh.length).map PR)] = h1 at *
    generalize h'.length = p9 at *
    have mn : minD h1 (.ref p9) = some (PR (best (rowsR sh (edf sh t) t sh.length))) := min_pr (by rw [q_ref, j9]; rfl) rne
    have e1 : edf sh (t + 1) = edf sh t ++ [(best (rowsR sh (edf sh t) t sh.length)).2] := rfl
    rw [e1]
    generalize best (rowsR sh (edf sh t) t sh.length) = b at *
    have ixb : ∀ h, ixD h (PR b) (.int 1) = some (.int (b.2 : Nat)) := fun h => by rw [PR, ix_tup, atI_1]
    have hk : (NL (edf sh t)).length < 16777216 := by rw [nl_len]; omega
    refine W_seq ?_
    simp -implicitDefEqProofs only [ex_ex, ev_me, ev_ix, ev_bi, ev_int, ev_var, evs_cons, evs_nil, List.getElem?_cons_zero, List.getElem?_cons_succ, rb_ok, b_min, mn, ro_some, ixb, ms_cons', ms_nil', m_int, me_app, j7, Option.bind_some, oxs_lst, hk, if_true, W_ok, Kn_nx]
    have eN : NL (edf sh t) ++ [.int (b.2 : Nat)] = NL (edf sh t ++ [b.2]) := by rw [nl_app]; rfl
    rw [eN]
    have i6 := set_ne j6 (fun z => ne z.symm) (.lst (NL (edf sh t ++ [b.2])))
    have i7 := set_self j7 (.lst (NL (edf sh t ++ [b.2])))
    have hE := hE.set b7 (.lst (NL (edf sh t ++ [b.2])))
    generalize h1.set p7 (.lst (NL (edf sh t ++ [b.2]))) = h3' at *
    have lst := ix_last i7
    refine aug1 (k := b.2) (by simp -implicitDefEqProofs only [ev_var, List.getElem?_cons_zero, List.getElem?_cons_succ]) (by simp -implicitDefEqProofs only [ev_ix, ev_neg, ev_int, op_negI, ev_var, List.getElem?_cons_zero, List.getElem?_cons_succ, rb_ok, ro_some, lst]) i6 (by rw [had_len]; exact bm) ?_
    rw [had_get _ bm, had_set _ bm]
    exact ⟨hE.set b6 _, set_self i6 _, set_ne i7 ne _, _, _, rfl⟩
  · rintro st h' ⟨hE, _, h7, x8, x9, rfl⟩
    rw [rangeD_len, show ((tot sh : Int) - 0).toNat = tot sh by omega] at h7
    exact qe h' x8 x9 hE h7
theorem Ext.bh {c : List Int} {a z : Int} {h : Hm} (e : Ext (BH c a z []) h) : ∃ gg, h = BH c a z gg := by
  obtain ⟨t, rfl⟩ := e
  exact ⟨t, rfl⟩
theorem ext_bh (c : List Int) (a z : Int) (gg : Hm) : Ext (BH c a z []) (BH c a z gg) := ⟨gg, rfl⟩
/-! values tested -/
theorem fst_pl (sh v : List Nat) : pl 6 (first sh v) = true := by
  unfold first
  cases e : (List.range v.length).findSome? (firstT sh v) with
  | none => rfl
  | some d =>
    obtain ⟨i, _, e2⟩ := List.exists_of_findSome?_eq_some e
    obtain ⟨j, _, e3⟩ := List.exists_of_findSome?_eq_some e2
    unfold firstK at e3
    split at e3
    · rw [← Option.some.inj e3]; simp [pl, pls]
    · cases e3
theorem first_of_fair {sh v : List Nat} (h : fairB sh v = true) : first sh v = .non := by
  have := first_non (sh := sh) (v := v)
  rw [h] at this
  exact of_decide_eq_true this
theorem w_l2 {sh v0 : List Nat} (w : WfS sh) (hc : cl 360 1 (.tup (NL v0))) (c : List Int) (a z : Int) (gg : Hm) (vs : List D) (hv : ∀ x ∈ vs, pl 6 x = true) (hvl : vs.length ≤ 20) (p : Nat) (hp : gg[p]? = some (.lst vs)) (x0 x2 x5 x6 x7 x8 x9 x10 x11 x12 x14 x15 x16 x17 x18 x19 : Option D) {Q : Fl → Hm → Prop}
    (qe : ∀ c a z x14 x15, Q (.nx [x0, some (.ref 1), x2, some (SD sh), some (.tup (NL v0)), x5, x6, x7, x8, x9, x10, x11, x12, some (.ref (p + 2)), x14, x15, x16, x17, x18, x19]) (BH c a z gg)) :
    W (exec (Ck 99) l2_law [x0, some (.ref 1), x2, some (SD sh), some (.tup (NL v0)), x5, x6, x7, x8, x9, x10, x11, x12, some (.ref (p + 2)), x14, x15, x16, x17, x18, x19] (BH c a z gg)) Q := by
  have k : ∀ c a z, (BH c a z gg)[p + 2]? = some (.lst vs) := fun c a z => hp
  suffices wi : W (evI (Ck 99) (.cons (.op .add (.var 13) c4_law) .nil) [x0, some (.ref 1), x2, some (SD sh), some (.tup (NL v0)), x5, x6, x7, x8, x9, x10, x11, x12, some (.ref (p + 2)), x14, x15, x16, x17, x18, x19] (BH c a z gg)) fun v h1 => ∃ xs c a z, v = ⟨xs, []⟩ ∧ h1 = BH c a z gg ∧ ∀ x ∈ xs, pl 6 x = true by
    obtain ⟨v, h1, ei, xs, c, a, z, rfl, rfl, hs⟩ := wi
    unfold l2_law
    refine W_loop (fun i st h' => ∃ x14 x15, h' = BH c a z gg ∧ st = [x0, some (.ref 1), x2, some (SD sh), some (.tup (NL v0)), x5, x6, x7, x8, x9, x10, x11, x12, some (.ref (p + 2)), x14, x15, x16, x17, x18, x19]) ei ⟨x14, x15, rfl, rfl⟩ (fun _ _ _ _ => rfl) ?_ ?_
    · rintro i x st h' hx ⟨x14, x15, rfl, rfl⟩
      have px := hs x (List.mem_of_getElem? hx)
      have ca : ∀ h, callF prog 99 4 [SD sh, x] h = .ok (.bl (isFair sh x)) h := fun h => c_isfair 97 w x h px
      have cb : ∀ h, callF prog 99 13 [SD sh, x] h = .ok (.bl (isFair sh x)) h := fun h => c_lisfair 97 w x h px
      have sm := fun h => same99 (.bl (isFair sh x)) h rfl
      have mx := fun h => mat1_pl px h
      simp -implicitDefEqProofs only [turnS, asg_nm, rb_ok, List.set_cons_zero, List.set_cons_succ]
      refine W_seq ?_
      simp -implicitDefEqProofs only [ex_set, ev_call, ev_var, evs_cons, evs_nil, List.getElem?_cons_zero, List.getElem?_cons_succ, rb_ok, ms_cons', ms_nil', m_tup, mx, m_bl, Ck_call, cb, asg_nm, List.set_cons_zero, List.set_cons_succ, W_ok, Kn_nx]
      cases hf : isFair sh x with
      | false =>
        rw [hf] at ca cb sm
        simp -implicitDefEqProofs only [ex_ite, evT_or, evT_and, evT_not, evT_cons, ev_call, ev_var, evs_cons, evs_nil, List.getElem?_cons_zero, List.getElem?_cons_succ, rb_ok, ms_cons', ms_nil', m_tup, mx, m_bl, Ck_call, ca, sm, t_bl, ro_some, Bool.not_true, Bool.false_eq_true, if_false, ex_nop, W_ok]
        exact ⟨_, _, by trivial, rfl⟩
      | true =>
        have cw : ∀ h, callF prog 99 14 [SD sh, x] h = .ok (.bl true) h := fun h => by
          cases x with
          | tup ds =>
            unfold isFair at hf
            simp only [Bool.and_eq_true, decide_eq_true_eq] at hf
            obtain ⟨h1, h2, h3⟩ := hf
            obtain ⟨hV, ed⟩ := vl_of h1 h2
            have := c_wins 98 w hV h
            rw [← ed, ← fair_wins w hV, h3] at this
            exact this
          | _ => simp [isFair] at hf
        rw [hf] at ca cb sm
        simp -implicitDefEqProofs only [ex_ite, evT_or, evT_and, evT_not, evT_cons, ev_call, ev_var, evs_cons, evs_nil, List.getElem?_cons_zero, List.getElem?_cons_succ, rb_ok, ms_cons', ms_nil', m_tup, mx, m_bl, Ck_call, ca, cw, sm, t_bl, ro_some, Bool.not_true, Bool.false_eq_true, if_false, if_true, ex_nop, W_ok]
        exact ⟨_, _, by trivial, rfl⟩
    · rintro st h' ⟨x14, x15, rfl, rfl⟩
      exact qe c a z x14 x15
  rw [evI_cons, W_bind, ev_op, W_bind]
  simp -implicitDefEqProofs only [ev_var, List.getElem?_cons_zero, List.getElem?_cons_succ, W_ok, W_bind]
  unfold c4_law
  refine W_comp ?_
  have rv := rangeV1 4 (by omega) (by omega)
  simp -implicitDefEqProofs only [evI_range, ev_int, evs_cons, evs_nil, rb_ok, ro_some, rv, W_ok]
  refine ⟨fun i acc h => ∃ (c : List Int) (a z : Int), h = BH c a z gg ∧ acc.length ≤ i ∧ ∀ x ∈ acc, pl 6 x = true, ⟨c, a, z, rfl, by simp, by simp⟩, fun _ _ _ _ => rfl, ?_, ?_⟩
  · rintro i x acc h hx ⟨c, a, z, rfl, hl, ha⟩
    simp -implicitDefEqProofs only [turnE, wipeS, asg_nm, List.set_cons_zero, List.set_cons_succ, evC_nil, if_true, ev_call, ev_int, ev_var, evs_cons, evs_nil, List.getElem?_cons_zero, List.getElem?_cons_succ, rb_ok, ms_cons', ms_nil', m_ref, m_tup, Ck_call, W_bind]
    refine w_bent 360 (by omega) (by omega) 1 (.tup (NL v0)) hc 95 c a z gg fun d c a z hd => ?_
    simp -implicitDefEqProofs only [mat1_pl (shp_pl hd), W_ok]
    refine ⟨c, a, z, rfl, by simp; omega, fun x hx => ?_⟩
    rcases List.mem_append.mp hx with hx | hx
    · exact ha x hx
    · have : x = d := by simpa using hx
      subst this; exact pl_le (shp_pl hd) (by omega)
  · rintro ys h ⟨c, a, z, rfl, hl, ha⟩
    rw [rangeD_len] at hl
    have a2 := add_rl (k c a z) (ys := ys) (by omega)
    simp -implicitDefEqProofs only [a2, ro_some, W_ok, q_lst, dep_lst, rb_ok]
    refine ⟨_, c, a, z, rfl, rfl, fun x hx => ?_⟩
    rcases List.mem_append.mp hx with hx | hx
    · exact hv x hx
    · exact ha x hx
theorem w_l3 {sh m v0 : List Nat} (w : WfS sh) (hm : Vl sh m) (hr : Vl sh v0.reverse) (hs : Vl sh (v0.drop 1 ++ v0.take 1)) (h : Hm) (p : Nat) (hp : h[p]? = some (.lst (NL m))) (x0 x1 x2 x5 x6 x7 x8 x9 x10 x11 x13 x14 x15 x16 x17 x18 x19 : Option D) {Q : Fl → Hm → Prop}
    (qe : ∀ x14, Q (.nx [x0, x1, x2, some (SD sh), some (.tup (NL v0)), x5, x6, x7, x8, x9, x10, x11, some (.ref p), x13, x14, x15, x16, x17, x18, x19]) h) :
    W (exec (Ck 99) l3_law [x0, x1, x2, some (SD sh), some (.tup (NL v0)), x5, x6, x7, x8, x9, x10, x11, some (.ref p), x13, x14, x15, x16, x17, x18, x19] h) Q := by
  have hT := T_le w
  have rv : revD h (.tup (NL v0)) = some (.tup (NL v0.reverse)) := by
    show some (D.tup (NL v0).reverse) = _
    unfold NL; rw [List.map_reverse]
  have sl1 : cutD (NL v0) (some 1) none = NL (v0.drop 1) := by rw [cut_from1]; unfold NL; rw [List.map_drop]
  have sl2 : cutD (NL v0) none (some 1) = NL (v0.take 1) := by
    have := cut_take (NL v0) 1
    rw [show ((1 : Nat) : Int) = 1 from rfl] at this
    rw [this]; unfold NL; rw [List.map_take]
  have ad : ∀ h, bop h .add (.tup (NL (v0.drop 1))) (.tup (NL (v0.take 1))) = some (.tup (NL (v0.drop 1 ++ v0.take 1))) := fun h => by
    rw [op_addT, sz_ok1000 _ (by
      have := hs.len
      rw [List.length_append] at this
      rw [nl_len, nl_len]; omega), nl_app]
  unfold l3_law
  refine W_loop (fun i st h' => h' = h ∧ ∃ x14, st = [x0, x1, x2, some (SD sh), some (.tup (NL v0)), x5, x6, x7, x8, x9, x10, x11, some (.ref p), x13, x14, x15, x16, x17, x18, x19]) (v := ⟨[.tup (NL m), .tup (NL v0.reverse), .tup (NL (v0.drop 1 ++ v0.take 1))], []⟩) (h1 := h)
    (by simp -implicitDefEqProofs only [evI_cons, ev_tup, ev_bi, ev_rev, ev_op, ev_sl, evO_nil, evO_cons, ev_int, ev_var, evs_cons, evs_nil, List.getElem?_cons_zero, List.getElem?_cons_succ, rb_ok, b_tuple, q_ref, hp, Option.map_some, oxs_lst, ro_some, rv, sl_tup, sl1, sl2, ad, ms_cons', ms_nil', m_tup, q_tup, dep_tup]) ⟨rfl, _, rfl⟩ (fun _ _ _ _ => rfl) ?_ ?_
  · rintro i x st h' hx ⟨rfl, x14, rfl⟩
    have : ∃ v, x = .tup (NL v) ∧ Vl sh v := by
      have hx := List.mem_of_getElem? hx
      simp only [List.mem_cons, List.not_mem_nil, or_false] at hx
      rcases hx with rfl | rfl | rfl
      · exact ⟨_, rfl, hm⟩
      · exact ⟨_, rfl, hr⟩
      · exact ⟨_, rfl, hs⟩
    obtain ⟨v, rfl, hV⟩ := this
    have hl := hV.len
    have ca : ∀ h, callF prog 99 6 [SD sh, .tup (NL v)] h = .ok (first sh v) h := fun h => c_first 97 w v (by omega) h
    have cb : ∀ h, callF prog 99 12 [SD sh, .tup (NL v)] h = .ok (first sh v) h := fun h => c_lfirst 98 w v (by omega) hV.lt h
    have cw : ∀ h, callF prog 99 14 [SD sh, .tup (NL v)] h = .ok (.bl (winsB sh v)) h := fun h => c_wins 98 w hV h
    have cf : ∀ h, callF prog 99 13 [SD sh, .tup (NL v)] h = .ok (.bl (winsB sh v)) h := fun h => by
      have := c_lisfair 97 w (.tup (NL v)) h (by simp only [pl]; exact pls_enc _ _ _)
      rwa [fair_nl hV, fair_wins w hV] at this
    have pf := fst_pl sh v
    have sm := fun h => same99 (first sh v) h pf
    have mf := fun h => mat1_pl pf h
    simp -implicitDefEqProofs only [turnS, asg_nm, rb_ok, List.set_cons_zero, List.set_cons_succ, ex_ite, evT_or, evT_not, evT_cons, evT_cmp, ev_call, ev_var, evs_cons, evs_nil, List.getElem?_cons_zero, List.getElem?_cons_succ, ms_cons', ms_nil', m_tup, mf, Ck_call, ca, cb, cw, cf, sm, t_bl, c_neB, decide_true, ro_some, Bool.not_true, Bool.false_eq_true, if_false, ex_nop, W_ok]
    exact ⟨by trivial, _, rfl⟩
  · rintro st h' ⟨rfl, x14, rfl⟩
    exact qe x14
theorem lnum1 {n : Nat} (k : Nat) (x : D) (p : pl n x = true) (x0 x1 x2 x3 x4 x5 x6 x7 x8 x9 x10 x11 x12 x13 x14 x15 x16 x17 x18 : Option D) (h : Hm) : ev (Ck k) (.and (.isi (.var 19) [.int]) (.and (.not (.isi (.var 19) [.bool])) (.and (.cmp .le (.int 1) (.var 19)) (.cmp .le (.var 19) (.int 60))))) [x0, x1, x2, x3, x4, x5, x6, x7, x8, x9, x10, x11, x12, x13, x14, x15, x16, x17, x18, some x] h = .ok (.bl (isNum x 1 60)) h := by
  cases x with
  | int i =>
    by_cases h1 : 1 ≤ i <;> by_cases h2 : i ≤ 60 <;> simp -implicitDefEqProofs only [ev_and, ev_not, ev_isi, ev_cmp, ev_int, ev_var, List.getElem?_cons_zero, List.getElem?_cons_succ, rb_ok, isiD, isTy, List.any_cons, List.any_nil, Bool.or_false, ro_some, t_bl, if_true, Bool.not_false, c_le, h1, h2, decide_true, decide_false, Bool.false_eq_true, if_false, Option.map_some, isNum, Bool.and_self, Bool.and_true, Bool.and_false, Bool.false_and, Bool.true_and]
  | lst _ => cases n <;> simp [pl] at p
  | ref _ => cases n <;> simp [pl] at p
  | fz _ => cases n <;> simp [pl] at p
  | _ => simp -implicitDefEqProofs [isiD, isTy, isNum]
def fine15 : E := (.and (.isi (.var 14) [.tuple]) (.and (.cmp .le (.int 1) (.bi .len (.cons (.var 14) .nil))) (.and (.cmp .le (.bi .len (.cons (.var 14) .nil)) (.int 12)) (.bi .all (.cons c8_law .nil)))))
theorem ev_fine (x : D) (p : pl 6 x = true) (x0 x1 x2 x3 x4 x5 x6 x7 x8 x9 x10 x11 x12 x13 x15 x16 x17 x18 x19 : Option D) (h : Hm) : ev (Ck 99) fine15 [x0, x1, x2, x3, x4, x5, x6, x7, x8, x9, x10, x11, x12, x13, some x, x15, x16, x17, x18, x19] h = .ok (.bl (isShares x)) h := by
  unfold fine15
  have ti := fun h => isi_tup p h
  cases ht : isTupD x with
  | false =>
    have e : isShares x = false := by cases x <;> first | rfl | simp [isTupD] at ht
    rw [ht] at ti
    simp -implicitDefEqProofs only [ev_and, ev_isi, ev_var, List.getElem?_cons_zero, List.getElem?_cons_succ, rb_ok, ti, ro_some, t_bl, Bool.false_eq_true, if_false, e]
  | true =>
    rw [ht] at ti
    cases x with
    | tup ds =>
      have pr : pls 5 ds = true := by simpa only [pl] using p
      have ec : ∀ h, ev (Ck 99) c8_law [x0, x1, x2, x3, x4, x5, x6, x7, x8, x9, x10, x11, x12, x13, some (.tup ds), x15, x16, x17, x18, x19] h = .ok (.lst ((ds.map fun x => isNum x 1 60).map .bl)) h := fun h => by
        unfold c8_law
        have := ev_comp_map (C := Ck 99) (elt := .and (.isi (.var 19) [.int]) (.and (.not (.isi (.var 19) [.bool])) (.and (.cmp .le (.int 1) (.var 19)) (.cmp .le (.var 19) (.int 60))))) (tg := .nm 19) (it := .cons (.var 14) .nil) (cs := .nil) (own := [19]) (s := [x0, x1, x2, x3, x4, x5, x6, x7, x8, x9, x10, x11, x12, x13, some (.tup ds), x15, x16, x17, x18, x19]) (h := h) (h1 := h) (enc := id) (dec := D.bl) (fun x => isNum x 1 60) (xs := ds) (deps := []) (by simp -implicitDefEqProofs only [evI_cons, ev_var, List.getElem?_cons_zero, List.getElem?_cons_succ, rb_ok, ro_some, q_tup, dep_tup, List.map_id_fun, id]) rfl fun x hx => by
          have ln := fun h => lnum1 99 x (pls_mem pr hx) x0 x1 x2 x3 x4 x5 x6 x7 x8 x9 x10 x11 x12 x13 (some (.tup ds)) x15 x16 x17 x18 h
          simp -implicitDefEqProofs only [turnE, wipeS, id, asg_nm, List.set_cons_zero, List.set_cons_succ, evC_nil, if_true, rb_ok, ln, m_bl]
        exact this
      have ea : (ds.map fun x => isNum x 1 60).all id = ds.all fun x => isNum x 1 60 := by rw [List.all_map]; rfl
      have e : isShares (.tup ds) = ((decide (1 ≤ (ds.length : Int)) && decide ((ds.length : Int) ≤ 12)) && ds.all fun x => isNum x 1 60) := rfl
      rw [e]
      by_cases h1 : 1 ≤ (ds.length : Int) <;> by_cases h2 : (ds.length : Int) ≤ 12 <;> simp -implicitDefEqProofs only [ev_and, ev_isi, ev_cmp, ev_bi, ev_int, ev_var, evs_cons, evs_nil, List.getElem?_cons_zero, List.getElem?_cons_succ, rb_ok, ti, ro_some, t_bl, if_true, b_len, len_tup, c_le, h1, h2, decide_true, decide_false, Option.map_some, Bool.false_eq_true, if_false, ec, b_all, all_b, ea, Bool.and_self, Bool.and_true, Bool.true_and, Bool.and_false, Bool.false_and]
    | _ => simp [isTupD] at ht
theorem l4_eq : l4_law = .loop (.nm 14) (.cons (.op .add (.var 9) c7_law) .nil) (.seq (.set (.nm 15) fine15) (.ite (.not (.cons (.call 10 (.cons (.call 1 (.cons (.var 14) .nil)) (.cons (.var 15) .nil))) .nil)) (.ret (.bl false)) .nop)) := rfl
theorem w_l4 {sh : List Nat} (hc : cl 6 1 (SD sh)) (c : List Int) (a z : Int) (gg : Hm) (vs : List D) (hv : ∀ x ∈ vs, pl 6 x = true) (hvl : vs.length ≤ 20) (p : Nat) (hp : gg[p]? = some (.lst vs)) (x0 x2 x4 x5 x6 x7 x8 x10 x11 x12 x13 x14 x15 x16 x17 x18 x19 : Option D) {Q : Fl → Hm → Prop}
    (qe : ∀ c a z x14 x15, Q (.nx [x0, some (.ref 1), x2, some (SD sh), x4, x5, x6, x7, x8, some (.ref (p + 2)), x10, x11, x12, x13, x14, x15, x16, x17, x18, x19]) (BH c a z gg)) :
    W (exec (Ck 99) l4_law [x0, some (.ref 1), x2, some (SD sh), x4, x5, x6, x7, x8, some (.ref (p + 2)), x10, x11, x12, x13, x14, x15, x16, x17, x18, x19] (BH c a z gg)) Q := by
  rw [l4_eq]
  have k : ∀ c a z, (BH c a z gg)[p + 2]? = some (.lst vs) := fun c a z => hp
  suffices wi : W (evI (Ck 99) (.cons (.op .add (.var 9) c7_law) .nil) [x0, some (.ref 1), x2, some (SD sh), x4, x5, x6, x7, x8, some (.ref (p + 2)), x10, x11, x12, x13, x14, x15, x16, x17, x18, x19] (BH c a z gg)) fun v h1 => ∃ xs c a z, v = ⟨xs, []⟩ ∧ h1 = BH c a z gg ∧ ∀ x ∈ xs, pl 6 x = true by
    obtain ⟨v, h1, ei, xs, c, a, z, rfl, rfl, hs⟩ := wi
    refine W_loop (fun i st h' => ∃ x14 x15, h' = BH c a z gg ∧ st = [x0, some (.ref 1), x2, some (SD sh), x4, x5, x6, x7, x8, some (.ref (p + 2)), x10, x11, x12, x13, x14, x15, x16, x17, x18, x19]) ei ⟨x14, x15, rfl, rfl⟩ (fun _ _ _ _ => rfl) ?_ ?_
    · rintro i x st h' hx ⟨x14, x15, rfl, rfl⟩
      have px := hs x (List.mem_of_getElem? hx)
      have ca : ∀ h, callF prog 99 1 [x] h = .ok (.bl (isShares x)) h := fun h => c_shares 97 x h px
      have sm := fun h => same99 (.bl (isShares x)) h rfl
      have mx := fun h => mat1_pl px h
      have ef := fun h => ev_fine x px x0 (some (.ref 1)) x2 (some (SD sh)) x4 x5 x6 x7 x8 (some (.ref (p + 2))) x10 x11 x12 x13 x15 x16 x17 x18 x19 h
      simp -implicitDefEqProofs only [turnS, asg_nm, rb_ok, List.set_cons_zero, List.set_cons_succ]
      refine W_seq ?_
      simp -implicitDefEqProofs only [ex_set, ef, rb_ok, m_bl, asg_nm, List.set_cons_zero, List.set_cons_succ, W_ok, Kn_nx]
      simp -implicitDefEqProofs only [ex_ite, evT_not, evT_cons, ev_call, ev_var, evs_cons, evs_nil, List.getElem?_cons_zero, List.getElem?_cons_succ, rb_ok, ms_cons', ms_nil', mx, m_bl, Ck_call, ca, sm, t_bl, ro_some, Bool.not_true, Bool.false_eq_true, if_false, ex_nop, W_ok]
      exact ⟨_, _, by trivial, rfl⟩
    · rintro st h' ⟨x14, x15, rfl, rfl⟩
      exact qe c a z x14 x15
  rw [evI_cons, W_bind, ev_op, W_bind]
  simp -implicitDefEqProofs only [ev_var, List.getElem?_cons_zero, List.getElem?_cons_succ, W_ok, W_bind]
  unfold c7_law
  refine W_comp ?_
  have rv := rangeV1 4 (by omega) (by omega)
  simp -implicitDefEqProofs only [evI_range, ev_int, evs_cons, evs_nil, rb_ok, ro_some, rv, W_ok]
  refine ⟨fun i acc h => ∃ (c : List Int) (a z : Int), h = BH c a z gg ∧ acc.length ≤ i ∧ ∀ x ∈ acc, pl 6 x = true, ⟨c, a, z, rfl, by simp, by simp⟩, fun _ _ _ _ => rfl, ?_, ?_⟩
  · rintro i x acc h hx ⟨c, a, z, rfl, hl, ha⟩
    simp -implicitDefEqProofs only [turnE, wipeS, asg_nm, List.set_cons_zero, List.set_cons_succ, evC_nil, if_true, ev_call, ev_int, ev_var, evs_cons, evs_nil, List.getElem?_cons_zero, List.getElem?_cons_succ, rb_ok, ms_cons', ms_nil', m_ref, m_tup, Ck_call, W_bind]
    refine w_bent 6 (by omega) (by omega) 1 (SD sh) hc 95 c a z gg fun d c a z hd => ?_
    simp -implicitDefEqProofs only [mat1_pl (shp_pl hd), W_ok]
    refine ⟨c, a, z, rfl, by simp; omega, fun x hx => ?_⟩
    rcases List.mem_append.mp hx with hx | hx
    · exact ha x hx
    · have : x = d := by simpa using hx
      subst this; exact pl_le (shp_pl hd) (by omega)
  · rintro ys h ⟨c, a, z, rfl, hl, ha⟩
    rw [rangeD_len] at hl
    have a2 := add_rl (k c a z) (ys := ys) (by omega)
    simp -implicitDefEqProofs only [a2, ro_some, W_ok, q_lst, dep_lst, rb_ok]
    refine ⟨_, c, a, z, rfl, rfl, fun x hx => ?_⟩
    rcases List.mem_append.mp hx with hx | hx
    · exact hv x hx
    · exact ha x hx
end Mp.K51

namespace Mp.K51
open PySem PySem.Spec L2
def B5 : S := match l5_law with
  | .loop _ _ b => b
  | _ => .nop
theorem l5_eq : l5_law = .loop (.nm 2) (.range (.cons (.int 5) .nil)) B5 := rfl
def LI (ns : List Int) (s : Stm) (h : Hm) : Prop := ∃ c a z g x2 x3 x4 x5 x6 x7 x8 x9 x10 x11 x12 x13 x14 x15 x16 x17 x18 x19, s = [some (.fz ns), some (.ref 1), x2, x3, x4, x5, x6, x7, x8, x9, x10, x11, x12, x13, x14, x15, x16, x17, x18, x19] ∧ h = BH c a z g
/-! exchanged -/
def swp (v : List Nat) (i j : Nat) : List Nat := (v.set i (v.getD j 0)).set j (v.getD i 0)
theorem swp_len (v : List Nat) (i j : Nat) : (swp v i j).length = v.length := by simp [swp]
theorem swp_mem {v : List Nat} {i j : Nat} (hi : i < v.length) (hj : j < v.length) {x : Nat} (h : x ∈ swp v i j) : x ∈ v := by
  have gm : ∀ i, i < v.length → v.getD i 0 ∈ v := fun i hi => by
    rw [List.getD_eq_getElem?_getD, List.getElem?_eq_getElem hi]; exact List.getElem_mem hi
  rcases List.mem_or_eq_of_mem_set h with h | rfl
  · rcases List.mem_or_eq_of_mem_set h with h | rfl
    · exact h
    · exact gm j hj
  · exact gm i hi
theorem swp_vl {sh v : List Nat} (hv : Vl sh v) {i j : Nat} (hi : i < v.length) (hj : j < v.length) : Vl sh (swp v i j) := ⟨by rw [swp_len]; exact hv.len, fun x hx => hv.lt x (swp_mem hi hj hx)⟩
theorem rev_vl {sh v : List Nat} (hv : Vl sh v) : Vl sh v.reverse := ⟨by rw [List.length_reverse]; exact hv.len, fun x hx => hv.lt x (List.mem_reverse.mp hx)⟩
theorem rot_vl {sh v : List Nat} (hv : Vl sh v) : Vl sh (v.drop 1 ++ v.take 1) := ⟨by rw [← hv.len]; simp; omega, fun x hx => hv.lt x ((List.mem_append.mp hx).elim List.mem_of_mem_drop List.mem_of_mem_take)⟩
theorem ev_c5 (m : List Nat) (one t : Nat) (h : Hm) (p : Nat) (hp : h[p]? = some (.lst (NL m))) (x0 x1 x2 x3 x4 x5 x6 x7 x9 x10 x11 x13 x14 x15 x16 x17 x19 : Option D) :
    ev (Ck 99) c5_law [x0, x1, x2, x3, x4, x5, x6, x7, some (.int (t : Nat)), x9, x10, x11, some (.ref p), x13, x14, x15, x16, x17, some (.int (one : Nat)), x19] h = .ok (.lst (NL ((m.take t).filter fun x => decide (x = one)))) h := by
  unfold c5_law
  have cu : slD h (.ref p) none (some ((t : Nat) : Int)) = some (.lst (NL (m.take t))) := by
    rw [sl_ref, hp, Option.map_some, oxs_lst, cut_take]
    unfold NL; rw [List.map_take]
  have := ev_comp_filter (C := Ck 99) (elt := .var 16) (own := [16]) (tg := .nm 16) (cs := .cons (.cmp .eq (.var 16) (.var 18)) .nil) (s := [x0, x1, x2, x3, x4, x5, x6, x7, some (.int (t : Nat)), x9, x10, x11, some (.ref p), x13, x14, x15, x16, x17, some (.int (one : Nat)), x19]) (h := h) (h1 := h) (it := .cons (.sl (.var 12) .nil (.cons (.var 8) .nil)) .nil)
    (enc := fun b : Nat => D.int (b : Nat)) (dec := fun b : Nat => D.int (b : Nat)) (fun x => if decide (x = one) = true then some x else none) (xs := m.take t) (deps := [])
    (by simp -implicitDefEqProofs only [evI_cons, ev_sl, evO_nil, evO_cons, ev_var, List.getElem?_cons_zero, List.getElem?_cons_succ, rb_ok, cu, ro_some, q_lst, dep_lst]; rfl) rfl (fun x hx => by
      simp -implicitDefEqProofs only [turnE, wipeS, asg_nm, List.set_cons_zero, List.set_cons_succ, evC_cons, evC_nil, evT_cmp, ev_var, List.getElem?_cons_zero, List.getElem?_cons_succ, rb_ok, cN_eq, ro_some]
      by_cases e : x = one <;> simp [e])
  rw [this]
  congr 2
  have e2 := fm_filter (fun x => decide (x = one)) (fun x : Nat => x) (m.take t)
  rw [List.map_id'] at e2
  rw [e2]; rfl
theorem cnt_filter (m : List Nat) (one : Nat) : (m.filter fun x => decide (x = one)).length = m.count one := by
  rw [List.count, List.countP_eq_length_filter]
  congr 1
theorem ev_c6 {sh : List Nat} (w : WfS sh) (m : List Nat) (t : Nat) (ht : t ≤ 400) (h : Hm) (p : Nat) (hp : h[p]? = some (.lst (NL m))) (x0 x1 x2 x4 x6 x7 x9 x10 x11 x13 x14 x15 x16 x17 x18 x19 : Option D) :
    ev (Ck 99) c6_law [x0, x1, x2, some (SD sh), x4, some (.int (tot sh : Nat)), x6, x7, some (.int (t : Nat)), x9, x10, x11, some (.ref p), x13, x14, x15, x16, x17, x18, x19] h = .ok (.lst ((debtsL sh m t).map .int)) h := by
  have hT := T_le w
  unfold c6_law debtsL
  refine ev_comp_map (enc := fun i : Nat => D.int (i : Nat)) (dec := D.int) (fun k => debt sh m t k) (xs := List.range sh.length) (deps := [])
    (by simp -implicitDefEqProofs only [evI_rangeLen, ev_var, List.getElem?_cons_zero, List.getElem?_cons_succ, rb_ok, q_tup, ro_some, nl_len, rangeD_nat]) rfl (fun j hj => ?_)
  have hj := List.mem_range.mp hj
  have g := nl_at hj
  have es : sh.getD j 0 = s sh j := rfl
  rw [es] at g
  have o1 := fun (h : Hm) (c : Nat) => opN_mul h (tot sh) c (by omega)
  have o2 := fun h => opN_mul h t (s sh j) (by omega)
  have e5 := fun (x16 x17 x19 : Option D) => ev_c5 m j t h p hp x0 x1 x2 (some (SD sh)) x4 (some (.int (tot sh : Nat))) x6 x7 x9 x10 x11 x13 x14 x15 x16 x17 x19
  simp -implicitDefEqProofs only [turnE, wipeS, asg_nm, List.set_cons_zero, List.set_cons_succ, evC_nil, if_true, ev_op, ev_ix, ev_bi, ev_var, evs_cons, evs_nil, List.getElem?_cons_zero, List.getElem?_cons_succ, rb_ok, e5, b_len, len_lst, nl_len, cnt_filter, ix_tup, g, o1, o2, op_subI, ro_some, m_int]
  rfl
theorem pl_nl (n : Nat) (v : List Nat) : pl (n + 1) (.tup (NL v)) = true := by
  simp only [pl]; exact pls_enc n (fun b : Nat => (b : Int)) v
theorem cl_nl {L : Nat} {v : List Nat} (hl : v.length ≤ L) (hb : ∀ x ∈ v, x ≤ 100000) : cl L 1 (.tup (NL v)) := .inr ⟨_, rfl, by rw [nl_len]; exact hl, fun x hx => by
  obtain ⟨b, hb2, rfl⟩ := List.mem_map.mp hx
  have := hb b hb2
  exact ⟨_, rfl, by omega, by omega⟩⟩
theorem rep3 (v : List Nat) : (List.replicate 3 (NL v)).flatten = NL (v ++ (v ++ v)) := by
  rw [nl_app, nl_app]
  simp [List.replicate]
theorem mul_tup {h : Hm} {xs : List D} {k : Nat} (hk : k ≤ 1000000) (hl : xs.length * k ≤ 1000000) : bop h .mul (.tup xs) (.int (k : Nat)) = some (.tup (List.replicate k xs).flatten) := by
  show mulD h (.tup xs) (.int (k : Nat)) = _
  simp only [mulD, pow63]
  rw [if_pos ⟨by omega, by omega, by simpa using hl⟩]
  rfl
theorem turn (ns : List Int) (t0 : Int) (s : Stm) (h : Hm) (hI : LI ns s h) : W (turnS (Ck 99) (.nm 2) B5 (.int t0) s h) fun f h' => match f with
    | .nx s' => LI ns s' h'
    | _ => False := by
  obtain ⟨c, a, z, g, x2, x3, x4, x5, x6, x7, x8, x9, x10, x11, x12, x13, x14, x15, x16, x17, x18, x19, rfl, rfl⟩ := hI
  simp -implicitDefEqProofs only [turnS, B5, l5_law, asg_nm, rb_ok, List.set_cons_zero, List.set_cons_succ]
  -- shares
  refine W_seq ?_
  simp -implicitDefEqProofs only [ex_set, ev_bi, evs_cons, evs_nil, W_bind]
  refine w_c1 c a z g _ _ _ _ _ _ _ _ _ _ _ _ _ _ _ _ _ _ _ fun sh c a z w => ?_
  have hT := T_le w
  have hT0 := T_pos w
  have hl := w.len
  simp -implicitDefEqProofs only [rb_ok, b_tuple, q_lst, Option.map_some, ro_some, W_ok, m_tup, asg_nm, List.set_cons_zero, List.set_cons_succ, Kn_nx]
  -- told
  have vl := edf_vl w
  have wn := edf_wins w
  have fr := edf_fair w
  have tlen := edf_len sh (tot sh)
  have c3 : ∀ h, callF prog 99 3 [SD sh] h = .ok (.tup (NL (edf sh (tot sh)))) h := fun h => c_fair 97 w h
  have sn := fun h => sum_nl h sh
  refine W_seq ?_
  simp -implicitDefEqProofs only [ex_set, ev_tup, ev_call, ev_bi, ev_var, evs_cons, evs_nil, List.getElem?_cons_zero, List.getElem?_cons_succ, rb_ok, ms_cons', ms_nil', m_tup, m_int, Ck_call, c3, b_sum, sn, ro_some, asg_tp, asgs_cons, asgs_nil, asg_nm, List.set_cons_zero, List.set_cons_succ, W_ok, Kn_nx]
  generalize hv0 : edf sh (tot sh) = v0 at *
  have f13 : ∀ h, callF prog 99 13 [SD sh, .tup (NL v0)] h = .ok (.bl true) h := fun h => by
    have := c_lisfair 97 w (.tup (NL v0)) h (pl_nl 5 v0)
    rw [fair_nl vl, fr] at this; exact this
  have f14 : ∀ h, callF prog 99 14 [SD sh, .tup (NL v0)] h = .ok (.bl true) h := fun h => by
    have := c_wins 98 w vl h
    rw [wn] at this; exact this
  have f6 : ∀ h, callF prog 99 6 [SD sh, .tup (NL v0)] h = .ok .non h := fun h => by
    have := c_first 97 w v0 (by omega) h
    rw [first_of_fair fr] at this; exact this
  refine W_seq ?_
  simp -implicitDefEqProofs only [ex_ite, evT_or, evT_not, evT_cons, evT_cmp, ev_non, ev_call, ev_var, evs_cons, evs_nil, List.getElem?_cons_zero, List.getElem?_cons_succ, rb_ok, ms_cons', ms_nil', m_tup, Ck_call, f13, f14, f6, t_bl, ro_some, Bool.not_true, Bool.false_eq_true, if_false, c_isnN, decide_true, ex_nop, W_ok, Kn_nx]
  -- by windows
  have zr := fun h => zeros h sh.length (by omega)
  refine W_seq ?_
  simp -implicitDefEqProofs only [ex_set, ev_tup, ev_op, ev_lst, ev_int, ev_bi, ev_var, evs_cons, evs_nil, List.getElem?_cons_zero, List.getElem?_cons_succ, rb_ok, ms_cons', ms_nil', m_tup, m_int, m_lst, b_len, len_tup, nl_len, zr, ro_some, asg_tp, asgs_cons, asgs_nil, asg_nm, List.set_cons_zero, List.set_cons_succ, W_ok, Kn_nx]
  have hE : Ext (BH c a z []) (BH c a z g ++ [O.lst (NL (List.replicate sh.length 0))] ++ [O.lst []]) := ((ext_bh c a z g).app _).app _
  have h6 : (BH c a z g ++ [O.lst (NL (List.replicate sh.length 0))] ++ [O.lst []])[(BH c a z g).length]? = some (.lst (NL (hadL sh.length []))) := by rw [had_nil]; exact at_app _ (at_new _ _)
  have h7 : (BH c a z g ++ [O.lst (NL (List.replicate sh.length 0))] ++ [O.lst []])[(BH c a z g ++ [O.lst (NL (List.replicate sh.length 0))]).length]? = some (.lst (NL [])) := at_new _ _
  have lp : (BH c a z g).length < (BH c a z g ++ [O.lst (NL (List.replicate sh.length 0))]).length := by simp
  have b6 : (BH c a z []).length ≤ (BH c a z g).length := by simp
  generalize BH c a z g ++ [O.lst (NL (List.replicate sh.length 0))] ++ [O.lst []] = h1 at *
  generalize (BH c a z g ++ [O.lst (NL (List.replicate sh.length 0))]).length = p7 at *
  generalize (BH c a z g).length = p6 at *
  refine W_seq (w_l1 w (BH c a z []) h1 hE p6 p7 b6 (by omega) (by omega) h6 h7 _ _ _ _ _ _ _ _ _ _ _ _ _ _ _ _ fun h2 x8 x9 hE h7 => ?_)
  rw [hv0] at h7
  obtain ⟨gg, rfl⟩ : ∃ gg, h2 = BH c a z gg := Ext.bh hE
  simp -implicitDefEqProofs only [Kn_nx]
  have sm1 := fun h => same99 (.tup (NL v0)) h (pl_nl 5 v0)
  have m3 := fun (h : Hm) => mul_tup (h := h) (xs := NL v0) (k := 3) (by omega) (by rw [nl_len]; omega)
  have f3 : ∀ h, callF prog 99 6 [SD sh, .tup (NL (v0 ++ (v0 ++ v0)))] h = .ok .non h := fun h => by
    have := c_first 97 w (v0 ++ (v0 ++ v0)) (by simp; omega) h
    rw [first_of_fair (fair_app w vl wn (fair_app w vl wn fr))] at this; exact this
  have k3 : ((3 : Nat) : Int) = 3 := rfl
  rw [k3] at m3
  refine W_seq (W.imp (Q := fun f h => f = .nx [some (.fz ns), some (.ref 1), some (.int t0), some (SD sh), some (.tup (NL v0)), some (.int (tot sh : Nat)), some (.ref p6), some (.ref p7), x8, x9, x10, x11, x12, x13, x14, x15, x16, x17, x18, x19] ∧ h = BH c a z gg) ?_ ?_)
  · by_cases ht : ((tot sh : Nat) : Int) < 100
    · simp -implicitDefEqProofs only [ex_ite, evT_or, evT_and, evT_not, evT_cons, evT_cmp, ev_non, ev_int, ev_op, ev_bi, ev_call, ev_var, evs_cons, evs_nil, List.getElem?_cons_zero, List.getElem?_cons_succ, rb_ok, ms_cons', ms_nil', m_tup, Ck_call, b_tuple, q_ref, h7, Option.map_some, oxs_lst, sm1, t_bl, ro_some, Bool.not_true, Bool.false_eq_true, if_false, c_lt, ht, decide_true, if_true, m3, rep3, f3, c_isnN, ex_nop, W_ok, and_self]
    · simp -implicitDefEqProofs only [ex_ite, evT_or, evT_and, evT_not, evT_cons, evT_cmp, ev_non, ev_int, ev_op, ev_bi, ev_call, ev_var, evs_cons, evs_nil, List.getElem?_cons_zero, List.getElem?_cons_succ, rb_ok, ms_cons', ms_nil', m_tup, Ck_call, b_tuple, q_ref, h7, Option.map_some, oxs_lst, sm1, t_bl, ro_some, Bool.not_true, Bool.false_eq_true, if_false, c_lt, ht, decide_false, if_true, m3, rep3, f3, c_isnN, ex_nop, W_ok, and_self]
  rintro _ _ ⟨rfl, rfl⟩
  simp -implicitDefEqProofs only [Kn_nx]
  -- two exchanged
  refine W_seq ?_
  simp -implicitDefEqProofs only [ex_par2, ev_call, ev_var, evs_cons, evs_nil, List.getElem?_cons_zero, List.getElem?_cons_succ, rb_ok, ms_cons', ms_nil', m_ref, m_int, Ck_call, W_bind]
  refine w_draw (by omega) (by omega) fun i c a z hi => ?_
  refine w_draw (by omega) (by omega) fun j c a z hj => ?_
  have hi : i < v0.length := by omega
  have hj : j < v0.length := by omega
  simp -implicitDefEqProofs only [rb_ok, ms_cons', ms_nil', m_int, List.set_cons_zero, List.set_cons_succ, W_ok, Kn_nx]
  refine W_seq ?_
  simp -implicitDefEqProofs only [ex_set, ev_bi, ev_var, evs_cons, evs_nil, List.getElem?_cons_zero, List.getElem?_cons_succ, rb_ok, b_list, q_tup, Option.map_some, ro_some, m_lst, BH_len, BH_app, asg_nm, List.set_cons_zero, List.set_cons_succ, W_ok, Kn_nx]
  have k12 : (BH c a z (gg ++ [.lst (NL v0)]))[gg.length + 2]? = some (.lst (NL v0)) := BH_at0 c a z gg [] _
  have g1 := ix_h k12 hi
  have g2 := ix_h k12 hj
  have s1 := si_h k12 hi (v0.getD j 0)
  have k12b := set_self k12 (.lst (NL (v0.set i (v0.getD j 0))))
  have s2 := si_h k12b (i := j) (by simpa using hj) (v0.getD i 0)
  rw [List.set_set] at s2
  have eS : (v0.set i (v0.getD j 0)).set j (v0.getD i 0) = swp v0 i j := rfl
  rw [eS] at s2
  have eG : (BH c a z (gg ++ [O.lst (NL v0)])).set (gg.length + 2) (O.lst (NL (swp v0 i j))) = BH c a z (gg ++ [O.lst (NL (swp v0 i j))]) := BH_set0 c a z gg [] _ _
  rw [eG] at s2
  refine W_seq ?_
  simp -implicitDefEqProofs only [ex_set, ev_tup, ev_ix, ev_var, evs_cons, evs_nil, List.getElem?_cons_zero, List.getElem?_cons_succ, rb_ok, g1, g2, ro_some, ms_cons', ms_nil', m_int, m_tup, asg_tp, asgs_cons, asgs_nil, asg_ix, s1, s2, W_ok, Kn_nx]
  have km : ∀ c a z, (BH c a z (gg ++ [.lst (NL (swp v0 i j))]))[gg.length + 2]? = some (.lst (NL (swp v0 i j))) := fun c a z => BH_at0 c a z gg [] _
  have vm := swp_vl vl hi hj
  generalize hG : gg ++ [O.lst (NL (swp v0 i j))] = G at *
  generalize hM : swp v0 i j = m at *
  generalize gg.length = pm at *
  -- values
  have ec3 : ∀ (h : Hm) (x2 x8 x9 x10 x11 x12 x13 x14 x15 x16 x17 x18 x19 : Option D), ∃ ws : List Int, ws.length ≤ 360 ∧ ev (Ck 99) c3_law [some (.fz ns), some (.ref 1), x2, some (SD sh), some (.tup (NL v0)), some (.int (tot sh : Nat)), some (.ref p6), some (.ref p7), x8, x9, x10, x11, x12, x13, x14, x15, x16, x17, x18, x19] h = .ok (.lst (ws.map .int)) h := fun h x2 x8 x9 x10 x11 x12 x13 x14 x15 x16 x17 x18 x19 => by
    refine ⟨v0.map fun x : Nat => ((sh.length : Nat) : Int) - 1 - (x : Nat), by rw [List.length_map]; omega, ?_⟩
    unfold c3_law
    refine ev_comp_map (enc := fun i : Nat => D.int (i : Nat)) (dec := D.int) (fun x => ((sh.length : Nat) : Int) - 1 - (x : Nat)) (xs := v0) (deps := [])
      (by simp -implicitDefEqProofs only [evI_cons, ev_var, List.getElem?_cons_zero, List.getElem?_cons_succ, rb_ok, q_tup, ro_some, dep_tup]; rfl) rfl (fun x hx => ?_)
    simp -implicitDefEqProofs only [turnE, wipeS, asg_nm, List.set_cons_zero, List.set_cons_succ, evC_nil, if_true, ev_op, ev_bi, ev_int, ev_var, evs_cons, evs_nil, List.getElem?_cons_zero, List.getElem?_cons_succ, rb_ok, b_len, len_tup, nl_len, op_subI, ro_some, m_int]
  obtain ⟨ws, wl, ec3⟩ := ec3 (BH c a z G) (some (.int t0)) x8 x9 (some (.int (i : Nat))) (some (.int (j : Nat))) (some (.ref (pm + 2))) x13 x14 x15 x16 x17 x18 x19
  have ct1 : cutD (NL v0) none (some 1) = (NL v0).take 1 := cut_take _ 1
  have rd : ∀ h, revD h (.tup (NL v0)) = some (.tup (NL v0).reverse) := fun h => rfl
  have a1 : ∀ h, bop h .add (.tup ((NL v0).drop 1)) (.tup ((NL v0).take 1)) = some (.tup ((NL v0).drop 1 ++ (NL v0).take 1)) := fun h => by rw [op_addT, sz_ok1000 _ (by simp; omega)]
  have a2 : ∀ h, bop h .add (.tup (NL v0)) (.tup ((NL v0).take 1)) = some (.tup (NL v0 ++ (NL v0).take 1)) := fun h => by rw [op_addT, sz_ok1000 _ (by simp; omega)]
  have a3 := fun (h : Hm) => mul_tup (h := h) (xs := [.int 0]) (k := tot sh) (by omega) (by simp; omega)
  have a4 := fun (h : Hm) => mul_tup (h := h) (xs := [.bl true]) (k := tot sh) (by omega) (by simp; omega)
  rw [List.flatten_replicate_singleton] at a3 a4
  refine W_seq ?_
  simp -implicitDefEqProofs only [ex_set, ev_lst, ev_tup, ev_bi, ev_sl, evO_nil, evO_cons, ev_op, ev_rev, ev_int, ev_bl, ev_non, ev_var, evs_cons, evs_nil, List.getElem?_cons_zero, List.getElem?_cons_succ, rb_ok, b_tuple, q_ref, q_lst, km, Option.map_some, oxs_lst, sl_tup, cut_from1, ct1, ro_some, a1, a2, a3, a4, rd, ec3, ms_cons', ms_nil', m_int, m_bl, m_non, m_tup, m_lst, BH_len, BH_app, asg_nm, List.set_cons_zero, List.set_cons_succ, W_ok, Kn_nx]
  have hvs : ∀ x ∈ ([.tup (NL v0), .tup (NL m), .tup ((NL v0).drop 1 ++ (NL v0).take 1), .tup (NL v0).reverse, .tup ((NL v0).drop 1), .tup (NL v0 ++ (NL v0).take 1), .non, .int 0, .tup (List.replicate (tot sh) (.int 0)), .tup (ws.map .int), .tup (List.replicate (tot sh) (.bl true))] : List D), pl 6 x = true := fun x hx => by
    have q0 : ∀ x ∈ NL v0, pl 5 x = true := fun x hx => pls_mem (pls_enc 5 (fun b : Nat => (b : Int)) v0) hx
    have tp : ∀ ds : List D, (∀ x ∈ ds, pl 5 x = true) → pl 6 (.tup ds) = true := fun ds h => by simp only [pl]; exact pls_of h
    simp only [List.mem_cons, List.not_mem_nil, or_false] at hx
    rcases hx with rfl | rfl | rfl | rfl | rfl | rfl | rfl | rfl | rfl | rfl | rfl
    · exact tp _ q0
    · exact pl_nl 5 m
    · exact tp _ fun x hx => (List.mem_append.mp hx).elim (fun h => q0 x (List.mem_of_mem_drop h)) (fun h => q0 x (List.mem_of_mem_take h))
    · exact tp _ fun x hx => q0 x (List.mem_reverse.mp hx)
    · exact tp _ fun x hx => q0 x (List.mem_of_mem_drop hx)
    · exact tp _ fun x hx => (List.mem_append.mp hx).elim (q0 x) (fun h => q0 x (List.mem_of_mem_take h))
    · rfl
    · rfl
    · exact tp _ fun x hx => by rw [(List.mem_replicate.mp hx).2]; rfl
    · exact tp _ fun x hx => by obtain ⟨i, _, rfl⟩ := List.mem_map.mp hx; rfl
    · exact tp _ fun x hx => by rw [(List.mem_replicate.mp hx).2]; rfl
  generalize hVS : ([.tup (NL v0), .tup (NL m), .tup ((NL v0).drop 1 ++ (NL v0).take 1), .tup (NL v0).reverse, .tup ((NL v0).drop 1), .tup (NL v0 ++ (NL v0).take 1), .non, .int 0, .tup (List.replicate (tot sh) (.int 0)), .tup (ws.map .int), .tup (List.replicate (tot sh) (.bl true))] : List D) = vs at *
  have hvl : vs.length ≤ 20 := by rw [← hVS]; simp
  have c0 : cl 360 1 (.tup (NL v0)) := cl_nl (by omega) fun x hx => by have := vl.lt x hx; omega
  have k13 : (G ++ [O.lst vs])[G.length]? = some (.lst vs) := at_new G _
  have km2 : ∀ c a z, (BH c a z (G ++ [O.lst vs]))[pm + 2]? = some (.lst (NL m)) := fun c a z => at_app (h := G) _ (km c a z)
  generalize G ++ [O.lst vs] = G2 at *
  refine W_seq (w_l2 w c0 c a z G2 vs hvs hvl _ k13 _ _ _ _ _ _ _ _ _ _ _ _ _ _ _ _ fun c a z x14 x15 => ?_)
  simp -implicitDefEqProofs only [Kn_nx]
  refine W_seq (w_l3 w vm (rev_vl vl) (rot_vl vl) _ _ (km2 c a z) _ _ _ _ _ _ _ _ _ _ _ _ _ _ _ _ _ fun x14 => ?_)
  simp -implicitDefEqProofs only [Kn_nx]
  -- debts
  have ot : ∀ h, bop h .add (.int (tot sh : Nat)) (.int 1) = some (.int ((tot sh + 1 : Nat))) := fun h => opN_add h _ 1
  refine W_seq ?_
  simp -implicitDefEqProofs only [ex_set, ev_call, ev_op, ev_int, ev_var, evs_cons, evs_nil, List.getElem?_cons_zero, List.getElem?_cons_succ, rb_ok, ot, ro_some, ms_cons', ms_nil', m_ref, m_int, Ck_call, W_bind]
  refine w_draw (by omega) (by omega) fun t c a z ht => ?_
  simp -implicitDefEqProofs only [m_int, asg_nm, rb_ok, List.set_cons_zero, List.set_cons_succ, W_ok, Kn_nx]
  have c5 : ∀ h, callF prog 99 5 [SD sh, .tup (NL m), .int (t : Nat)] h = .ok (.tup ((debtsL sh m t).map .int)) h := fun h => c_debts 98 w m t (by omega) h
  have e6 := ev_c6 w m t (by omega) (BH c a z G2) (pm + 2) (km2 c a z) (some (.fz ns)) (some (.ref 1)) (some (.int t0)) (some (.tup (NL v0))) (some (.ref p6)) (some (.ref p7)) x9 (some (.int (i : Nat))) (some (.int (j : Nat))) (some (.ref (G.length + 2))) x14 x15 x16 x17 x18 x19
  have sm2 := fun h => same99 (.tup ((debtsL sh m t).map .int)) h (by simp only [pl]; exact pls_enc 5 (fun b : Int => b) (debtsL sh m t))
  refine W_seq ?_
  simp -implicitDefEqProofs only [ex_ite, evT_not, evT_cons, ev_bi, ev_call, ev_var, evs_cons, evs_nil, List.getElem?_cons_zero, List.getElem?_cons_succ, rb_ok, ms_cons', ms_nil', m_tup, m_int, Ck_call, b_tuple, q_ref, q_lst, km2, Option.map_some, oxs_lst, c5, e6, sm2, t_bl, ro_some, Bool.not_true, Bool.false_eq_true, if_false, ex_nop, W_ok, Kn_nx]
  -- shares and others
  have a5 : ∀ h, bop h .add (SD sh) (.tup [.int 0]) = some (.tup (NL sh ++ [.int 0])) := fun h => by rw [op_addT, sz_ok1000 _ (by simp; omega)]
  have a6 : ∀ h, bop h .add (SD sh) (.tup [.int 61]) = some (.tup (NL sh ++ [.int 61])) := fun h => by rw [op_addT, sz_ok1000 _ (by simp; omega)]
  have a7 := fun (h : Hm) => mul_tup (h := h) (xs := [.int 1]) (k := 12) (by omega) (by simp)
  have a8 := fun (h : Hm) => mul_tup (h := h) (xs := [.int 1]) (k := 13) (by omega) (by simp)
  rw [List.flatten_replicate_singleton] at a7 a8
  have k12' : ((12 : Nat) : Int) = 12 := rfl
  have k13' : ((13 : Nat) : Int) = 13 := rfl
  rw [k12'] at a7
  rw [k13'] at a8
  refine W_seq ?_
  simp -implicitDefEqProofs only [ex_set, ev_lst, ev_tup, ev_op, ev_int, ev_bl, ev_str, ev_non, ev_var, evs_cons, evs_nil, List.getElem?_cons_zero, List.getElem?_cons_succ, rb_ok, a5, a6, a7, a8, ro_some, ms_cons', ms_nil', m_int, m_bl, m_str, m_non, m_tup, m_lst, BH_len, BH_app, asg_nm, List.set_cons_zero, List.set_cons_succ, W_ok, Kn_nx]
  have hus : ∀ x ∈ ([SD sh, .tup [], .tup (NL sh ++ [.int 0]), .tup (NL sh ++ [.int 61]), .tup (List.replicate 12 (.int 1)), .tup (List.replicate 13 (.int 1)), .non, .int 3, .tup [.bl true], .tup [.str "1"]] : List D), pl 6 x = true := fun x hx => by
    have q0 : ∀ x ∈ NL sh, pl 5 x = true := fun x hx => pls_mem (pls_enc 5 (fun b : Nat => (b : Int)) sh) hx
    have tp : ∀ ds : List D, (∀ x ∈ ds, pl 5 x = true) → pl 6 (.tup ds) = true := fun ds h => by simp only [pl]; exact pls_of h
    have one : ∀ i : Int, ∀ x ∈ [D.int i], pl 5 x = true := fun i x hx => by
      have : x = .int i := by simpa using hx
      subst this; rfl
    simp only [List.mem_cons, List.not_mem_nil, or_false] at hx
    rcases hx with rfl | rfl | rfl | rfl | rfl | rfl | rfl | rfl | rfl | rfl
    · exact tp _ q0
    · rfl
    · exact tp _ fun x hx => (List.mem_append.mp hx).elim (q0 x) (one 0 x)
    · exact tp _ fun x hx => (List.mem_append.mp hx).elim (q0 x) (one 61 x)
    · exact tp _ fun x hx => by rw [(List.mem_replicate.mp hx).2]; rfl
    · exact tp _ fun x hx => by rw [(List.mem_replicate.mp hx).2]; rfl
    · rfl
    · rfl
    · rfl
    · rfl
  generalize hUS : ([SD sh, .tup [], .tup (NL sh ++ [.int 0]), .tup (NL sh ++ [.int 61]), .tup (List.replicate 12 (.int 1)), .tup (List.replicate 13 (.int 1)), .non, .int 3, .tup [.bl true], .tup [.str "1"]] : List D) = us at *
  have hul : us.length ≤ 20 := by rw [← hUS]; simp
  have k9 : (G2 ++ [O.lst us])[G2.length]? = some (.lst us) := at_new G2 _
  have csh : cl 6 1 (SD sh) := cl_nl hl fun x hx => by
    obtain ⟨k, hk, rfl⟩ := List.getElem_of_mem hx
    have := (w.bd k hk).2
    unfold Mp.K51.s at this
    rw [List.getD_eq_getElem?_getD, List.getElem?_eq_getElem hk] at this
    simp at this
    omega
  exact w_l4 csh c a z _ us hus hul _ k9 _ _ _ _ _ _ _ _ _ _ _ _ _ _ _ _ _ fun c a z x14 x15 => ⟨_, _, _, _, _, _, _, _, _, _, _, _, _, _, _, _, _, _, _, _, _, _, rfl, rfl⟩
end Mp.K51

namespace Mp.K51
open PySem PySem.Spec L2
theorem law_true : LawTrue prog 100 15 := by
  intro ns hl
  show ∃ h, callF prog (99 + 1) 15 [.fz ns] [] = .ok (.bl true) h
  suffices w : W (callF prog (99 + 1) 15 [.fz ns] []) fun d _ => d = .bl true by
    obtain ⟨d, h, e, rfl⟩ := w
    exact ⟨h, e⟩
  rw [r_law]
  refine W_run rfl ?_
  show W (exec (Ck 99) b_law [some (.fz ns), none, none, none, none, none, none, none, none, none, none, none, none, none, none, none, none, none, none, none] []) _
  unfold b_law
  refine W_seq ?_
  have e1 : callF prog 99 7 [.fz ns] [] = .ok (.lst [.ref 0, .int 0, .int (4711 + ns.length)]) [.lst ((cutD ns none (some 63)).map .int)] := c_box 98 ns
  simp -implicitDefEqProofs [e1]
  refine W_seq ?_
  rw [l5_eq]
  refine W_loop (fun _ s h => LI ns s h) (v := ⟨rangeD 0 5, []⟩) (h1 := BH (cutD ns none (some 63)) 0 (4711 + ns.length) []) (by simp -implicitDefEqProofs [rangeV1 5 (by omega) (by omega)]; rfl) ⟨_, _, _, _, _, _, _, _, _, _, _, _, _, _, _, _, _, _, _, _, _, _, rfl, rfl⟩ (fun _ _ _ _ => rfl) ?_ ?_
  · rintro i x s h hx hI
    obtain ⟨rfl, hi⟩ := rangeD_get hx
    refine (turn ns _ s h hI).imp fun f h' q => ?_
    cases f <;> first | exact q | exact False.elim q
  · rintro s h ⟨c, a, z, g0, x2, x3, x4, x5, x6, x7, x8, x9, x10, x11, x12, x13, x14, x15, x16, x17, x18, x19, rfl, rfl⟩
    simp -implicitDefEqProofs [f_law]
end Mp.K51

namespace Mp.K51
open PySem PySem.Spec L2
theorem all_mk {l : PySem.W.OpenLaw} {w : World} {K : PySem.W.Frag} {h : Heap} {mg : Str → Option Value} {fa : Addr} (KX : K.In h) (G : h.Ns mainGlobals mg) (hfa : mg "law" = some (.ref fa))
    {f0 : Addr} {oc0 kV0 dc0 pm0 cd0 ct0 : Value} {od0 an0 : Option Addr} {sl0 : Array (Option Value)}
    {f1 : Addr} {oc1 kV1 dc1 pm1 cd1 ct1 : Value} {od1 an1 : Option Addr} {sl1 : Array (Option Value)}
    {f2 : Addr} {oc2 kV2 dc2 pm2 cd2 ct2 : Value} {od2 an2 : Option Addr} {sl2 : Array (Option Value)}
    {f3 : Addr} {oc3 kV3 dc3 pm3 cd3 ct3 : Value} {od3 an3 : Option Addr} {sl3 : Array (Option Value)}
    {f4 : Addr} {oc4 kV4 dc4 pm4 cd4 ct4 : Value} {od4 an4 : Option Addr} {sl4 : Array (Option Value)}
    {f5 : Addr} {oc5 kV5 dc5 pm5 cd5 ct5 : Value} {od5 an5 : Option Addr} {sl5 : Array (Option Value)}
    {f6 : Addr} {oc6 kV6 dc6 pm6 cd6 ct6 : Value} {od6 an6 : Option Addr} {sl6 : Array (Option Value)}
    {f7 : Addr} {oc7 kV7 dc7 pm7 cd7 ct7 : Value} {od7 an7 : Option Addr} {sl7 : Array (Option Value)}
    {f8 : Addr} {oc8 kV8 dc8 pm8 cd8 ct8 : Value} {od8 an8 : Option Addr} {sl8 : Array (Option Value)}
    {f9 : Addr} {oc9 kV9 dc9 pm9 cd9 ct9 : Value} {od9 an9 : Option Addr} {sl9 : Array (Option Value)}
    {f10 : Addr} {oc10 kV10 dc10 pm10 cd10 ct10 : Value} {od10 an10 : Option Addr} {sl10 : Array (Option Value)}
    {f11 : Addr} {oc11 kV11 dc11 pm11 cd11 ct11 : Value} {od11 an11 : Option Addr} {sl11 : Array (Option Value)}
    {f12 : Addr} {oc12 kV12 dc12 pm12 cd12 ct12 : Value} {od12 an12 : Option Addr} {sl12 : Array (Option Value)}
    {f13 : Addr} {oc13 kV13 dc13 pm13 cd13 ct13 : Value} {od13 an13 : Option Addr} {sl13 : Array (Option Value)}
    {f14 : Addr} {oc14 kV14 dc14 pm14 cd14 ct14 : Value} {od14 an14 : Option Addr} {sl14 : Array (Option Value)}
    {f15 : Addr} {oc15 kV15 dc15 pm15 cd15 ct15 : Value} {od15 an15 : Option Addr} {sl15 : Array (Option Value)}
    (a0 : PySem.W.nsIn K mainGlobals "is_number" = some (some (.ref f0))) (l0 : K.lookup f0 = some ⟨oc0, od0, .func (PySem.W.fnOf "is_number" "is_number" (dArgs (topS 1)) (dBody (topS 1)) (dScope (topS 1)) .none kV0 dc0 pm0 an0 cd0 ct0), sl0⟩) (c0 : PySem.W.codeIn K cd0 "is_number" = true) (k0 : PySem.W.keepIn K (.ref f0) = true)
    (a1 : PySem.W.nsIn K mainGlobals "are_shares" = some (some (.ref f1))) (l1 : K.lookup f1 = some ⟨oc1, od1, .func (PySem.W.fnOf "are_shares" "are_shares" (dArgs (topS 5)) (dBody (topS 5)) (dScope (topS 5)) .none kV1 dc1 pm1 an1 cd1 ct1), sl1⟩) (c1 : PySem.W.codeIn K cd1 "are_shares" = true) (k1 : PySem.W.keepIn K (.ref f1) = true)
    (a2 : PySem.W.nsIn K mainGlobals "window_of" = some (some (.ref f2))) (l2 : K.lookup f2 = some ⟨oc2, od2, .func (PySem.W.fnOf "window_of" "window_of" (dArgs (topS 6)) (dBody (topS 6)) (dScope (topS 6)) .none kV2 dc2 pm2 an2 cd2 ct2), sl2⟩) (c2 : PySem.W.codeIn K cd2 "window_of" = true) (k2 : PySem.W.keepIn K (.ref f2) = true)
    (a3 : PySem.W.nsIn K mainGlobals "fair_turns" = some (some (.ref f3))) (l3 : K.lookup f3 = some ⟨oc3, od3, .func (PySem.W.fnOf "fair_turns" "fair_turns" (dArgs (topS 7)) (dBody (topS 7)) (dScope (topS 7)) .none kV3 dc3 pm3 an3 cd3 ct3), sl3⟩) (c3 : PySem.W.codeIn K cd3 "fair_turns" = true) (k3 : PySem.W.keepIn K (.ref f3) = true)
    (a4 : PySem.W.nsIn K mainGlobals "are_fair" = some (some (.ref f4))) (l4 : K.lookup f4 = some ⟨oc4, od4, .func (PySem.W.fnOf "are_fair" "are_fair" (dArgs (topS 8)) (dBody (topS 8)) (dScope (topS 8)) .none kV4 dc4 pm4 an4 cd4 ct4), sl4⟩) (c4 : PySem.W.codeIn K cd4 "are_fair" = true) (k4 : PySem.W.keepIn K (.ref f4) = true)
    (a5 : PySem.W.nsIn K mainGlobals "debts_behind" = some (some (.ref f5))) (l5 : K.lookup f5 = some ⟨oc5, od5, .func (PySem.W.fnOf "debts_behind" "debts_behind" (dArgs (topS 9)) (dBody (topS 9)) (dScope (topS 9)) .none kV5 dc5 pm5 an5 cd5 ct5), sl5⟩) (c5 : PySem.W.codeIn K cd5 "debts_behind" = true) (k5 : PySem.W.keepIn K (.ref f5) = true)
    (a6 : PySem.W.nsIn K mainGlobals "first_unfair" = some (some (.ref f6))) (l6 : K.lookup f6 = some ⟨oc6, od6, .func (PySem.W.fnOf "first_unfair" "first_unfair" (dArgs (topS 10)) (dBody (topS 10)) (dScope (topS 10)) .none kV6 dc6 pm6 an6 cd6 ct6), sl6⟩) (c6 : PySem.W.codeIn K cd6 "first_unfair" = true) (k6 : PySem.W.keepIn K (.ref f6) = true)
    (a7 : PySem.W.nsIn K mainGlobals "_law_box" = some (some (.ref f7))) (l7 : K.lookup f7 = some ⟨oc7, od7, .func (PySem.W.fnOf "_law_box" "_law_box" (dArgs (topS 12)) (dBody (topS 12)) (dScope (topS 12)) .none kV7 dc7 pm7 an7 cd7 ct7), sl7⟩) (c7 : PySem.W.codeIn K cd7 "_law_box" = true) (k7 : PySem.W.keepIn K (.ref f7) = true)
    (a8 : PySem.W.nsIn K mainGlobals "_law_load" = some (some (.ref f8))) (l8 : K.lookup f8 = some ⟨oc8, od8, .func (PySem.W.fnOf "_law_load" "_law_load" (dArgs (topS 13)) (dBody (topS 13)) (dScope (topS 13)) .none kV8 dc8 pm8 an8 cd8 ct8), sl8⟩) (c8 : PySem.W.codeIn K cd8 "_law_load" = true) (k8 : PySem.W.keepIn K (.ref f8) = true)
    (a9 : PySem.W.nsIn K mainGlobals "_law_draw" = some (some (.ref f9))) (l9 : K.lookup f9 = some ⟨oc9, od9, .func (PySem.W.fnOf "_law_draw" "_law_draw" (dArgs (topS 14)) (dBody (topS 14)) (dScope (topS 14)) .none kV9 dc9 pm9 an9 cd9 ct9), sl9⟩) (c9 : PySem.W.codeIn K cd9 "_law_draw" = true) (k9 : PySem.W.keepIn K (.ref f9) = true)
    (a10 : PySem.W.nsIn K mainGlobals "_law_same" = some (some (.ref f10))) (l10 : K.lookup f10 = some ⟨oc10, od10, .func (PySem.W.fnOf "_law_same" "_law_same" (dArgs (topS 15)) (dBody (topS 15)) (dScope (topS 15)) .none kV10 dc10 pm10 an10 cd10 ct10), sl10⟩) (c10 : PySem.W.codeIn K cd10 "_law_same" = true) (k10 : PySem.W.keepIn K (.ref f10) = true)
    (a11 : PySem.W.nsIn K mainGlobals "_law_bent" = some (some (.ref f11))) (l11 : K.lookup f11 = some ⟨oc11, od11, .func (PySem.W.fnOf "_law_bent" "_law_bent" (dArgs (topS 16)) (dBody (topS 16)) (dScope (topS 16)) .none kV11 dc11 pm11 an11 cd11 ct11), sl11⟩) (c11 : PySem.W.codeIn K cd11 "_law_bent" = true) (k11 : PySem.W.keepIn K (.ref f11) = true)
    (a12 : PySem.W.nsIn K mainGlobals "_law_first" = some (some (.ref f12))) (l12 : K.lookup f12 = some ⟨oc12, od12, .func (PySem.W.fnOf "_law_first" "_law_first" (dArgs (topS 17)) (dBody (topS 17)) (dScope (topS 17)) .none kV12 dc12 pm12 an12 cd12 ct12), sl12⟩) (c12 : PySem.W.codeIn K cd12 "_law_first" = true) (k12 : PySem.W.keepIn K (.ref f12) = true)
    (a13 : PySem.W.nsIn K mainGlobals "_law_is_fair" = some (some (.ref f13))) (l13 : K.lookup f13 = some ⟨oc13, od13, .func (PySem.W.fnOf "_law_is_fair" "_law_is_fair" (dArgs (topS 18)) (dBody (topS 18)) (dScope (topS 18)) .none kV13 dc13 pm13 an13 cd13 ct13), sl13⟩) (c13 : PySem.W.codeIn K cd13 "_law_is_fair" = true) (k13 : PySem.W.keepIn K (.ref f13) = true)
    (a14 : PySem.W.nsIn K mainGlobals "_law_in_windows" = some (some (.ref f14))) (l14 : K.lookup f14 = some ⟨oc14, od14, .func (PySem.W.fnOf "_law_in_windows" "_law_in_windows" (dArgs (topS 19)) (dBody (topS 19)) (dScope (topS 19)) .none kV14 dc14 pm14 an14 cd14 ct14), sl14⟩) (c14 : PySem.W.codeIn K cd14 "_law_in_windows" = true) (k14 : PySem.W.keepIn K (.ref f14) = true)
    (a15 : PySem.W.nsIn K mainGlobals "law" = some (some (.ref f15))) (l15 : K.lookup f15 = some ⟨oc15, od15, .func (PySem.W.fnOf "law" "law" (dArgs (topS 20)) (dBody (topS 20)) (dScope (topS 20)) .none kV15 dc15 pm15 an15 cd15 ct15), sl15⟩) (c15 : PySem.W.codeIn K cd15 "law" = true) (k15 : PySem.W.keepIn K (.ref f15) = true)
    (z0 : PySem.W.nsIn K mainGlobals "all" = some none)
    (z1 : PySem.W.nsIn K mainGlobals "bool" = some none)
    (z2 : PySem.W.nsIn K mainGlobals "enumerate" = some none)
    (z3 : PySem.W.nsIn K mainGlobals "int" = some none)
    (z4 : PySem.W.nsIn K mainGlobals "isinstance" = some none)
    (z5 : PySem.W.nsIn K mainGlobals "len" = some none)
    (z6 : PySem.W.nsIn K mainGlobals "list" = some none)
    (z7 : PySem.W.nsIn K mainGlobals "min" = some none)
    (z8 : PySem.W.nsIn K mainGlobals "range" = some none)
    (z9 : PySem.W.nsIn K mainGlobals "str" = some none)
    (z10 : PySem.W.nsIn K mainGlobals "sum" = some none)
    (z11 : PySem.W.nsIn K mainGlobals "tuple" = some none)
    {x0t0 : Tok} (q0 : PySem.W.nsIn K mainGlobals "MAX_PEOPLE_OF_SHARES" = some (some (.int 12 x0t0)))
    {x1t0 : Tok} (q1 : PySem.W.nsIn K mainGlobals "MAX_SHARE" = some (some (.int 60 x1t0)))
    : ∃ fd : FuncData, (∀ (s : Shared) (u : Value), BindsTo s fd ⟨[u], []⟩ [("script", u)]) ∧ ∀ base : Heap, K.In base → base.Ns mainGlobals mg → FnOk l.prog w K mg base CX0 100 fa fd ["script"] (spM K 1 (callF prog 100 15)) := by
  refine law_fn (i := 15) (s := s_law) (fn := f_law) allOk fnsOk rfl rfl rfl hfa (fun _ _ _ _ _ _ _ _ => .of_eq rfl) ?_ ?_ ?_
  · intro s hs
    simp only [srcs, List.mem_cons, List.not_mem_nil, or_false] at hs
    rcases hs with rfl | rfl | rfl | rfl | rfl | rfl | rfl | rfl | rfl | rfl | rfl | rfl | rfl | rfl | rfl | rfl
    · exact def_at (s := s_is_number) KX G a0 l0 c0 k0
    · exact def_at (s := s_are_shares) KX G a1 l1 c1 k1
    · exact def_at (s := s_window_of) KX G a2 l2 c2 k2
    · exact def_at (s := s_fair_turns) KX G a3 l3 c3 k3
    · exact def_at (s := s_are_fair) KX G a4 l4 c4 k4
    · exact def_at (s := s_debts_behind) KX G a5 l5 c5 k5
    · exact def_at (s := s_first_unfair) KX G a6 l6 c6 k6
    · exact def_at (s := s__law_box) KX G a7 l7 c7 k7
    · exact def_at (s := s__law_load) KX G a8 l8 c8 k8
    · exact def_at (s := s__law_draw) KX G a9 l9 c9 k9
    · exact def_at (s := s__law_same) KX G a10 l10 c10 k10
    · exact def_at (s := s__law_bent) KX G a11 l11 c11 k11
    · exact def_at (s := s__law_first) KX G a12 l12 c12 k12
    · exact def_at (s := s__law_is_fair) KX G a13 l13 c13 k13
    · exact def_at (s := s__law_in_windows) KX G a14 l14 c14 k14
    · exact def_at (s := s_law) KX G a15 l15 c15 k15
  · intro x i hx
    have hx := PySem.mem_of_lookup hx
    simp only [gs, List.mem_cons, Prod.mk.injEq, List.not_mem_nil, or_false] at hx
    rcases hx with ⟨rfl, rfl⟩ | ⟨rfl, rfl⟩
    · exact cst_mk (n := 100) KX G rfl q0 (by simp [cstB, cstsB])
    · exact cst_mk (n := 100) KX G rfl q1 (by simp [cstB, cstsB])
  · intro x hx
    simp only [gs, List.mem_cons, List.not_mem_nil, or_false] at hx
    rcases hx with rfl | rfl | rfl | rfl | rfl | rfl | rfl | rfl | rfl | rfl | rfl | rfl
    · exact PySem.W.mg_none_of KX G z0
    · exact PySem.W.mg_none_of KX G z1
    · exact PySem.W.mg_none_of KX G z2
    · exact PySem.W.mg_none_of KX G z3
    · exact PySem.W.mg_none_of KX G z4
    · exact PySem.W.mg_none_of KX G z5
    · exact PySem.W.mg_none_of KX G z6
    · exact PySem.W.mg_none_of KX G z7
    · exact PySem.W.mg_none_of KX G z8
    · exact PySem.W.mg_none_of KX G z9
    · exact PySem.W.mg_none_of KX G z10
    · exact PySem.W.mg_none_of KX G z11
end Mp.K51
open PySem PySem.W PyProof.Rows
set_option maxHeartbeats 0 in
theorem PySem.Challenge.cw_suitsall_k51_whole_fair_turns_holds : PySem.Challenge.rw_suitsall_k51_whole_fair_turns.Holds := by
  w_on; o_law; k_head; (case hw => w_witness2)
  k_fill
  refine L2.walk_of (l := PySem.Challenge.rw_suitsall_k51_whole_fair_turns) (n := 63) (k := 100) (x := "script") (CX := fun _ => L2.CX0) (sp := fun w => Mp.spM _ 1 (Mp.callF Mp.K51.prog 100 15)) rfl (by decide) rfl ⟨rfl, by decide, by decide⟩ (fun w h Y => PySem.W.kIn_of Y) ?F (fun _ H a ns hl hO hS => Mp.law_sp Mp.K51.law_true _ H a ns hl hO hS) (fun _ _ _ _ _ h => h)
  case F =>
    intro w mg fa h KX G hmg
    refine' Mp.K51.all_mk KX G hmg ?a0 ?l0 ?c0 ?k0 ?a1 ?l1 ?c1 ?k1 ?a2 ?l2 ?c2 ?k2 ?a3 ?l3 ?c3 ?k3 ?a4 ?l4 ?c4 ?k4 ?a5 ?l5 ?c5 ?k5 ?a6 ?l6 ?c6 ?k6 ?a7 ?l7 ?c7 ?k7 ?a8 ?l8 ?c8 ?k8 ?a9 ?l9 ?c9 ?k9 ?a10 ?l10 ?c10 ?k10 ?a11 ?l11 ?c11 ?k11 ?a12 ?l12 ?c12 ?k12 ?a13 ?l13 ?c13 ?k13 ?a14 ?l14 ?c14 ?k14 ?a15 ?l15 ?c15 ?k15 ?z0 ?z1 ?z2 ?z3 ?z4 ?z5 ?z6 ?z7 ?z8 ?z9 ?z10 ?z11 ?q0 ?q1
    case a0 => k_is
    case l0 => k_is
    case c0 => k_is
    case k0 => k_is
    case a1 => k_is
    case l1 => k_is
    case c1 => k_is
    case k1 => k_is
    case a2 => k_is
    case l2 => k_is
    case c2 => k_is
    case k2 => k_is
    case a3 => k_is
    case l3 => k_is
    case c3 => k_is
    case k3 => k_is
    case a4 => k_is
    case l4 => k_is
    case c4 => k_is
    case k4 => k_is
    case a5 => k_is
    case l5 => k_is
    case c5 => k_is
    case k5 => k_is
    case a6 => k_is
    case l6 => k_is
    case c6 => k_is
    case k6 => k_is
    case a7 => k_is
    case l7 => k_is
    case c7 => k_is
    case k7 => k_is
    case a8 => k_is
    case l8 => k_is
    case c8 => k_is
    case k8 => k_is
    case a9 => k_is
    case l9 => k_is
    case c9 => k_is
    case k9 => k_is
    case a10 => k_is
    case l10 => k_is
    case c10 => k_is
    case k10 => k_is
    case a11 => k_is
    case l11 => k_is
    case c11 => k_is
    case k11 => k_is
    case a12 => k_is
    case l12 => k_is
    case c12 => k_is
    case k12 => k_is
    case a13 => k_is
    case l13 => k_is
    case c13 => k_is
    case k13 => k_is
    case a14 => k_is
    case l14 => k_is
    case c14 => k_is
    case k14 => k_is
    case a15 => k_is
    case l15 => k_is
    case c15 => k_is
    case k15 => k_is
    case z0 => k_is
    case z1 => k_is
    case z2 => k_is
    case z3 => k_is
    case z4 => k_is
    case z5 => k_is
    case z6 => k_is
    case z7 => k_is
    case z8 => k_is
    case z9 => k_is
    case z10 => k_is
    case z11 => k_is
    case q0 => k_is
    case q1 => k_is


