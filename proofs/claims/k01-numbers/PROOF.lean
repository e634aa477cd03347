import PyProof.Rows.All
import Wide.All
import OpenK.AllK
import Wide.FinOn
import PySem.Syntax
import HandS.ForMost
import HandS.ForExc
import HandS.CallSlots
import HandS.TupAny
import HandS.TupMul
import HandS.Walk
import HandS.Deep
import HandS.Style
import HandS.Conv
import HandS.IsInst
import HandS.Steps
import KE.DataCmp
import KE.SortData
import HandS.Text
import HandS.Rev
import KE.GoesMore
import KE.DataFind
import HandS.HotCalls
import HandS.ExcIs
import PySem.Challenge.RW_boxtaps_k01_numbers
set_option Elab.async false
set_option linter.all false
set_option maxRecDepth 100000
/-! BP: plain data, the evaluator. No program in sight. -/
namespace BX
open PySem

abbrev LIM : Nat := 16777216
/-- the program's own exceptions -/
inductive Xc where
  | tap | num | book | line | loop | pull | count | text | step
  deriving DecidableEq, Repr, Inhabited
/-- data: lists by value; the script; an object by its place in the store -/
inductive D where
  | non | bl (b : Bool) | int (i : Int) | str (s : List Nat) | tup (xs : List D) | lst (xs : List D) | scr (ns : List Int) | obj (n : Nat)
  deriving Repr, Inhabited
structure Ob where
  cls : Nat
  fs : List (Nat × D)
  deriving Repr, Inhabited
abbrev Sto := List Ob
inductive R (α : Type) where
  | ok (a : α) (s : Sto) | ex (c : Xc) (s : Sto) | bad
  deriving Repr, Inhabited
def M (α : Type) := Sto → R α
def ret {α : Type} (a : α) : M α := fun s => .ok a s
def bnd {α β : Type} (m : M α) (k : α → M β) : M β := fun s => match m s with
  | .ok a s' => k a s'
  | .ex c s' => .ex c s'
  | .bad => .bad
def bad {α : Type} : M α := fun _ => .bad
def exc {α : Type} (c : Xc) : M α := fun s => .ex c s
/-- where no exception may leave -/
def nox {α : Type} (m : M α) : M α := fun s => match m s with
  | .ex _ _ => .bad
  | r => r
@[simp] theorem ret_bnd {α β : Type} (a : α) (k : α → M β) : bnd (ret a) k = k a := rfl
@[simp] theorem bad_bnd {α β : Type} (k : α → M β) : bnd bad k = bad := rfl
@[simp] theorem exc_bnd {α β : Type} (c : Xc) (k : α → M β) : bnd (exc c) k = exc c := rfl
@[simp] theorem nox_ret {α : Type} (a : α) : nox (ret a) = ret a := rfl
@[simp] theorem bnd_ret {α : Type} (m : M α) : bnd m ret = m := by
  funext s
  unfold bnd
  cases m s <;> rfl
theorem bnd_assoc {α β γ : Type} (m : M α) (k : α → M β) (l : β → M γ) : bnd (bnd m k) l = bnd m fun a => bnd (k a) l := by
  funext s
  unfold bnd
  cases m s <;> rfl

/-! ### what data are worth -/
abbrev Env := List (Option D)
inductive Fl where
  | nx | rt (d : D) | bk | ct
  deriving Repr, Inhabited
def asB : D → M Bool
  | .bl b => ret b
  | _ => bad
def asI : D → M Int
  | .int i => ret i
  | _ => bad
def mkL (xs : List D) : M D := if xs.length ≤ LIM then ret (.lst xs) else bad
def mkT (xs : List D) : M D := if xs.length ≤ LIM then ret (.tup xs) else bad
def mkS (s : List Nat) : M D := if s.length ≤ LIM then ret (.str s) else bad
mutual
/-- no objects within, at most so deep -/
def sh : Nat → D → Bool
  | _, .non => true
  | _, .bl _ => true
  | _, .int _ => true
  | _, .str _ => true
  | n + 1, .tup xs => shL n xs
  | n + 1, .lst xs => shL n xs
  | _, _ => false
def shL : Nat → List D → Bool
  | _, [] => true
  | n, x :: xs => sh n x && shL n xs
end
mutual
/-- == -/
def eqD : D → D → Bool
  | .non, .non => true
  | .bl a, .bl b => a == b
  | .bl a, .int j => (if a then 1 else 0) == j
  | .int i, .bl b => i == (if b then 1 else 0)
  | .int i, .int j => i == j
  | .str a, .str b => a == b
  | .tup a, .tup b => eqL a b
  | .lst a, .lst b => eqL a b
  | _, _ => false
def eqL : List D → List D → Bool
  | [], [] => true
  | x :: xs, y :: ys => eqD x y && eqL xs ys
  | _, _ => false
end
/-- the script as a list -/
def nrm : D → D
  | .scr ns => .lst (ns.map .int)
  | d => d
mutual
/-- can be compared by < -/
def alD : D → D → Bool
  | .non, .non => true
  | .bl _, .bl _ => true
  | .int _, .int _ => true
  | .str _, .str _ => true
  | .tup a, .tup b => alL a b
  | .lst a, .lst b => alL a b
  | _, _ => false
def alL : List D → List D → Bool
  | x :: xs, y :: ys => alD x y && alL xs ys
  | _, _ => true
end
def ltN : List Nat → List Nat → Bool
  | [], [] => false
  | [], _ :: _ => true
  | _ :: _, [] => false
  | x :: xs, y :: ys => if x == y then ltN xs ys else decide (x < y)
mutual
/-- < of data that can be compared -/
def ltD : D → D → Bool
  | .bl a, .bl b => !a && b
  | .int i, .int j => decide (i < j)
  | .str a, .str b => ltN a b
  | .tup a, .tup b => ltL a b
  | .lst a, .lst b => ltL a b
  | _, _ => false
def ltL : List D → List D → Bool
  | [], [] => false
  | [], _ :: _ => true
  | _ :: _, [] => false
  | x :: xs, y :: ys => if eqD x y then ltL xs ys else ltD x y
end
def insD (x : D) : List D → List D
  | [] => [x]
  | y :: ys => if ltD y x then y :: insD x ys else x :: y :: ys
def isortD : List D → List D
  | [] => []
  | x :: xs => insD x (isortD xs)
def isTupNE : D → Bool
  | .tup (_ :: _) => true
  | _ => false
def isAtomS : D → Bool
  | .int _ => true
  | .str _ => true
  | .bl _ => true
  | .lst _ => true
  | _ => false
/-- a list that may be sorted -/
def okSort (ds : List D) : Bool := ds.all (sh 60) && ds.all (fun d => ds.all (alD d)) && (ds.all isTupNE || ds.all isAtomS)
/-- each once, the first of equal ones left out -/
def nubD : List D → List D
  | [] => []
  | x :: xs => if xs.any (eqD x) then nubD xs else x :: nubD xs
def isInt : D → Bool
  | .int _ => true
  | _ => false
def isIntTup : D → Bool
  | .tup xs => xs.all isInt && !xs.isEmpty
  | _ => false
/-- what may go into a set here -/
def okSet (ds : List D) : Bool := decide (ds.length < 64) && (ds.all isIntTup || ds.all isInt)

/-! ### operators -/
inductive BO where
  | add | sub | mul | mod | fdiv
  deriving DecidableEq, Repr
inductive CO where
  | eq | ne | lt | le | gt | ge | isin | notin | is_ | isnot
  deriving DecidableEq, Repr
def inb (i : Int) : Bool := decide (-(2 ^ 64) < i) && decide (i < 2 ^ 64)
def rep {α : Type} (k : Nat) (xs : List α) : List α := (List.replicate k xs).flatten
def okRep (n : Nat) (k : Int) : Bool := decide (-(2 ^ 63) ≤ k) && decide (k < 2 ^ 63) && decide (n * k.toNat ≤ LIM)
def addD : D → D → M D
  | .int a, .int b => ret (.int (a + b))
  | .lst a, .lst b => mkL (a ++ b)
  | .tup a, .tup b => mkT (a ++ b)
  | .str a, .str b => mkS (a ++ b)
  | _, _ => bad
def subD : D → D → M D
  | .int a, .int b => ret (.int (a - b))
  | _, _ => bad
def mulD : D → D → M D
  | .int a, .int b => if inb a || inb b then ret (.int (a * b)) else bad
  | .lst a, .int k => if okRep a.length k then ret (.lst (rep k.toNat a)) else bad
  | .tup a, .int k => if okRep a.length k then ret (.tup (rep k.toNat a)) else bad
  | _, _ => bad
def modD : D → D → M D
  | .int a, .int b => if b != 0 then ret (.int (a.fmod b)) else bad
  | _, _ => bad
def fdivD : D → D → M D
  | .int a, .int b => if b != 0 && decide (b.natAbs < 1073741824) then ret (.int (a.fdiv b)) else bad
  | _, _ => bad
def opD : BO → D → D → M D
  | .add => addD
  | .sub => subD
  | .mul => mulD
  | .mod => modD
  | .fdiv => fdivD
def eqM (neg : Bool) (d e : D) : M D := if sh 60 (nrm d) && sh 60 (nrm e) then ret (.bl (xor neg (eqD (nrm d) (nrm e)))) else bad
def inM (neg : Bool) (d e : D) : M D := match e with
  | .lst ds => if sh 60 d && shL 60 ds then ret (.bl (xor neg (ds.any fun z => eqD z d))) else bad
  | .tup ds => if sh 60 d && shL 60 ds then ret (.bl (xor neg (ds.any fun z => eqD z d))) else bad
  | .str y => (match d with
      | .str [c] => ret (.bl (xor neg (decide (c ∈ y))))
      | _ => bad)
  | _ => bad
def ltM : D → D → M D
  | .int a, .int b => ret (.bl (decide (a < b)))
  | .tup a, .tup b => if shL 60 a && shL 60 b && alL a b then ret (.bl (ltL a b)) else bad
  | _, _ => bad
def leM : D → D → M D
  | .int a, .int b => ret (.bl (decide (a ≤ b)))
  | _, _ => bad
def gtM : D → D → M D
  | .int a, .int b => ret (.bl (decide (b < a)))
  | _, _ => bad
def geM : D → D → M D
  | .int a, .int b => ret (.bl (decide (b ≤ a)))
  | _, _ => bad
def isNon : D → Bool
  | .non => true
  | _ => false
def isM (neg : Bool) : D → D → M D
  | d, .non => ret (.bl (xor neg (isNon d)))
  | _, _ => bad
def cmpD : CO → D → D → M D
  | .eq => eqM false
  | .ne => eqM true
  | .isin => inM false
  | .notin => inM true
  | .lt => ltM
  | .le => leM
  | .gt => gtM
  | .ge => geM
  | .is_ => isM false
  | .isnot => isM true
def ixN (n : Nat) (i : Int) : Option Nat := if 0 ≤ i then (if i < n then some i.toNat else none) else if -(n : Int) ≤ i then some (i + n).toNat else none
def atI {α : Type} (xs : List α) (i : Int) : Option α := (ixN xs.length i).bind fun j => xs[j]?
def ofO {α : Type} : Option α → M α
  | some d => ret d
  | none => bad
def ixD : D → D → M D
  | .lst xs, .int i => ofO (atI xs i)
  | .tup xs, .int i => ofO (atI xs i)
  | .scr ns, .int i => ofO ((atI ns i).map .int)
  | .str s, .int i => ofO ((atI s i).map fun c => .str [c])
  | _, _ => bad
/-- a bound of a slice over n items, d where it is left out -/
def bnN (n d : Nat) : Option Int → Nat
  | none => d
  | some i => if i < 0 then (i + n).toNat else min i.toNat n
def cut {α : Type} (xs : List α) (lo hi : Option Int) : List α := (xs.drop (bnN xs.length 0 lo)).take (bnN xs.length xs.length hi - bnN xs.length 0 lo)
def slD : D → Option Int → Option Int → M D
  | .lst xs, lo, hi => ret (.lst (cut xs lo hi))
  | .tup xs, lo, hi => ret (.tup (cut xs lo hi))
  | .str s, lo, hi => ret (.str (cut s lo hi))
  | _, _, _ => bad
def rvD : D → M D
  | .lst xs => ret (.lst xs.reverse)
  | .tup xs => ret (.tup xs.reverse)
  | _ => bad
/-- each second item, from place k on -/
def alt {α : Type} : Nat → List α → List α
  | _, [] => []
  | 0, x :: xs => x :: alt 1 xs
  | k + 1, _ :: xs => alt k xs

/-! ### built-ins -/
inductive B1 where
  | len | int | str | tuple | list | sorted | sortedSet | lenSet | max | min | sum | all
  deriving DecidableEq, Repr
inductive B2 where
  | max | min | maxD | minD
  deriving DecidableEq, Repr
inductive Ty where
  | int | bool | str | tuple | list
  deriving DecidableEq, Repr
def isTy : Ty → D → Bool
  | .int, .int _ => true
  | .int, .bl _ => true
  | .bool, .bl _ => true
  | .str, .str _ => true
  | .tuple, .tup _ => true
  | .list, .lst _ => true
  | .list, .scr _ => true
  | _, _ => false
def noObj : D → Bool
  | .obj _ => false
  | _ => true
def items : D → Option (List D)
  | .lst xs => some xs
  | .tup xs => some xs
  | _ => none
def intsO : List D → Option (List Int)
  | [] => some []
  | .int i :: r => (intsO r).map (i :: ·)
  | _ => none
def boolsO : List D → Option (List Bool)
  | [] => some []
  | .bl i :: r => (boolsO r).map (i :: ·)
  | _ => none
def maxI : Int → List Int → Int
  | m, [] => m
  | m, x :: xs => maxI (if m < x then x else m) xs
def minI : Int → List Int → Int
  | m, [] => m
  | m, x :: xs => minI (if x < m then x else m) xs
def minL : D → List D → D
  | m, [] => m
  | m, x :: xs => minL (if ltD x m then x else m) xs
/-- the signs of a number -/
def digN : Nat → Nat → List Nat → List Nat
  | 0, _, acc => acc
  | f + 1, n, acc => if n < 10 then (48 + n) :: acc else digN f (n / 10) ((48 + n % 10) :: acc)
def numS (n : Nat) : List Nat := digN (n + 1) n []
def lenD : D → M D
  | .lst xs => ret (.int xs.length)
  | .tup xs => ret (.int xs.length)
  | .str xs => ret (.int xs.length)
  | .scr xs => ret (.int xs.length)
  | _ => bad
def intD : D → M D
  | .int i => ret (.int i)
  | .bl b => ret (.int (if b then 1 else 0))
  | _ => bad
def strD : D → M D
  | .int i => if decide (0 ≤ i) && decide (i < 10 ^ 9) then ret (.str (numS i.toNat)) else bad
  | _ => bad
def tupD : D → M D
  | .lst xs => ret (.tup xs)
  | .tup xs => ret (.tup xs)
  | _ => bad
def lstD : D → M D
  | .lst xs => ret (.lst xs)
  | .tup xs => ret (.lst xs)
  | _ => bad
def sortD (d : D) : M D := match items d with
  | some xs => if okSort xs then ret (.lst (isortD xs)) else bad
  | none => bad
def sortSetD (d : D) : M D := match items d with
  | some xs => if okSet xs then ret (.lst (isortD (nubD xs))) else bad
  | none => bad
def lenSetD (d : D) : M D := match items d with
  | some xs => if okSet xs then ret (.int (nubD xs).length) else bad
  | none => bad
def maxD : D → M D
  | .lst xs => (match intsO xs with
      | some (m :: r) => ret (.int (maxI m r))
      | _ => bad)
  | _ => bad
def minD : D → M D
  | .lst (m :: r) => if okSort (m :: r) then ret (minL m r) else bad
  | _ => bad
def sumD (d : D) : M D := match (items d).bind intsO with
  | some l => ret (.int l.sum)
  | none => bad
def allD : D → M D
  | .lst xs => (match boolsO xs with
      | some l => ret (.bl (l.all id))
      | none => bad)
  | _ => bad
def b1D : B1 → D → M D
  | .len => lenD
  | .int => intD
  | .str => strD
  | .tuple => tupD
  | .list => lstD
  | .sorted => sortD
  | .sortedSet => sortSetD
  | .lenSet => lenSetD
  | .max => maxD
  | .min => minD
  | .sum => sumD
  | .all => allD
def max2D : D → D → M D
  | .int a, .int b => ret (.int (if a < b then b else a))
  | _, _ => bad
def min2D : D → D → M D
  | .int a, .int b => ret (.int (if b < a then b else a))
  | _, _ => bad
def maxDD (d e : D) : M D := match (items d).bind intsO with
  | some [] => ret e
  | some (m :: r) => ret (.int (maxI m r))
  | none => bad
def minDD (d e : D) : M D := match (items d).bind intsO with
  | some [] => ret e
  | some (m :: r) => ret (.int (minI m r))
  | none => bad
def b2D : B2 → D → D → M D
  | .max => max2D
  | .min => min2D
  | .maxD => maxDD
  | .minD => minDD
/-- methods of lists, tuples, texts that change nothing -/
inductive Mt where
  | index | count | join | split
  deriving DecidableEq, Repr
def fstIx (d : D) : List D → Nat → Option Nat
  | [], _ => none
  | x :: xs, i => if eqD x d then some i else fstIx d xs (i + 1)
def strsO : List D → Option (List (List Nat))
  | [] => some []
  | .str s :: r => (strsO r).map (s :: ·)
  | _ => none
def joinN (y : List Nat) : List (List Nat) → List Nat
  | [] => []
  | [x] => x
  | x :: r => x ++ y ++ joinN y r
/-- split by one sign -/
def splN (c : Nat) : List Nat → List Nat → List (List Nat)
  | acc, [] => [acc]
  | acc, x :: r => if x == c then acc :: splN c [] r else splN c (acc ++ [x]) r
def indexD (o d : D) : M D := match items o with
  | some xs => if sh 60 d && shL 60 xs then (match fstIx d xs 0 with
      | some j => ret (.int j)
      | none => bad) else bad
  | none => bad
def countD (o d : D) : M D := match items o with
  | some xs => if sh 60 d && shL 60 xs then ret (.int (xs.countP fun x => eqD x d)) else bad
  | none => bad
def joinD : D → D → M D
  | .str y, .lst xs => (match strsO xs with
      | some ss => mkS (joinN y ss)
      | none => bad)
  | _, _ => bad
def splitD : D → D → M D
  | .str s, .str [c] => if c < 128 && decide (s.length + 2 ≤ LIM) then ret (.lst ((splN c [] s).map .str)) else bad
  | _, _ => bad
def mtD : Mt → D → D → M D
  | .index => indexD
  | .count => countD
  | .join => joinD
  | .split => splitD

/-! ### slots -/
inductive Tg where
  | one (i : Nat) | many (is : List Nat)
  deriving Repr
def setAll : List Nat → List D → Env → Env
  | i :: is, d :: ds, ρ => setAll is ds (ρ.set i (some d))
  | _, _, ρ => ρ
def stT : Tg → D → Env → Option Env
  | .one i, d, ρ => some (ρ.set i (some d))
  | .many is, .tup ds, ρ => if ds.length = is.length then some (setAll is ds ρ) else none
  | _, _, _ => none
def wipeE : List Nat → Env → Env
  | [], ρ => ρ
  | v :: vs, ρ => (wipeE vs ρ).set v none
def getV (i : Nat) (ρ : Env) : M D := match ρ[i]? with
  | some (some d) => ret d
  | _ => bad

/-! ### the text, without its places -/
mutual
inductive P where
  | var (i : Nat) | cI (i : Int) | cB (b : Bool) | cN | cS (s : List Nat) | gl (x : Str) (d : D)
  | bin (o : BO) (a b : P) | neg (a : P) | no (a : P) | an (ps : PL) | orr (ps : PL)
  | cmp (o : CO) (a b : P) | chn (o1 o2 : CO) (a b c : P) | ife (t a b : P)
  | ix (a b : P) | sl (a : P) (lo hi : PQ) | rv (a : P) | st2 (a : P) (k : Nat)
  | li (ps : PL) | tu (ps : PL) | cp (e : P) (tg : Tg) (it : I) (c : PQ) (own : List Nat)
  | ca (x : Str) (F : List D → M D) (ps : PL)
  | pk (fs : List (Str × (List D → M D))) (i : P) (ps : PL)
  | b1 (f : B1) (a : P) | b2 (f : B2) (a b : P) | isi (a : P) (ts : List Ty)
  | mt (f : Mt) (o a : P) | lr (tp : Bool) (a b : P) | dic (ks : List (List Nat × List Nat)) (a b : P) | dix (ks : List (List Nat × List Nat)) (a : P)
  | at (o : P) (x : Str) (k : Nat)
  | me (o : P) (c : Nat) (x : Str) (F : List D → M D) (ps : PL)
  | mk (x : Str) (c : Nat) (F : List D → M D) (ps : PL)
inductive PL where
  | nil | cons (p : P) (ps : PL)
inductive PQ where
  | none | some (p : P)
inductive I where
  | e (p : P) | r1 (a : P) | r2 (a b : P) | r3 (a b c : P) | en (a : P) | zp (a b : P) | zp3 (a b c : P)
end
/-- the numbers from a on, n of them -/
def rngI (a c : Int) : Nat → List D
  | 0 => []
  | n + 1 => .int a :: rngI (a + c) c n
def rngM (a b : Int) : M (List D) := if decide (-(2 ^ 62) ≤ a) && decide (a < 2 ^ 62) && decide (-(2 ^ 62) ≤ b) && decide (b < 2 ^ 62) && decide ((b - a).toNat ≤ LIM) then ret (rngI a 1 (b - a).toNat) else bad
def enumL : Nat → List D → List D
  | _, [] => []
  | i, x :: xs => .tup [.int i, x] :: enumL (i + 1) xs
def zipL : List D → List D → List D
  | x :: xs, y :: ys => .tup [x, y] :: zipL xs ys
  | _, _ => []
def zipL3 : List D → List D → List D → List D
  | x :: xs, y :: ys, z :: zs => .tup [x, y, z] :: zipL3 xs ys zs
  | _, _, _ => []
def itsM : D → M (List D)
  | .lst xs => ret xs
  | .tup xs => ret xs
  | .str s => ret (s.map fun c => .str [c])
  | _ => bad
def seqM (d : D) : M (List D) := ofO (items d)
/-- a comprehension's turns -/
def cpM (c : Env → M Bool) (e : Env → M D) (tg : Tg) (ρ : Env) : List D → M (List D)
  | [] => ret []
  | d :: r => match stT tg d ρ with
    | none => bad
    | some ρ1 => bnd (nox (c ρ1)) fun b => if b then bnd (nox (e ρ1)) fun y => bnd (cpM c e tg ρ r) fun ys => ret (y :: ys) else cpM c e tg ρ r
def lookF (k : Nat) : List (Nat × D) → Option D
  | [] => none
  | (j, d) :: r => if j == k then some d else lookF k r
def putFd (k : Nat) (d : D) : List (Nat × D) → List (Nat × D)
  | [] => [(k, d)]
  | (j, e) :: r => if j == k then (j, d) :: r else (j, e) :: putFd k d r
def getF (k : Nat) : D → M D
  | .obj n => fun s => (match s[n]? with
      | some o => (match lookF k o.fs with
          | some d => .ok d s
          | none => .bad)
      | none => .bad)
  | _ => bad
def setF (k : Nat) (d : D) : D → M Unit
  | .obj n => fun s => (match s[n]? with
      | some o => .ok () (s.set n { o with fs := putFd k d o.fs })
      | none => .bad)
  | _ => bad
def clsM (c : Nat) (F : List D → M D) (o : D) (ds : List D) : M D := match o with
  | .obj n => fun s => (match s[n]? with
      | some ob => if ob.cls == c then F (o :: ds) s else .bad
      | none => .bad)
  | _ => bad
def mkM (c : Nat) (F : List D → M D) (ds : List D) : M D := fun s => bnd (F (.obj s.length :: ds)) (fun d => match d with
  | .non => ret (.obj s.length)
  | _ => bad) (s ++ [⟨c, []⟩])
def dicLook (x : List Nat) : List (List Nat × List Nat) → Option (List Nat)
  | [] => none
  | (a, b) :: r => if x == a then some b else dicLook x r
mutual
def ev : P → Env → M D
  | .var i, ρ => getV i ρ
  | .cI i, _ => ret (.int i)
  | .cB b, _ => ret (.bl b)
  | .cN, _ => ret .non
  | .cS s, _ => ret (.str s)
  | .gl _ d, _ => ret d
  | .bin o a b, ρ => bnd (ev a ρ) fun x => bnd (ev b ρ) fun y => opD o x y
  | .neg a, ρ => bnd (ev a ρ) fun x => bnd (asI x) fun i => ret (.int (-i))
  | .no a, ρ => bnd (bnd (ev a ρ) asB) fun b => ret (.bl (!b))
  | .an ps, ρ => evAn ps ρ
  | .orr ps, ρ => evOr ps ρ
  | .cmp o a b, ρ => bnd (ev a ρ) fun x => bnd (ev b ρ) fun y => cmpD o x y
  | .chn o1 o2 a b c, ρ => bnd (ev a ρ) fun x => bnd (ev b ρ) fun y => bnd (bnd (cmpD o1 x y) asB) fun k => if k then bnd (ev c ρ) fun z => cmpD o2 y z else ret (.bl false)
  | .ife t a b, ρ => bnd (evT t ρ) fun k => if k then ev a ρ else ev b ρ
  | .ix a b, ρ => bnd (ev a ρ) fun x => bnd (ev b ρ) fun y => ixD x y
  | .sl a lo hi, ρ => bnd (ev a ρ) fun x => bnd (evPQ lo ρ) fun l => bnd (evPQ hi ρ) fun h => slD x l h
  | .rv a, ρ => bnd (ev a ρ) rvD
  | .st2 a k, ρ => bnd (ev a ρ) fun x => match x with
      | .lst xs => ret (.lst (alt k xs))
      | .tup xs => ret (.tup (alt k xs))
      | .str xs => ret (.str (alt k xs))
      | _ => bad
  | .li ps, ρ => bnd (evL ps ρ) mkL
  | .tu ps, ρ => bnd (evL ps ρ) mkT
  | .cp e tg it c own, ρ => bnd (evI it ρ) fun ds => bnd (cpM (fun ρ1 => evC c ρ1) (fun ρ1 => ev e ρ1) tg (wipeE own ρ) ds) mkL
  | .ca _ F ps, ρ => bnd (evL ps ρ) F
  | .pk fs i ps, ρ => bnd (ev i ρ) fun x => bnd (asI x) fun j => bnd (ofO (atI fs j)) fun f => bnd (evL ps ρ) f.2
  | .b1 f a, ρ => bnd (ev a ρ) (b1D f)
  | .b2 f a b, ρ => bnd (ev a ρ) fun x => bnd (ev b ρ) fun y => b2D f x y
  | .isi a ts, ρ => bnd (ev a ρ) fun x => if noObj x then ret (.bl (ts.any fun t => isTy t x)) else bad
  | .mt f o a, ρ => bnd (ev o ρ) fun x => bnd (ev a ρ) fun y => mtD f x y
  | .lr tp a b, ρ => bnd (ev a ρ) fun x => bnd (ev b ρ) fun y => bnd (asI x) fun i => bnd (asI y) fun j => bnd (rngM i j) fun ds => ret (if tp then .tup ds else .lst ds)
  | .dix ks a, ρ => bnd (ev a ρ) fun x => match x with
      | .str s => ofO ((dicLook s ks).map .str)
      | _ => bad
  | .dic ks a b, ρ => bnd (ev a ρ) fun x => bnd (ev b ρ) fun y => match x with
      | .str s => ret (match dicLook s ks with
          | some z => .str z
          | none => y)
      | _ => bad
  | .at o _ k, ρ => bnd (ev o ρ) (getF k)
  | .me o c _ F ps, ρ => bnd (ev o ρ) fun x => bnd (evL ps ρ) fun ds => clsM c F x ds
  | .mk _ c F ps, ρ => bnd (evL ps ρ) (mkM c F)
def evT : P → Env → M Bool
  | .an ps, ρ => evTAn ps ρ
  | .orr ps, ρ => evTOr ps ρ
  | .no a, ρ => bnd (evT a ρ) fun b => ret (!b)
  | .cmp o a b, ρ => bnd (bnd (ev a ρ) fun x => bnd (ev b ρ) fun y => cmpD o x y) asB
  | .chn o1 o2 a b c, ρ => bnd (bnd (ev a ρ) fun x => bnd (ev b ρ) fun y => bnd (bnd (cmpD o1 x y) asB) fun k => if k then bnd (ev c ρ) fun z => cmpD o2 y z else ret (.bl false)) asB
  | .var i, ρ => bnd (getV i ρ) asB
  | .cB b, _ => ret b
  | .ca _ F ps, ρ => bnd (bnd (evL ps ρ) F) asB
  | .b1 f a, ρ => bnd (bnd (ev a ρ) (b1D f)) asB
  | .isi a ts, ρ => bnd (bnd (ev a ρ) fun x => if noObj x then ret (.bl (ts.any fun t => isTy t x)) else bad) asB
  | .me o c _ F ps, ρ => bnd (bnd (ev o ρ) fun x => bnd (evL ps ρ) fun ds => clsM c F x ds) asB
  | _, _ => bad
def evTAn : PL → Env → M Bool
  | .nil, _ => ret true
  | .cons p ps, ρ => bnd (evT p ρ) fun b => if b then evTAn ps ρ else ret false
def evTOr : PL → Env → M Bool
  | .nil, _ => ret false
  | .cons p ps, ρ => bnd (evT p ρ) fun b => if b then ret true else evTOr ps ρ
def evAn : PL → Env → M D
  | .nil, _ => bad
  | .cons p .nil, ρ => ev p ρ
  | .cons p ps, ρ => bnd (bnd (ev p ρ) asB) fun b => if b then evAn ps ρ else ret (.bl false)
def evOr : PL → Env → M D
  | .nil, _ => bad
  | .cons p .nil, ρ => ev p ρ
  | .cons p ps, ρ => bnd (bnd (ev p ρ) asB) fun b => if b then ret (.bl true) else evOr ps ρ
def evL : PL → Env → M (List D)
  | .nil, _ => ret []
  | .cons p ps, ρ => bnd (ev p ρ) fun d => bnd (evL ps ρ) fun ds => ret (d :: ds)
def evPQ : PQ → Env → M (Option Int)
  | .none, _ => ret none
  | .some p, ρ => bnd (ev p ρ) fun d => bnd (asI d) fun i => ret (some i)
def evC : PQ → Env → M Bool
  | .none, _ => ret true
  | .some p, ρ => evT p ρ
def evI : I → Env → M (List D)
  | .e p, ρ => bnd (ev p ρ) itsM
  | .r1 a, ρ => bnd (ev a ρ) fun x => bnd (asI x) fun i => rngM 0 i
  | .r2 a b, ρ => bnd (ev a ρ) fun x => bnd (ev b ρ) fun y => bnd (asI x) fun i => bnd (asI y) fun j => rngM i j
  | .r3 a b c, ρ => bnd (ev a ρ) fun x => bnd (ev b ρ) fun y => bnd (ev c ρ) fun z => bnd (asI x) fun i => bnd (asI y) fun j => bnd (asI z) fun k =>
      if k == -1 && decide (-(2 ^ 62) ≤ i) && decide (i < 2 ^ 62) && decide (-(2 ^ 62) ≤ j) && decide (j < 2 ^ 62) && decide ((i - j).toNat ≤ LIM) then ret (rngI i (-1) (i - j).toNat) else bad
  | .en a, ρ => bnd (ev a ρ) fun x => bnd (seqM x) fun xs => ret (enumL 0 xs)
  | .zp a b, ρ => bnd (ev a ρ) fun x => bnd (ev b ρ) fun y => bnd (seqM x) fun xs => bnd (seqM y) fun ys => ret (zipL xs ys)
  | .zp3 a b c, ρ => bnd (ev a ρ) fun x => bnd (ev b ρ) fun y => bnd (ev c ρ) fun z => bnd (seqM x) fun xs => bnd (seqM y) fun ys => bnd (seqM z) fun zs => ret (zipL3 xs ys zs)
end
/-- what an except suite does -/
inductive Hd where
  | ref (x : Str) (fl : List Xc) | yes | two (x : Str) (c : Xc) (a b : List Nat)
/-- isinstance of the program's exceptions -/
def isX (c : Xc) (C : Xc) : Bool := C == .tap || c == C
def flD (c : Xc) (fl : List Xc) : List D := fl.map fun C => .bl (isX c C)
def REF : List Nat := [114, 101, 102, 117, 115, 101, 100]
def refD (c : Xc) (fl : List Xc) : Option D := if (flD c fl).countP (fun x => eqD x (.bl true)) = 1 then (fstIx (.bl true) (flD c fl) 0).map fun j => .tup [.str REF, .int j] else some (.tup [.str REF, .int (-1)])
def hdD (c : Xc) : Hd → Option D
  | .ref _ fl => refD c fl
  | .yes => some (.bl true)
  | .two _ C a b => some (.str (if isX c C then a else b))
def hsM (al : List Xc) (cl : Xc) (hd : Hd) (c : Xc) : Option D := if al.contains c && isX c cl then hdD c hd else none
mutual
inductive S where
  | a (tg : Tg) (p : P)
  | m (i : Nat) (p : P)
  | mv (i j : Nat)
  | ap (i : Nat) (p : P) | ext (i : Nat) (p : P) | rm (i : Nat) (p : P) | ixs (i : Nat) (k p : P)
  | e (p : P)
  | iff (t : P) (b c : SL)
  | fr (tg : Tg) (it : I) (b : SL)
  | frm (i : Nat) (tg : Tg) (b : SL)
  | wh (t : P) (b : SL)
  | rt (p : P) | rn | ps
  | rs (x : Str) (c : Xc)
  | tr (b : SL) (cx : Str) (cl : Xc) (al : List Xc) (h : Nat) (hd : Hd)
  | sa (o : P) (x : Str) (k : Nat) (p : P)
inductive SL where
  | nil | cons (s : S) (ss : SL)
end
/-- what a text leans on: built-ins, defs, constants, exceptions -/
inductive Nd where
  | bi (x : Str) | fn (x : Str) (F : List D → M D) | gl (x : Str) (d : D) | rs (x : Str) (c : Xc)
  | at (x : Str) (k : Nat) | me (c : Nat) (x : Str) (F : List D → M D) | mk (x : Str) (c : Nat) (F : List D → M D) | no
  | xc (al : List Xc) (x : Str) (cl : Xc) | xf (al : List Xc) (x : Str) (fl : List Xc) | xt (al : List Xc) (x : Str) (C : Xc)
abbrev MF := M (Fl × Env)
def forM (tg : Tg) (b : Env → MF) : List D → Env → MF
  | [], ρ => ret (.nx, ρ)
  | d :: r, ρ => match stT tg d ρ with
    | none => bad
    | some ρ1 => bnd (b ρ1) fun q => match q.1 with
      | .nx => forM tg b r q.2
      | .ct => forM tg b r q.2
      | .bk => ret (.nx, q.2)
      | .rt x => ret (.rt x, q.2)
def whM (t : Env → M Bool) (b : Env → MF) : Nat → Env → MF
  | 0, _ => bad
  | n + 1, ρ => bnd (t ρ) fun k => if k then bnd (b ρ) fun q => match q.1 with
      | .nx => whM t b n q.2
      | .ct => whM t b n q.2
      | .bk => ret (.nx, q.2)
      | .rt x => ret (.rt x, q.2)
    else ret (.nx, ρ)
/-- a walk over a slot's own list, as it stands at each turn -/
def forS (i : Nat) (tg : Tg) (b : Env → MF) : Nat → Nat → Env → MF
  | 0, _, _ => bad
  | f + 1, j, ρ => match ρ[i]? with
    | some (some (.lst ds)) => (match ds[j]? with
      | none => ret (.nx, ρ)
      | some d => (match stT tg d ρ with
        | none => bad
        | some ρ1 => bnd (b ρ1) fun q => match q.1 with
          | .nx => forS i tg b f (j + 1) q.2
          | .ct => forS i tg b f (j + 1) q.2
          | .bk => ret (.nx, q.2)
          | .rt x => ret (.rt x, q.2)))
    | _ => bad
def FUEL : Nat := 1000000
/-- the list in slot i changed -/
def chg (i : Nat) (f : List D → Option (List D)) (ρ : Env) : MF := match ρ[i]? with
  | some (some (.lst xs)) => (match f xs with
      | some ys => ret (.nx, ρ.set i (some (.lst ys)))
      | none => bad)
  | _ => bad
def lsM (i : Nat) (ρ : Env) : M Unit := match ρ[i]? with
  | some (some (.lst _)) => ret ()
  | _ => bad
def isLst : D → Bool
  | .lst _ => true
  | _ => false
def appD (d : D) (xs : List D) : Option (List D) := if xs.length < LIM then some (xs ++ [d]) else none
def extD : D → List D → Option (List D)
  | .lst ys, xs => if xs.length + ys.length ≤ LIM then some (xs ++ ys) else none
  | _, _ => none
def remD (d : D) (xs : List D) : Option (List D) := if sh 60 d && shL 60 xs then (match fstIx d xs 0 with
      | some j => some (xs.eraseIdx j)
      | none => none) else none
def setD (n : Int) (d : D) (xs : List D) : Option (List D) := (ixN xs.length n).map fun j => xs.set j d
/-- what makes a new list -/
def fresh : P → Bool
  | .li _ => true
  | .cp _ _ _ _ _ => true
  | .bin .. => true
  | .sl .. => true
  | .b1 .. => true
  | .lr .. => true
  | _ => false
def tryM (b : Env → MF) (hs : Xc → Option D) (ρ : Env) : MF := fun s => match b ρ s with
  | .ex c s' => (match hs c with
      | some d => .ok (.rt d, ρ) s'
      | none => .bad)
  | r => r
mutual
def evS : S → Env → MF
  | .a tg p, ρ => bnd (ev p ρ) fun d => bnd (ofO (stT tg d ρ)) fun ρ1 => ret (.nx, ρ1)
  | .m i p, ρ => bnd (ev p ρ) fun d => if fresh p || !isLst d then ret (.nx, ρ.set i (some d)) else bad
  | .mv i j, ρ => bnd (getV j ρ) fun d => ret (.nx, (ρ.set j none).set i (some d))
  | .ap i p, ρ => bnd (lsM i ρ) fun _ => bnd (ev p ρ) fun d => chg i (appD d) ρ
  | .ext i p, ρ => bnd (lsM i ρ) fun _ => bnd (ev p ρ) fun d => chg i (extD d) ρ
  | .rm i p, ρ => bnd (lsM i ρ) fun _ => bnd (ev p ρ) fun d => chg i (remD d) ρ
  | .ixs i k p, ρ => bnd (ev p ρ) fun d => bnd (lsM i ρ) fun _ => bnd (ev k ρ) fun z => bnd (asI z) fun n => chg i (setD n d) ρ
  | .e p, ρ => bnd (ev p ρ) fun _ => ret (.nx, ρ)
  | .iff t b c, ρ => bnd (evT t ρ) fun k => if k then evB b ρ else evB c ρ
  | .fr tg it b, ρ => bnd (evI it ρ) fun ds => forM tg (fun ρ1 => evB b ρ1) ds ρ
  | .frm i tg b, ρ => forS i tg (fun ρ1 => evB b ρ1) FUEL 0 ρ
  | .wh t b, ρ => whM (fun ρ1 => evT t ρ1) (fun ρ1 => evB b ρ1) FUEL ρ
  | .rt p, ρ => bnd (ev p ρ) fun d => ret (.rt d, ρ)
  | .rn, ρ => ret (.rt .non, ρ)
  | .ps, ρ => ret (.nx, ρ)
  | .rs _ c, _ => exc c
  | .tr b _ cl al _ hd, ρ => tryM (fun ρ1 => evB b ρ1) (hsM al cl hd) ρ
  | .sa o _ k p, ρ => bnd (ev p ρ) fun d => bnd (ev o ρ) fun x => bnd (setF k d x) fun _ => ret (.nx, ρ)
def evB : SL → Env → MF
  | .nil, ρ => ret (.nx, ρ)
  | .cons s ss, ρ => bnd (evS s ρ) fun q => match q.1 with
    | .nx => evB ss q.2
    | f => ret (f, q.2)
end
/-- a def: so many parameters, so many slots -/
def mkF (ar n : Nat) (b : SL) (ds : List D) : M D := if ds.length = ar then bnd (evB b (ds.map some ++ List.replicate (n - ar) none)) fun q => match q.1 with
    | .nx => ret .non
    | .rt d => ret d
    | _ => bad
  else bad
theorem ev_struct (ρ : Env) : ev (.cB true) ρ = ret (.bl true) := rfl
theorem evS_struct (ρ : Env) : evS .ps ρ = ret (.nx, ρ) := rfl
end BX

set_option Elab.async false
set_option linter.all false
set_option maxRecDepth 100000
/-! BQ1: a statement that does not name slot z leaves it alone. -/
namespace BX.Q
def noT (z : Nat) : Tg → Bool
  | .one i => i != z
  | .many is => !(is.contains z)
mutual
def noP (z : Nat) : P → Bool
  | .var i => i != z
  | .bin _ a b => noP z a && noP z b
  | .neg a => noP z a
  | .no a => noP z a
  | .an ps => noL z ps
  | .orr ps => noL z ps
  | .cmp _ a b => noP z a && noP z b
  | .chn _ _ a b c => noP z a && noP z b && noP z c
  | .ife t a b => noP z t && noP z a && noP z b
  | .ix a b => noP z a && noP z b
  | .sl a lo hi => noP z a && noQ z lo && noQ z hi
  | .rv a => noP z a
  | .st2 a _ => noP z a
  | .li ps => noL z ps
  | .tu ps => noL z ps
  | .cp e tg it c own => noP z e && noT z tg && noI z it && noQ z c && !(own.contains z)
  | .ca _ _ ps => noL z ps
  | .pk _ i ps => noP z i && noL z ps
  | .b1 _ a => noP z a
  | .b2 _ a b => noP z a && noP z b
  | .isi a _ => noP z a
  | .mt _ o a => noP z o && noP z a
  | .lr _ a b => noP z a && noP z b
  | .dic _ a b => noP z a && noP z b
  | .dix _ a => noP z a
  | .at o _ _ => noP z o
  | .me o _ _ _ ps => noP z o && noL z ps
  | .mk _ _ _ ps => noL z ps
  | _ => true
def noL (z : Nat) : PL → Bool
  | .nil => true
  | .cons p ps => noP z p && noL z ps
def noQ (z : Nat) : PQ → Bool
  | .none => true
  | .some p => noP z p
def noI (z : Nat) : I → Bool
  | .e p => noP z p
  | .r1 a => noP z a
  | .r2 a b => noP z a && noP z b
  | .r3 a b c => noP z a && noP z b && noP z c
  | .en a => noP z a
  | .zp a b => noP z a && noP z b
  | .zp3 a b c => noP z a && noP z b && noP z c
end
variable {z : Nat} {v : Option D}
theorem setAll_set : ∀ (is : List Nat) (ds : List D) (ρ : Env), is.contains z = false → setAll is ds (ρ.set z v) = (setAll is ds ρ).set z v
  | [], _, _, _ => by simp [setAll]
  | _ :: _, [], _, _ => by simp [setAll]
  | i :: is, d :: ds, ρ, h => by
    simp only [List.contains_cons, Bool.or_eq_false_iff, beq_eq_false_iff_ne] at h
    simp only [setAll]
    rw [List.set_comm _ _ h.1, setAll_set is ds _ h.2]
theorem stT_set (tg : Tg) (d : D) (ρ : Env) (h : noT z tg = true) : stT tg d (ρ.set z v) = (stT tg d ρ).map (·.set z v) := by
  cases tg with
  | one i =>
    simp only [noT, bne_iff_ne] at h
    simp only [stT, Option.map_some]
    rw [List.set_comm _ _ fun e => h e.symm]
  | many is =>
    simp only [noT, Bool.not_eq_true'] at h
    cases d with
    | tup ds =>
      simp only [stT]
      split
      · rw [setAll_set is ds ρ h]; rfl
      · rfl
    | _ => rfl
theorem wipe_set : ∀ (own : List Nat) (ρ : Env), own.contains z = false → wipeE own (ρ.set z v) = (wipeE own ρ).set z v
  | [], _, _ => rfl
  | i :: is, ρ, h => by
    simp only [List.contains_cons, Bool.or_eq_false_iff, beq_eq_false_iff_ne] at h
    simp only [wipeE]
    rw [wipe_set is ρ h.2, List.set_comm _ _ h.1]
theorem getV_set {i : Nat} {ρ : Env} (h : (i != z) = true) : getV i (ρ.set z v) = getV i ρ := by
  have h' : i ≠ z := by simpa using h
  unfold getV
  rw [List.getElem?_set_ne fun e => h' e.symm]
theorem cp_set {c : Env → M Bool} {e : Env → M D} {tg : Tg} (hc : ∀ ρ, c (ρ.set z v) = c ρ) (he : ∀ ρ, e (ρ.set z v) = e ρ) (ht : noT z tg = true) : ∀ (ds : List D) (ρ : Env), cpM c e tg (ρ.set z v) ds = cpM c e tg ρ ds
  | [], _ => rfl
  | d :: r, ρ => by
    simp only [cpM]
    rw [stT_set tg d ρ ht]
    cases stT tg d ρ with
    | none => rfl
    | some ρ1 =>
      simp only [Option.map_some]
      rw [hc, he, cp_set hc he ht r ρ]
mutual
theorem ev_set : ∀ (p : P) (ρ : Env), noP z p = true → ev p (ρ.set z v) = ev p ρ
  | .var i, ρ, h => by simp only [ev]; exact getV_set (by simpa only [noP] using h)
  | .cI _, _, _ => rfl
  | .cB _, _, _ => rfl
  | .cN, _, _ => rfl
  | .cS _, _, _ => rfl
  | .gl _ _, _, _ => rfl
  | .bin o a b, ρ, h => by simp only [noP, Bool.and_eq_true] at h; simp only [ev, ev_set a ρ h.1, ev_set b ρ h.2]
  | .neg a, ρ, h => by simp only [noP] at h; simp only [ev, ev_set a ρ h]
  | .no a, ρ, h => by simp only [noP] at h; simp only [ev, ev_set a ρ h]
  | .an ps, ρ, h => by simp only [noP] at h; simp only [ev, evAn_set ps ρ h]
  | .orr ps, ρ, h => by simp only [noP] at h; simp only [ev, evOr_set ps ρ h]
  | .cmp o a b, ρ, h => by simp only [noP, Bool.and_eq_true] at h; simp only [ev, ev_set a ρ h.1, ev_set b ρ h.2]
  | .chn _ _ a b c, ρ, h => by simp only [noP, Bool.and_eq_true] at h; simp only [ev, ev_set a ρ h.1.1, ev_set b ρ h.1.2, ev_set c ρ h.2]
  | .ife t a b, ρ, h => by simp only [noP, Bool.and_eq_true] at h; simp only [ev, evT_set t ρ h.1.1, ev_set a ρ h.1.2, ev_set b ρ h.2]
  | .ix a b, ρ, h => by simp only [noP, Bool.and_eq_true] at h; simp only [ev, ev_set a ρ h.1, ev_set b ρ h.2]
  | .sl a lo hi, ρ, h => by simp only [noP, Bool.and_eq_true] at h; simp only [ev, ev_set a ρ h.1.1, evPQ_set lo ρ h.1.2, evPQ_set hi ρ h.2]
  | .rv a, ρ, h => by simp only [noP] at h; simp only [ev, ev_set a ρ h]
  | .st2 a _, ρ, h => by simp only [noP] at h; simp only [ev, ev_set a ρ h]
  | .li ps, ρ, h => by simp only [noP] at h; simp only [ev, evL_set ps ρ h]
  | .tu ps, ρ, h => by simp only [noP] at h; simp only [ev, evL_set ps ρ h]
  | .cp e tg it c own, ρ, h => by
    simp only [noP, Bool.and_eq_true, Bool.not_eq_true'] at h
    simp only [ev, evI_set it ρ h.1.1.2, wipe_set own ρ h.2]
    congr 1
    funext ds
    rw [cp_set (fun ρ1 => evC_set c ρ1 h.1.2) (fun ρ1 => ev_set e ρ1 h.1.1.1.1) h.1.1.1.2]
  | .ca _ _ ps, ρ, h => by simp only [noP] at h; simp only [ev, evL_set ps ρ h]
  | .pk _ i ps, ρ, h => by simp only [noP, Bool.and_eq_true] at h; simp only [ev, ev_set i ρ h.1, evL_set ps ρ h.2]
  | .b1 _ a, ρ, h => by simp only [noP] at h; simp only [ev, ev_set a ρ h]
  | .b2 _ a b, ρ, h => by simp only [noP, Bool.and_eq_true] at h; simp only [ev, ev_set a ρ h.1, ev_set b ρ h.2]
  | .isi a _, ρ, h => by simp only [noP] at h; simp only [ev, ev_set a ρ h]
  | .mt _ o a, ρ, h => by simp only [noP, Bool.and_eq_true] at h; simp only [ev, ev_set o ρ h.1, ev_set a ρ h.2]
  | .lr _ a b, ρ, h => by simp only [noP, Bool.and_eq_true] at h; simp only [ev, ev_set a ρ h.1, ev_set b ρ h.2]
  | .dic _ a b, ρ, h => by simp only [noP, Bool.and_eq_true] at h; simp only [ev, ev_set a ρ h.1, ev_set b ρ h.2]
  | .dix _ a, ρ, h => by simp only [noP] at h; simp only [ev, ev_set a ρ h]
  | .at o _ _, ρ, h => by simp only [noP] at h; simp only [ev, ev_set o ρ h]
  | .me o _ _ _ ps, ρ, h => by simp only [noP, Bool.and_eq_true] at h; simp only [ev, ev_set o ρ h.1, evL_set ps ρ h.2]
  | .mk _ _ _ ps, ρ, h => by simp only [noP] at h; simp only [ev, evL_set ps ρ h]
theorem evT_set : ∀ (p : P) (ρ : Env), noP z p = true → evT p (ρ.set z v) = evT p ρ
  | .an ps, ρ, h => by simp only [noP] at h; simp only [evT, evTAn_set ps ρ h]
  | .orr ps, ρ, h => by simp only [noP] at h; simp only [evT, evTOr_set ps ρ h]
  | .no a, ρ, h => by simp only [noP] at h; simp only [evT, evT_set a ρ h]
  | .cmp o a b, ρ, h => by simp only [noP, Bool.and_eq_true] at h; simp only [evT, ev_set a ρ h.1, ev_set b ρ h.2]
  | .chn _ _ a b c, ρ, h => by simp only [noP, Bool.and_eq_true] at h; simp only [evT, ev_set a ρ h.1.1, ev_set b ρ h.1.2, ev_set c ρ h.2]
  | .var i, ρ, h => by simp only [evT]; rw [getV_set (by simpa only [noP] using h)]
  | .cB _, _, _ => rfl
  | .ca _ _ ps, ρ, h => by simp only [noP] at h; simp only [evT, evL_set ps ρ h]
  | .b1 _ a, ρ, h => by simp only [noP] at h; simp only [evT, ev_set a ρ h]
  | .isi a _, ρ, h => by simp only [noP] at h; simp only [evT, ev_set a ρ h]
  | .me o _ _ _ ps, ρ, h => by simp only [noP, Bool.and_eq_true] at h; simp only [evT, ev_set o ρ h.1, evL_set ps ρ h.2]
  | .cI _, _, _ => rfl
  | .cN, _, _ => rfl
  | .cS _, _, _ => rfl
  | .gl _ _, _, _ => rfl
  | .bin _ _ _, _, _ => rfl
  | .neg _, _, _ => rfl
  | .ife _ _ _, _, _ => rfl
  | .ix _ _, _, _ => rfl
  | .sl _ _ _, _, _ => rfl
  | .rv _, _, _ => rfl
  | .st2 _ _, _, _ => rfl
  | .li _, _, _ => rfl
  | .tu _, _, _ => rfl
  | .cp _ _ _ _ _, _, _ => rfl
  | .pk _ _ _, _, _ => rfl
  | .b2 _ _ _, _, _ => rfl
  | .mt _ _ _, _, _ => rfl
  | .lr _ _ _, _, _ => rfl
  | .dic _ _ _, _, _ => rfl
  | .dix _ _, _, _ => rfl
  | .at _ _ _, _, _ => rfl
  | .mk _ _ _ _, _, _ => rfl
theorem evTAn_set : ∀ (ps : PL) (ρ : Env), noL z ps = true → evTAn ps (ρ.set z v) = evTAn ps ρ
  | .nil, _, _ => rfl
  | .cons p ps, ρ, h => by simp only [noL, Bool.and_eq_true] at h; simp only [evTAn, evT_set p ρ h.1, evTAn_set ps ρ h.2]
theorem evTOr_set : ∀ (ps : PL) (ρ : Env), noL z ps = true → evTOr ps (ρ.set z v) = evTOr ps ρ
  | .nil, _, _ => rfl
  | .cons p ps, ρ, h => by simp only [noL, Bool.and_eq_true] at h; simp only [evTOr, evT_set p ρ h.1, evTOr_set ps ρ h.2]
theorem evAn_set : ∀ (ps : PL) (ρ : Env), noL z ps = true → evAn ps (ρ.set z v) = evAn ps ρ
  | .nil, _, _ => rfl
  | .cons p .nil, ρ, h => by simp only [noL, Bool.and_eq_true] at h; simp only [evAn, ev_set p ρ h.1]
  | .cons p (.cons q ps), ρ, h => by
    have h' : noP z p = true ∧ noL z (.cons q ps) = true := by simpa only [noL, Bool.and_eq_true] using h
    simp only [evAn, ev_set p ρ h'.1, evAn_set (.cons q ps) ρ h'.2]
theorem evOr_set : ∀ (ps : PL) (ρ : Env), noL z ps = true → evOr ps (ρ.set z v) = evOr ps ρ
  | .nil, _, _ => rfl
  | .cons p .nil, ρ, h => by simp only [noL, Bool.and_eq_true] at h; simp only [evOr, ev_set p ρ h.1]
  | .cons p (.cons q ps), ρ, h => by
    have h' : noP z p = true ∧ noL z (.cons q ps) = true := by simpa only [noL, Bool.and_eq_true] using h
    simp only [evOr, ev_set p ρ h'.1, evOr_set (.cons q ps) ρ h'.2]
theorem evL_set : ∀ (ps : PL) (ρ : Env), noL z ps = true → evL ps (ρ.set z v) = evL ps ρ
  | .nil, _, _ => rfl
  | .cons p ps, ρ, h => by simp only [noL, Bool.and_eq_true] at h; simp only [evL, ev_set p ρ h.1, evL_set ps ρ h.2]
theorem evPQ_set : ∀ (p : PQ) (ρ : Env), noQ z p = true → evPQ p (ρ.set z v) = evPQ p ρ
  | .none, _, _ => rfl
  | .some p, ρ, h => by simp only [noQ] at h; simp only [evPQ, ev_set p ρ h]
theorem evC_set : ∀ (p : PQ) (ρ : Env), noQ z p = true → evC p (ρ.set z v) = evC p ρ
  | .none, _, _ => rfl
  | .some p, ρ, h => by simp only [noQ] at h; simp only [evC, evT_set p ρ h]
theorem evI_set : ∀ (i : I) (ρ : Env), noI z i = true → evI i (ρ.set z v) = evI i ρ
  | .e p, ρ, h => by simp only [noI] at h; simp only [evI, ev_set p ρ h]
  | .r1 a, ρ, h => by simp only [noI] at h; simp only [evI, ev_set a ρ h]
  | .r2 a b, ρ, h => by simp only [noI, Bool.and_eq_true] at h; simp only [evI, ev_set a ρ h.1, ev_set b ρ h.2]
  | .r3 a b c, ρ, h => by simp only [noI, Bool.and_eq_true] at h; simp only [evI, ev_set a ρ h.1.1, ev_set b ρ h.1.2, ev_set c ρ h.2]
  | .en a, ρ, h => by simp only [noI] at h; simp only [evI, ev_set a ρ h]
  | .zp a b, ρ, h => by simp only [noI, Bool.and_eq_true] at h; simp only [evI, ev_set a ρ h.1, ev_set b ρ h.2]
  | .zp3 a b c, ρ, h => by simp only [noI, Bool.and_eq_true] at h; simp only [evI, ev_set a ρ h.1.1, ev_set b ρ h.1.2, ev_set c ρ h.2]
end
end BX.Q

set_option Elab.async false
set_option linter.all false
set_option maxRecDepth 100000
/-! BQ2: the same of statements. -/
namespace BX.Q
mutual
def noS (z : Nat) : S → Bool
  | .a tg p => noT z tg && noP z p
  | .m i p => i != z && noP z p
  | .mv i j => i != z && j != z
  | .ap i p => i != z && noP z p
  | .ext i p => i != z && noP z p
  | .rm i p => i != z && noP z p
  | .ixs i k p => i != z && noP z k && noP z p
  | .e p => noP z p
  | .iff t b c => noP z t && noB z b && noB z c
  | .fr tg it b => noT z tg && noI z it && noB z b
  | .frm i tg b => i != z && noT z tg && noB z b
  | .wh t b => noP z t && noB z b
  | .rt p => noP z p
  | .rn => true
  | .ps => true
  | .rs _ _ => true
  | .tr b _ _ _ _ _ => noB z b
  | .sa o _ _ p => noP z o && noP z p
def noB (z : Nat) : SL → Bool
  | .nil => true
  | .cons s ss => noS z s && noB z ss
end
variable {z : Nat} {v : Option D}
/-- the outcome with slot z set -/
def shf (z : Nat) (v : Option D) (m : MF) : MF := bnd m fun q => ret (q.1, q.2.set z v)
theorem shf_bnd {α : Type} (m : M α) (k : α → MF) : shf z v (bnd m k) = bnd m fun a => shf z v (k a) := by
  unfold shf
  rw [bnd_assoc]
theorem bnd_shf {β : Type} (m : MF) (k : Fl × Env → M β) : bnd (shf z v m) k = bnd m fun q => k (q.1, q.2.set z v) := by
  unfold shf
  rw [bnd_assoc]
  rfl
theorem bnd_congr {α β : Type} {m : M α} {k k' : α → M β} (h : ∀ a, k a = k' a) : bnd m k = bnd m k' := by rw [show k = k' from funext h]
theorem ofO_map {α β : Type} (o : Option α) (f : α → β) {γ : Type} (k : β → M γ) : bnd (ofO (o.map f)) k = bnd (ofO o) fun a => k (f a) := by
  cases o <;> rfl
theorem get_ne {i : Nat} {ρ : Env} (h : (i != z) = true) : (ρ.set z v)[i]? = ρ[i]? := by
  have h' : i ≠ z := by simpa using h
  rw [List.getElem?_set_ne fun e => h' e.symm]
theorem set_ne {i : Nat} {ρ : Env} {d : Option D} (h : (i != z) = true) : (ρ.set z v).set i d = (ρ.set i d).set z v := by
  have h' : i ≠ z := by simpa using h
  rw [List.set_comm _ _ fun e => h' e.symm]
theorem chg_set {i : Nat} {f : List D → Option (List D)} {ρ : Env} (h : (i != z) = true) : chg i f (ρ.set z v) = shf z v (chg i f ρ) := by
  unfold chg
  rw [get_ne h]
  split
  · split
    · rw [set_ne h]; rfl
    · rfl
  · rfl
theorem lsM_set {i : Nat} {ρ : Env} (h : (i != z) = true) : lsM i (ρ.set z v) = lsM i ρ := by
  unfold lsM
  rw [get_ne h]
theorem forM_set {tg : Tg} {b : Env → MF} (ht : noT z tg = true) (hb : ∀ ρ, b (ρ.set z v) = shf z v (b ρ)) : ∀ (ds : List D) (ρ : Env), forM tg b ds (ρ.set z v) = shf z v (forM tg b ds ρ)
  | [], _ => rfl
  | d :: r, ρ => by
    simp only [forM]
    rw [stT_set tg d ρ ht]
    cases stT tg d ρ with
    | none => rfl
    | some ρ1 =>
      simp only [Option.map_some]
      rw [hb, bnd_shf, shf_bnd]
      refine bnd_congr fun q => ?_
      obtain ⟨fl, ρ2⟩ := q
      cases fl with
      | nx => exact forM_set ht hb r ρ2
      | ct => exact forM_set ht hb r ρ2
      | bk => rfl
      | rt x => rfl
theorem whM_set {t : Env → M Bool} {b : Env → MF} (ht : ∀ ρ, t (ρ.set z v) = t ρ) (hb : ∀ ρ, b (ρ.set z v) = shf z v (b ρ)) : ∀ (n : Nat) (ρ : Env), whM t b n (ρ.set z v) = shf z v (whM t b n ρ)
  | 0, _ => rfl
  | n + 1, ρ => by
    simp only [whM]
    rw [ht, shf_bnd]
    refine bnd_congr fun k => ?_
    cases k with
    | false => rfl
    | true =>
      simp only [if_true]
      rw [hb, bnd_shf, shf_bnd]
      refine bnd_congr fun q => ?_
      obtain ⟨fl, ρ2⟩ := q
      cases fl with
      | nx => exact whM_set ht hb n ρ2
      | ct => exact whM_set ht hb n ρ2
      | bk => rfl
      | rt x => rfl
theorem forS_set {i : Nat} {tg : Tg} {b : Env → MF} (hi : (i != z) = true) (ht : noT z tg = true) (hb : ∀ ρ, b (ρ.set z v) = shf z v (b ρ)) : ∀ (f j : Nat) (ρ : Env), forS i tg b f j (ρ.set z v) = shf z v (forS i tg b f j ρ)
  | 0, _, _ => rfl
  | f + 1, j, ρ => by
    simp only [forS]
    rw [get_ne hi]
    split
    · split
      · rfl
      · rename_i d _
        rw [stT_set tg d ρ ht]
        cases stT tg d ρ with
        | none => rfl
        | some ρ1 =>
          simp only [Option.map_some]
          rw [hb, bnd_shf, shf_bnd]
          refine bnd_congr fun q => ?_
          obtain ⟨fl, ρ2⟩ := q
          cases fl with
          | nx => exact forS_set hi ht hb f (j + 1) ρ2
          | ct => exact forS_set hi ht hb f (j + 1) ρ2
          | bk => rfl
          | rt x => rfl
    · rfl
theorem try_set {b : Env → MF} {hs : Xc → Option D} {ρ : Env} (hb : b (ρ.set z v) = shf z v (b ρ)) : tryM b hs (ρ.set z v) = shf z v (tryM b hs ρ) := by
  funext s
  simp only [tryM, hb, shf, bnd]
  cases e : b ρ s with
  | ok q s' => rfl
  | bad => rfl
  | ex c s' =>
    simp only []
    cases hs c <;> rfl
mutual
theorem evS_set : ∀ (s : S) (ρ : Env), noS z s = true → evS s (ρ.set z v) = shf z v (evS s ρ)
  | .a tg p, ρ, h => by
    simp only [noS, Bool.and_eq_true] at h
    simp only [evS, ev_set p ρ h.2]
    rw [shf_bnd]
    refine bnd_congr fun d => ?_
    rw [stT_set tg d ρ h.1, ofO_map, shf_bnd]
    rfl
  | .m i p, ρ, h => by
    simp only [noS, Bool.and_eq_true] at h
    simp only [evS, ev_set p ρ h.2]
    rw [shf_bnd]
    refine bnd_congr fun d => ?_
    split
    · rw [set_ne h.1]; rfl
    · rfl
  | .mv i j, ρ, h => by
    simp only [noS, Bool.and_eq_true] at h
    simp only [evS]
    rw [getV_set h.2, shf_bnd]
    refine bnd_congr fun d => ?_
    rw [set_ne h.2, set_ne h.1]
    rfl
  | .ap i p, ρ, h => by
    simp only [noS, Bool.and_eq_true] at h
    simp only [evS, ev_set p ρ h.2, lsM_set h.1]
    rw [shf_bnd]
    refine bnd_congr fun _ => ?_
    rw [shf_bnd]
    exact bnd_congr fun d => chg_set h.1
  | .ext i p, ρ, h => by
    simp only [noS, Bool.and_eq_true] at h
    simp only [evS, ev_set p ρ h.2, lsM_set h.1]
    rw [shf_bnd]
    refine bnd_congr fun _ => ?_
    rw [shf_bnd]
    exact bnd_congr fun d => chg_set h.1
  | .rm i p, ρ, h => by
    simp only [noS, Bool.and_eq_true] at h
    simp only [evS, ev_set p ρ h.2, lsM_set h.1]
    rw [shf_bnd]
    refine bnd_congr fun _ => ?_
    rw [shf_bnd]
    exact bnd_congr fun d => chg_set h.1
  | .ixs i k p, ρ, h => by
    simp only [noS, Bool.and_eq_true] at h
    simp only [evS, ev_set p ρ h.2, ev_set k ρ h.1.2, lsM_set h.1.1]
    rw [shf_bnd]
    refine bnd_congr fun d => ?_
    rw [shf_bnd]
    refine bnd_congr fun _ => ?_
    rw [shf_bnd]
    refine bnd_congr fun x => ?_
    rw [shf_bnd]
    exact bnd_congr fun n => chg_set h.1.1
  | .e p, ρ, h => by
    simp only [noS] at h
    simp only [evS, ev_set p ρ h]
    rw [shf_bnd]
    rfl
  | .iff t b c, ρ, h => by
    simp only [noS, Bool.and_eq_true] at h
    simp only [evS, evT_set t ρ h.1.1]
    rw [shf_bnd]
    refine bnd_congr fun k => ?_
    cases k with
    | true => exact evB_set b ρ h.1.2
    | false => exact evB_set c ρ h.2
  | .fr tg it b, ρ, h => by
    simp only [noS, Bool.and_eq_true] at h
    simp only [evS, evI_set it ρ h.1.2]
    rw [shf_bnd]
    exact bnd_congr fun ds => forM_set h.1.1 (fun ρ1 => evB_set b ρ1 h.2) ds ρ
  | .frm i tg b, ρ, h => by
    simp only [noS, Bool.and_eq_true] at h
    simp only [evS]
    exact forS_set h.1.1 h.1.2 (fun ρ1 => evB_set b ρ1 h.2) _ _ ρ
  | .wh t b, ρ, h => by
    simp only [noS, Bool.and_eq_true] at h
    simp only [evS]
    exact whM_set (fun ρ1 => evT_set t ρ1 h.1) (fun ρ1 => evB_set b ρ1 h.2) _ ρ
  | .rt p, ρ, h => by
    simp only [noS] at h
    simp only [evS, ev_set p ρ h]
    rw [shf_bnd]
    rfl
  | .rn, ρ, h => rfl
  | .ps, ρ, h => rfl
  | .rs _ _, ρ, h => rfl
  | .tr b _ cl al _ hd, ρ, h => by
    simp only [noS] at h
    simp only [evS]
    exact try_set (evB_set b ρ h)
  | .sa o _ k p, ρ, h => by
    simp only [noS, Bool.and_eq_true] at h
    simp only [evS, ev_set p ρ h.2, ev_set o ρ h.1]
    rw [shf_bnd]
    refine bnd_congr fun d => ?_
    rw [shf_bnd]
    refine bnd_congr fun x => ?_
    rw [shf_bnd]
    rfl
theorem evB_set : ∀ (b : SL) (ρ : Env), noB z b = true → evB b (ρ.set z v) = shf z v (evB b ρ)
  | .nil, ρ, h => rfl
  | .cons s ss, ρ, h => by
    simp only [noB, Bool.and_eq_true] at h
    simp only [evB, evS_set s ρ h.1]
    rw [bnd_shf, shf_bnd]
    refine bnd_congr fun q => ?_
    obtain ⟨fl, ρ2⟩ := q
    cases fl with
    | nx => exact evB_set ss ρ2 h.2
    | rt d => rfl
    | bk => rfl
    | ct => rfl
end
end BX.Q

set_option Elab.async false
set_option linter.all false
set_option maxRecDepth 100000
/-! BQ3: plain laws' own tools. -/
namespace BX.Q
theorem inb_c {a b : Int} (h : -(2 ^ 64) < a ∧ a < 2 ^ 64) : mulD (.int a) (.int b) = ret (.int (a * b)) := by
  show (if (inb a || inb b) = true then ret (D.int (a * b)) else bad) = _
  have e : inb a = true := by unfold inb; rw [decide_eq_true h.1, decide_eq_true h.2]; rfl
  rw [if_pos (by rw [e]; rfl)]
theorem inb_r {a b : Int} (h : -(2 ^ 64) < b ∧ b < 2 ^ 64) : mulD (.int a) (.int b) = ret (.int (a * b)) := by
  show (if (inb a || inb b) = true then ret (D.int (a * b)) else bad) = _
  have e : inb b = true := by unfold inb; rw [decide_eq_true h.1, decide_eq_true h.2]; rfl
  rw [if_pos (by rw [e]; exact Bool.or_true _)]
theorem modD_ok {a b : Int} (h : b ≠ 0) : modD (.int a) (.int b) = ret (.int (a.fmod b)) := by simp [modD, h]
theorem fdivD_ok {a b : Int} (h : b ≠ 0) (h2 : b.natAbs < 1073741824) : fdivD (.int a) (.int b) = ret (.int (a.fdiv b)) := by simp [fdivD, h, h2]
theorem shL_ints (n : Nat) : ∀ ns : List Int, shL n (ns.map .int) = true
  | [] => by simp [shL]
  | i :: r => by simp [shL, sh, shL_ints n r]
theorem eqM_scr (ns : List Int) : eqM false (.scr ns) (.lst []) = ret (.bl (decide (ns = []))) := by
  cases ns with
  | nil => rfl
  | cons i r =>
    unfold eqM
    rw [if_pos (by simp [nrm, sh, shL_ints, shL])]
    rfl
theorem cpM_all {P : D → D → Prop} {c : Env → M Bool} {e : Env → M D} {tg : Tg} {ρ : Env} : ∀ (ds : List D), (∀ d ∈ ds, ∃ ρ1 y, stT tg d ρ = some ρ1 ∧ c ρ1 = ret true ∧ e ρ1 = ret y ∧ P d y) → ∃ ys, cpM c e tg ρ ds = ret ys ∧ ys.length = ds.length ∧ ∀ y ∈ ys, ∃ d ∈ ds, P d y
  | [], _ => ⟨[], rfl, rfl, fun _ h => by cases h⟩
  | d :: r, h => by
    obtain ⟨ρ1, y, h1, h2, h3, h4⟩ := h d List.mem_cons_self
    obtain ⟨ys, g1, g2, g3⟩ := cpM_all r fun d' hd' => h d' (List.mem_cons_of_mem _ hd')
    refine ⟨y :: ys, ?_, by rw [List.length_cons, List.length_cons, g2], fun z hz => ?_⟩
    · simp only [cpM, h1, h2, nox_ret, ret_bnd, if_true, h3, g1]
    · rcases List.mem_cons.mp hz with rfl | hz
      · exact ⟨d, List.mem_cons_self, h4⟩
      · obtain ⟨d', k1, k2⟩ := g3 z hz
        exact ⟨d', List.mem_cons_of_mem _ k1, k2⟩
theorem ints_of : ∀ {ys : List D} {p : Int → Prop}, (∀ y ∈ ys, ∃ i, y = .int i ∧ p i) → ∃ l : List Int, ys = l.map .int ∧ ∀ i ∈ l, p i
  | [], _, _ => ⟨[], rfl, fun _ h => by cases h⟩
  | y :: ys, p, h => by
    obtain ⟨i, rfl, hi⟩ := h y List.mem_cons_self
    obtain ⟨l, rfl, hl⟩ := ints_of fun y' hy' => h y' (List.mem_cons_of_mem _ hy')
    exact ⟨i :: l, rfl, fun j hj => by
      rcases List.mem_cons.mp hj with rfl | hj
      · exact hi
      · exact hl j hj⟩
theorem rngI_mem : ∀ (n : Nat) (a : Int) (d : D), d ∈ rngI a 1 n → ∃ k, d = .int k ∧ a ≤ k ∧ k < a + n
  | 0, _, _, h => by simp [rngI] at h
  | n + 1, a, d, h => by
    simp only [rngI] at h
    rcases List.mem_cons.mp h with rfl | h
    · exact ⟨a, rfl, Int.le_refl _, by omega⟩
    · obtain ⟨k, e, h1, h2⟩ := rngI_mem n (a + 1) d h
      exact ⟨k, e, by omega, by omega⟩
theorem rngI_len : ∀ (n : Nat) (a c : Int), (rngI a c n).length = n
  | 0, _, _ => rfl
  | n + 1, a, c => by simp [rngI, rngI_len n]
theorem rngM_ok {a b : Int} (h1 : 0 ≤ a) (h2 : a ≤ 1000) (h3 : b ≤ 1000) (h4 : 0 ≤ b) : rngM a b = ret (rngI a 1 (b - a).toNat) := by
  unfold rngM
  rw [if_pos]
  simp only [Bool.and_eq_true, decide_eq_true_eq]
  refine ⟨⟨⟨⟨by omega, by omega⟩, by omega⟩, by omega⟩, ?_⟩
  show _ ≤ 16777216
  omega
end BX.Q

set_option Elab.async false
set_option linter.all false
set_option maxRecDepth 100000
/-! BQ4: a block in two parts. -/
namespace BX.Q
def takeS : Nat → SL → SL
  | 0, _ => .nil
  | _ + 1, .nil => .nil
  | n + 1, .cons s ss => .cons s (takeS n ss)
def dropS : Nat → SL → SL
  | 0, b => b
  | _ + 1, .nil => .nil
  | n + 1, .cons _ ss => dropS n ss
/-- what follows a block's part -/
def thenB (b : SL) (q : Fl × Env) : MF := match q.1 with
  | .nx => evB b q.2
  | f => ret (f, q.2)
theorem evB_cons (s : S) (ss : SL) (ρ : Env) : evB (.cons s ss) ρ = bnd (evS s ρ) (thenB ss) := rfl
theorem evB_split : ∀ (n : Nat) (b : SL) (ρ : Env), evB b ρ = bnd (evB (takeS n b) ρ) (thenB (dropS n b))
  | 0, b, ρ => rfl
  | n + 1, .nil, ρ => rfl
  | n + 1, .cons s ss, ρ => by
    show bnd (evS s ρ) (thenB ss) = bnd (bnd (evS s ρ) (thenB (takeS n ss))) (thenB (dropS n ss))
    rw [bnd_assoc]
    refine bnd_congr fun q => ?_
    obtain ⟨fl, ρ1⟩ := q
    cases fl with
    | nx => exact evB_split n ss ρ1
    | _ => rfl
theorem bnd_ok {α β : Type} {m : M α} {k : α → M β} {s s' : Sto} {a : α} (h : m s = .ok a s') : bnd m k s = k a s' := by
  unfold bnd
  rw [h]
end BX.Q

set_option Elab.async false
set_option linter.all false
set_option maxRecDepth 100000
/-! BQ5: sorting by rank. -/
namespace BX.Q
def insN (x : Nat) : List Nat → List Nat
  | [] => [x]
  | y :: ys => if y < x then y :: insN x ys else x :: y :: ys
def isortN : List Nat → List Nat
  | [] => []
  | x :: xs => insN x (isortN xs)
theorem insN_mem {x z : Nat} : ∀ {ys : List Nat}, z ∈ insN x ys → z = x ∨ z ∈ ys
  | [], h => by simpa [insN] using h
  | y :: ys, h => by
    unfold insN at h
    split at h
    · rcases List.mem_cons.mp h with rfl | h
      · exact .inr List.mem_cons_self
      · rcases insN_mem h with e | e
        · exact .inl e
        · exact .inr (List.mem_cons_of_mem _ e)
    · rcases List.mem_cons.mp h with rfl | h
      · exact .inl rfl
      · exact .inr h
theorem isortN_mem {z : Nat} : ∀ {xs : List Nat}, z ∈ isortN xs → z ∈ xs
  | [], h => h
  | x :: xs, h => by
    rcases insN_mem h with rfl | h
    · exact List.mem_cons_self
    · exact List.mem_cons_of_mem _ (isortN_mem h)
theorem insN_len (x : Nat) : ∀ ys : List Nat, (insN x ys).length = ys.length + 1
  | [] => rfl
  | y :: ys => by
    unfold insN
    split
    · rw [List.length_cons, insN_len x ys, List.length_cons]
    · rfl
theorem isortN_len : ∀ xs : List Nat, (isortN xs).length = xs.length
  | [] => rfl
  | x :: xs => by
    show (insN x (isortN xs)).length = _
    rw [insN_len, isortN_len xs]
    rfl
theorem insN_low {x : Nat} : ∀ {ys : List Nat}, (∀ y ∈ ys, x ≤ y) → insN x ys = x :: ys
  | [], _ => rfl
  | y :: ys, h => by
    have := h y List.mem_cons_self
    unfold insN
    rw [if_neg (by omega)]
/-- the least one stands first, the others behind it in their order -/
theorem isortN_min {m : Nat} : ∀ (xs : List Nat), m ∈ xs → (∀ x ∈ xs, m ≤ x) → isortN xs = m :: isortN (xs.erase m)
  | [], h, _ => by cases h
  | x :: r, h, hm => by
    by_cases e : x = m
    · subst e
      rw [List.erase_cons_head]
      exact insN_low fun y hy => hm y (List.mem_cons_of_mem _ (isortN_mem hy))
    · have hr : m ∈ r := by
        rcases List.mem_cons.mp h with z | z
        · exact absurd z.symm e
        · exact z
      rw [List.erase_cons_tail (by simpa using e)]
      show insN x (isortN r) = m :: insN x (isortN (r.erase m))
      rw [isortN_min r hr fun y hy => hm y (List.mem_cons_of_mem _ hy)]
      have := hm x List.mem_cons_self
      show (if m < x then m :: insN x (isortN (r.erase m)) else _) = _
      rw [if_pos (by omega)]
/-- data sorted by their ranks -/
theorem isortD_map {key : Nat → D} {B : Nat} (hk : ∀ i j, i < B → j < B → ltD (key i) (key j) = decide (i < j)) : ∀ (ks : List Nat), (∀ k ∈ ks, k < B) → isortD (ks.map key) = (isortN ks).map key
  | [], _ => rfl
  | x :: xs, h => by
    have ih := isortD_map hk xs fun k hk' => h k (List.mem_cons_of_mem _ hk')
    have ins : ∀ ys : List Nat, (∀ k ∈ ys, k < B) → insD (key x) (ys.map key) = (insN x ys).map key := by
      intro ys
      induction ys with
      | nil => intro _; rfl
      | cons y ys ih2 =>
        intro hy
        show (if ltD (key y) (key x) then key y :: insD (key x) (ys.map key) else key x :: key y :: ys.map key) = (insN x (y :: ys)).map key
        rw [hk y x (hy y List.mem_cons_self) (h x List.mem_cons_self), ih2 fun k hk' => hy k (List.mem_cons_of_mem _ hk')]
        by_cases c : y < x
        · rw [decide_eq_true c, if_pos rfl, show insN x (y :: ys) = y :: insN x ys from if_pos c]; rfl
        · rw [decide_eq_false c, if_neg Bool.false_ne_true, show insN x (y :: ys) = x :: y :: ys from if_neg c]; rfl
    show insD (key x) (isortD (xs.map key)) = _
    rw [ih]
    exact ins (isortN xs) fun k hk' => h k (List.mem_cons_of_mem _ (isortN_mem hk'))
/-- the first of the least -/
def minN (b : Nat) (xs : List Nat) : Nat := xs.foldl (fun b x => if x < b then x else b) b
theorem minN_le : ∀ (xs : List Nat) (b : Nat), minN b xs ≤ b ∧ (∀ x ∈ xs, minN b xs ≤ x) ∧ (minN b xs = b ∨ minN b xs ∈ xs)
  | [], b => ⟨Nat.le_refl _, fun _ h => (by cases h), .inl rfl⟩
  | x :: xs, b => by
    obtain ⟨h1, h2, h3⟩ := minN_le xs (if x < b then x else b)
    have e : minN b (x :: xs) = minN (if x < b then x else b) xs := rfl
    rw [e]
    by_cases c : x < b
    · rw [if_pos c] at h1 h2 h3 ⊢
      refine ⟨by omega, fun y hy => ?_, ?_⟩
      · rcases List.mem_cons.mp hy with rfl | hy
        · exact h1
        · exact h2 y hy
      · rcases h3 with h3 | h3
        · exact .inr (by rw [h3]; exact List.mem_cons_self)
        · exact .inr (List.mem_cons_of_mem _ h3)
    · rw [if_neg c] at h1 h2 h3 ⊢
      refine ⟨h1, fun y hy => ?_, ?_⟩
      · rcases List.mem_cons.mp hy with rfl | hy
        · omega
        · exact h2 y hy
      · rcases h3 with h3 | h3
        · exact .inl h3
        · exact .inr (List.mem_cons_of_mem _ h3)
theorem fstIx_map {key : Nat → D} {B : Nat} (hk : ∀ i j, i < B → j < B → eqD (key i) (key j) = decide (i = j)) {m : Nat} (hm : m < B) : ∀ (ks : List Nat) (p : Nat), (∀ k ∈ ks, k < B) → m ∈ ks → ∃ j, fstIx (key m) (ks.map key) p = some (p + j) ∧ (ks.map key).eraseIdx j = (ks.erase m).map key
  | [], _, _, h => by cases h
  | x :: r, p, hb, h => by
    have hx := hk x m (hb x List.mem_cons_self) hm
    by_cases e : x = m
    · subst e
      refine ⟨0, ?_, by rw [List.erase_cons_head]; rfl⟩
      show (if eqD (key x) (key x) then some p else _) = _
      rw [hx]
      simp
    · have hr : m ∈ r := by
        rcases List.mem_cons.mp h with z | z
        · exact absurd z.symm e
        · exact z
      obtain ⟨j, h1, h2⟩ := fstIx_map hk hm r (p + 1) (fun k hk' => hb k (List.mem_cons_of_mem _ hk')) hr
      refine ⟨j + 1, ?_, ?_⟩
      · show (if eqD (key x) (key m) then some p else fstIx (key m) (r.map key) (p + 1)) = _
        rw [hx, h1]
        simp only [e, decide_false, Bool.false_eq_true, if_false]
        congr 1
        omega
      · rw [List.erase_cons_tail (by simpa using e)]
        show key x :: (r.map key).eraseIdx j = key x :: (r.erase m).map key
        rw [h2]
end BX.Q

set_option Elab.async false
set_option linter.all false
set_option maxRecDepth 100000
/-! BQ6: runs at one store. -/
namespace BX.Q
theorem bnd_at {α β : Type} {m : M α} {k : α → M β} {s s' : Sto} {a : α} {r : R β} (h : m s = .ok a s') (h' : k a s' = r) : bnd m k s = r := by rw [bnd_ok h, h']
theorem cpM_run {c : Env → M Bool} {e : Env → M D} {tg : Tg} {ρ : Env} {s : Sto} {f : D → D} : ∀ (ds : List D), (∀ d ∈ ds, ∃ ρ1, stT tg d ρ = some ρ1 ∧ c ρ1 s = .ok true s ∧ e ρ1 s = .ok (f d) s) → cpM c e tg ρ ds s = .ok (ds.map f) s
  | [], _ => rfl
  | d :: r, h => by
    obtain ⟨ρ1, h1, h2, h3⟩ := h d List.mem_cons_self
    simp only [cpM, h1]
    refine bnd_at (a := true) (s' := s) (by unfold nox; rw [h2]) ?_
    simp only [if_true]
    refine bnd_at (a := f d) (s' := s) (by unfold nox; rw [h3]) ?_
    refine bnd_at (cpM_run r fun d' hd' => h d' (List.mem_cons_of_mem _ hd')) rfl
theorem forM_inv {b : Env → MF} {tg : Tg} {s : Sto} {P : Env → Prop} : ∀ (ds : List D) (ρ : Env), (∀ d ∈ ds, ∀ ρ, P ρ → ∃ ρ1 ρ2, stT tg d ρ = some ρ1 ∧ b ρ1 s = .ok (.nx, ρ2) s ∧ P ρ2) → P ρ → ∃ ρ', forM tg b ds ρ s = .ok (.nx, ρ') s ∧ P ρ'
  | [], ρ, _, hp => ⟨ρ, rfl, hp⟩
  | d :: r, ρ, h, hp => by
    obtain ⟨ρ1, ρ2, h1, h2, h3⟩ := h d List.mem_cons_self ρ hp
    obtain ⟨ρ', g1, g2⟩ := forM_inv r ρ2 (fun d' hd' => h d' (List.mem_cons_of_mem _ hd')) h3
    refine ⟨ρ', ?_, g2⟩
    simp only [forM, h1]
    exact bnd_at h2 g1
/-- environments alike but for some slots -/
def Same (is : List Nat) (ρ ρ' : Env) : Prop := ρ'.length = ρ.length ∧ ∀ j, j ∉ is → ρ'[j]? = ρ[j]?
theorem Same.refl (is : List Nat) (ρ : Env) : Same is ρ ρ := ⟨rfl, fun _ _ => rfl⟩
theorem Same.trans {is : List Nat} {a b c : Env} (h : Same is a b) (h' : Same is b c) : Same is a c := ⟨h'.1.trans h.1, fun j hj => (h'.2 j hj).trans (h.2 j hj)⟩
theorem Same.set {is : List Nat} {ρ : Env} {i : Nat} {d : Option D} (h : i ∈ is) : Same is ρ (ρ.set i d) := ⟨List.length_set, fun j hj => List.getElem?_set_ne fun (e : i = j) => hj (by rw [← e]; exact h)⟩
theorem Same.more {is js : List Nat} {a b : Env} (h : Same is a b) (hs : ∀ i ∈ is, i ∈ js) : Same js a b := ⟨h.1, fun j hj => h.2 j fun z => hj (hs j z)⟩
theorem getV_of {i : Nat} {ρ : Env} {d : D} (h : ρ[i]? = some (some d)) : getV i ρ = ret d := by
  unfold getV
  rw [h]
theorem cpM_map {α : Type} {c : Env → M Bool} {e : Env → M D} {tg : Tg} {ρ : Env} {s : Sto} {g f : α → D} : ∀ (ks : List α), (∀ k ∈ ks, ∃ ρ1, stT tg (g k) ρ = some ρ1 ∧ c ρ1 s = .ok true s ∧ e ρ1 s = .ok (f k) s) → cpM c e tg ρ (ks.map g) s = .ok (ks.map f) s
  | [], _ => rfl
  | d :: r, h => by
    obtain ⟨ρ1, h1, h2, h3⟩ := h d List.mem_cons_self
    simp only [List.map_cons, cpM, h1]
    refine bnd_at (a := true) (s' := s) (by unfold nox; rw [h2]) ?_
    simp only [if_true]
    refine bnd_at (a := f d) (s' := s) (by unfold nox; rw [h3]) ?_
    refine bnd_at (cpM_map r fun d' hd' => h d' (List.mem_cons_of_mem _ hd')) rfl
theorem blk_nx {s : S} {ss : SL} {ρ ρ1 : Env} {st st1 : Sto} {r : R (Fl × Env)} (h : evS s ρ st = .ok (.nx, ρ1) st1) (h' : evB ss ρ1 st1 = r) : evB (.cons s ss) ρ st = r := bnd_at h h'
theorem blk_rt {s : S} {ss : SL} {ρ ρ1 : Env} {st st1 : Sto} {d : D} (h : evS s ρ st = .ok (.rt d, ρ1) st1) : evB (.cons s ss) ρ st = .ok (.rt d, ρ1) st1 := bnd_at h rfl
theorem mkF_run {ar n : Nat} {b : SL} {ds : List D} {s s' : Sto} {r : D} (hl : ds.length = ar) (h : ∃ ρ', evB b (ds.map some ++ List.replicate (n - ar) none) s = .ok (.rt r, ρ') s') : mkF ar n b ds s = .ok r s' := by
  obtain ⟨ρ', h⟩ := h
  unfold mkF
  rw [if_pos hl]
  exact bnd_at h rfl
end BX.Q

set_option Elab.async false
set_option linter.all false
set_option maxRecDepth 100000
/-! BS1: data in the heap, worlds, what a reading must do. -/
namespace BX
open PySem PySem.Spec PyProof.Rows L2

/-- what the run knows: the classes of exceptions, of objects -/
structure Rt where
  P : Program
  w : World
  K : PySem.W.Frag
  mg : Str → Option Value
  base : Heap
  ca : Xc → Addr
  co : Nat → Addr
/-- the names of attributes -/
def AT : List Str := ["book", "digits", "rests", "last", "over", "alarms", "ticks", "loop", "many", "pulled", "moment", "past", "later", "office", "noted"]
mutual
def Rp (K : PySem.W.Frag) (G : Hp) (μ : List Addr) : D → V → Prop
  | .non, v => v = .non
  | .bl b, v => v = .bl b
  | .int i, v => v = .int i
  | .str s, v => v = .str ⟨s.toArray⟩ ∧ s.length ≤ LIM ∧ ∀ c ∈ s, c < 1114112
  | .tup ds, v => ∃ a xs, v = .ref a ∧ SqT K G a xs ∧ xs.length ≤ LIM ∧ RpL K G μ ds xs
  | .lst ds, v => ∃ a xs, v = .ref a ∧ G a = some (.lst xs) ∧ xs.length ≤ LIM ∧ RpL K G μ ds xs
  | .scr ns, v => ∃ a, v = .ref a ∧ SqL K G a (ns.map V.int) ∧ ns.length ≤ LIM
  | .obj n, v => ∃ a, v = .ref a ∧ μ[n]? = some a
def RpL (K : PySem.W.Frag) (G : Hp) (μ : List Addr) : List D → List V → Prop
  | [], xs => xs = []
  | d :: ds, xs => ∃ v vs, xs = v :: vs ∧ Rp K G μ d v ∧ RpL K G μ ds vs
end
/-- one heap is within another -/
def Sub (G G' : Hp) : Prop := ∀ a o, G a = some o → G' a = some o
theorem Sub.refl (G : Hp) : Sub G G := fun _ _ h => h
theorem Sub.trans {G G' G'' : Hp} (h : Sub G G') (h' : Sub G' G'') : Sub G G'' := fun a o e => h' a o (h a o e)
theorem Sub.sqt {K : PySem.W.Frag} {G G' : Hp} {a : Addr} {xs : List V} (s : Sub G G') (h : SqT K G a xs) : SqT K G' a xs := by
  rcases h with (h | ⟨o, h⟩) | h
  · exact .inl (.inl (s _ _ h))
  · exact .inl (.inr ⟨o, s _ _ h⟩)
  · exact .inr h
theorem Sub.sql {K : PySem.W.Frag} {G G' : Hp} {a : Addr} {xs : List V} (s : Sub G G') (h : SqL K G a xs) : SqL K G' a xs := by
  rcases h with (h | ⟨o, h⟩) | h
  · exact .inl (.inl (s _ _ h))
  · exact .inl (.inr ⟨o, s _ _ h⟩)
  · exact .inr h
def Pre (μ μ' : List Addr) : Prop := ∃ l, μ' = μ ++ l
theorem Pre.refl (μ : List Addr) : Pre μ μ := ⟨[], by simp⟩
theorem Pre.trans {a b c : List Addr} (h : Pre a b) (h' : Pre b c) : Pre a c := by
  obtain ⟨l, rfl⟩ := h
  obtain ⟨m, rfl⟩ := h'
  exact ⟨l ++ m, by simp⟩
theorem Pre.get {μ μ' : List Addr} (h : Pre μ μ') {n : Nat} {a : Addr} (e : μ[n]? = some a) : μ'[n]? = some a := by
  obtain ⟨l, rfl⟩ := h
  obtain ⟨hl, _⟩ := List.getElem?_eq_some_iff.mp e
  rw [List.getElem?_append_left hl]
  exact e
section
variable {K : PySem.W.Frag} {G G' : Hp} {μ μ' : List Addr}
mutual
theorem Rp.mono (s : Sub G G') (p : Pre μ μ') : ∀ (d : D) (v : V), Rp K G μ d v → Rp K G' μ' d v
  | .non, _, h => h
  | .bl _, _, h => h
  | .int _, _, h => h
  | .str _, _, h => h
  | .tup ds, v, h => by
    obtain ⟨a, xs, e, h1, h2, h3⟩ := (show ∃ a xs, v = .ref a ∧ SqT K G a xs ∧ xs.length ≤ LIM ∧ RpL K G μ ds xs from by simpa only [Rp] using h)
    simp only [Rp]
    exact ⟨a, xs, e, s.sqt h1, h2, RpL.mono s p ds xs h3⟩
  | .lst ds, v, h => by
    obtain ⟨a, xs, e, h1, h2, h3⟩ := (show ∃ a xs, v = .ref a ∧ G a = some (.lst xs) ∧ xs.length ≤ LIM ∧ RpL K G μ ds xs from by simpa only [Rp] using h)
    simp only [Rp]
    exact ⟨a, xs, e, s _ _ h1, h2, RpL.mono s p ds xs h3⟩
  | .scr ns, v, h => by
    obtain ⟨a, e, h1, h2⟩ := (show ∃ a, v = .ref a ∧ SqL K G a (ns.map V.int) ∧ ns.length ≤ LIM from by simpa only [Rp] using h)
    simp only [Rp]
    exact ⟨a, e, s.sql h1, h2⟩
  | .obj n, v, h => by
    obtain ⟨a, e, h1⟩ := (show ∃ a, v = .ref a ∧ μ[n]? = some a from by simpa only [Rp] using h)
    simp only [Rp]
    exact ⟨a, e, p.get h1⟩
theorem RpL.mono (s : Sub G G') (p : Pre μ μ') : ∀ (ds : List D) (xs : List V), RpL K G μ ds xs → RpL K G' μ' ds xs
  | [], _, h => by simpa only [RpL] using h
  | d :: ds, xs, h => by
    simp only [RpL] at h ⊢
    obtain ⟨v, vs, e, h1, h2⟩ := h
    exact ⟨v, vs, e, Rp.mono s p d v h1, RpL.mono s p ds vs h2⟩
end
theorem RpL.length : ∀ {ds : List D} {xs : List V}, RpL K G μ ds xs → ds.length = xs.length
  | [], _, h => by simp only [RpL] at h; subst h; rfl
  | d :: ds, xs, h => by
    simp only [RpL] at h
    obtain ⟨v, vs, e, h1, h2⟩ := h
    subst e
    simp [RpL.length h2]
theorem RpL.get : ∀ {ds : List D} {xs : List V} {i : Nat} {d : D}, RpL K G μ ds xs → ds[i]? = some d → ∃ v, xs[i]? = some v ∧ Rp K G μ d v
  | [], _, _, _, _, e => by simp at e
  | d :: ds, xs, 0, e, h, q => by
    simp only [RpL] at h
    obtain ⟨v, vs, rfl, h1, h2⟩ := h
    simp at q
    subst q
    exact ⟨v, rfl, h1⟩
  | d :: ds, xs, i + 1, e, h, q => by
    simp only [RpL] at h
    obtain ⟨v, vs, rfl, h1, h2⟩ := h
    obtain ⟨u, q1, q2⟩ := RpL.get (i := i) (d := e) h2 (by simpa using q)
    exact ⟨u, by simpa using q1, q2⟩
theorem RpL.append : ∀ {ds es : List D} {xs ys : List V}, RpL K G μ ds xs → RpL K G μ es ys → RpL K G μ (ds ++ es) (xs ++ ys)
  | [], es, xs, ys, h, h' => by
    simp only [RpL] at h
    subst h
    exact h'
  | d :: ds, es, xs, ys, h, h' => by
    simp only [RpL] at h
    obtain ⟨v, vs, rfl, h1, h2⟩ := h
    show RpL K G μ (d :: (ds ++ es)) (v :: (vs ++ ys))
    simp only [RpL]
    exact ⟨v, vs ++ ys, rfl, h1, RpL.append h2 h'⟩
theorem RpL.one {d : D} {v : V} (h : Rp K G μ d v) : RpL K G μ [d] [v] := by
  simp only [RpL]
  exact ⟨v, [], rfl, h, rfl⟩
theorem RpL.nil : RpL K G μ [] [] := by simp only [RpL]
theorem RpL.cons {d : D} {v : V} {ds : List D} {vs : List V} (h : Rp K G μ d v) (h' : RpL K G μ ds vs) : RpL K G μ (d :: ds) (v :: vs) := by
  simp only [RpL]
  exact ⟨v, vs, rfl, h, h'⟩
theorem RpL.of_cons {d : D} {v : V} {ds : List D} {vs : List V} (h : RpL K G μ (d :: ds) (v :: vs)) : Rp K G μ d v ∧ RpL K G μ ds vs := by
  simp only [RpL] at h
  obtain ⟨v', vs', e, h1, h2⟩ := h
  obtain ⟨rfl, rfl⟩ := List.cons.inj e
  exact ⟨h1, h2⟩
theorem RpL.take : ∀ (n : Nat) {ds : List D} {xs : List V}, RpL K G μ ds xs → RpL K G μ (ds.take n) (xs.take n)
  | 0, _, _, _ => by simp [RpL]
  | n + 1, [], xs, h => by
    simp only [RpL] at h
    subst h
    simp [RpL]
  | n + 1, d :: ds, xs, h => by
    simp only [RpL] at h
    obtain ⟨v, vs, rfl, h1, h2⟩ := h
    simp only [List.take_succ_cons]
    exact RpL.cons h1 (RpL.take n h2)
theorem RpL.drop : ∀ (n : Nat) {ds : List D} {xs : List V}, RpL K G μ ds xs → RpL K G μ (ds.drop n) (xs.drop n)
  | 0, _, _, h => h
  | n + 1, [], xs, h => by
    simp only [RpL] at h
    subst h
    simp [RpL]
  | n + 1, d :: ds, xs, h => by
    simp only [RpL] at h
    obtain ⟨v, vs, rfl, h1, h2⟩ := h
    simp only [List.drop_succ_cons]
    exact RpL.drop n h2
theorem RpL.set : ∀ {ds : List D} {xs : List V} (i : Nat) {d : D} {v : V}, RpL K G μ ds xs → Rp K G μ d v → RpL K G μ (ds.set i d) (xs.set i v)
  | [], xs, i, d, v, h, _ => by
    simp only [RpL] at h
    subst h
    simp [RpL]
  | e :: ds, xs, 0, d, v, h, r => by
    simp only [RpL] at h
    obtain ⟨u, vs, rfl, h1, h2⟩ := h
    exact RpL.cons r h2
  | e :: ds, xs, i + 1, d, v, h, r => by
    simp only [RpL] at h
    obtain ⟨u, vs, rfl, h1, h2⟩ := h
    exact RpL.cons h1 (RpL.set i h2 r)
theorem RpL.eraseIdx : ∀ {ds : List D} {xs : List V} (i : Nat), RpL K G μ ds xs → RpL K G μ (ds.eraseIdx i) (xs.eraseIdx i)
  | [], xs, i, h => by
    simp only [RpL] at h
    subst h
    simp [RpL]
  | e :: ds, xs, 0, h => by
    simp only [RpL] at h
    obtain ⟨u, vs, rfl, h1, h2⟩ := h
    exact h2
  | e :: ds, xs, i + 1, h => by
    simp only [RpL] at h
    obtain ⟨u, vs, rfl, h1, h2⟩ := h
    exact RpL.cons h1 (RpL.eraseIdx i h2)
theorem RpL.reverse : ∀ {ds : List D} {xs : List V}, RpL K G μ ds xs → RpL K G μ ds.reverse xs.reverse
  | [], xs, h => by
    simp only [RpL] at h
    subst h
    simp [RpL]
  | e :: ds, xs, h => by
    simp only [RpL] at h
    obtain ⟨u, vs, rfl, h1, h2⟩ := h
    simp only [List.reverse_cons]
    exact (RpL.reverse h2).append (RpL.one h1)
theorem RpL.rep {ds : List D} {xs : List V} (h : RpL K G μ ds xs) : ∀ k, RpL K G μ (rep k ds) (List.replicate k xs).flatten
  | 0 => by simp [BX.rep, RpL]
  | k + 1 => by
    show RpL K G μ (List.replicate (k + 1) ds).flatten _
    simp only [List.replicate_succ, List.flatten_cons]
    exact h.append (RpL.rep h k)
end

/-! ### worlds -/
def isIns : HO → Bool
  | .ins _ _ _ => true
  | _ => false
/-- an object's attributes -/
def FsOk (K : PySem.W.Frag) (G : Hp) (μ : List Addr) (fs : List (Nat × D)) (vs : List (Str × V)) : Prop :=
  Paired (fun (p : Nat × D) (q : Str × V) => AT[p.1]? = some q.1 ∧ Rp K G μ p.2 q.2) fs vs
structure WOk (T : Rt) (G H : Hp) (μ : List Addr) (st : Sto) : Prop where
  gh : Sub G H
  nd : μ.Nodup
  len : μ.length = st.length
  obj : ∀ (n : Nat) (a : Addr) (ob : Ob), st[n]? = some ob → μ[n]? = some a → G a = none ∧ ∃ dx fs, H a = some (.ins (T.co ob.cls) dx fs) ∧ FsOk T.K G μ ob.fs fs
/-- a world goes on: nothing but objects changes -/
structure Ev (G H : Hp) (μ : List Addr) (G' H' : Hp) (μ' : List Addr) : Prop where
  g : Sub G G'
  m : Pre μ μ'
  h : ∀ a o, H a = some o → isIns o = false → H' a = some o
  i : ∀ a o, H a = some o → ∃ o', H' a = some o'
  f : ∀ a, G a = none → H a ≠ none → G' a = none
theorem Ev.refl (G H : Hp) (μ : List Addr) : Ev G H μ G H μ := ⟨Sub.refl _, Pre.refl _, fun _ _ e _ => e, fun _ o e => ⟨o, e⟩, fun _ e _ => e⟩
theorem Ev.trans {G H G' H' G'' H'' : Hp} {μ μ' μ'' : List Addr} (a : Ev G H μ G' H' μ') (b : Ev G' H' μ' G'' H'' μ'') : Ev G H μ G'' H'' μ'' := by
  refine ⟨a.g.trans b.g, a.m.trans b.m, fun c o e n => b.h c o (a.h c o e n) n, fun c o e => ?_, fun c e n => b.f c (a.f c e n) ?_⟩
  · obtain ⟨o', e'⟩ := a.i c o e
    exact b.i c o' e'
  · cases q : H c with
    | none => exact absurd q n
    | some o =>
      obtain ⟨o', e'⟩ := a.i c o q
      rw [e']
      simp
theorem Ev.rp {K : PySem.W.Frag} {G H G' H' : Hp} {μ μ' : List Addr} (a : Ev G H μ G' H' μ') {d : D} {v : V} (r : Rp K G μ d v) : Rp K G' μ' d v := Rp.mono a.g a.m d v r
theorem Ev.rpl {K : PySem.W.Frag} {G H G' H' : Hp} {μ μ' : List Addr} (a : Ev G H μ G' H' μ') {d : List D} {v : List V} (r : RpL K G μ d v) : RpL K G' μ' d v := RpL.mono a.g a.m d v r
/-- what comes of an expression: 0 it stands in the frozen part; 1 a list is new, of nobody else's; 2 a list may be a slot's own -/
def PoL (T : Rt) (H G' H' : Hp) (μ' : List Addr) (ds : List D) (v : V) : Nat → Prop
  | 0 => Rp T.K G' μ' (.lst ds) v
  | 1 => ∃ a xs, v = .ref a ∧ H a = none ∧ G' a = none ∧ H' a = some (.lst xs) ∧ xs.length ≤ LIM ∧ RpL T.K G' μ' ds xs
  | _ + 2 => ∃ a xs, v = .ref a ∧ H' a = some (.lst xs) ∧ xs.length ≤ LIM ∧ RpL T.K G' μ' ds xs
def Po (T : Rt) (md : Nat) (H G' H' : Hp) (μ' : List Addr) : D → V → Prop
  | .lst ds, v => PoL T H G' H' μ' ds v md
  | d, v => Rp T.K G' μ' d v
theorem Po.of {T : Rt} {md : Nat} {H G' H' : Hp} {μ' : List Addr} {d : D} {v : V} (h : isLst d = false) (r : Rp T.K G' μ' d v) : Po T md H G' H' μ' d v := by
  cases d <;> first | exact r | exact absurd h (by simp [isLst])
theorem Po.plain {T : Rt} {md : Nat} {H G' H' : Hp} {μ' : List Addr} {d : D} {v : V} (h : isLst d = false) (r : Po T md H G' H' μ' d v) : Rp T.K G' μ' d v := by
  cases d <;> first | exact r | exact absurd h (by simp [isLst])
/-- .. read at any time -/
theorem Po.two {T : Rt} {md : Nat} {H G' H' : Hp} {μ' : List Addr} {d : D} {v : V} (s : Sub G' H') (r : Po T md H G' H' μ' d v) : Po T 2 H G' H' μ' d v := by
  cases d with
  | lst ds =>
    show ∃ a xs, v = .ref a ∧ H' a = some (.lst xs) ∧ xs.length ≤ LIM ∧ RpL T.K G' μ' ds xs
    match md, r with
    | 0, r =>
      have r' : Rp T.K G' μ' (.lst ds) v := r
      simp only [Rp] at r'
      obtain ⟨a, xs, e, h1, h2, h3⟩ := r'
      exact ⟨a, xs, e, s _ _ h1, h2, h3⟩
    | 1, r =>
      obtain ⟨a, xs, e, _, _, h1, h2, h3⟩ := (show ∃ a xs, v = .ref a ∧ H a = none ∧ G' a = none ∧ H' a = some (.lst xs) ∧ xs.length ≤ LIM ∧ RpL T.K G' μ' ds xs from r)
      exact ⟨a, xs, e, h1, h2, h3⟩
    | _ + 2, r => exact r
  | _ => exact r
/-- .. a later look at it -/
theorem Po.later {T : Rt} {H G H1 G' H' : Hp} {μ μ' : List Addr} {d : D} {v : V} (r : Po T 2 H G H1 μ d v) (e : Ev G H1 μ G' H' μ') : Po T 2 H1 G' H' μ' d v := by
  cases d with
  | lst ds =>
    obtain ⟨a, xs, e1, h1, h2, h3⟩ := (show ∃ a xs, v = .ref a ∧ H1 a = some (.lst xs) ∧ xs.length ≤ LIM ∧ RpL T.K G μ ds xs from r)
    exact ⟨a, xs, e1, e.h _ _ h1 rfl, h2, e.rpl h3⟩
  | _ => exact e.rp r
end BX

set_option Elab.async false
set_option linter.all false
set_option maxRecDepth 100000
/-! BS2: slots, readings as the evaluator says. -/
namespace BX
open PySem PySem.Spec PyProof.Rows L2

abbrev St := L2.St
/-- a changed list's own -/
def Ow (K : PySem.W.Frag) (H0 G H : Hp) (μ : List Addr) : D → V → Prop
  | .lst ds, v => ∃ a xs, v = .ref a ∧ H0 a = none ∧ G a = none ∧ H a = some (.lst xs) ∧ xs.length ≤ LIM ∧ RpL K G μ ds xs
  | d, v => Rp K G μ d v
/-- the world at a def's entry -/
structure EW where
  G : Hp
  H : Hp
  μ : List Addr
structure Er (T : Rt) (mu : List Nat) (n : Nat) (E : EW) (ρ : Env) (σ : St) (G H : Hp) (μ : List Addr) (st : Sto) : Prop where
  w : WOk T G H μ st
  en : Ev E.G E.H E.μ G H μ
  lr : ρ.length = n
  ls : σ.length = n
  pl : ∀ (i : Nat) (d : D), i ∉ mu → ρ[i]? = some (some d) → ∃ v, σ[i]? = some (some v) ∧ Rp T.K G μ d v
  ow : ∀ (i : Nat) (d : D), i ∈ mu → ρ[i]? = some (some d) → ∃ v, σ[i]? = some (some v) ∧ Ow T.K E.H G H μ d v
  ap : ∀ (i j : Nat) (d e : D) (v : V), i ∈ mu → j ∈ mu → i ≠ j → isLst d = true → isLst e = true → ρ[i]? = some (some d) → ρ[j]? = some (some e) → σ[i]? = some (some v) → σ[j]? ≠ some (some v)
theorem Ow.later {K : PySem.W.Frag} {H0 G H G' H' : Hp} {μ μ' : List Addr} {d : D} {v : V} (r : Ow K H0 G H μ d v) (e : Ev G H μ G' H' μ') : Ow K H0 G' H' μ' d v := by
  cases d with
  | lst ds =>
    obtain ⟨a, xs, e1, h0, hg, h1, h2, h3⟩ := (show ∃ a xs, v = .ref a ∧ H0 a = none ∧ G a = none ∧ H a = some (.lst xs) ∧ xs.length ≤ LIM ∧ RpL K G μ ds xs from r)
    exact ⟨a, xs, e1, h0, e.f a hg (by rw [h1]; simp), e.h _ _ h1 rfl, h2, e.rpl h3⟩
  | _ => exact e.rp r
section
variable {T : Rt} {mu : List Nat} {n : Nat} {E : EW} {ρ : Env} {σ : St} {G H G' H' : Hp} {μ μ' : List Addr} {st st' : Sto}
theorem Er.ev (h : Er T mu n E ρ σ G H μ st) (e : Ev G H μ G' H' μ') (w : WOk T G' H' μ' st') : Er T mu n E ρ σ G' H' μ' st' := by
  refine ⟨w, h.en.trans e, h.lr, h.ls, fun i d hi hr => ?_, fun i d hi hr => ?_, h.ap⟩
  · obtain ⟨v, h1, h2⟩ := h.pl i d hi hr
    exact ⟨v, h1, e.rp h2⟩
  · obtain ⟨v, h1, h2⟩ := h.ow i d hi hr
    exact ⟨v, h1, h2.later e⟩
/-- a slot read, whatever it is -/
theorem Er.get (h : Er T mu n E ρ σ G H μ st) {i : Nat} {d : D} (e : ρ[i]? = some (some d)) : ∃ v, σ[i]? = some (some v) ∧ Po T 2 H G H μ d v := by
  by_cases hi : i ∈ mu
  · obtain ⟨v, h1, h2⟩ := h.ow i d hi e
    refine ⟨v, h1, ?_⟩
    cases d with
    | lst ds =>
      obtain ⟨a, xs, e1, _, _, q1, q2, q3⟩ := (show ∃ a xs, v = .ref a ∧ E.H a = none ∧ G a = none ∧ H a = some (.lst xs) ∧ xs.length ≤ LIM ∧ RpL T.K G μ ds xs from h2)
      exact ⟨a, xs, e1, q1, q2, q3⟩
    | _ => exact h2
  · obtain ⟨v, h1, h2⟩ := h.pl i d hi e
    refine ⟨v, h1, ?_⟩
    have h3 : Po T 0 H G H μ d v := by cases d <;> exact h2
    exact h3.two h.w.gh
end

/-! ### outcomes -/
def Res {α : Type} (m : R α) (k : α → Sto → Prop) (x : Xc → Sto → Prop) : Prop := match m with
  | .ok a s => k a s
  | .ex c s => x c s
  | .bad => False
theorem Res.bnd {α β : Type} {m : M α} {f : α → M β} {s : Sto} {k : β → Sto → Prop} {x : Xc → Sto → Prop} (h : Res (BX.bnd m f s) k x) : Res (m s) (fun a s' => Res (f a s') k x) x := by
  unfold BX.bnd at h
  cases e : m s with
  | ok a s' => rw [e] at h; exact h
  | ex c s' => rw [e] at h; exact h
  | bad => rw [e] at h; exact h
theorem Res.mono {α : Type} {m : R α} {k k' : α → Sto → Prop} {x x' : Xc → Sto → Prop} (h : Res m k x) (hk : ∀ a s, k a s → k' a s) (hx : ∀ c s, x c s → x' c s) : Res m k' x' := by
  cases m with
  | ok a s => exact hk _ _ h
  | ex c s => exact hx _ _ h
  | bad => exact h
theorem Res.ret {α : Type} {a : α} {s : Sto} {k : α → Sto → Prop} {x : Xc → Sto → Prop} (h : Res (BX.ret a s) k x) : k a s := h
theorem Res.bad {α : Type} {s : Sto} {k : α → Sto → Prop} {x : Xc → Sto → Prop} (h : Res (BX.bad s) k x) : False := h
theorem Res.nox {α : Type} {m : M α} {s : Sto} {k : α → Sto → Prop} {x x' : Xc → Sto → Prop} (h : Res (BX.nox m s) k x) : Res (m s) k x' := by
  unfold BX.nox at h
  cases e : m s with
  | ok a s' => rw [e] at h; exact h
  | ex c s' => rw [e] at h; exact h.elim
  | bad => rw [e] at h; exact h

/-! ### what readings must do -/
section
variable (T : Rt) (mu : List Nat) (n : Nat) (W : WX)
abbrev WK (G H : Hp) (μ : List Addr) (σ : St) : Xc → Sto → Prop := fun x st' => ∀ G' H' μ', Ev G H μ G' H' μ' → WOk T G' H' μ' st' → W (.ref (T.ca x)) none σ H'
def RdE (md : Nat) (t : TE) (f : Env → M D) : Prop := ∀ (E : EW) (ρ : Env) (σ : St) (G H : Hp) (μ : List Addr) (st : Sto) (Q : VK), Er T mu n E ρ σ G H μ st →
  Res (f ρ st) (fun d st' => ∀ v G' H' μ', Ev G H μ G' H' μ' → WOk T G' H' μ' st' → Po T md H G' H' μ' d v → Q v H') (WK T W G H μ σ) → t σ H Q
def RdT (t : TT) (f : Env → M Bool) : Prop := ∀ (E : EW) (ρ : Env) (σ : St) (G H : Hp) (μ : List Addr) (st : Sto) (Q : Bool → Hp → Prop), Er T mu n E ρ σ G H μ st →
  Res (f ρ st) (fun b st' => ∀ G' H' μ', Ev G H μ G' H' μ' → WOk T G' H' μ' st' → Q b H') (WK T W G H μ σ) → t σ H Q
def RdA (t : TA) (f : Env → M (List D)) : Prop := ∀ (E : EW) (ρ : Env) (σ : St) (G H : Hp) (μ : List Addr) (st : Sto) (Q : List V → Hp → Prop), Er T mu n E ρ σ G H μ st →
  Res (f ρ st) (fun ds st' => ∀ vs G' H' μ', Ev G H μ G' H' μ' → WOk T G' H' μ' st' → RpL T.K G' μ' ds vs → Q vs H') (WK T W G H μ σ) → t σ H Q
def RdO (md : Nat) (r : R2) (g : D → D → M D) : Prop := ∀ (x y : D) (vx vy : V) (G H : Hp) (μ : List Addr) (st : Sto) (Q : VK), WOk T G H μ st → Po T 2 H G H μ x vx → Po T 2 H G H μ y vy →
  Res (g x y st) (fun d st' => ∀ v G' H', Ev G H μ G' H' μ → WOk T G' H' μ st' → Po T md H G' H' μ d v → Q v H') (fun _ _ => True) → r vx vy H Q
def RdU (md : Nat) (r : V → Hp → VK → Prop) (g : D → M D) : Prop := ∀ (x : D) (vx : V) (G H : Hp) (μ : List Addr) (st : Sto) (Q : VK), WOk T G H μ st → Po T 2 H G H μ x vx →
  Res (g x st) (fun d st' => ∀ v G' H', Ev G H μ G' H' μ → WOk T G' H' μ st' → Po T md H G' H' μ d v → Q v H') (fun _ _ => True) → r vx H Q
end
section
variable {T : Rt} {mu : List Nat} {n : Nat} {W : WX}
theorem Po.back {md : Nat} {H H1 G' H' : Hp} {μ' : List Addr} {d : D} {v : V} (i : ∀ a o, H a = some o → ∃ o', H1 a = some o') (r : Po T md H1 G' H' μ' d v) : Po T md H G' H' μ' d v := by
  cases d with
  | lst ds =>
    match md, r with
    | 0, r => exact r
    | 1, r =>
      obtain ⟨a, xs, e, hn, h0, h1, h2, h3⟩ := (show ∃ a xs, v = .ref a ∧ H1 a = none ∧ G' a = none ∧ H' a = some (.lst xs) ∧ xs.length ≤ LIM ∧ RpL T.K G' μ' ds xs from r)
      refine ⟨a, xs, e, ?_, h0, h1, h2, h3⟩
      cases q : H a with
      | none => rfl
      | some o =>
        obtain ⟨o', e'⟩ := i a o q
        rw [hn] at e'
        cases e'
    | _ + 2, r => exact r
  | _ => exact r
theorem Po.any {H1 H2 G' H' : Hp} {μ' : List Addr} {d : D} {v : V} (r : Po T 2 H1 G' H' μ' d v) : Po T 2 H2 G' H' μ' d v := by
  cases d <;> exact r
theorem rd_op {md : Nat} {r : R2} {g : D → D → M D} {ta tb : TE} {fa fb : Env → M D} {ma mb : Nat} (ha : RdE T mu n W ma ta fa) (hb : RdE T mu n W mb tb fb) (hr : RdO T md r g) :
    RdE T mu n W md (tOp r ta tb) (fun ρ => bnd (fa ρ) fun x => bnd (fb ρ) fun y => g x y) := by
  intro E ρ σ G H μ st Q er hres
  refine ha E ρ σ G H μ st _ er (hres.bnd.mono (fun x s1 h1 v1 G1 H1 μ1 e1 w1 p1 => ?_) fun c s1 h1 => h1)
  refine hb E ρ σ G1 H1 μ1 s1 _ (er.ev e1 w1) (h1.bnd.mono (fun y s2 h2 v2 G2 H2 μ2 e2 w2 p2 => ?_) fun c s2 h2 G' H' μ' e' w' => h2 G' H' μ' (e1.trans e') w')
  refine hr x y v1 v2 G2 H2 μ2 s2 Q w2 ((p1.two w1.gh).later e2).any (p2.two w2.gh).any (h2.mono (fun d s3 h3 v G' H' e3 w3 p3 => ?_) fun _ _ _ => trivial)
  exact h3 v G' H' μ2 ((e1.trans e2).trans e3) w3 (p3.back (e1.trans e2).i)
theorem rd_un {md : Nat} {r : V → Hp → VK → Prop} {g : D → M D} {ta : TE} {fa : Env → M D} {ma : Nat} (ha : RdE T mu n W ma ta fa) (hr : RdU T md r g) :
    RdE T mu n W md (tUn r ta) (fun ρ => bnd (fa ρ) g) := by
  intro E ρ σ G H μ st Q er hres
  refine ha E ρ σ G H μ st _ er (hres.bnd.mono (fun x s1 h1 v1 G1 H1 μ1 e1 w1 p1 => ?_) fun c s1 h1 => h1)
  refine hr x v1 G1 H1 μ1 s1 Q w1 (p1.two w1.gh).any (h1.mono (fun d s3 h3 v G' H' e3 w3 p3 => ?_) fun _ _ _ => trivial)
  exact h3 v G' H' μ1 (e1.trans e3) w3 (p3.back e1.i)
/-- from a new list to one that stands -/
theorem Ev.freeze {T : Rt} {G H G' H' : Hp} {μ μ' : List Addr} {st' : Sto} (e : Ev G H μ G' H' μ') (w : WOk T G' H' μ' st') {a : Addr} {xs : List V} (hn : H a = none) (h0 : G' a = none) (h1 : H' a = some (.lst xs)) :
    Ev G H μ (upd G' a (.lst xs)) H' μ' ∧ WOk T (upd G' a (.lst xs)) H' μ' st' ∧ Sub G' (upd G' a (.lst xs)) := by
  have sub : Sub G' (upd G' a (.lst xs)) := fun b o q => by rw [upd_ne (ne_of_none q h0)]; exact q
  refine ⟨⟨e.g.trans sub, e.m, e.h, e.i, fun b hb hne => ?_⟩, ⟨fun b o q => ?_, w.nd, w.len, fun k b ob h2 h3 => ?_⟩, sub⟩
  · have nb : b ≠ a := fun z => by subst z; exact hne hn
    rw [upd_ne nb]
    exact e.f b hb hne
  · by_cases hb : b = a
    · subst hb
      rw [upd_same] at q
      cases q
      exact h1
    · rw [upd_ne hb] at q
      exact w.gh b o q
  · obtain ⟨q1, dx, fs, q2, q3⟩ := w.obj k b ob h2 h3
    have nb : b ≠ a := fun z => by subst z; rw [h1] at q2; cases q2
    refine ⟨by rw [upd_ne nb]; exact q1, dx, fs, q2, ?_⟩
    exact Paired.mapP q3 fun p q z => ⟨z.1, Rp.mono sub (Pre.refl _) _ _ z.2⟩
theorem RdE.zero {t : TE} {f : Env → M D} {md : Nat} (h : RdE T mu n W md t f) (hm : md ≤ 1) : RdE T mu n W 0 t f := by
  match md, hm, h with
  | 0, _, h => exact h
  | 1, _, h =>
    intro E ρ σ G H μ st Q er hres
    refine h E ρ σ G H μ st Q er (hres.mono (fun d s1 h1 v G' H' μ' e w p => ?_) fun c s1 h1 => h1)
    cases d with
    | lst ds =>
      obtain ⟨a, xs, ev, hn, h0, q1, q2, q3⟩ := (show ∃ a xs, v = .ref a ∧ H a = none ∧ G' a = none ∧ H' a = some (.lst xs) ∧ xs.length ≤ LIM ∧ RpL T.K G' μ' ds xs from p)
      obtain ⟨e', w', sub⟩ := e.freeze w hn h0 q1
      refine h1 v _ H' μ' e' w' ?_
      show Rp T.K (upd G' a (.lst xs)) μ' (.lst ds) v
      simp only [Rp]
      exact ⟨a, xs, ev, upd_same, q2, RpL.mono sub (Pre.refl _) ds xs q3⟩
    | _ => exact h1 v G' H' μ' e w p
end
end BX

set_option Elab.async false
set_option linter.all false
set_option maxRecDepth 100000
/-! BS3: operators. -/
namespace BX
open PySem PySem.Spec PyProof.Rows L2
variable {T : Rt} {mu : List Nat} {n : Nat} {W : WX}

theorem limS : (sizeLine : Nat) = LIM := sizeLine_eq
/-! ### looks at what stands -/
theorem po_int {H G H' : Hp} {μ : List Addr} {md : Nat} {i : Int} {v : V} (h : Po T md H G H' μ (.int i) v) : v = .int i := by
  have h' : Rp T.K G μ (.int i) v := h
  simpa only [Rp] using h'
theorem po_bl {H G H' : Hp} {μ : List Addr} {md : Nat} {i : Bool} {v : V} (h : Po T md H G H' μ (.bl i) v) : v = .bl i := by
  have h' : Rp T.K G μ (.bl i) v := h
  simpa only [Rp] using h'
theorem po_non {H G H' : Hp} {μ : List Addr} {md : Nat} {v : V} (h : Po T md H G H' μ .non v) : v = .non := by
  have h' : Rp T.K G μ .non v := h
  simpa only [Rp] using h'
theorem po_str {H G H' : Hp} {μ : List Addr} {md : Nat} {x : List Nat} {v : V} (h : Po T md H G H' μ (.str x) v) : v = .str ⟨x.toArray⟩ ∧ x.length ≤ LIM ∧ ∀ c ∈ x, c < 1114112 := by
  have h' : Rp T.K G μ (.str x) v := h
  simpa only [Rp] using h'
theorem po_tup {H G H' : Hp} {μ : List Addr} {md : Nat} {ds : List D} {v : V} (h : Po T md H G H' μ (.tup ds) v) : ∃ a xs, v = .ref a ∧ SqT T.K G a xs ∧ xs.length ≤ LIM ∧ RpL T.K G μ ds xs := by
  have h' : Rp T.K G μ (.tup ds) v := h
  simpa only [Rp] using h'
theorem po_lst {H G H' : Hp} {μ : List Addr} {ds : List D} {v : V} (h : Po T 2 H G H' μ (.lst ds) v) : ∃ a xs, v = .ref a ∧ H' a = some (.lst xs) ∧ xs.length ≤ LIM ∧ RpL T.K G μ ds xs := h
theorem po_scr {H G H' : Hp} {μ : List Addr} {md : Nat} {ns : List Int} {v : V} (h : Po T md H G H' μ (.scr ns) v) : ∃ a, v = .ref a ∧ SqL T.K G a (ns.map V.int) ∧ ns.length ≤ LIM := by
  have h' : Rp T.K G μ (.scr ns) v := h
  simpa only [Rp] using h'
theorem po_obj {H G H' : Hp} {μ : List Addr} {md : Nat} {k : Nat} {v : V} (h : Po T md H G H' μ (.obj k) v) : ∃ a, v = .ref a ∧ μ[k]? = some a := by
  have h' : Rp T.K G μ (.obj k) v := h
  simpa only [Rp] using h'
theorem rp_int {G : Hp} {μ : List Addr} {i : Int} : Rp T.K G μ (.int i) (.int i) := by simp only [Rp]
theorem rp_bl {G : Hp} {μ : List Addr} {i : Bool} : Rp T.K G μ (.bl i) (.bl i) := by simp only [Rp]
theorem rp_non {G : Hp} {μ : List Addr} : Rp T.K G μ .non .non := by simp only [Rp]
theorem rp_str {G : Hp} {μ : List Addr} {x : List Nat} (h : x.length ≤ LIM) (h' : ∀ c ∈ x, c < 1114112) : Rp T.K G μ (.str x) (.str ⟨x.toArray⟩) := by
  simp only [Rp]
  exact ⟨trivial, h, h'⟩

section
variable {H G H' : Hp} {μ : List Addr} {md : Nat}
theorem pk_int {i : Int} : Po T md H G H' μ (.int i) (.int i) := by
  show Rp T.K G μ (.int i) _
  simp only [Rp]
theorem pk_bl {i : Bool} : Po T md H G H' μ (.bl i) (.bl i) := by
  show Rp T.K G μ (.bl i) _
  simp only [Rp]
theorem pk_non : Po T md H G H' μ .non .non := by
  show Rp T.K G μ .non _
  simp only [Rp]
theorem pk_str {x : List Nat} (h : x.length ≤ LIM) (h' : ∀ c ∈ x, c < 1114112) : Po T md H G H' μ (.str x) (.str ⟨x.toArray⟩) := by
  show Rp T.K G μ (.str x) _
  exact rp_str h h'
theorem pk_tup {ds : List D} {a : Addr} {xs : List V} (h1 : SqT T.K G a xs) (h2 : xs.length ≤ LIM) (h3 : RpL T.K G μ ds xs) : Po T md H G H' μ (.tup ds) (.ref a) := by
  show Rp T.K G μ (.tup ds) (.ref a)
  simp only [Rp]
  exact ⟨a, xs, rfl, h1, h2, h3⟩
end

/-! ### new things -/
theorem new_lst {G H : Hp} {μ : List Addr} {st : Sto} (w : WOk T G H μ st) {p : Addr} (hp : H p = none) (xs : List V) : Ev G H μ G (upd H p (.lst xs)) μ ∧ WOk T G (upd H p (.lst xs)) μ st := by
  have keep : ∀ b o, H b = some o → upd H p (.lst xs) b = some o := fun b o q => by rw [upd_ne (ne_of_none q hp)]; exact q
  refine ⟨⟨Sub.refl _, Pre.refl _, fun b o q _ => keep b o q, fun b o q => ⟨o, keep b o q⟩, fun b q _ => q⟩, ⟨fun b o q => keep b o (w.gh b o q), w.nd, w.len, fun k b ob h2 h3 => ?_⟩⟩
  obtain ⟨q1, dx, fs, q2, q3⟩ := w.obj k b ob h2 h3
  exact ⟨q1, dx, fs, keep _ _ q2, q3⟩
theorem po_new {G H : Hp} {μ : List Addr} {ds : List D} {xs : List V} {p : Addr} (w : Sub G H) (hp : H p = none) (hl : xs.length ≤ LIM) (r : RpL T.K G μ ds xs) : Po T 1 H G (upd H p (.lst xs)) μ (.lst ds) (.ref p) := by
  refine ⟨p, xs, rfl, hp, ?_, upd_same, hl, r⟩
  cases q : G p with
  | none => rfl
  | some o => rw [w p o q] at hp; cases hp
theorem new_tup {G H : Hp} {μ : List Addr} {st : Sto} (w : WOk T G H μ st) {p : Addr} (hp : H p = none) {ds : List D} {xs : List V} (hl : xs.length ≤ LIM) (r : RpL T.K G μ ds xs) :
    Ev G H μ (upd G p (.tup xs)) (upd H p (.tup xs)) μ ∧ WOk T (upd G p (.tup xs)) (upd H p (.tup xs)) μ st ∧ Rp T.K (upd G p (.tup xs)) μ (.tup ds) (.ref p) := by
  have gp : G p = none := by
    cases q : G p with
    | none => rfl
    | some o => rw [w.gh p o q] at hp; cases hp
  have keep : ∀ b o, H b = some o → upd H p (.tup xs) b = some o := fun b o q => by rw [upd_ne (ne_of_none q hp)]; exact q
  have keepG : Sub G (upd G p (.tup xs)) := fun b o q => by rw [upd_ne (ne_of_none q gp)]; exact q
  refine ⟨⟨keepG, Pre.refl _, fun b o q _ => keep b o q, fun b o q => ⟨o, keep b o q⟩, fun b q ne => ?_⟩, ⟨fun b o q => ?_, w.nd, w.len, fun k b ob h2 h3 => ?_⟩, ?_⟩
  · have nb : b ≠ p := fun z => by subst z; exact ne hp
    rw [upd_ne nb]
    exact q
  · by_cases hb : b = p
    · subst hb
      rw [upd_same] at q ⊢
      exact q
    · rw [upd_ne hb] at q ⊢
      exact w.gh b o q
  · obtain ⟨q1, dx, fs, q2, q3⟩ := w.obj k b ob h2 h3
    have nb : b ≠ p := ne_of_none q2 hp
    refine ⟨by rw [upd_ne nb]; exact q1, dx, fs, keep _ _ q2, ?_⟩
    exact Paired.mapP q3 fun p q z => ⟨z.1, Rp.mono keepG (Pre.refl _) _ _ z.2⟩
  · simp only [Rp]
    exact ⟨p, xs, rfl, .inl (.inl upd_same), hl, RpL.mono keepG (Pre.refl _) _ _ r⟩

/-! ### t * k -/
section
open Builtin
theorem tup_mul_same (l : Addr) (items : Array Value) (n : Nat) (dd : Option Addr) (sl : Array (Option Value)) (x : Int) (u : Tok) (c0 : (decide (x < -(2 ^ 63)) || decide (x ≥ 2 ^ 63)) = false)
    (c1 : (items.isEmpty || x == 1) = true) :
    Meets (Builtin.«tuple.__mul__» ⟨[.ref l, .int x u], []⟩) (fun _ R s => s.heap.get? l = some { cls := .type "tuple", dict := dd, data := .seq items n, slots := sl } ∧ R (.ok (.ret (Value.ref l))) s) :=
  .of_wp fun prog w A R s h => by
    obtain ⟨hp, g, d, tk, os⟩ := s
    obtain ⟨hl, h⟩ := h
    have f1 := AutoSeq1.idx_int
    wp_walk using wpAny_loadPart' hl
    repeat (first
      | (refine wpAny_ite_false (decide_eq_false (by rw [c0]; exact Bool.false_ne_true)) ?_; wp_walk using wpAny_loadPart' hl)
      | (refine wpAny_ite_true (decide_eq_true (by rw [c1])) ?_; wp_walk using wpAny_loadPart' hl))
    exact ⟨_, rfl, h⟩
theorem tup_mul_none (l : Addr) (items : Array Value) (n : Nat) (dd : Option Addr) (sl : Array (Option Value)) (x : Int) (u : Tok) (c0 : (decide (x < -(2 ^ 63)) || decide (x ≥ 2 ^ 63)) = false)
    (c1 : (items.isEmpty || x == 1) = false) (c2 : (decide (x ≤ 0) || items.isEmpty) = true) :
    Meets (Builtin.«tuple.__mul__» ⟨[.ref l, .int x u], []⟩) (fun _ R s => s.heap.get? l = some { cls := .type "tuple", dict := dd, data := .seq items n, slots := sl } ∧
      R (.ok (.ret (Value.ref s.heap.objs.size))) { s with heap := s.heap.push { cls := Value.type "tuple", data := Data.seq #[] }, toks := s.toks }) :=
  .of_wp fun prog w A R s h => by
    obtain ⟨hp, g, d, tk, os⟩ := s
    obtain ⟨hl, h⟩ := h
    have f1 := AutoSeq1.idx_int
    have hz : (#[] : Array Value).size ≤ sizeLine := Nat.zero_le _
    wp_walk using wpAny_loadPart' hl
    repeat (first
      | (refine wpAny_ite_false (decide_eq_false (by rw [c0]; exact Bool.false_ne_true)) ?_; wp_walk using wpAny_loadPart' hl)
      | (refine wpAny_ite_false (decide_eq_false (by rw [c1]; exact Bool.false_ne_true)) ?_; wp_walk using wpAny_loadPart' hl)
      | (refine wpAny_ite_true (decide_eq_true (by rw [c2])) ?_; wp_walk using wpAny_loadPart' hl)
      | (refine wpAny_ite_false (decide_eq_false (Nat.not_lt.mpr hz)) ?_; wp_walk using wpAny_loadPart' hl))
    exact ⟨_, rfl, h⟩
end
/-! ### + - * // % -/
abbrev rAdd (K : PySem.W.Frag) : R2 := fun x y H Q => rI0 (fun i j => .int (i + j)) x y H Q ∨ rCat x y H Q ∨ rCatA K x y H Q ∨ (∃ i j, x = .str i ∧ y = .str j ∧ i.length + j.length ≤ sizeLine ∧ Q (.str (i ++ j)) H)
theorem p_add {X : Cx} : OpR X (binaryOp .Add) (rAdd X.K) := op_add.or (op_cat.or (op_catA.or op_add_str))
theorem o_add : RdO T 1 (rAdd T.K) addD := by
  intro x y vx vy G H μ st Q w px py h
  unfold addD at h
  split at h
  · rename_i a b
    exact .inl ⟨a, b, po_int px, po_int py, h _ _ _ (Ev.refl _ _ _) w pk_int⟩
  · rename_i a b
    obtain ⟨l, xs, rfl, h1, h2, h3⟩ := po_lst px
    obtain ⟨l', ys, rfl, h1', h2', h3'⟩ := po_lst py
    unfold mkL at h
    split at h
    · rename_i hz
      have hz' : (xs ++ ys).length ≤ LIM := by
        have := (h3.append h3').length
        rw [← this]; exact hz
      refine .inr (.inl ⟨l, l', xs, ys, rfl, rfl, h1, h1', by rw [limS, ← List.length_append]; exact hz', fun p hp => ?_⟩)
      obtain ⟨e1, w1⟩ := new_lst w hp (xs ++ ys)
      exact h _ _ _ e1 w1 (po_new w.gh hp hz' (h3.append h3'))
    · exact h.elim
  · rename_i a b
    obtain ⟨l, xs, rfl, h1, h2, h3⟩ := po_tup px
    obtain ⟨l', ys, rfl, h1', h2', h3'⟩ := po_tup py
    unfold mkT at h
    split at h
    · rename_i hz
      have hz' : (xs ++ ys).length ≤ LIM := by
        have := (h3.append h3').length
        rw [← this]; exact hz
      refine .inr (.inr (.inl ⟨l, l', xs, ys, rfl, rfl, w.gh.sqt h1, w.gh.sqt h1', by rw [limS, ← List.length_append]; exact hz', fun e => ?_, fun e1 e2 => ?_, fun e1 e2 p hp => ?_⟩))
      · subst e
        have ea : a = [] := List.eq_nil_of_length_eq_zero h3.length
        subst ea
        refine h _ _ _ (Ev.refl _ _ _) w ?_
        show Rp T.K G μ (.tup ([] ++ b)) _
        simp only [Rp]
        exact ⟨l', ys, rfl, h1', h2', h3'⟩
      · subst e2
        have ea : b = [] := List.eq_nil_of_length_eq_zero h3'.length
        subst ea
        refine h _ _ _ (Ev.refl _ _ _) w ?_
        show Rp T.K G μ (.tup (a ++ [])) _
        rw [List.append_nil]
        simp only [Rp]
        exact ⟨l, xs, rfl, h1, h2, h3⟩
      · obtain ⟨q1, q2, q3⟩ := new_tup w hp hz' (h3.append h3')
        exact h _ _ _ q1 q2 q3
    · exact h.elim
  · rename_i a b
    obtain ⟨rfl, h1, h2⟩ := po_str px
    obtain ⟨rfl, h1', h2'⟩ := po_str py
    unfold mkS at h
    split at h
    · rename_i hz
      refine .inr (.inr (.inr ⟨_, _, rfl, rfl, ?_, ?_⟩))
      · show a.toArray.size + b.toArray.size ≤ _
        rw [List.size_toArray, List.size_toArray, limS, ← List.length_append]
        exact hz
      · refine h _ _ _ (Ev.refl _ _ _) w ?_
        have e : (⟨a.toArray⟩ ++ ⟨b.toArray⟩ : Str) = ⟨(a ++ b).toArray⟩ := by
          show (⟨a.toArray ++ b.toArray⟩ : Str) = _
          simp
        show Rp T.K G μ (.str (a ++ b)) _
        rw [e]
        exact rp_str hz fun c hc => (List.mem_append.mp hc).elim (h2 c) (h2' c)
    · exact h.elim
  · exact h.elim
end BX
namespace BX
open PySem PySem.Spec PyProof.Rows L2
variable {T : Rt} {mu : List Nat} {n : Nat} {W : WX}
def rRepA (K : PySem.W.Frag) : R2 := fun x y H Q => ∃ l k xs, x = .ref l ∧ y = .int k ∧ SqT K H l xs ∧ -(2 ^ 63) ≤ k ∧ k < 2 ^ 63 ∧ xs.length * k.toNat ≤ sizeLine ∧
  ((xs = [] ∨ k = 1) → Q (.ref l) H) ∧ (¬ (xs = [] ∨ k = 1) → ∀ p, H p = none → Q (.ref p) (upd H p (.tup (List.replicate k.toNat xs).flatten)))
theorem p_repA {X : Cx} : OpR X (binaryOp .Mult) (rRepA X.K) := by
  intro pins s σ H x y v u Q I rx ry h
  obtain ⟨l, k, xs, rfl, rfl, hT, h1, h2, hz, q1, q2⟩ := h
  cases rx
  obtain ⟨t, rfl⟩ := ry
  obtain ⟨its, r, ⟨⟨cls, dd, data, sl⟩, ho, hc, m, hd⟩, hs⟩ := I.tuple hT
  simp only at hc hd
  subst hc hd
  have hle : its.length = xs.length := r.length.symm
  have c0 : (decide (k < -(2 ^ 63)) || decide (k ≥ 2 ^ 63)) = false := by
    rw [decide_eq_false (by omega), decide_eq_false (by omega)] <;> rfl
  refine wpAny_binaryOp_repeat_ref (T := "tuple") (U := "int") (by decide) ⟨_, ho, rfl⟩ (fun s' => typeIs_int s' k t) noFill_tuple_mul F.fills_int_mul F.slot_int_rmul repeat_tuple F.slot_int_index.lookup
    (call_meets F.slot_int_rmul (typeIs_int s k t) F.entry_int_rmul (F.args_int_rmul_2 _ _) (int_rmul_tuple k t l its.toArray m dd sl) ⟨ho, rfl, ⟨_, ho, rfl⟩, ?_⟩)
  by_cases hw : xs = [] ∨ k = 1
  · have c1 : (its.toArray.isEmpty || k == 1) = true := by
      rcases hw with e | e
      · rw [e] at hle
        have : its = [] := List.eq_nil_of_length_eq_zero hle
        rw [this]
        rfl
      · rw [e]
        simp
    exact call_meets F.slot_tuple_mul ⟨_, ho, rfl⟩ F.entry_tuple_mul (F.args_tuple_mul_2 _ _) (tup_mul_same l its.toArray m dd sl k t c0 c1) ⟨ho, ⟨.ref l, H, I, rfl, q1 hw⟩⟩
  · have hne : xs ≠ [] := fun e => hw (.inl e)
    have hk1 : k ≠ 1 := fun e => hw (.inr e)
    have hn : its ≠ [] := fun e => hne (by
      rw [e] at hle
      exact List.eq_nil_of_length_eq_zero hle.symm)
    have hi : its.toArray.isEmpty = false := by
      cases its with
      | nil => exact absurd rfl hn
      | cons a b => rfl
    have c1 : (its.toArray.isEmpty || k == 1) = false := by
      rw [hi, Bool.false_or]
      exact beq_eq_false_iff_ne.mpr hk1
    by_cases hk : k ≤ 0
    · have c2 : (decide (k ≤ 0) || its.toArray.isEmpty) = true := by
        rw [decide_eq_true hk, Bool.true_or]
      have e0 : k.toNat = 0 := by omega
      rw [e0] at q2
      refine call_meets F.slot_tuple_mul ⟨_, ho, rfl⟩ F.entry_tuple_mul (F.args_tuple_mul_2 _ _) (tup_mul_none l its.toArray m dd sl k t c0 c1 c2) ⟨ho, ?_⟩
      refine ⟨.ref s.heap.objs.size, _, I.laid (t' := s.toks) (o := .tup []) (fun b ob q => Heap.get?_push_of_some _ q) (Nat.le_refl _) ?_, rfl, ?_⟩
      · exact ⟨Nat.zero_le _, [], .nil, IsTup.new _ _⟩
      · exact q2 hw _ (I.hok.fresh (Nat.le_refl _))
    · have c2 : (decide (k ≤ 0) || its.toArray.isEmpty) = false := by
        rw [hi, Bool.or_false]
        exact decide_eq_false hk
      have hz1 : its.toArray.size = xs.length := by rw [List.size_toArray, hle]
      have hzi : ((its.toArray.size : Nat) : Int) * k ≤ 16777216 := by
        have e1 : k = (k.toNat : Int) := by omega
        rw [hz1, e1]
        have e2 : xs.length * k.toNat ≤ 16777216 := by rw [← sizeLine_eq]; exact hz
        have e3 : ((xs.length * k.toNat : Nat) : Int) ≤ 16777216 := by omega
        rw [Int.natCast_mul] at e3
        exact e3
      have flen : (List.replicate k.toNat its).flatten.length ≤ sizeLine := by
        rw [PyProof.Rows.lm_len_rep_flat, hle, Nat.mul_comm]
        exact hz
      have c4 : Builtin.Tuple.tupleTooMany (((its.toArray.size : Nat) : Int) * k) = false := by
        unfold Builtin.Tuple.tupleTooMany
        rw [sizeLine_eq]
        exact decide_eq_false (by omega)
      refine call_meets F.slot_tuple_mul ⟨_, ho, rfl⟩ F.entry_tuple_mul (F.args_tuple_mul_2 _ _) (tuple_mulW l its.toArray m dd sl k t c0 c1 c2 (by omega) c4 (by rw [size_rep, List.size_toArray]; exact flen)) ⟨ho, ?_⟩
      rw [size_rep]
      refine ⟨.ref s.heap.objs.size, _, I.laid (t' := s.toks) (o := .tup (List.replicate k.toNat xs).flatten) (fun b ob q => Heap.get?_push_of_some _ q) (Nat.le_refl _) ?_, rfl, q2 hw _ (I.hok.fresh (Nat.le_refl _))⟩
      exact ⟨by rw [PyProof.Rows.lm_len_rep_flat, Nat.mul_comm]; exact hz, _, r.rep k.toNat, IsTup.new _ _⟩
abbrev rMul (K : PySem.W.Frag) : R2 := fun x y H Q => rI CMul (fun i j => .int (i * j)) x y H Q ∨ rRep x y H Q ∨ rRepA K x y H Q
theorem p_mul {X : Cx} : OpR X (binaryOp .Mult) (rMul X.K) := op_mul.or (op_rep.or p_repA)
theorem len_rep (k : Nat) {α : Type} (xs : List α) : (rep k xs).length = xs.length * k := by
  unfold rep
  rw [PyProof.Rows.lm_len_rep_flat, Nat.mul_comm]
theorem o_mul : RdO T 1 (rMul T.K) mulD := by
  intro x y vx vy G H μ st Q w px py h
  unfold mulD at h
  split at h
  · rename_i a b
    split at h
    · rename_i hc
      refine .inl ⟨a, b, po_int px, po_int py, ?_, h _ _ _ (Ev.refl _ _ _) w pk_int⟩
      unfold inb at hc
      simp only [Bool.or_eq_true, Bool.and_eq_true, decide_eq_true_eq] at hc
      exact hc
    · exact h.elim
  · rename_i a k
    obtain ⟨l, xs, rfl, h1, h2, h3⟩ := po_lst px
    split at h
    · rename_i hc
      unfold okRep at hc
      simp only [Bool.and_eq_true, decide_eq_true_eq] at hc
      have hl := h3.length
      have hz : (rep k.toNat xs).length ≤ LIM := by rw [len_rep, ← hl]; exact hc.2
      refine .inr (.inl ⟨l, k, xs, rfl, po_int py, h1, hc.1.1, hc.1.2, by rw [limS, ← hl]; exact hc.2, fun p hp => ?_⟩)
      obtain ⟨e1, w1⟩ := new_lst w hp (rep k.toNat xs)
      exact h _ _ _ e1 w1 (po_new w.gh hp hz (h3.rep _))
    · exact h.elim
  · rename_i a k
    obtain ⟨l, xs, rfl, h1, h2, h3⟩ := po_tup px
    split at h
    · rename_i hc
      unfold okRep at hc
      simp only [Bool.and_eq_true, decide_eq_true_eq] at hc
      have hl := h3.length
      have hz : (rep k.toNat xs).length ≤ LIM := by rw [len_rep, ← hl]; exact hc.2
      refine .inr (.inr ⟨l, k, xs, rfl, po_int py, w.gh.sqt h1, hc.1.1, hc.1.2, by rw [limS, ← hl]; exact hc.2, fun e => ?_, fun e p hp => ?_⟩)
      · have ea : rep k.toNat a = a := by
          rcases e with e | e
          · have : a = [] := List.eq_nil_of_length_eq_zero (by rw [hl, e]; rfl)
            rw [this]
            unfold rep
            exact List.flatten_replicate_nil
          · rw [e]
            show (List.replicate 1 a).flatten = a
            simp
        rw [ea] at h
        exact h _ _ _ (Ev.refl _ _ _) w (pk_tup h1 h2 h3)
      · obtain ⟨q1, q2, q3⟩ := new_tup w hp hz (h3.rep k.toNat)
        exact h _ _ _ q1 q2 q3
    · exact h.elim
  · exact h.elim
theorem o_sub : RdO T 1 (rI0 fun i j => .int (i - j)) subD := by
  intro x y vx vy G H μ st Q w px py h
  unfold subD at h
  split at h
  · rename_i a b
    exact ⟨a, b, po_int px, po_int py, h _ _ _ (Ev.refl _ _ _) w pk_int⟩
  · exact h.elim
theorem o_mod : RdO T 1 (rI (fun _ j => j ≠ 0) fun i j => .int (i.fmod j)) modD := by
  intro x y vx vy G H μ st Q w px py h
  unfold modD at h
  split at h
  · rename_i a b
    split at h
    · rename_i hc
      exact ⟨a, b, po_int px, po_int py, bne_iff_ne.mp hc, h _ _ _ (Ev.refl _ _ _) w pk_int⟩
    · exact h.elim
  · exact h.elim
theorem o_fdiv : RdO T 1 (rI CDivN fun i j => .int (i.fdiv j)) fdivD := by
  intro x y vx vy G H μ st Q w px py h
  unfold fdivD at h
  split at h
  · rename_i a b
    split at h
    · rename_i hc
      rw [Bool.and_eq_true, decide_eq_true_eq] at hc
      exact ⟨a, b, po_int px, po_int py, ⟨bne_iff_ne.mp hc.1, hc.2⟩, h _ _ _ (Ev.refl _ _ _) w pk_int⟩
    · exact h.elim
  · exact h.elim
end BX

set_option Elab.async false
set_option linter.all false
set_option maxRecDepth 100000
/-! BS4: comparisons. -/
namespace BX
open PySem PySem.Spec PyProof.Rows L2
open PySem.W (alike alikeAll dataLt rowLt keyToksAll keyToks dataLt_int dataLt_str dataLt_tuple dataLt_list dataLt_cons lt_data)
variable {T : Rt} {mu : List Nat} {n : Nat} {W : WX}

/-! ### as the library's data -/
mutual
def toPy : D → PyData
  | .non => .none
  | .bl b => .bool b
  | .int i => .int i
  | .str s => .str ⟨s.toArray⟩
  | .tup ds => .tuple (toPyL ds)
  | .lst ds => .list (toPyL ds)
  | .scr ns => .list (ns.map .int)
  | .obj _ => .none
def toPyL : List D → List PyData
  | [] => []
  | d :: ds => toPy d :: toPyL ds
end
theorem toPyL_map : ∀ ds, toPyL ds = ds.map toPy
  | [] => rfl
  | d :: ds => by simp only [toPyL, List.map_cons, toPyL_map ds]
section
variable {K : PySem.W.Frag} {G H : Hp} {μ : List Addr}
theorem lay_str {s : List Nat} (h : ∀ c ∈ s, c < 1114112) : PyData.canLay0 (.str ⟨s.toArray⟩) = true := by
  simp only [PyData.canLay0, PyData.strOk]
  simpa using h
mutual
theorem dp_of (sub : Sub G H) : ∀ (n : Nat) (d : D) (v : V), sh n d = true → Rp K G μ d v → Dp K H v (toPy d) ∧ (toPy d).canLay0 = true ∧ (toPy d).depth ≤ n
  | n, .non, v, _, h => by
    simp only [Rp] at h
    subst h
    exact ⟨.non, by simp [toPy, PyData.canLay0], by simp [toPy, PyData.depth]⟩
  | n, .bl b, v, _, h => by
    simp only [Rp] at h
    subst h
    exact ⟨.bl b, by simp [toPy, PyData.canLay0], by simp [toPy, PyData.depth]⟩
  | n, .int b, v, _, h => by
    simp only [Rp] at h
    subst h
    exact ⟨.int b, by simp [toPy, PyData.canLay0], by simp [toPy, PyData.depth]⟩
  | n, .str b, v, _, h => by
    simp only [Rp] at h
    obtain ⟨rfl, h1, h2⟩ := h
    exact ⟨.str _, lay_str h2, by simp [toPy, PyData.depth]⟩
  | n, .tup ds, v, s, h => by
    cases n with
    | zero => simp [sh] at s
    | succ n =>
      simp only [Rp] at h
      obtain ⟨a, xs, rfl, h1, h2, h3⟩ := h
      obtain ⟨q1, q2, q3⟩ := dps_of sub n ds xs (by simpa [sh] using s) h3
      exact ⟨.tup (sub.sqt h1) q1, by simpa [toPy, PyData.canLay0] using q2, by simp [toPy, PyData.depth]; omega⟩
  | n, .lst ds, v, s, h => by
    cases n with
    | zero => simp [sh] at s
    | succ n =>
      simp only [Rp] at h
      obtain ⟨a, xs, rfl, h1, h2, h3⟩ := h
      obtain ⟨q1, q2, q3⟩ := dps_of sub n ds xs (by simpa [sh] using s) h3
      exact ⟨.lst (.inl (.inl (sub _ _ h1))) q1, by simpa [toPy, PyData.canLay0] using q2, by simp [toPy, PyData.depth]; omega⟩
  | n, .scr _, v, s, h => by simp [sh] at s
  | n, .obj _, v, s, h => by simp [sh] at s
theorem dps_of (sub : Sub G H) : ∀ (n : Nat) (ds : List D) (xs : List V), shL n ds = true → RpL K G μ ds xs → DpAll K H xs (toPyL ds) ∧ PyData.canLayAll0 (toPyL ds) = true ∧ PyData.depthAll (toPyL ds) ≤ n
  | n, [], xs, _, h => by
    simp only [RpL] at h
    subst h
    exact ⟨.nil, by simp [toPyL, PyData.canLayAll0], by simp [toPyL, PyData.depthAll]⟩
  | n, d :: ds, xs, s, h => by
    simp only [RpL] at h
    obtain ⟨v, vs, rfl, h1, h2⟩ := h
    simp only [shL, Bool.and_eq_true] at s
    obtain ⟨p1, p2, p3⟩ := dp_of sub n d v s.1 h1
    obtain ⟨q1, q2, q3⟩ := dps_of sub n ds vs s.2 h2
    exact ⟨.cons p1 q1, by simp [toPyL, PyData.canLayAll0, p2, q2], by simp only [toPyL, PyData.depthAll]; omega⟩
end
end
theorem dpi_of {K : PySem.W.Frag} {H : Hp} : ∀ ns : List Int, DpAll K H (ns.map V.int) (ns.map .int) ∧ PyData.canLayAll0 (ns.map .int) = true ∧ PyData.depthAll (ns.map .int) = 0
  | [] => ⟨.nil, by simp [PyData.canLayAll0], by simp [PyData.depthAll]⟩
  | n :: ns => by
    obtain ⟨q1, q2, q3⟩ := dpi_of (K := K) (H := H) ns
    exact ⟨.cons (.int n) q1, by simp [PyData.canLayAll0, PyData.canLay0, q2], by simp [PyData.depthAll, PyData.depth, q3]⟩
theorem shaped_mk {d : PyData} {n : Nat} (h : d.canLay0 = true) (h' : d.depth ≤ n) (hn : n ≤ 64) : SeqAt.shaped d = true := by
  unfold SeqAt.shaped
  rw [h, Bool.true_and]
  exact decide_eq_true (by omega)
/-- what is read at any time -/
theorem po_dp {H0 G H : Hp} {μ : List Addr} {d : D} {v : V} (sub : Sub G H) (h : Po T 2 H0 G H μ d v) (s : sh 60 (nrm d) = true) : Dp T.K H v (toPy d) ∧ SeqAt.shaped (toPy d) = true := by
  cases d with
  | lst ds =>
    obtain ⟨a, xs, rfl, h1, h2, h3⟩ := po_lst h
    obtain ⟨q1, q2, q3⟩ := dps_of sub 59 ds xs (by simpa [sh, nrm] using s) h3
    exact ⟨.lst (.inl (.inl h1)) q1, shaped_mk (n := 60) (by simpa [toPy, PyData.canLay0] using q2) (by simp [toPy, PyData.depth]; omega) (by decide)⟩
  | scr ns =>
    obtain ⟨a, rfl, h1, h2⟩ := po_scr h
    obtain ⟨q1, q2, q3⟩ := dpi_of (K := T.K) (H := H) ns
    exact ⟨.lst (sub.sql h1) q1, shaped_mk (n := 60) (by simpa [toPy, PyData.canLay0] using q2) (by simp [toPy, PyData.depth]; omega) (by decide)⟩
  | non => obtain ⟨p1, p2, p3⟩ := dp_of (K := T.K) sub 60 _ v s (show Rp T.K G μ .non v from h); exact ⟨p1, shaped_mk p2 p3 (by decide)⟩
  | bl b => obtain ⟨p1, p2, p3⟩ := dp_of (K := T.K) sub 60 _ v s (show Rp T.K G μ (.bl b) v from h); exact ⟨p1, shaped_mk p2 p3 (by decide)⟩
  | int b => obtain ⟨p1, p2, p3⟩ := dp_of (K := T.K) sub 60 _ v s (show Rp T.K G μ (.int b) v from h); exact ⟨p1, shaped_mk p2 p3 (by decide)⟩
  | str b => obtain ⟨p1, p2, p3⟩ := dp_of (K := T.K) sub 60 _ v s (show Rp T.K G μ (.str b) v from h); exact ⟨p1, shaped_mk p2 p3 (by decide)⟩
  | tup b => obtain ⟨p1, p2, p3⟩ := dp_of (K := T.K) sub 60 _ v s (show Rp T.K G μ (.tup b) v from h); exact ⟨p1, shaped_mk p2 p3 (by decide)⟩
  | obj _ => simp [sh, nrm] at s
theorem toPy_nrm (d : D) : toPy (nrm d) = toPy d := by
  cases d with
  | scr ns =>
    simp only [nrm, toPy, toPyL_map, List.map_map]
    congr 1
  | _ => rfl
theorem beq_str (a b : List Nat) : ((⟨a.toArray⟩ : Str) == ⟨b.toArray⟩) = (a == b) := by
  by_cases h : a = b
  · subst h
    simp
  · have h1 : (a == b) = false := beq_eq_false_iff_ne.mpr h
    have h2 : ((⟨a.toArray⟩ : Str) == ⟨b.toArray⟩) = false := beq_eq_false_iff_ne.mpr fun e => h (by injection e with e; simpa using e)
    rw [h1, h2]
mutual
theorem eqv_toPy : ∀ (n m : Nat) (d e : D), sh n d = true → sh m e = true → PyData.eqv (toPy d) (toPy e) = eqD d e
  | n, m, .non, e, hd, he => by cases e <;> first | rfl | simp [sh] at he
  | n, m, .bl b, e, hd, he => by cases e <;> first | rfl | simp [sh] at he
  | n, m, .int b, e, hd, he => by cases e <;> first | rfl | simp [sh] at he
  | n, m, .str b, e, hd, he => by
    cases e with
    | str c => exact beq_str b c
    | scr c => simp [sh] at he
    | obj c => simp [sh] at he
    | _ => rfl
  | n, m, .tup ds, e, hd, he => by
    cases e with
    | tup es =>
      cases n with
      | zero => simp [sh] at hd
      | succ n =>
        cases m with
        | zero => simp [sh] at he
        | succ m =>
          simp only [toPy, PyData.eqv, eqD]
          exact eqvL_toPy n m ds es (by simpa [sh] using hd) (by simpa [sh] using he)
    | scr c => simp [sh] at he
    | obj c => simp [sh] at he
    | _ => rfl
  | n, m, .lst ds, e, hd, he => by
    cases e with
    | lst es =>
      cases n with
      | zero => simp [sh] at hd
      | succ n =>
        cases m with
        | zero => simp [sh] at he
        | succ m =>
          simp only [toPy, PyData.eqv, eqD]
          exact eqvL_toPy n m ds es (by simpa [sh] using hd) (by simpa [sh] using he)
    | scr c => simp [sh] at he
    | obj c => simp [sh] at he
    | _ => rfl
  | n, m, .scr _, e, hd, he => by simp [sh] at hd
  | n, m, .obj _, e, hd, he => by simp [sh] at hd
theorem eqvL_toPy : ∀ (n m : Nat) (d e : List D), shL n d = true → shL m e = true → PyData.eqvAll (toPyL d) (toPyL e) = eqL d e
  | n, m, [], [], _, _ => rfl
  | n, m, [], _ :: _, _, _ => rfl
  | n, m, _ :: _, [], _, _ => rfl
  | n, m, d :: ds, e :: es, hd, he => by
    simp only [shL, Bool.and_eq_true] at hd he
    simp only [toPyL, PyData.eqvAll, eqL]
    rw [eqv_toPy n m d e hd.1 he.1, eqvL_toPy n m ds es hd.2 he.2]
end
abbrev Q1 (G H : Hp) (μ : List Addr) (st : Sto) (T : Rt) (Q : VK) : D → Sto → Prop := fun d st' => ∀ v G' H', Ev G H μ G' H' μ → WOk T G' H' μ st' → Po T 1 H G' H' μ d v → Q v H'
/-- == and != -/
def rEqN (K : PySem.W.Frag) : Bool → R2
  | false => rEqD K
  | true => rNeD K
theorem o_eq (neg : Bool) : RdO T 1 (rEqN T.K neg) (eqM neg) := by
  intro x y vx vy G H μ st Q w px py h
  unfold eqM at h
  split at h
  · rename_i hc
    rw [Bool.and_eq_true] at hc
    obtain ⟨d1, s1⟩ := po_dp w.gh px hc.1
    obtain ⟨d2, s2⟩ := po_dp w.gh py hc.2
    have e := eqv_toPy 60 60 (nrm x) (nrm y) hc.1 hc.2
    rw [toPy_nrm, toPy_nrm] at e
    cases neg with
    | false =>
      refine ⟨_, _, d1, d2, s1, s2, ?_⟩
      rw [e]
      have q := h _ _ _ (Ev.refl _ _ _) w pk_bl
      rw [Bool.false_xor] at q
      exact q
    | true =>
      refine ⟨_, _, d1, d2, s1, s2, ?_⟩
      rw [e]
      have q := h _ _ _ (Ev.refl _ _ _) w pk_bl
      rw [Bool.true_xor] at q
      exact q
  · exact h.elim
/-! ### in -/
def rInT (K : PySem.W.Frag) (neg : Bool) : R2 := fun x y H Q => ∃ d ds, Dp K H x d ∧ Dp K H y (.tuple ds) ∧ SeqAt.shaped d = true ∧ SeqAt.shaped (.tuple ds) = true ∧ Q (.bl (xor neg (ds.any fun z => PyData.eqv z d))) H
theorem p_inT {X : Cx} (hu : X.A.units + 65 < cLine) : OpR X (compareOp .In) (rInT X.K false) := by
  intro pins s σ H x y v u Q I rx ry h
  obtain ⟨d, ds, hd, he, sd, se, q⟩ := h
  obtain ⟨as, r1⟩ := Dp.reads I d x v hd rx
  obtain ⟨bs, r2⟩ := Dp.reads I (.tuple ds) y u he ry
  rw [Bool.false_xor] at q
  exact SeqAt.in_tuple_reads r2 r1 (SeqAt.canLay_of_shaped se) (SeqAt.canLay_of_shaped sd) (room_in_shaped sd hu) ⟨.bl _, H, I, rfl, q⟩
theorem p_notInT {X : Cx} (hu : X.A.units + 65 < cLine) : OpR X (compareOp .NotIn) (rInT X.K true) := by
  intro pins s σ H x y v u Q I rx ry h
  obtain ⟨d, ds, hd, he, sd, se, q⟩ := h
  obtain ⟨as, r1⟩ := Dp.reads I d x v hd rx
  obtain ⟨bs, r2⟩ := Dp.reads I (.tuple ds) y u he ry
  rw [Bool.true_xor] at q
  exact SeqAt.notIn_tuple_reads r2 r1 (SeqAt.canLay_of_shaped se) (SeqAt.canLay_of_shaped sd) (room_in_shaped sd hu) ⟨.bl _, H, I, rfl, q⟩
def rInS (neg : Bool) : R2 := fun x y H Q => ∃ (c : Nat) (z : Str), x = .str ⟨#[c]⟩ ∧ y = .str z ∧ Q (.bl (xor neg (decide (c ∈ z.cps.toList)))) H
theorem p_inS {X : Cx} : OpR X (compareOp .In) (rInS false) := fun pins s σ H x y v u Q I rx ry h => op_in_sign pins s σ H x y v u Q I rx ry (by
  obtain ⟨i, j, e1, e2, q⟩ := h
  rw [Bool.false_xor] at q
  exact ⟨i, j, e1, e2, q⟩)
theorem p_notInS {X : Cx} : OpR X (compareOp .NotIn) (rInS true) := fun pins s σ H x y v u Q I rx ry h => op_notIn_sign pins s σ H x y v u Q I rx ry (by
  obtain ⟨i, j, e1, e2, q⟩ := h
  rw [Bool.true_xor] at q
  exact ⟨i, j, e1, e2, q⟩)
def rInL (K : PySem.W.Frag) (neg : Bool) : R2 := fun x y H Q => ∃ d ds, Dp K H x d ∧ Dp K H y (.list ds) ∧ SeqAt.shaped d = true ∧ SeqAt.shaped (.list ds) = true ∧ Q (.bl (xor neg (ds.any fun z => PyData.eqv z d))) H
theorem p_inL {X : Cx} (hu : X.A.units + 65 < cLine) : OpR X (compareOp .In) (rInL X.K false) := fun pins s σ H x y v u Q I rx ry h => op_inD hu pins s σ H x y v u Q I rx ry (by
  obtain ⟨d, ds, h1, h2, h3, h4, q⟩ := h
  rw [Bool.false_xor] at q
  exact ⟨d, ds, h1, h2, h3, h4, q⟩)
theorem p_notInL {X : Cx} (hu : X.A.units + 65 < cLine) : OpR X (compareOp .NotIn) (rInL X.K true) := fun pins s σ H x y v u Q I rx ry h => op_notInD hu pins s σ H x y v u Q I rx ry (by
  obtain ⟨d, ds, h1, h2, h3, h4, q⟩ := h
  rw [Bool.true_xor] at q
  exact ⟨d, ds, h1, h2, h3, h4, q⟩)
def rInA (K : PySem.W.Frag) (neg : Bool) : R2 := fun x y H Q => rInL K neg x y H Q ∨ rInT K neg x y H Q ∨ rInS neg x y H Q
theorem p_inA {X : Cx} (hu : X.A.units + 65 < cLine) : OpR X (compareOp .In) (rInA X.K false) := (p_inL hu).or ((p_inT hu).or p_inS)
theorem p_notInA {X : Cx} (hu : X.A.units + 65 < cLine) : OpR X (compareOp .NotIn) (rInA X.K true) := (p_notInL hu).or ((p_notInT hu).or p_notInS)
theorem any_toPy {n m : Nat} {d : D} (hd : sh m d = true) : ∀ {ds : List D}, shL n ds = true → ((toPyL ds).any fun z => PyData.eqv z (toPy d)) = ds.any fun z => eqD z d
  | [], _ => rfl
  | e :: es, h => by
    simp only [shL, Bool.and_eq_true] at h
    simp only [toPyL, List.any_cons]
    rw [eqv_toPy n m e d h.1 hd, any_toPy hd h.2]
theorem sh_nrm {n : Nat} {d : D} (h : sh n d = true) : nrm d = d := by cases d <;> first | rfl | simp [sh] at h
theorem po_dp' {H0 G H : Hp} {μ : List Addr} {d : D} {v : V} (sub : Sub G H) (h : Po T 2 H0 G H μ d v) (s : sh 60 d = true) : Dp T.K H v (toPy d) ∧ SeqAt.shaped (toPy d) = true :=
  po_dp sub h (by rw [sh_nrm s]; exact s)
theorem po_dpL {H0 G H : Hp} {μ : List Addr} {ds : List D} {v : V} (sub : Sub G H) (h : Po T 2 H0 G H μ (.lst ds) v) (s : shL 60 ds = true) : Dp T.K H v (.list (toPyL ds)) ∧ SeqAt.shaped (.list (toPyL ds)) = true := by
  obtain ⟨a, xs, rfl, h1, h2, h3⟩ := po_lst h
  obtain ⟨q1, q2, q3⟩ := dps_of sub 60 ds xs s h3
  exact ⟨.lst (.inl (.inl h1)) q1, shaped_mk (n := 61) (by simpa [toPy, PyData.canLay0] using q2) (by simp [PyData.depth]; omega) (by decide)⟩
theorem po_dpT {H0 G H : Hp} {μ : List Addr} {md : Nat} {ds : List D} {v : V} (sub : Sub G H) (h : Po T md H0 G H μ (.tup ds) v) (s : shL 60 ds = true) : Dp T.K H v (.tuple (toPyL ds)) ∧ SeqAt.shaped (.tuple (toPyL ds)) = true := by
  obtain ⟨a, xs, rfl, h1, h2, h3⟩ := po_tup h
  obtain ⟨q1, q2, q3⟩ := dps_of sub 60 ds xs s h3
  exact ⟨.tup (sub.sqt h1) q1, shaped_mk (n := 61) (by simpa [toPy, PyData.canLay0] using q2) (by simp [PyData.depth]; omega) (by decide)⟩
theorem o_in (neg : Bool) : RdO T 1 (rInA T.K neg) (inM neg) := by
  intro x y vx vy G H μ st Q w px py h
  unfold inM at h
  split at h
  · rename_i ds
    split at h
    · rename_i hc
      rw [Bool.and_eq_true] at hc
      obtain ⟨d1, s1⟩ := po_dp' w.gh px hc.1
      obtain ⟨d2, s2⟩ := po_dpL w.gh py hc.2
      refine .inl ⟨_, _, d1, d2, s1, s2, ?_⟩
      rw [any_toPy hc.1 hc.2]
      exact h _ _ _ (Ev.refl _ _ _) w pk_bl
    · exact h.elim
  · rename_i ds
    split at h
    · rename_i hc
      rw [Bool.and_eq_true] at hc
      obtain ⟨d1, s1⟩ := po_dp' w.gh px hc.1
      obtain ⟨d2, s2⟩ := po_dpT w.gh py hc.2
      refine .inr (.inl ⟨_, _, d1, d2, s1, s2, ?_⟩)
      rw [any_toPy hc.1 hc.2]
      exact h _ _ _ (Ev.refl _ _ _) w pk_bl
    · exact h.elim
  · rename_i z
    split at h
    · rename_i c
      obtain ⟨rfl, _⟩ := po_str px
      obtain ⟨rfl, _⟩ := po_str py
      exact .inr (.inr ⟨c, _, rfl, rfl, h _ _ _ (Ev.refl _ _ _) w pk_bl⟩)
    · exact h.elim
  · exact h.elim
/-! ### < -/
theorem ltN_eq : ∀ (a b : List Nat), ltN a b = decide (a < b)
  | [], [] => by simp [ltN]
  | [], _ :: _ => by simp [ltN]
  | _ :: _, [] => by simp [ltN]
  | x :: xs, y :: ys => by
    unfold ltN
    rw [ltN_eq xs ys]
    by_cases h : x = y
    · subst h
      simp
    · have h1 : (x == y) = false := beq_eq_false_iff_ne.mpr h
      rw [h1]
      simp only [List.cons_lt_cons_iff, h, false_and, or_false]
      rfl
mutual
theorem alike_toPy : ∀ (n m : Nat) (d e : D), sh n d = true → sh m e = true → alike (toPy d) (toPy e) = alD d e
  | n, m, .non, e, hd, he => by cases e <;> first | rfl | simp [sh] at he
  | n, m, .bl b, e, hd, he => by cases e <;> first | rfl | simp [sh] at he
  | n, m, .int b, e, hd, he => by cases e <;> first | rfl | simp [sh] at he
  | n, m, .str b, e, hd, he => by cases e <;> first | rfl | simp [sh] at he
  | n, m, .tup ds, e, hd, he => by
    cases e with
    | tup es =>
      cases n with
      | zero => simp [sh] at hd
      | succ n =>
        cases m with
        | zero => simp [sh] at he
        | succ m =>
          simp only [toPy, alike, alD]
          exact alikeL_toPy n m ds es (by simpa [sh] using hd) (by simpa [sh] using he)
    | scr c => simp [sh] at he
    | obj c => simp [sh] at he
    | _ => rfl
  | n, m, .lst ds, e, hd, he => by
    cases e with
    | lst es =>
      cases n with
      | zero => simp [sh] at hd
      | succ n =>
        cases m with
        | zero => simp [sh] at he
        | succ m =>
          simp only [toPy, alike, alD]
          exact alikeL_toPy n m ds es (by simpa [sh] using hd) (by simpa [sh] using he)
    | scr c => simp [sh] at he
    | obj c => simp [sh] at he
    | _ => rfl
  | n, m, .scr _, e, hd, he => by simp [sh] at hd
  | n, m, .obj _, e, hd, he => by simp [sh] at hd
theorem alikeL_toPy : ∀ (n m : Nat) (d e : List D), shL n d = true → shL m e = true → alikeAll (toPyL d) (toPyL e) = alL d e
  | n, m, [], [], _, _ => rfl
  | n, m, [], _ :: _, _, _ => rfl
  | n, m, _ :: _, [], _, _ => rfl
  | n, m, d :: ds, e :: es, hd, he => by
    simp only [shL, Bool.and_eq_true] at hd he
    simp only [toPyL, alikeAll, alL]
    rw [alike_toPy n m d e hd.1 he.1, alikeL_toPy n m ds es hd.2 he.2]
end
theorem rowLt_nil (b : PyData) (bs : List PyData) : rowLt [] (b :: bs) = true := by
  unfold rowLt
  simp only [keyToksAll]
  rfl
mutual
theorem lt_toPy : ∀ (n m : Nat) (d e : D), sh n d = true → sh m e = true → alD d e = true → dataLt (toPy d) (toPy e) = ltD d e
  | n, m, .non, e, hd, he, ha => by cases e <;> first | rfl | simp [alD] at ha
  | n, m, .bl b, e, hd, he, ha => by
    cases e with
    | bl c => cases b <;> cases c <;> rfl
    | _ => simp [alD] at ha
  | n, m, .int b, e, hd, he, ha => by
    cases e with
    | int c => exact dataLt_int b c
    | _ => simp [alD] at ha
  | n, m, .str b, e, hd, he, ha => by
    cases e with
    | str c =>
      simp only [toPy, dataLt_str, ltD, ltN_eq]
    | _ => simp [alD] at ha
  | n, m, .tup ds, e, hd, he, ha => by
    cases e with
    | tup es =>
      cases n with
      | zero => simp [sh] at hd
      | succ n =>
        cases m with
        | zero => simp [sh] at he
        | succ m =>
          simp only [toPy, dataLt_tuple, ltD]
          exact ltL_toPy n m ds es (by simpa [sh] using hd) (by simpa [sh] using he) (by simpa [alD] using ha)
    | _ => simp [alD] at ha
  | n, m, .lst ds, e, hd, he, ha => by
    cases e with
    | lst es =>
      cases n with
      | zero => simp [sh] at hd
      | succ n =>
        cases m with
        | zero => simp [sh] at he
        | succ m =>
          simp only [toPy, dataLt_list, ltD]
          exact ltL_toPy n m ds es (by simpa [sh] using hd) (by simpa [sh] using he) (by simpa [alD] using ha)
    | _ => simp [alD] at ha
  | n, m, .scr _, e, hd, he, ha => by simp [sh] at hd
  | n, m, .obj _, e, hd, he, ha => by simp [sh] at hd
theorem ltL_toPy : ∀ (n m : Nat) (d e : List D), shL n d = true → shL m e = true → alL d e = true → PyProof.Rows.lexLt itemOrd (keyToksAll (toPyL d)) (keyToksAll (toPyL e)) = ltL d e
  | n, m, [], [], _, _, _ => rfl
  | n, m, [], _ :: _, _, _, _ => rfl
  | n, m, _ :: _, [], _, _, _ => rfl
  | n, m, d :: ds, e :: es, hd, he, ha => by
    simp only [shL, Bool.and_eq_true] at hd he
    simp only [alL, Bool.and_eq_true] at ha
    simp only [toPyL, ltL]
    rw [dataLt_cons (by rw [alike_toPy n m d e hd.1 he.1]; exact ha.1), eqv_toPy n m d e hd.1 he.1, ltL_toPy n m ds es hd.2 he.2 ha.2, lt_toPy n m d e hd.1 he.1 ha.1]
end
def rLtTD (K : PySem.W.Frag) : R2 := fun x y H Q => ∃ ds es, Dp K H x (.tuple ds) ∧ Dp K H y (.tuple es) ∧ SeqAt.shaped (.tuple ds) = true ∧ SeqAt.shaped (.tuple es) = true ∧ alikeAll ds es = true ∧ Q (.bl (dataLt (.tuple ds) (.tuple es))) H
theorem p_ltTD {X : Cx} (hu : X.A.units + 65 < cLine) : OpR X (compareOp .Lt) (rLtTD X.K) := by
  intro pins s σ H x y v u Q I rx ry h
  obtain ⟨d, e, hd, he, sd, se, al, q⟩ := h
  obtain ⟨as, r1⟩ := Dp.reads I (.tuple d) x v hd rx
  obtain ⟨bs, r2⟩ := Dp.reads I (.tuple e) y u he ry
  exact lt_data r1 r2 (by simpa only [alike] using al) (fun z => by cases z) (SeqAt.room_of_shaped sd (by omega)) ⟨.bl _, H, I, rfl, q⟩
def rLt (K : PySem.W.Frag) : R2 := fun x y H Q => rI0 (fun i j => .bl (decide (i < j))) x y H Q ∨ rLtTD K x y H Q
theorem p_lt {X : Cx} (hu : X.A.units + 65 < cLine) : OpR X (compareOp .Lt) (rLt X.K) := op_lt.or (p_ltTD hu)
theorem o_lt : RdO T 1 (rLt T.K) ltM := by
  intro x y vx vy G H μ st Q w px py h
  unfold ltM at h
  split at h
  · rename_i a b
    exact .inl ⟨a, b, po_int px, po_int py, h _ _ _ (Ev.refl _ _ _) w pk_bl⟩
  · rename_i a b
    split at h
    · rename_i hc
      simp only [Bool.and_eq_true] at hc
      obtain ⟨d1, s1⟩ := po_dpT w.gh px hc.1.1
      obtain ⟨d2, s2⟩ := po_dpT w.gh py hc.1.2
      refine .inr ⟨_, _, d1, d2, s1, s2, by rw [alikeL_toPy 60 60 a b hc.1.1 hc.1.2]; exact hc.2, ?_⟩
      rw [dataLt_tuple, ltL_toPy 60 60 a b hc.1.1 hc.1.2 hc.2]
      exact h _ _ _ (Ev.refl _ _ _) w pk_bl
    · exact h.elim
  · exact h.elim
theorem o_le : RdO T 1 (rI0 fun i j => .bl (decide (i ≤ j))) leM := by
  intro x y vx vy G H μ st Q w px py h
  unfold leM at h
  split at h
  · rename_i a b
    exact ⟨a, b, po_int px, po_int py, h _ _ _ (Ev.refl _ _ _) w pk_bl⟩
  · exact h.elim
theorem o_gt : RdO T 1 (rI0 fun i j => .bl (decide (j < i))) gtM := by
  intro x y vx vy G H μ st Q w px py h
  unfold gtM at h
  split at h
  · rename_i a b
    exact ⟨a, b, po_int px, po_int py, h _ _ _ (Ev.refl _ _ _) w pk_bl⟩
  · exact h.elim
theorem o_ge : RdO T 1 (rI0 fun i j => .bl (decide (j ≤ i))) geM := by
  intro x y vx vy G H μ st Q w px py h
  unfold geM at h
  split at h
  · rename_i a b
    exact ⟨a, b, po_int px, po_int py, h _ _ _ (Ev.refl _ _ _) w pk_bl⟩
  · exact h.elim
theorem isNon_iff {H0 G H : Hp} {μ : List Addr} {d : D} {v : V} (h : Po T 2 H0 G H μ d v) : decide (v = V.non) = isNon d := by
  cases d with
  | non => rw [po_non h]; rfl
  | bl b => rw [po_bl h]; rfl
  | int b => rw [po_int h]; rfl
  | str b => obtain ⟨rfl, _⟩ := po_str h; rfl
  | tup b => obtain ⟨a, xs, rfl, _⟩ := po_tup h; rfl
  | lst b => obtain ⟨a, xs, rfl, _⟩ := po_lst h; rfl
  | scr b => obtain ⟨a, rfl, _⟩ := po_scr h; rfl
  | obj b => obtain ⟨a, rfl, _⟩ := po_obj h; rfl
def rIs : Bool → R2
  | false => rIsN
  | true => rNotN
theorem o_is (neg : Bool) : RdO T 1 (rIs neg) (isM neg) := by
  intro x y vx vy G H μ st Q w px py h
  unfold isM at h
  split at h
  · have e := isNon_iff px
    have q := h _ _ _ (Ev.refl _ _ _) w pk_bl
    rw [← e] at q
    cases neg with
    | false => exact ⟨po_non py, by rw [Bool.false_xor] at q; exact q⟩
    | true => exact ⟨po_non py, by rw [Bool.true_xor] at q; exact q⟩
  · exact h.elim
end BX

set_option Elab.async false
set_option linter.all false
set_option maxRecDepth 100000
/-! BS5: subscripts, slices. -/
namespace BX
open PySem PySem.Spec PyProof.Rows L2
variable {T : Rt} {mu : List Nat} {n : Nat} {W : WX}

theorem ofO_some {α : Type} {o : Option α} {st : Sto} {k : α → Sto → Prop} {x : Xc → Sto → Prop} (h : Res (ofO o st) k x) : ∃ a, o = some a ∧ k a st := by
  cases o with
  | none => exact h.elim
  | some a => exact ⟨a, rfl, h⟩
theorem ixN_lt {n : Nat} {i : Int} {j : Nat} (h : BX.ixN n i = some j) : j < n := by
  unfold BX.ixN at h
  split at h
  · split at h
    · cases h; omega
    · cases h
  · split at h
    · cases h; omega
    · cases h
theorem atI_of {α : Type} (xs : List α) (i : Int) : BX.atI xs i = L2.atI xs i := rfl
theorem atI_rp {K : PySem.W.Frag} {G : Hp} {μ : List Addr} {ds : List D} {xs : List V} (r : RpL K G μ ds xs) {i : Int} {d : D} (h : BX.atI ds i = some d) : ∃ v, L2.atI xs i = some v ∧ Rp K G μ d v := by
  unfold BX.atI at h
  rw [r.length] at h
  cases q : BX.ixN xs.length i with
  | none => rw [q] at h; cases h
  | some j =>
    rw [q] at h
    obtain ⟨v, h1, h2⟩ := r.get (i := j) h
    refine ⟨v, ?_, h2⟩
    show (BX.ixN xs.length i).bind (fun j => xs[j]?) = some v
    rw [q]
    exact h1
theorem po_md0 {H G H' : Hp} {μ : List Addr} {d : D} {v : V} (h : Rp T.K G μ d v) : Po T 0 H G H' μ d v := by cases d <;> exact h
theorem o_ix : RdO T 0 (rIx T.K) ixD := by
  intro x y vx vy G H μ st Q w px py h
  unfold ixD at h
  split at h
  · rename_i ds i
    obtain ⟨l, xs, rfl, h1, h2, h3⟩ := po_lst px
    obtain ⟨d, e, q⟩ := ofO_some h
    obtain ⟨v, e1, e2⟩ := atI_rp h3 e
    exact .inl ⟨l, xs, i, v, rfl, po_int py, .inl (.inl h1), e1, q v G H (Ev.refl _ _ _) w (po_md0 e2)⟩
  · rename_i ds i
    obtain ⟨l, xs, rfl, h1, h2, h3⟩ := po_tup px
    obtain ⟨d, e, q⟩ := ofO_some h
    obtain ⟨v, e1, e2⟩ := atI_rp h3 e
    exact .inr (.inl ⟨l, xs, i, v, rfl, po_int py, w.gh.sqt h1, e1, q v G H (Ev.refl _ _ _) w (po_md0 e2)⟩)
  · rename_i ns i
    obtain ⟨l, rfl, h1, h2⟩ := po_scr px
    obtain ⟨d, e, q⟩ := ofO_some h
    cases e1 : BX.atI ns i with
    | none => rw [e1] at e; cases e
    | some m =>
      rw [e1] at e
      cases e
      refine .inl ⟨l, ns.map V.int, i, .int m, rfl, po_int py, w.gh.sql h1, ?_, q _ G H (Ev.refl _ _ _) w pk_int⟩
      show (BX.ixN (ns.map V.int).length i).bind (fun j => (ns.map V.int)[j]?) = some (.int m)
      unfold BX.atI at e1
      rw [List.length_map]
      cases q2 : BX.ixN ns.length i with
      | none => rw [q2] at e1; cases e1
      | some j =>
        rw [q2] at e1
        show (ns.map V.int)[j]? = _
        rw [List.getElem?_map, show ns[j]? = some m from e1]
        rfl
  · rename_i s i
    obtain ⟨rfl, h1, h2⟩ := po_str px
    obtain ⟨d, e, q⟩ := ofO_some h
    cases e1 : BX.atI s i with
    | none => rw [e1] at e; cases e
    | some c =>
      rw [e1] at e
      cases e
      have hm : c ∈ s := by
        unfold BX.atI at e1
        cases q2 : BX.ixN s.length i with
        | none => rw [q2] at e1; cases e1
        | some j =>
          rw [q2] at e1
          exact List.mem_of_getElem? (show s[j]? = some c from e1)
      refine .inr (.inr ⟨_, i, c, rfl, po_int py, ?_, ?_, q _ G H (Ev.refl _ _ _) w ?_⟩)
      · show s.toArray.size ≤ _
        rw [List.size_toArray, limS]
        exact h1
      · exact e1
      · exact pk_str (x := [c]) (show 1 ≤ LIM by decide) fun b hb => by
          rw [List.mem_singleton] at hb
          subst hb
          exact h2 b hm
  · exact h.elim
/-! ### slices -/
theorem bnN_le (n d : Nat) (hd : d ≤ n) (o : Option Int) : bnN n d o ≤ n := HT.sIx_le n d hd o
theorem cut_rp {K : PySem.W.Frag} {G : Hp} {μ : List Addr} {ds : List D} {xs : List V} (r : RpL K G μ ds xs) (lo hi : Option Int) : RpL K G μ (cut ds lo hi) (cutV xs lo hi) := by
  unfold cut
  rw [r.length]
  exact (r.drop _).take _
theorem cut_len {α : Type} (xs : List α) (lo hi : Option Int) : (cut xs lo hi).length ≤ xs.length := by
  unfold cut
  rw [List.length_take, List.length_drop]
  omega
theorem cut_all {α : Type} (xs : List α) (lo hi : Option Int) (h : bnN xs.length 0 lo = 0 ∧ bnN xs.length xs.length hi = xs.length) : cut xs lo hi = xs := by
  unfold cut
  rw [h.1, h.2, List.drop_zero, Nat.sub_zero, List.take_length]
def rSl (K : PySem.W.Frag) : V → Option Int → Option Int → Hp → VK → Prop := fun x lo hi H Q => rSlL K x lo hi H Q ∨ rSlA K x lo hi H Q ∨ rSlS x lo hi H Q
theorem p_sl {X : Cx} : SlR X (rSl X.K) := sl_list.or (sl_tupA.or sl_str)
theorem cut_mem {α : Type} {xs : List α} {lo hi : Option Int} {c : α} (h : c ∈ cut xs lo hi) : c ∈ xs := List.mem_of_mem_drop (List.mem_of_mem_take h)
theorem o_sl (lo hi : Option Int) : RdU T 1 (fun x H Q => rSl T.K x lo hi H Q) (fun x => slD x lo hi) := by
  intro x vx G H μ st Q w px h
  replace h : Res (slD x lo hi st) _ _ := h
  unfold slD at h
  split at h
  · rename_i ds
    obtain ⟨l, xs, rfl, h1, h2, h3⟩ := po_lst px
    refine .inl ⟨l, xs, rfl, .inl (.inl h1), fun p hp => ?_⟩
    obtain ⟨e1, w1⟩ := new_lst w hp (cutV xs lo hi)
    exact h _ _ _ e1 w1 (po_new w.gh hp (Nat.le_trans (cutV_length xs lo hi) h2) (cut_rp h3 lo hi))
  · rename_i ds
    obtain ⟨l, xs, rfl, h1, h2, h3⟩ := po_tup px
    refine .inr (.inl ⟨l, xs, rfl, w.gh.sqt h1, fun e => ?_, fun e p hp => ?_⟩)
    · have ec : cut ds lo hi = ds := cut_all ds lo hi (by rw [h3.length]; exact e)
      have h' := h (.ref l) _ _ (Ev.refl _ _ _) w
      rw [ec] at h'
      exact h' (pk_tup h1 h2 h3)
    · obtain ⟨q1, q2, q3⟩ := new_tup w hp (Nat.le_trans (cutV_length xs lo hi) h2) (cut_rp h3 lo hi)
      exact h _ _ _ q1 q2 q3
  · rename_i s
    obtain ⟨rfl, h1, h2⟩ := po_str px
    refine .inr (.inr ⟨_, rfl, ?_, ?_⟩)
    · show s.toArray.size ≤ _
      rw [List.size_toArray, limS]
      exact h1
    · exact h _ _ _ (Ev.refl _ _ _) w (pk_str (x := cut s lo hi) (Nat.le_trans (cut_len s lo hi) h1) fun c hc => h2 c (cut_mem hc))
  · exact h.elim

/-! ### [::-1] -/
section
variable {prog : Program} {w : World} {A : Around} {E : Value → Shared → Prop} {s : Shared}
theorem sliceApplied_rev {sl : Addr} {vs : Value} {n : Nat} {Q : Int × Int × Nat → Shared → Prop} (hs : s.heap.IsSliceOf sl .none .none vs) (ps : IsPart vs (some (-1)))
    (h : Q ((n : Int) - 1, -1, n) s) : wpAny (model prog w) A (Builtin.Slice.sliceApplied (.ref sl) (pure (n : Int))) Q E s := by
  obtain ⟨os, hos, hcs, hds⟩ := id hs
  unfold Builtin.Slice.sliceApplied Builtin.Slice.sliceFields
  refine wpAny_bind (wpAny_bind (wpAny_field hos hds (x := .none) rfl (wpAny_bind (wpAny_field hos hds (x := .none) rfl (wpAny_bind (wpAny_field hos hds (x := vs) rfl (wpAny_pure ?_)))))))
  refine wpAny_bind (HT.slicePart_ ps ?_)
  show wpAny _ _ (if ((-1 : Int) == 0) = true then _ else _) _ _ s
  rw [if_neg (by decide)]
  refine wpAny_bind (slicePart_none (wpAny_bind (slicePart_none (wpAny_bind (wpAny_pure ?_)))))
  show wpAny _ _ (match Builtin.Slice.sliceAdjust none none (-1) (n : Int) with | (lo, hi) => pure (lo, (-1 : Int), Builtin.Slice.slicePlaces lo hi (-1))) _ _ s
  have e : Builtin.Slice.sliceAdjust none none (-1) (n : Int) = ((n : Int) - 1, -1) := by
    unfold Builtin.Slice.sliceAdjust
    simp
  rw [e]
  show wpAny _ _ (pure ((n : Int) - 1, (-1 : Int), Builtin.Slice.slicePlaces ((n : Int) - 1) (-1) (-1))) _ _ s
  have e2 : Builtin.Slice.slicePlaces ((n : Int) - 1) (-1) (-1) = n := by
    unfold Builtin.Slice.slicePlaces
    simp
    omega
  rw [e2]
  exact wpAny_pure h
theorem pick_rev (xs : Array Value) : ((List.range xs.size).filterMap fun (m : Nat) => xs[((xs.size : Int) - 1 + (m : Int) * (-1)).toNat]?).toArray = xs.toList.reverse.toArray := by
  have e : ∀ m ∈ List.range xs.size, xs[((xs.size : Int) - 1 + (m : Int) * (-1)).toNat]? = xs.toList.reverse[m]? := by
    intro m hm
    have hm' := List.mem_range.mp hm
    have : ((xs.size : Int) - 1 + (m : Int) * (-1)).toNat = xs.size - 1 - m := by omega
    rw [this, List.getElem?_reverse (by simpa using hm'), Array.length_toList]
    simp
  have fc : ∀ (l : List Nat) (f g : Nat → Option Value), (∀ m ∈ l, f m = g m) → l.filterMap f = l.filterMap g := by
    intro l f g
    induction l with
    | nil => intro _; rfl
    | cons a l ih =>
      intro h
      rw [List.filterMap_cons, List.filterMap_cons, h a List.mem_cons_self, ih fun m hm => h m (List.mem_cons_of_mem _ hm)]
  rw [fc _ _ _ e]
  clear fc
  congr 1
  have : xs.size = xs.toList.reverse.length := by simp
  rw [this]
  generalize xs.toList.reverse = ys
  clear e this
  induction ys with
  | nil => rfl
  | cons y ys ih =>
    rw [List.length_cons, List.range_succ_eq_map, List.filterMap_cons]
    simp only [List.getElem?_cons_zero, List.filterMap_map]
    congr 1
theorem getItem_tuple_rev {t sl : Addr} {items : Array Value} {vs : Value} {Q : Value → Shared → Prop} (ht : IsTup s.heap t items) (hs : s.heap.IsSliceOf sl .none .none vs) (ps : IsPart vs (some (-1)))
    (h : Q (.ref s.heap.objs.size) { s with heap := s.heap.push { cls := .type "tuple", data := .seq items.toList.reverse.toArray } })
    (hsz : items.size ≤ sizeLine) : wpAny (model prog w) A (getItem (.ref t) (.ref sl)) Q E s := by
  have htake : sizeOk (.seq items.toList.reverse.toArray) := by
    show items.toList.reverse.toArray.size ≤ sizeLine
    rw [List.size_toArray, List.length_reverse, Array.length_toList]
    exact hsz
  obtain ⟨os, hos, hcs, hds⟩ := id hs
  have hTs : s.TypeIs (.ref sl) "slice" := ⟨os, hos, hcs⟩
  unfold getItem
  try with_reducible refine wpAny_holding ?_
  first | refine wpAny_bind (wpAny_pure ?_) | skip
  refine wpAny_bind (wpAny_sequenceKey ht.typeIs (by decide) ?_)
  refine wpAny_bind (wpAny_callSpecial?_slot (name := Str.ofString "__getitem__") ht.typeIs PyProof.Rows.slot_tuple_getitem
    (wpAny_call_entry PyProof.Rows.slot_tuple_getitem ht.typeIs entry_tuple_getitem ?_ (args_tuple_getitem _ _)))
  show wpAny _ _ (Builtin.Tuple.tupleItemsOf (.ref t) >>= _) _ _ s
  refine wpAny_bind (tupleItemsOf_ ht ?_)
  refine wpAny_bind (wpAny_typeOf hTs ?_)
  rw [if_pos (by decide)]
  refine wpAny_bind (sliceApplied_rev hs ps ?_)
  have hno : ¬ ((((items.size : Int) - 1) == 0 && (-1 : Int) == 1 && items.size == items.size) = true) := by
    intro q
    rw [Bool.and_eq_true, Bool.and_eq_true] at q
    exact absurd q.1.2 (by decide)
  show wpAny _ _ (if (((items.size : Int) - 1) == 0 && (-1 : Int) == 1 && items.size == items.size) = true then _ else _) _ _ s
  rw [if_neg hno, pick_rev]
  first
    | exact wpAny_bind (m := Builtin.Tuple.tupleExact _) (wpAny_newObj_type (wpAny_pure ⟨_, rfl, wpAny_pure h⟩) htake)
    | exact wpAny_bind (m := Builtin.Tuple.tupleExact _) (wpAny_newObj_type (wpAny_bind (wpAny_pure (wpAny_pure ⟨_, rfl, wpAny_pure h⟩))) htake)
    | exact wpAny_bind (wpAny_bind (m := Builtin.Tuple.tupleExact _) (wpAny_newObj_type (wpAny_pure (wpAny_pure ⟨_, rfl, wpAny_pure h⟩)) htake))
    | exact wpAny_bind (wpAny_bind (m := Builtin.Tuple.tupleExact _) (wpAny_newObj_type (wpAny_pure ⟨_, rfl, wpAny_pure h⟩) htake))
end
def rRev (K : PySem.W.Frag) : V → Hp → VK → Prop := fun x H Q => (∃ a xs, x = .ref a ∧ SqL K H a xs ∧ ∀ p, H p = none → Q (.ref p) (upd H p (.lst xs.reverse))) ∨
  ∃ a xs, x = .ref a ∧ SqT K H a xs ∧ ∀ p, H p = none → Q (.ref p) (upd H p (.tup xs.reverse))
theorem pe_rev {X : Cx} {e : Expr} {te : TE} {k : Nat} {p1 p2 p3 pos : Pos} (he : PE X e te) : PE X (.Subscript e (.Slice none none (some (.UnaryOp .USub (.Constant (.int 1) k p1) p2)) p3) pos) (tUn (rRev X.K) te) := by
  refine ⟨fun pins s σ H Q I h => ?_⟩
  refine Subscript_ (thn (he.run pins s σ H _ I h) fun v s1 ⟨x, H1, I1, r1, q1⟩ => ?_)
  have hst : PO X (some (.UnaryOp .USub (.Constant (.int 1) k p1) p2)) (tPart (tUn (rU fun i => .int (-i)) (tC (.int 1)))) := po_some (pe_un un_neg pe_int)
  refine wpAny_Slice (thn (po_none.run pins s1 σ H1 (fun o H2 => o = none ∧ H2 = H1) I1 ⟨rfl, rfl⟩) fun vl s2 ⟨l, H2, I2, pl, el, e2⟩ => ?_)
  subst el e2
  refine thn (po_none.run pins s2 σ H2 (fun o H3 => o = none ∧ H3 = H2) I2 ⟨rfl, rfl⟩) fun vu s3 ⟨u, H3, I3, pu, eu, e3⟩ => ?_
  subst eu e3
  refine thn (hst.run pins s3 σ H3 (fun o H4 => o = some (-1) ∧ H4 = H3) I3 ⟨1, rfl, -1, rfl, rfl, rfl⟩) fun vs s4 ⟨o, H4, I4, ps, eo, e4⟩ => ?_
  subst eo e4
  have I5 : Inv X pins σ H4 { s4 with heap := s4.heap.push { cls := .type "slice", data := .fields #[vl, vu, vs] } } := I4.kept (t' := s4.toks) fun b ob q => Heap.get?_push_of_some _ q
  rcases q1 with ⟨a, xs, ex, hx, q⟩ | ⟨a, xs, ex, hx, q⟩
  · subst ex
    cases r1
    obtain ⟨its, r, ht, hz⟩ := I5.list hx
    have hlen := r.length
    show wpAny (model X.prog X.w) X.A (subscriptTail e (.Slice none none (some (.UnaryOp .USub (.Constant (.int 1) k p1) p2)) p3) (.ref a) (.ref s4.heap.objs.size)) (EP X pins σ Q) X.xe { s4 with heap := s4.heap.push { cls := .type "slice", data := .fields #[vl, vu, vs] } }
    refine tail_any (ops := [.ref a, .ref s4.heap.objs.size]) ht.isList.typeIs (PySem.slot_list_getitem.lookup) ?_ (by with_unfolding_all rfl)
    refine wpAny_getItem_list_slice ht.isList (Heap.IsSliceOf.new _ vl vu vs) pl pu ps (by decide) ?_ (by rw [List.size_toArray]; omega)
    rw [PySem.W.krv_pick]
    refine ⟨.ref _, _, I5.laid (t' := s4.toks) (o := .lst xs.reverse) (fun b ob q => Heap.get?_push_of_some _ q) (Nat.le_refl _) ?_, rfl, q _ (I5.hok.fresh (Nat.le_refl _))⟩
    exact ⟨by rw [List.length_reverse]; exact hz, _, 0, r.reverse, Heap.get?_push_size _ rfl⟩
  · subst ex
    cases r1
    obtain ⟨its, r, ht, hz⟩ := I5.tuple hx
    have hlen := r.length
    cases pl
    cases pu
    show wpAny (model X.prog X.w) X.A (subscriptTail e (.Slice none none (some (.UnaryOp .USub (.Constant (.int 1) k p1) p2)) p3) (.ref a) (.ref s4.heap.objs.size)) (EP X pins σ Q) X.xe { s4 with heap := s4.heap.push { cls := .type "slice", data := .fields #[.none, .none, vs] } }
    refine tail_any (ops := [.ref a, .ref s4.heap.objs.size]) ht.typeIs (PyProof.Rows.slot_tuple_getitem.lookup) ?_ (by with_unfolding_all rfl)
    refine getItem_tuple_rev ht (Heap.IsSliceOf.new _ .none .none vs) ps ?_ (by rw [List.size_toArray]; omega)
    refine ⟨.ref _, _, I5.laid (t' := s4.toks) (o := .tup xs.reverse) (fun b ob q => Heap.get?_push_of_some _ q) (Nat.le_refl _) ?_, rfl, q _ (I5.hok.fresh (Nat.le_refl _))⟩
    exact ⟨by rw [List.length_reverse]; exact hz, _, r.reverse, IsTup.new _ _⟩
theorem o_rev : RdU T 1 (rRev T.K) rvD := by
  intro x vx G H μ st Q w px h
  unfold rvD at h
  split at h
  · rename_i ds
    obtain ⟨l, xs, rfl, h1, h2, h3⟩ := po_lst px
    refine .inl ⟨l, xs, rfl, .inl (.inl h1), fun p hp => ?_⟩
    obtain ⟨e1, w1⟩ := new_lst w hp xs.reverse
    exact h _ _ _ e1 w1 (po_new w.gh hp (by rw [List.length_reverse]; exact h2) h3.reverse)
  · rename_i ds
    obtain ⟨l, xs, rfl, h1, h2, h3⟩ := po_tup px
    refine .inr ⟨l, xs, rfl, w.gh.sqt h1, fun p hp => ?_⟩
    obtain ⟨q1, q2, q3⟩ := new_tup w hp (xs := xs.reverse) (by rw [List.length_reverse]; exact h2) h3.reverse
    exact h _ _ _ q1 q2 q3
  · exact h.elim
end BX

set_option Elab.async false
set_option linter.all false
set_option maxRecDepth 100000
/-! BS6: built-ins. -/
namespace BX
open PySem PySem.Spec PyProof.Rows L2
open PySem.W (alike alikeAll dataLt keyToksAll keyToks AllAlike Sortable dataLe EachIs TotalLe sameRank sort_maps sort_unique sort_congr sortLe_total sorted_data)
variable {T : Rt} {mu : List Nat} {n : Nat} {W : WX}

theorem new_any {G H : Hp} {μ : List Addr} {st : Sto} (w : WOk T G H μ st) {p : Addr} (hp : H p = none) (o : HO) : Ev G H μ G (upd H p o) μ ∧ WOk T G (upd H p o) μ st := by
  have keep : ∀ b u, H b = some u → upd H p o b = some u := fun b u q => by rw [upd_ne (ne_of_none q hp)]; exact q
  refine ⟨⟨Sub.refl _, Pre.refl _, fun b u q _ => keep b u q, fun b u q => ⟨u, keep b u q⟩, fun b q _ => q⟩, ⟨fun b u q => keep b u (w.gh b u q), w.nd, w.len, fun k b ob h2 h3 => ?_⟩⟩
  obtain ⟨q1, dx, fs, q2, q3⟩ := w.obj k b ob h2 h3
  exact ⟨q1, dx, fs, keep _ _ q2, q3⟩
theorem p_or {X : Cx} {f : Value} {r r' : List V → Hp → VK → Prop} (h : CallR X f r) (h' : CallR X f r') : CallR X f (fun xs H Q => r xs H Q ∨ r' xs H Q) := by
  intro pins s σ H xs us Q I rs q
  rcases q with q | q
  · exact h pins s σ H xs us Q I rs q
  · exact h' pins s σ H xs us Q I rs q

/-! ### sorted -/
section
variable {α : Type} {le : α → α → Bool}
def insG (le : α → α → Bool) (x : α) : List α → List α
  | [] => [x]
  | y :: ys => if !le x y then y :: insG le x ys else x :: y :: ys
def isortG (le : α → α → Bool) : List α → List α
  | [] => []
  | x :: xs => insG le x (isortG le xs)
theorem insG_mem {x z : α} : ∀ {l : List α}, z ∈ insG le x l → z = x ∨ z ∈ l
  | [], h => by
    simp [insG] at h
    exact .inl h
  | y :: ys, h => by
    unfold insG at h
    split at h
    · rcases List.mem_cons.mp h with rfl | h
      · exact .inr List.mem_cons_self
      · rcases insG_mem h with e | e
        · exact .inl e
        · exact .inr (List.mem_cons_of_mem _ e)
    · rcases List.mem_cons.mp h with rfl | h
      · exact .inl rfl
      · exact .inr h
theorem insG_pw (h : TotalLe le) {x : α} : ∀ {l : List α}, l.Pairwise (fun a b => le a b = true) → (insG le x l).Pairwise (fun a b => le a b = true)
  | [], _ => by simp [insG]
  | y :: ys, p => by
    have p' := List.pairwise_cons.mp p
    unfold insG
    split
    · rename_i c
      rw [Bool.not_eq_true'] at c
      refine List.pairwise_cons.mpr ⟨fun z hz => ?_, insG_pw h p'.2⟩
      rcases insG_mem hz with rfl | hz
      · rcases h.total z y with e | e
        · rw [c] at e; cases e
        · exact e
      · exact p'.1 z hz
    · rename_i c
      have c' : le x y = true := by simpa using c
      refine List.pairwise_cons.mpr ⟨fun z hz => ?_, p⟩
      rcases List.mem_cons.mp hz with rfl | hz
      · exact c'
      · exact h.trans _ _ _ c' (p'.1 z hz)
theorem insG_fil (h : TotalLe le) {x c : α} : ∀ {l : List α}, (insG le x l).filter (sameRank le c) = (x :: l).filter (sameRank le c)
  | [] => rfl
  | y :: ys => by
    unfold insG
    split
    · rename_i k
      rw [Bool.not_eq_true'] at k
      rw [List.filter_cons, insG_fil h (l := ys)]
      cases hx : sameRank le c x with
      | false =>
        rw [List.filter_cons_of_neg (by rw [hx]; decide), List.filter_cons_of_neg (p := sameRank le c) (a := x) (l := y :: ys) (by rw [hx]; decide), List.filter_cons]
      | true =>
        cases hy : sameRank le c y with
        | false =>
          rw [if_neg (by decide), List.filter_cons_of_pos hx, List.filter_cons_of_pos (l := y :: ys) hx, List.filter_cons_of_neg (by rw [hy]; decide)]
        | true =>
          exfalso
          unfold sameRank at hx hy
          rw [Bool.and_eq_true] at hx hy
          have := h.trans _ _ _ hx.2 hy.1
          rw [k] at this
          cases this
    · rfl
theorem isortG_pw (h : TotalLe le) : ∀ l : List α, (isortG le l).Pairwise (fun a b => le a b = true)
  | [] => .nil
  | x :: xs => insG_pw h (isortG_pw h xs)
theorem isortG_fil (h : TotalLe le) {c : α} : ∀ l : List α, (isortG le l).filter (sameRank le c) = l.filter (sameRank le c)
  | [] => rfl
  | x :: xs => by
    unfold isortG
    rw [insG_fil h, List.filter_cons, List.filter_cons, isortG_fil h xs]
theorem isortG_eq (h : TotalLe le) (l : List α) : isortG le l = l.mergeSort le := sort_unique h (isortG_pw h l) fun c => isortG_fil h l
theorem isortG_mem {z : α} : ∀ {l : List α}, z ∈ isortG le l → z ∈ l
  | [], h => by simp [isortG] at h
  | x :: xs, h => by
    rcases insG_mem h with rfl | h
    · exact List.mem_cons_self
    · exact List.mem_cons_of_mem _ (isortG_mem h)
end
theorem insD_eq {le : D → D → Bool} {x : D} : ∀ {l : List D}, (∀ y ∈ l, ltD y x = !le x y) → insD x l = insG le x l
  | [], _ => rfl
  | y :: ys, h => by
    unfold insD insG
    rw [h y List.mem_cons_self, insD_eq fun z hz => h z (List.mem_cons_of_mem _ hz)]
theorem isortD_eq {le : D → D → Bool} : ∀ {l : List D}, (∀ x ∈ l, ∀ y ∈ l, ltD y x = !le x y) → isortD l = isortG le l
  | [], _ => rfl
  | x :: xs, h => by
    unfold isortD isortG
    rw [isortD_eq fun a ha b hb => h a (List.mem_cons_of_mem _ ha) b (List.mem_cons_of_mem _ hb)]
    exact insD_eq fun y hy => h x List.mem_cons_self y (List.mem_cons_of_mem _ (isortG_mem hy))
theorem isortD_merge {ds : List D} (h1 : ds.all (sh 60) = true) (h2 : (ds.all fun d => ds.all (alD d)) = true) : isortD ds = ds.mergeSort (dataLe false toPy) := by
  rw [isortD_eq (le := dataLe false toPy) fun x hx y hy => ?_]
  · exact isortG_eq (sortLe_total _ _ _) ds
  · have sx := List.all_eq_true.mp h1 x hx
    have sy := List.all_eq_true.mp h1 y hy
    have al := List.all_eq_true.mp (List.all_eq_true.mp h2 y hy) x hx
    rw [← lt_toPy 60 60 y x sy sx al]
    show _ = !(!dataLt (toPy y) (toPy x))
    rw [Bool.not_not]
theorem rpl_zip {K : PySem.W.Frag} {G : Hp} {μ : List Addr} : ∀ {ds : List D} {xs : List V}, RpL K G μ ds xs → (ds.zip xs).map Prod.fst = ds ∧ (ds.zip xs).map Prod.snd = xs ∧ ∀ q ∈ ds.zip xs, Rp K G μ q.1 q.2
  | [], xs, h => by
    simp only [RpL] at h
    subst h
    exact ⟨rfl, rfl, fun q hq => by cases hq⟩
  | d :: ds, xs, h => by
    simp only [RpL] at h
    obtain ⟨v, vs, rfl, h1, h2⟩ := h
    obtain ⟨q1, q2, q3⟩ := rpl_zip h2
    refine ⟨by simp [q1], by simp [q2], fun q hq => ?_⟩
    rcases List.mem_cons.mp hq with rfl | hq
    · exact h1
    · exact q3 q hq
theorem rpl_of {K : PySem.W.Frag} {G : Hp} {μ : List Addr} : ∀ {qs : List (D × V)}, (∀ q ∈ qs, Rp K G μ q.1 q.2) → RpL K G μ (qs.map Prod.fst) (qs.map Prod.snd)
  | [], _ => RpL.nil
  | q :: qs, h => RpL.cons (h q List.mem_cons_self) (rpl_of fun z hz => h z (List.mem_cons_of_mem _ hz))
def rSortD (K : PySem.W.Frag) : List V → Hp → VK → Prop := fun vs H Q => ∃ (a : Addr) (xs : List V) (ps : List PyData), vs = [.ref a] ∧ SqL K H a xs ∧ DpAll K H xs ps ∧ AllAlike ps ∧ Sortable ps ∧ (∀ d ∈ ps, d.depth ≤ 60) ∧ xs.length ≤ sizeLine ∧
  ∀ p, H p = none → Q (.ref p) (upd H p (.lst (((xs.zip ps).mergeSort (dataLe false Prod.snd)).map Prod.fst)))
theorem dpAll_len {K : PySem.W.Frag} {H : Hp} : ∀ {xs : List V} {ps : List PyData}, DpAll K H xs ps → xs.length = ps.length
  | _, _, .nil => rfl
  | _, _, .cons _ h => by rw [List.length_cons, List.length_cons, dpAll_len h]
theorem zip_snd {α β : Type} : ∀ {xs : List α} {ys : List β}, xs.length = ys.length → (xs.zip ys).map Prod.snd = ys
  | [], [], _ => rfl
  | [], _ :: _, h => by simp at h
  | _ :: _, [], h => by simp at h
  | x :: xs, y :: ys, h => by simp [zip_snd (by simpa using h : xs.length = ys.length)]
theorem each_rel : ∀ {xs : List V} {us : List Value} {ps : List PyData}, Vals xs us → xs.length = ps.length → EachIs (fun v (b : V × PyData) => RelV b.1 v) us (xs.zip ps)
  | _, _, [], .nil, _ => .nil
  | _, _, _ :: _, .nil, h => by simp at h
  | _, _, [], .cons _ _, h => by simp at h
  | _, _, p :: ps, .cons r t, h => .cons r (each_rel t (by simpa using h))
theorem vals_each : ∀ {us : List Value} {bs : List (V × PyData)}, EachIs (fun v (b : V × PyData) => RelV b.1 v) us bs → Vals (bs.map Prod.fst) us
  | _, _, .nil => .nil
  | _, _, .cons h t => .cons h (vals_each t)
section
variable {X : Cx} {pins : List (Addr × Obj)} {σ : L2.St} {H : Hp} {s : Shared}
theorem each_reads (I : Inv X pins σ H s) : ∀ {xs : List V} {us : List Value} {ps : List PyData}, DpAll X.K H xs ps → Vals xs us → EachIs (fun v (b : V × PyData) => ∃ as, Reads s.heap v b.2 as) us (xs.zip ps)
  | _, _, _, .nil, .nil => .nil
  | _, _, _, .cons h1 h2, .cons r t => .cons (Dp.reads I _ _ _ h1 r) (each_reads I h2 t)
theorem p_sortD (hu : X.A.units + 64 < cLine) : CallR X (.builtin "sorted") (rSortD X.K) := by
  intro pins s σ H vs us Q I r h
  obtain ⟨a, xs, ps, rfl, hs, hd, al, so, dp, hz, q⟩ := h
  obtain ⟨its, rv, hl, _⟩ := I.list hs
  rw [Vals.ref1 r]
  have hlen := dpAll_len hd
  have hzip : (xs.zip ps).length = xs.length := by rw [List.length_zip]; omega
  have e2 : (xs.zip ps).map Prod.snd = ps := zip_snd hlen
  refine sorted_data (enc := Prod.snd) (R := fun v (b : V × PyData) => RelV b.1 v) hl.isList (each_rel rv hlen) (each_reads I hd rv) (by rw [e2]; exact al) (by rw [e2]; exact so) (by rw [hzip]; exact hz)
    (fun b hb => ?_) fun out h1 h2 => ?_
  · have : b.2 ∈ ps := by rw [← e2]; exact List.mem_map.mpr ⟨b, hb, rfl⟩
    have := dp _ this
    omega
  · obtain ⟨ep, he'⟩ := PyProof.Rows.sortedAll_at s.heap its (List.toArray out)
    have hv := vals_each h2
    have hzl : (((xs.zip ps).mergeSort (dataLe false Prod.snd)).map Prod.fst).length ≤ sizeLine := by
      rw [hv.length, h1, hzip]
      exact hz
    exact ⟨.ref _, _, I.laid (t' := s.toks) (o := .lst (((xs.zip ps).mergeSort (dataLe false Prod.snd)).map Prod.fst)) (fun _ _ => PyProof.Rows.sortedAll_old) (Nat.le_succ _) (show ObjOk X.prog X.w _ _ _ (.lst _) from ⟨hzl, out, ep, hv, by simpa using he'⟩), rfl, q _ (I.hok.fresh (Nat.le_succ _))⟩
end
theorem shL_of {n : Nat} : ∀ {ds : List D}, ds.all (sh n) = true → shL n ds = true
  | [], _ => rfl
  | d :: ds, h => by
    rw [List.all_cons, Bool.and_eq_true] at h
    simp only [shL, h.1, shL_of h.2, Bool.and_self]
theorem alike_ds {ds : List D} (h1 : ds.all (sh 60) = true) (h2 : (ds.all fun d => ds.all (alD d)) = true) : AllAlike (toPyL ds) := by
  intro d hd e he
  rw [toPyL_map] at hd he
  obtain ⟨x, hx, rfl⟩ := List.mem_map.mp hd
  obtain ⟨y, hy, rfl⟩ := List.mem_map.mp he
  rw [alike_toPy 60 60 x y (List.all_eq_true.mp h1 x hx) (List.all_eq_true.mp h1 y hy)]
  exact List.all_eq_true.mp (List.all_eq_true.mp h2 x hx) y hy
theorem sortable_ds {ds : List D} (h : (ds.all isTupNE || ds.all isAtomS) = true) : Sortable (toPyL ds) := by
  rw [Bool.or_eq_true] at h
  rcases h with h | h
  · refine .inl fun d hd => ?_
    rw [toPyL_map] at hd
    obtain ⟨x, hx, rfl⟩ := List.mem_map.mp hd
    have := List.all_eq_true.mp h x hx
    cases x with
    | tup xs =>
      cases xs with
      | nil => simp [isTupNE] at this
      | cons y ys => exact ⟨toPy y, toPyL ys, by simp [toPy, toPyL]⟩
    | _ => simp [isTupNE] at this
  · refine .inr fun d hd => ?_
    rw [toPyL_map] at hd
    obtain ⟨x, hx, rfl⟩ := List.mem_map.mp hd
    have := List.all_eq_true.mp h x hx
    cases x <;> first | (simp [isAtomS] at this; done) | exact ⟨fun e => by simp [toPy] at e, fun xs e => by simp [toPy] at e⟩
theorem sort_vals {K : PySem.W.Frag} {G : Hp} {μ : List Addr} {ds : List D} {xs : List V} (r : RpL K G μ ds xs) (h1 : ds.all (sh 60) = true) (h2 : (ds.all fun d => ds.all (alD d)) = true) :
    RpL K G μ (isortD ds) (((xs.zip (toPyL ds)).mergeSort (dataLe false Prod.snd)).map Prod.fst) := by
  obtain ⟨q1, q2, q3⟩ := rpl_zip r
  have e0 : xs.zip (toPyL ds) = (ds.zip xs).map fun q => (q.2, toPy q.1) := by
    rw [toPyL_map]
    clear h1 h2 q1 q2 q3 r
    induction ds generalizing xs with
    | nil => simp
    | cons d ds ih =>
      cases xs with
      | nil => rfl
      | cons x xs => simp [ih]
  have e1 : (((ds.zip xs).mergeSort (dataLe false fun q => toPy q.1)).map fun q => (q.2, toPy q.1)) = (xs.zip (toPyL ds)).mergeSort (dataLe false Prod.snd) := by
    rw [e0]
    exact sort_maps _ fun a _ b _ => rfl
  have e2 : (((ds.zip xs).mergeSort (dataLe false fun q => toPy q.1)).map Prod.fst) = isortD ds := by
    rw [isortD_merge h1 h2]
    have := sort_maps (r := dataLe false fun q : D × V => toPy q.1) (s := dataLe false toPy) (l := ds.zip xs) Prod.fst fun a _ b _ => rfl
    rw [q1] at this
    exact this
  rw [← e1, List.map_map, ← e2]
  exact rpl_of fun q hq => q3 q ((List.mergeSort_perm _ _).mem_iff.mp hq)
/-! ### the rules -/
abbrev rLen (K : PySem.W.Frag) : V → Hp → VK → Prop := fun x H Q => ∃ y n, [x] = [y] ∧ LenV K y H n ∧ Q (.int n) H
theorem o_len : RdU T 1 (rLen T.K) lenD := by
  intro x vx G H μ st Q w px h
  unfold lenD at h
  split at h
  · rename_i ds
    obtain ⟨l, xs, rfl, h1, h2, h3⟩ := po_lst px
    refine ⟨_, xs.length, rfl, .inl ⟨xs, .inl (.inl h1), rfl⟩, ?_⟩
    have := h _ _ _ (Ev.refl _ _ _) w pk_int
    rw [h3.length] at this
    exact this
  · rename_i ds
    obtain ⟨l, xs, rfl, h1, h2, h3⟩ := po_tup px
    refine ⟨_, xs.length, rfl, .inr ⟨xs, w.gh.sqt h1, rfl⟩, ?_⟩
    have := h _ _ _ (Ev.refl _ _ _) w pk_int
    rw [h3.length] at this
    exact this
  · rename_i s
    obtain ⟨rfl, h1, h2⟩ := po_str px
    refine ⟨_, s.length, rfl, ⟨?_, ?_⟩, h _ _ _ (Ev.refl _ _ _) w pk_int⟩
    · show s.toArray.size ≤ _
      rw [List.size_toArray, limS]
      exact h1
    · show s.length = s.toArray.size
      rw [List.size_toArray]
  · rename_i ns
    obtain ⟨l, rfl, h1, h2⟩ := po_scr px
    refine ⟨_, ns.length, rfl, .inl ⟨_, w.gh.sql h1, by rw [List.length_map]⟩, h _ _ _ (Ev.refl _ _ _) w pk_int⟩
  · exact h.elim
abbrev rInt : V → Hp → VK → Prop := fun x H Q => (∃ i, [x] = [.int i] ∧ Q (.int i) H) ∨ ∃ k, [x] = [.bl k] ∧ Q (.int (if k then 1 else 0)) H
theorem o_int : RdU T 1 rInt intD := by
  intro x vx G H μ st Q w px h
  cases x with
  | int i => exact .inl ⟨i, by rw [po_int px], h _ _ _ (Ev.refl _ _ _) w pk_int⟩
  | bl b => exact .inr ⟨b, by rw [po_bl px], h _ _ _ (Ev.refl _ _ _) w pk_int⟩
  | _ => exact h.elim
abbrev rTup (K : PySem.W.Frag) : V → Hp → VK → Prop := fun x H Q => ∃ p ys, [x] = [.ref p] ∧ ((SqL K H p ys ∧ ∀ l, H l = none → Q (.ref l) (upd H l (.tup ys))) ∨ (SqT K H p ys ∧ Q (.ref p) H))
theorem o_tup : RdU T 1 (rTup T.K) tupD := by
  intro x vx G H μ st Q w px h
  unfold tupD at h
  split at h
  · rename_i ds
    obtain ⟨l, xs, rfl, h1, h2, h3⟩ := po_lst px
    refine ⟨l, xs, rfl, .inl ⟨.inl (.inl h1), fun p hp => ?_⟩⟩
    obtain ⟨q1, q2, q3⟩ := new_tup w hp h2 h3
    exact h _ _ _ q1 q2 q3
  · rename_i ds
    obtain ⟨l, xs, rfl, h1, h2, h3⟩ := po_tup px
    exact ⟨l, xs, rfl, .inr ⟨w.gh.sqt h1, h _ _ _ (Ev.refl _ _ _) w (pk_tup h1 h2 h3)⟩⟩
  · exact h.elim
abbrev rLst (K : PySem.W.Frag) : V → Hp → VK → Prop := fun x H Q => ∃ p ys, [x] = [.ref p] ∧ (SqL K H p ys ∨ SqT K H p ys) ∧ ∀ l, H l = none → Q (.ref l) (upd H l (.lst ys))
theorem o_lst : RdU T 1 (rLst T.K) lstD := by
  intro x vx G H μ st Q w px h
  unfold lstD at h
  split at h
  · rename_i ds
    obtain ⟨l, xs, rfl, h1, h2, h3⟩ := po_lst px
    refine ⟨l, xs, rfl, .inl (.inl (.inl h1)), fun p hp => ?_⟩
    obtain ⟨e1, w1⟩ := new_lst w hp xs
    exact h _ _ _ e1 w1 (po_new w.gh hp h2 h3)
  · rename_i ds
    obtain ⟨l, xs, rfl, h1, h2, h3⟩ := po_tup px
    refine ⟨l, xs, rfl, .inr (w.gh.sqt h1), fun p hp => ?_⟩
    obtain ⟨e1, w1⟩ := new_lst w hp xs
    exact h _ _ _ e1 w1 (po_new w.gh hp h2 h3)
  · exact h.elim
theorem bools_v {K : PySem.W.Frag} {G : Hp} {μ : List Addr} : ∀ {ds : List D} {xs : List V} {bs : List Bool}, RpL K G μ ds xs → boolsO ds = some bs → xs = bs.map V.bl
  | [], xs, bs, h, e => by
    simp only [RpL] at h
    simp only [boolsO] at e
    cases e
    exact h
  | d :: ds, xs, bs, h, e => by
    simp only [RpL] at h
    obtain ⟨v, vs, rfl, h1, h2⟩ := h
    cases d with
    | bl b =>
      simp only [boolsO] at e
      cases q : boolsO ds with
      | none => rw [q] at e; cases e
      | some l =>
        rw [q] at e
        cases e
        simp only [Rp] at h1
        rw [bools_v h2 q, h1]
        rfl
    | _ => simp [boolsO] at e
theorem ints_v {K : PySem.W.Frag} {G : Hp} {μ : List Addr} : ∀ {ds : List D} {xs : List V} {bs : List Int}, RpL K G μ ds xs → intsO ds = some bs → xs = bs.map V.int
  | [], xs, bs, h, e => by
    simp only [RpL] at h
    simp only [intsO] at e
    cases e
    exact h
  | d :: ds, xs, bs, h, e => by
    simp only [RpL] at h
    obtain ⟨v, vs, rfl, h1, h2⟩ := h
    cases d with
    | int b =>
      simp only [intsO] at e
      cases q : intsO ds with
      | none => rw [q] at e; cases e
      | some l =>
        rw [q] at e
        cases e
        simp only [Rp] at h1
        rw [ints_v h2 q, h1]
        rfl
    | _ => simp [intsO] at e
theorem o_all : RdU T 1 (fun x H Q => rAll T.K [x] H Q) allD := by
  intro x vx G H μ st Q w px h
  unfold allD at h
  split at h
  · rename_i ds
    obtain ⟨l, xs, rfl, h1, h2, h3⟩ := po_lst px
    cases e : boolsO ds with
    | none =>
      rw [e] at h
      exact h.elim
    | some bs =>
      rw [e] at h
      have ex := bools_v h3 e
      subst ex
      exact ⟨l, bs, rfl, .inl (.inl h1), h _ _ _ (Ev.refl _ _ _) w pk_bl⟩
  · exact h.elim
theorem o_sortL : RdU T 1 (fun x H Q => rSortD T.K [x] H Q) (fun d => match d with | .tup _ => bad | d => sortD d) := by
  intro x vx G H μ st Q w px h
  cases x with
  | lst ds =>
    obtain ⟨l, xs, rfl, h1, h2, h3⟩ := po_lst px
    replace h : Res (sortD (.lst ds) st) _ _ := h
    unfold sortD at h
    simp only [items] at h
    by_cases hc : okSort ds = true
    · rw [if_pos hc] at h
      unfold okSort at hc
      rw [Bool.and_eq_true, Bool.and_eq_true] at hc
      obtain ⟨q1, q2, q3⟩ := dps_of w.gh 60 ds xs (shL_of hc.1.1) h3
      have sv := sort_vals h3 hc.1.1 hc.1.2
      refine ⟨l, xs, toPyL ds, rfl, .inl (.inl h1), q1, alike_ds hc.1.1 hc.1.2, sortable_ds hc.2, fun d hd => ?_, by rw [limS]; exact h2, fun p hp => ?_⟩
      · rw [toPyL_map] at hd
        obtain ⟨y, hy, rfl⟩ := List.mem_map.mp hd
        obtain ⟨i, hi⟩ := List.getElem?_of_mem hy
        obtain ⟨v, _, hv⟩ := h3.get hi
        exact (dp_of w.gh 60 y v (List.all_eq_true.mp hc.1.1 y hy) hv).2.2
      · obtain ⟨e1, w1⟩ := new_lst w hp (((xs.zip (toPyL ds)).mergeSort (dataLe false Prod.snd)).map Prod.fst)
        refine h _ _ _ e1 w1 (po_new w.gh hp ?_ sv)
        rw [List.length_map, List.length_mergeSort, List.length_zip]
        omega
    · rw [if_neg hc] at h
      exact h.elim
  | _ => exact h.elim
/-! ### isinstance -/
def tyS : Ty → String
  | .int => "int"
  | .bool => "bool"
  | .str => "str"
  | .tuple => "tuple"
  | .list => "list"
def dtS : D → String
  | .non => "NoneType"
  | .bl _ => "bool"
  | .int _ => "int"
  | .str _ => "str"
  | .tup _ => "tuple"
  | _ => "list"
theorem kit_tab (d : D) (h : noObj d = true) (t : Ty) : kitB (dtS d) (tyS t) = some (isTy t d) := by
  cases d <;> first | (simp [noObj] at h; done) | (cases t <;> (simp only [dtS, tyS, isTy]; decide +kernel))
theorem ty_of {H0 G H : Hp} {μ : List Addr} {d : D} {v : V} (sub : Sub G H) (h : Po T 2 H0 G H μ d v) (n : noObj d = true) : TyX T.K H v (.type (dtS d)) := by
  cases d with
  | non => rw [po_non h]; exact .base .non
  | bl b => rw [po_bl h]; exact .base (.bl b)
  | int b => rw [po_int h]; exact .base (.int b)
  | str b => obtain ⟨rfl, _⟩ := po_str h; exact .base (.str _)
  | tup b =>
    obtain ⟨a, xs, rfl, h1, _⟩ := po_tup h
    rcases sub.sqt h1 with (q | ⟨o, q⟩) | ⟨o, its, n, e, c, _⟩
    · exact .base (.tup q)
    · exact .fTuple q
    · exact .kTuple e c
  | lst b => obtain ⟨a, xs, rfl, h1, _⟩ := po_lst h; exact .base (.lst h1)
  | scr b =>
    obtain ⟨a, rfl, h1, _⟩ := po_scr h
    rcases sub.sql h1 with (q | ⟨o, q⟩) | ⟨o, its, n, e, c, _⟩
    · exact .base (.lst q)
    · exact .base (.frz q)
    · exact .kList e c
  | obj b => simp [noObj] at n
theorem kit_any {K : PySem.W.Frag} (d : D) (h : noObj d = true) : ∀ ts : List Ty, PySem.W.kitAny K (.type (dtS d)) (ts.map fun t => .type (tyS t)) = some (ts.any fun t => isTy t d)
  | [] => rfl
  | t :: ts => by
    refine kitAny_cons (kit_ty (kit_tab d h t)) (fun e => ?_) (fun e => ?_)
    · rw [List.any_cons, e, Bool.false_or]
      exact kit_any d h ts
    · rw [List.any_cons, e, Bool.true_or]
theorem cls_tys : ∀ ts : List Ty, Paired ClsV (ts.map fun t => V.ty (tyS t)) (ts.map fun t => Value.type (tyS t))
  | [] => .nil
  | t :: ts => .cons (.ty _) (cls_tys ts)
def rIsi1 (K : PySem.W.Frag) (t : Ty) : V → Hp → VK → Prop := fun x H Q => rIsi K [x, .ty (tyS t)] H Q
theorem o_isi1 (t : Ty) : RdU T 1 (rIsi1 T.K t) (fun x => if noObj x then ret (.bl ([t].any fun t => isTy t x)) else bad) := by
  intro x vx G H μ st Q w px h
  by_cases hn : noObj x = true
  · simp only [if_pos hn] at h
    refine ⟨vx, .ty (tyS t), .type (dtS x), .type (tyS t), isTy t x, rfl, .ty _, ty_of w.gh px hn, kit_ty (kit_tab x hn t), ?_⟩
    have := h _ _ _ (Ev.refl _ _ _) w pk_bl
    rw [List.any_cons, List.any_nil, Bool.or_false] at this
    exact this
  · simp only [if_neg hn] at h
    exact h.elim
def rIsiN (K : PySem.W.Frag) (ts : List Ty) : V → Hp → VK → Prop := fun x H Q => ∀ p, H p = none → rIsiT K [x, .ref p] (upd H p (.tup (ts.map fun t => V.ty (tyS t)))) Q
theorem o_isiN (ts : List Ty) : RdU T 1 (rIsiN T.K ts) (fun x => if noObj x then ret (.bl (ts.any fun t => isTy t x)) else bad) := by
  intro x vx G H μ st Q w px h p hp
  by_cases hn : noObj x = true
  · simp only [if_pos hn] at h
    obtain ⟨e1, w1⟩ := new_any w hp (.tup (ts.map fun t => V.ty (tyS t)))
    have px' := px.later e1
    exact ⟨vx, p, _, _, _, _, rfl, upd_same, cls_tys ts, ty_of w1.gh px' hn, kit_any x hn ts, h _ _ _ e1 w1 pk_bl⟩
  · simp only [if_neg hn] at h
    exact h.elim
end BX

set_option Elab.async false
set_option linter.all false
set_option maxRecDepth 100000
/-! BS7: contexts, readings of expressions one by one. -/
namespace BX
open PySem PySem.Spec PyProof.Rows L2

structure Cxt (T : Rt) (k : Nat) (N : List Str) (sc : Scope) (W : WX) (X : Cx) : Prop where
  prog : X.prog = T.P
  w : X.w = T.w
  K : X.K = T.K
  mg : X.mg = T.mg
  base : X.base = T.base
  xN : X.N = N
  nd : N.Nodup
  sc : X.env.scope = sc
  calm : X.calm = true
  room : Room k X.A
  tk : Takes X W
def visB (sc : Scope) (x : Str) : Bool := match sc.names.lookup x with
  | some .local => true
  | some .cell => true
  | some .free => true
  | _ => false
def glB (sc : Scope) (x : Str) : Bool := match sc.names.lookup x with
  | some .globalImplicit => true
  | _ => false
def dbB (x : Str) : Bool := !(x == "__debug__") && !(x == "__classdict__")
def nthB (N : List Str) (i : Nat) (x : Str) : Bool := match N[i]? with
  | some y => y == x
  | none => false
theorem nthB_ok {N : List Str} {i : Nat} {x : Str} (h : nthB N i x = true) : N[i]? = some x := by
  unfold nthB at h
  split at h
  · rename_i y e
    rw [e, beq_iff_eq.mp h]
  · cases h
/-- an expression in any place -/
def okE : Expr → Bool
  | .Starred .. => false
  | .Slice .. => false
  | .Set .. => false
  | .SetComp .. => false
  | .DictComp .. => false
  | .GeneratorExp .. => false
  | .NamedExpr .. => false
  | .Lambda .. => false
  | .Await .. => false
  | .Yield .. => false
  | .YieldFrom .. => false
  | _ => true
theorem okE_star {e : Expr} (h : okE e = true) (es : List Expr) (env : PySem.Env) : starEach (e :: es) env = (false, eval e env) :: starEach es env := by
  cases e <;> first | rfl | (simp [okE] at h; done)
theorem okE_ix {e : Expr} (h : okE e = true) : PlainIx e := by
  intro o i
  cases e <;> first | rfl | (simp [okE] at h; done)
theorem okE_bh {e : Expr} (h : okE e = true) (op : CmpOp) : behindInMarks op e = false := by
  cases e <;> first | rfl | (simp [okE] at h; done)
theorem okE_fs {e : Expr} (h : okE e = true) (env : PySem.Env) (x : Value) : foldedSetIterable e env x = pure x := by
  cases e <;> first | rfl | (simp [okE] at h; done)
def noCallB : Expr → Bool
  | .Call .. => false
  | _ => true
theorem noCall_ab {e : Expr} (h : noCallB e = true) (a : Str) (env : PySem.Env) (w : Sem Value) : attributeBase e a env w = w := by
  cases e <;> first | rfl | (simp [noCallB] at h; done)

section
variable {T : Rt} {k : Nat} {N : List Str} {sc : Scope} {W : WX} {X : Cx} {mu : List Nat}
theorem Cxt.vis (c : Cxt T k N sc W X) {x : Str} (h : visB sc x = true) : Vis X.env.scope x := by
  rw [c.sc]
  unfold visB at h
  unfold Vis
  split at h <;> first | (cases h; done) | (rename_i e; rw [e]; simp)
theorem Cxt.gl (c : Cxt T k N sc W X) {x : Str} (h : glB sc x = true) : Gl X x := by
  show X.env.scope.names.lookup x = some .globalImplicit
  rw [c.sc]
  unfold glB at h
  split at h
  · rename_i e
    exact e
  · cases h
theorem Cxt.u (c : Cxt T k N sc W X) : X.A.units + 65 < cLine := by have := c.room.un; omega
theorem db1 {x : Str} (h : dbB x = true) : (x == ("__debug__" : Str)) = false := by
  unfold dbB at h
  rw [Bool.and_eq_true] at h
  simpa using h.1
theorem db2 {x : Str} (h : dbB x = true) : (x == ("__classdict__" : Str)) = false := by
  unfold dbB at h
  rw [Bool.and_eq_true] at h
  simpa using h.2
/-! ### leaves -/
theorem rd_var (i : Nat) : RdE T mu N.length W (if i ∈ mu then 2 else 0) (tVar i) (getV i) := by
  intro E ρ σ G H μ st Q er hres
  unfold getV at hres
  cases e : ρ[i]? with
  | none => rw [e] at hres; exact hres.elim
  | some o =>
    cases o with
    | none => rw [e] at hres; exact hres.elim
    | some d =>
      rw [e] at hres
      by_cases hm : i ∈ mu
      · rw [if_pos hm] at hres
        obtain ⟨v, h1, h2⟩ := er.get e
        exact ⟨v, h1, hres v G H μ (Ev.refl _ _ _) er.w h2⟩
      · rw [if_neg hm] at hres
        obtain ⟨v, h1, h2⟩ := er.pl i d hm e
        exact ⟨v, h1, hres v G H μ (Ev.refl _ _ _) er.w (po_md0 h2)⟩
theorem rd_c {n : Nat} {md : Nat} {d : D} {v : V} (h : ∀ G H H' μ, Po T md H G H' μ d v) : RdE T mu n W md (tC v) (fun _ => ret d) := by
  intro E ρ σ G H μ st Q er hres
  exact hres v G H μ (Ev.refl _ _ _) er.w (h _ _ _ _)
/-! ### tests -/
theorem rd_test {n md : Nat} {t : TE} {f : Env → M D} (h : RdE T mu n W md t f) : RdT T mu n W (tB t) (fun ρ => bnd (f ρ) asB) := by
  intro E ρ σ G H μ st Q er hres
  refine h E ρ σ G H μ st _ er (hres.bnd.mono (fun x s1 h1 v1 G1 H1 μ1 e1 w1 p1 => ?_) fun c s1 h1 => h1)
  cases x with
  | bl b => exact ⟨b, po_bl p1, h1 G1 H1 μ1 e1 w1⟩
  | _ => exact h1.elim
theorem rd_notT {n : Nat} {t : TT} {f : Env → M Bool} (h : RdT T mu n W t f) : RdT T mu n W (tNot t) (fun ρ => bnd (f ρ) fun b => ret (!b)) := by
  intro E ρ σ G H μ st Q er hres
  exact h E ρ σ G H μ st _ er (hres.bnd.mono (fun x s1 h1 G1 H1 μ1 e1 w1 => h1 G1 H1 μ1 e1 w1) fun c s1 h1 => h1)
theorem WK.ev {G H G1 H1 : Hp} {μ μ1 : List Addr} {σ : St} {c : Xc} {s : Sto} (h : WK T W G H μ σ c s) (e : Ev G H μ G1 H1 μ1) : WK T W G1 H1 μ1 σ c s := fun G' H' μ' e' w' => h G' H' μ' (e.trans e') w'
theorem rd_andT {n : Nat} {t u : TT} {f g : Env → M Bool} (h : RdT T mu n W t f) (h' : RdT T mu n W u g) : RdT T mu n W (tAnd t u) (fun ρ => bnd (f ρ) fun b => if b then g ρ else ret false) := by
  intro E ρ σ G H μ st Q er hres
  refine h E ρ σ G H μ st _ er (hres.bnd.mono (fun b s1 h1 G1 H1 μ1 e1 w1 => ?_) fun c s1 h1 => h1)
  cases b with
  | false => exact h1 G1 H1 μ1 e1 w1
  | true => exact h' E ρ σ G1 H1 μ1 s1 Q (er.ev e1 w1) (Res.mono h1 (fun b2 s2 h2 G2 H2 μ2 e2 w2 => h2 G2 H2 μ2 (e1.trans e2) w2) fun c s2 h2 => WK.ev h2 e1)
theorem rd_orT {n : Nat} {t u : TT} {f g : Env → M Bool} (h : RdT T mu n W t f) (h' : RdT T mu n W u g) : RdT T mu n W (tOr t u) (fun ρ => bnd (f ρ) fun b => if b then ret true else g ρ) := by
  intro E ρ σ G H μ st Q er hres
  refine h E ρ σ G H μ st _ er (hres.bnd.mono (fun b s1 h1 G1 H1 μ1 e1 w1 => ?_) fun c s1 h1 => h1)
  cases b with
  | true => exact h1 G1 H1 μ1 e1 w1
  | false => exact h' E ρ σ G1 H1 μ1 s1 Q (er.ev e1 w1) (Res.mono h1 (fun b2 s2 h2 G2 H2 μ2 e2 w2 => h2 G2 H2 μ2 (e1.trans e2) w2) fun c s2 h2 => WK.ev h2 e1)
theorem RdT.congr {n : Nat} {t : TT} {f g : Env → M Bool} (h : RdT T mu n W t f) (e : ∀ ρ, f ρ = g ρ) : RdT T mu n W t g := by
  rw [show g = f from funext fun ρ => (e ρ).symm]
  exact h
/-! ### bools as values -/
theorem asB_bnd {α : Type} {x : D} {g : Bool → M α} {s : Sto} {kk : α → Sto → Prop} {xx : Xc → Sto → Prop} (h : Res (bnd (asB x) g s) kk xx) : ∃ b, x = .bl b ∧ Res (g b s) kk xx := by
  cases x with
  | bl b => exact ⟨b, rfl, h⟩
  | _ => exact h.elim
theorem asI_bnd {α : Type} {x : D} {g : Int → M α} {s : Sto} {kk : α → Sto → Prop} {xx : Xc → Sto → Prop} (h : Res (bnd (asI x) g s) kk xx) : ∃ b, x = .int b ∧ Res (g b s) kk xx := by
  cases x with
  | int b => exact ⟨b, rfl, h⟩
  | _ => exact h.elim
theorem rd_notV {n md : Nat} {t : TE} {f : Env → M D} (h : RdE T mu n W md t f) : RdE T mu n W 0 (tNotV t) (fun ρ => bnd (bnd (f ρ) asB) fun b => ret (.bl (!b))) := by
  intro E ρ σ G H μ st Q er hres
  simp only [bnd_assoc] at hres
  refine h E ρ σ G H μ st _ er (hres.bnd.mono (fun x s1 h1 v1 G1 H1 μ1 e1 w1 p1 => ?_) fun c s1 h1 => h1)
  obtain ⟨b, rfl, h2⟩ := asB_bnd h1
  exact ⟨b, po_bl p1, h2 (.bl (!b)) G1 H1 μ1 e1 w1 pk_bl⟩
theorem rd_andV {n ma : Nat} {t u : TE} {f g : Env → M D} (h : RdE T mu n W ma t f) (h' : RdE T mu n W 0 u g) : RdE T mu n W 0 (tAndV t u) (fun ρ => bnd (bnd (f ρ) asB) fun b => if b then g ρ else ret (.bl false)) := by
  intro E ρ σ G H μ st Q er hres
  simp only [bnd_assoc] at hres
  refine h E ρ σ G H μ st _ er (hres.bnd.mono (fun x s1 h1 v1 G1 H1 μ1 e1 w1 p1 => ?_) fun c s1 h1 => h1)
  obtain ⟨b, rfl, h2⟩ := asB_bnd h1
  refine ⟨b, po_bl p1, ?_⟩
  cases b with
  | false => exact h2 (.bl false) G1 H1 μ1 e1 w1 pk_bl
  | true => exact h' E ρ σ G1 H1 μ1 s1 Q (er.ev e1 w1) (Res.mono h2 (fun d s2 h2 v G2 H2 μ2 e2 w2 p2 => h2 v G2 H2 μ2 (e1.trans e2) w2 (p2.back e1.i)) fun c s2 h2 => WK.ev h2 e1)
theorem rd_orV {n ma : Nat} {t u : TE} {f g : Env → M D} (h : RdE T mu n W ma t f) (h' : RdE T mu n W 0 u g) : RdE T mu n W 0 (tOrV t u) (fun ρ => bnd (bnd (f ρ) asB) fun b => if b then ret (.bl true) else g ρ) := by
  intro E ρ σ G H μ st Q er hres
  simp only [bnd_assoc] at hres
  refine h E ρ σ G H μ st _ er (hres.bnd.mono (fun x s1 h1 v1 G1 H1 μ1 e1 w1 p1 => ?_) fun c s1 h1 => h1)
  obtain ⟨b, rfl, h2⟩ := asB_bnd h1
  refine ⟨b, po_bl p1, ?_⟩
  cases b with
  | true => exact h2 (.bl true) G1 H1 μ1 e1 w1 pk_bl
  | false => exact h' E ρ σ G1 H1 μ1 s1 Q (er.ev e1 w1) (Res.mono h2 (fun d s2 h2 v G2 H2 μ2 e2 w2 p2 => h2 v G2 H2 μ2 (e1.trans e2) w2 (p2.back e1.i)) fun c s2 h2 => WK.ev h2 e1)
theorem rd_if {n : Nat} {tc : TT} {t u : TE} {c : Env → M Bool} {f g : Env → M D} (hc : RdT T mu n W tc c) (h : RdE T mu n W 0 t f) (h' : RdE T mu n W 0 u g) : RdE T mu n W 0 (tIf tc t u) (fun ρ => bnd (c ρ) fun b => if b then f ρ else g ρ) := by
  intro E ρ σ G H μ st Q er hres
  refine hc E ρ σ G H μ st _ er (hres.bnd.mono (fun b s1 h1 G1 H1 μ1 e1 w1 => ?_) fun c s1 h1 => h1)
  cases b with
  | true => exact h E ρ σ G1 H1 μ1 s1 Q (er.ev e1 w1) (Res.mono h1 (fun d s2 h2 v G2 H2 μ2 e2 w2 p2 => h2 v G2 H2 μ2 (e1.trans e2) w2 (p2.back e1.i)) fun c s2 h2 => WK.ev h2 e1)
  | false => exact h' E ρ σ G1 H1 μ1 s1 Q (er.ev e1 w1) (Res.mono h1 (fun d s2 h2 v G2 H2 μ2 e2 w2 p2 => h2 v G2 H2 μ2 (e1.trans e2) w2 (p2.back e1.i)) fun c s2 h2 => WK.ev h2 e1)
/-! ### argument lists, displays -/
theorem rd_nil {n : Nat} : RdA T mu n W tNil (fun _ => ret []) := by
  intro E ρ σ G H μ st Q er hres
  exact hres [] G H μ (Ev.refl _ _ _) er.w RpL.nil
theorem po_rp0 {H G H' : Hp} {μ : List Addr} {d : D} {v : V} (h : Po T 0 H G H' μ d v) : Rp T.K G μ d v := by cases d <;> exact h
theorem rd_cons {n : Nat} {t : TE} {u : TA} {f : Env → M D} {g : Env → M (List D)} (h : RdE T mu n W 0 t f) (h' : RdA T mu n W u g) : RdA T mu n W (tCons t u) (fun ρ => bnd (f ρ) fun d => bnd (g ρ) fun ds => ret (d :: ds)) := by
  intro E ρ σ G H μ st Q er hres
  refine h E ρ σ G H μ st _ er (hres.bnd.mono (fun d s1 h1 v1 G1 H1 μ1 e1 w1 p1 => ?_) fun c s1 h1 => h1)
  refine h' E ρ σ G1 H1 μ1 s1 _ (er.ev e1 w1) (h1.bnd.mono (fun ds s2 h2 vs G2 H2 μ2 e2 w2 p2 => ?_) fun c s2 h2 => WK.ev h2 e1)
  exact h2 (v1 :: vs) G2 H2 μ2 (e1.trans e2) w2 (RpL.cons (e2.rp (po_rp0 p1)) p2)
theorem rd_lst {n : Nat} {u : TA} {g : Env → M (List D)} (h : RdA T mu n W u g) : RdE T mu n W 1 (tLst u) (fun ρ => bnd (g ρ) mkL) := by
  intro E ρ σ G H μ st Q er hres
  refine h E ρ σ G H μ st _ er (hres.bnd.mono (fun ds s1 h1 vs G1 H1 μ1 e1 w1 p1 => ?_) fun c s1 h1 => h1)
  unfold mkL at h1
  split at h1
  · rename_i hz
    have hz' : vs.length ≤ LIM := by rw [← p1.length]; exact hz
    refine ⟨by rw [limS]; exact hz', fun p hp => ?_⟩
    obtain ⟨e2, w2⟩ := new_lst w1 hp vs
    exact h1 _ _ _ _ (e1.trans e2) w2 ((po_new w1.gh hp hz' p1).back e1.i)
  · exact h1.elim
theorem rd_tup {n : Nat} {u : TA} {g : Env → M (List D)} (h : RdA T mu n W u g) : RdE T mu n W 1 (tTup u) (fun ρ => bnd (g ρ) mkT) := by
  intro E ρ σ G H μ st Q er hres
  refine h E ρ σ G H μ st _ er (hres.bnd.mono (fun ds s1 h1 vs G1 H1 μ1 e1 w1 p1 => ?_) fun c s1 h1 => h1)
  unfold mkT at h1
  split at h1
  · rename_i hz
    have hz' : vs.length ≤ LIM := by rw [← p1.length]; exact hz
    refine ⟨by rw [limS]; exact hz', fun p hp => ?_⟩
    obtain ⟨e2, w2, r2⟩ := new_tup w1 hp hz' p1
    exact h1 _ _ _ _ (e1.trans e2) w2 r2
  · exact h1.elim
/-! ### operators -/
def boP : BO → Operator
  | .add => .Add
  | .sub => .Sub
  | .mul => .Mult
  | .mod => .Mod
  | .fdiv => .FloorDiv
def coP : CO → CmpOp
  | .eq => .Eq
  | .ne => .NotEq
  | .lt => .Lt
  | .le => .LtE
  | .gt => .Gt
  | .ge => .GtE
  | .isin => .In
  | .notin => .NotIn
  | .is_ => .Is
  | .isnot => .IsNot
theorem bo_rule (c : Cxt T k N sc W X) (o : BO) : ∃ r, OpR X (binaryOp (boP o)) r ∧ RdO T 1 r (opD o) := by
  have eK := c.K
  cases o with
  | add => exact ⟨rAdd X.K, p_add, by rw [eK]; exact o_add⟩
  | sub => exact ⟨_, op_sub, o_sub⟩
  | mul => exact ⟨rMul X.K, p_mul, by rw [eK]; exact o_mul⟩
  | mod => exact ⟨_, op_modN, o_mod⟩
  | fdiv => exact ⟨_, op_fdivN, o_fdiv⟩
theorem co_rule (c : Cxt T k N sc W X) (o : CO) : ∃ r, OpR X (compareOp (coP o)) r ∧ RdO T 1 r (cmpD o) := by
  have eK := c.K
  have hu := c.u
  cases o with
  | eq => exact ⟨rEqN X.K false, op_eqD (by omega), by rw [eK]; exact o_eq false⟩
  | ne => exact ⟨rEqN X.K true, op_neD (by omega), by rw [eK]; exact o_eq true⟩
  | lt => exact ⟨rLt X.K, p_lt hu, by rw [eK]; exact o_lt⟩
  | le => exact ⟨_, op_le, o_le⟩
  | gt => exact ⟨_, op_gt, o_gt⟩
  | ge => exact ⟨_, op_ge, o_ge⟩
  | isin => exact ⟨rInA X.K false, p_inA hu, by rw [eK]; exact o_in false⟩
  | notin => exact ⟨rInA X.K true, p_notInA hu, by rw [eK]; exact o_in true⟩
  | is_ => exact ⟨rIs false, op_isN, o_is false⟩
  | isnot => exact ⟨rIs true, op_notN, o_is true⟩
theorem rd_neg {n md : Nat} {t : TE} {f : Env → M D} (h : RdE T mu n W md t f) : RdE T mu n W 0 (tUn (rU fun i => .int (-i)) t) (fun ρ => bnd (f ρ) fun x => bnd (asI x) fun i => ret (.int (-i))) := by
  intro E ρ σ G H μ st Q er hres
  refine h E ρ σ G H μ st _ er (hres.bnd.mono (fun x s1 h1 v1 G1 H1 μ1 e1 w1 p1 => ?_) fun c s1 h1 => h1)
  obtain ⟨i, rfl, h2⟩ := asI_bnd h1
  exact ⟨i, po_int p1, h2 (.int (-i)) G1 H1 μ1 e1 w1 pk_int⟩
theorem RdO.zero {md : Nat} {r : R2} {g : D → D → M D} (hm : md ≤ 1) (h : RdO T md r g) : ∀ {n ma mb : Nat} {ta tb : TE} {fa fb : Env → M D}, RdE T mu n W ma ta fa → RdE T mu n W mb tb fb →
    RdE T mu n W 0 (tOp r ta tb) (fun ρ => bnd (fa ρ) fun x => bnd (fb ρ) fun y => g x y) := fun ha hb => (rd_op ha hb h).zero hm
theorem rd_chn {n ma mb mc : Nat} {r r' : R2} {g g' : D → D → M D} {ta tb tc : TE} {fa fb fc : Env → M D} (ha : RdE T mu n W ma ta fa) (hb : RdE T mu n W mb tb fb) (hc : RdE T mu n W mc tc fc) (hr : RdO T 1 r g) (hr' : RdO T 1 r' g') :
    RdE T mu n W 1 (tChain r r' ta tb tc) (fun ρ => bnd (fa ρ) fun x => bnd (fb ρ) fun y => bnd (bnd (g x y) asB) fun k => if k then bnd (fc ρ) fun z => g' y z else ret (.bl false)) := by
  intro E ρ σ G H μ st Q er hres
  refine ha E ρ σ G H μ st _ er (hres.bnd.mono (fun x s1 h1 v1 G1 H1 μ1 e1 w1 p1 => ?_) fun c s1 h1 => h1)
  refine hb E ρ σ G1 H1 μ1 s1 _ (er.ev e1 w1) (h1.bnd.mono (fun y s2 h2 v2 G2 H2 μ2 e2 w2 p2 => ?_) fun c s2 h2 => WK.ev h2 e1)
  rw [bnd_assoc] at h2
  refine hr x y v1 v2 G2 H2 μ2 s2 _ w2 ((p1.two w1.gh).later e2).any (p2.two w2.gh).any (h2.bnd.mono (fun d s3 h3 v G3 H3 e3 w3 p3 => ?_) fun _ _ _ => trivial)
  obtain ⟨b, rfl, h4⟩ := asB_bnd h3
  refine ⟨b, po_bl p3, ?_⟩
  have e13 := (e1.trans e2).trans e3
  cases b with
  | false => exact h4 (.bl false) G3 H3 μ2 e13 w3 pk_bl
  | true =>
    refine hc E ρ σ G3 H3 μ2 s3 _ (er.ev e13 w3) (Res.bnd h4 |>.mono (fun z s4 h5 v4 G4 H4 μ4 e4 w4 p4 => ?_) fun c s4 h5 => WK.ev h5 e13)
    refine hr' y z v2 v4 G4 H4 μ4 s4 Q w4 (Po.later (H := H2) (Po.any (H2 := H2) ((p2.two w2.gh).later e3)) e4).any (p4.two w4.gh).any (h5.mono (fun d s5 h6 v G' H' e5 w5 p5 => ?_) fun _ _ _ => trivial)
    exact h6 v G' H' μ4 ((e13.trans e4).trans e5) w5 (p5.back (e13.trans e4).i)
/-! ### slices -/
def RdP (T : Rt) (mu : List Nat) (n : Nat) (W : WX) (t : TO) (f : Env → M (Option Int)) : Prop := ∀ (E : EW) (ρ : Env) (σ : St) (G H : Hp) (μ : List Addr) (st : Sto) (Q : Option Int → Hp → Prop), Er T mu n E ρ σ G H μ st →
  Res (f ρ st) (fun d st' => ∀ G' H' μ', Ev G H μ G' H' μ' → WOk T G' H' μ' st' → Q d H') (WK T W G H μ σ) → t σ H Q
theorem rd_pnone {n : Nat} : RdP T mu n W tNoPart (fun _ => ret none) := by
  intro E ρ σ G H μ st Q er hres
  exact hres G H μ (Ev.refl _ _ _) er.w
theorem rd_psome {n md : Nat} {t : TE} {f : Env → M D} (h : RdE T mu n W md t f) : RdP T mu n W (tPart t) (fun ρ => bnd (f ρ) fun d => bnd (asI d) fun i => ret (some i)) := by
  intro E ρ σ G H μ st Q er hres
  refine h E ρ σ G H μ st _ er (hres.bnd.mono (fun x s1 h1 v1 G1 H1 μ1 e1 w1 p1 => ?_) fun c s1 h1 => h1)
  obtain ⟨i, rfl, h2⟩ := asI_bnd h1
  exact ⟨i, po_int p1, h2 G1 H1 μ1 e1 w1⟩
theorem rd_sl {n md : Nat} {t : TE} {tl th : TO} {f : Env → M D} {fl fh : Env → M (Option Int)} (h : RdE T mu n W md t f) (hl : RdP T mu n W tl fl) (hh : RdP T mu n W th fh) :
    RdE T mu n W 1 (tSl (rSl T.K) t tl th) (fun ρ => bnd (f ρ) fun x => bnd (fl ρ) fun l => bnd (fh ρ) fun u => slD x l u) := by
  intro E ρ σ G H μ st Q er hres
  refine h E ρ σ G H μ st _ er (hres.bnd.mono (fun x s1 h1 v1 G1 H1 μ1 e1 w1 p1 => ?_) fun c s1 h1 => h1)
  refine hl E ρ σ G1 H1 μ1 s1 _ (er.ev e1 w1) (h1.bnd.mono (fun l s2 h2 G2 H2 μ2 e2 w2 => ?_) fun c s2 h2 => WK.ev h2 e1)
  refine hh E ρ σ G2 H2 μ2 s2 _ (er.ev (e1.trans e2) w2) (h2.bnd.mono (fun u s3 h3 G3 H3 μ3 e3 w3 => ?_) fun c s2 h2 => WK.ev h2 (e1.trans e2))
  have e13 := (e1.trans e2).trans e3
  refine o_sl l u x v1 G3 H3 μ3 s3 Q w3 ((p1.two w1.gh).later (e2.trans e3)).any (h3.mono (fun d s4 h4 v G' H' e4 w4 p4 => ?_) fun _ _ _ => trivial)
  exact h4 v G' H' μ3 (e13.trans e4) w4 (p4.back e13.i)
end
end BX

set_option Elab.async false
set_option linter.all false
set_option maxRecDepth 100000
/-! BS8: sorted of lists, tuples. -/
namespace BX
open PySem PySem.Spec PyProof.Rows L2
open PySem.W (alike alikeAll dataLt keyToksAll keyToks AllAlike Sortable dataLe EachIs TotalLe sort_maps SortsAt sortingHeap sortingHeap_old each_map bound_map dataKind sortVals_length sortVals_data list_sort_vals)
section
variable {prog : Program} {w : World} {A : Around} {E : Value → Shared → Prop} {s : Shared}
theorem sorted_gen {it : Value} {Q : Value → Shared → Prop} {β : Type} {enc : β → PyData} {R : Value → β → Prop} (Cd : List Value → Shared → List β → Prop)
    (hc : ∀ (E' : Value → Shared → Prop) (Q' : List Value → Shared → Prop), (∀ cs s' bs, Cd cs s' bs → Q' cs s') → wpAny (model prog w) A.in1 (collect it) Q' E' s)
    (hd : ∀ cs s' bs, Cd cs s' bs → EachIs R cs bs ∧ EachIs (fun v b => ∃ as, Reads s'.heap v (enc b) as) cs bs ∧ AllAlike (bs.map enc) ∧ Sortable (bs.map enc) ∧ bs.length ≤ sizeLine ∧ ∀ b, b ∈ bs → A.units + 2 + (enc b).depth < cLine)
    (h : ∀ cs s' bs, Cd cs s' bs → ∀ out h' a n, (∀ b o, s'.heap.get? b = some o → h'.get? b = some o) → s'.heap.objs.size ≤ a → h'.get? a = some (seqObj "list" (List.toArray out) n) → out.length = bs.length → EachIs R out (bs.mergeSort (dataLe false enc)) → Q (.ref a) { s' with heap := h' }) :
    wpAny (model prog w) A (call (.builtin "sorted") [it]) Q E s := by
  refine Calls.call_function_entry kind_sorted plain_sorted entry_sorted (args_sorted1 _) ?_
  unfold Builtin.«sorted»
  refine wpAny_bind (m := checkCount "sorted" 1 1 _) (wpAny_pure ?_)
  refine wpAny_bind (hc _ _ fun cs s' bs cd => ?_)
  obtain ⟨e, er, hal, hk, hL, hu⟩ := hd cs s' bs cd
  have hfin := h cs s' bs cd
  have hz : cs.length ≤ sizeLine := by rw [e.length]; exact hL
  refine wpAny_bind (wpAny_newList ?_ hz)
  have ho : (s'.heap.push (seqObj "list" cs.toArray 0)).get? s'.heap.objs.size = some (seqObj "list" cs.toArray 0) := Heap.get?_push_size _ rfl
  have old : ∀ b o, s'.heap.get? b = some o → (sortingHeap (s'.heap.push (seqObj "list" cs.toArray 0)) s'.heap.objs.size cs).get? b = some o := fun b o q =>
    sortingHeap_old (Nat.ne_of_lt (Heap.lt_size q)) (Heap.get?_push_of_some _ q)
  have er' : EachIs (fun v b => ∃ as, Reads (sortingHeap (s'.heap.push (seqObj "list" cs.toArray 0)) s'.heap.objs.size cs) v (enc b) as) cs bs := er.mono fun _ _ ⟨as, r⟩ => ⟨as, PyProof.Rows.Reads.keeps old r⟩
  show wpAny _ _ _ _ _ { s' with heap := s'.heap.push (seqObj "list" cs.toArray 0) }
  refine wpAny_bind (wpAny_holding (wpAny_call_entry slot_list_sort ⟨_, ho, rfl⟩ entry_list_sort ?body (args_list_sort _)))
  case body =>
    refine list_sort_vals (s := { s' with heap := s'.heap.push (seqObj "list" cs.toArray 0) }) (κ := dataKind (sortingHeap (s'.heap.push (seqObj "list" cs.toArray 0)) s'.heap.objs.size cs) (bs.map enc)) ho
      (SortsAt.data (s := { s' with heap := sortingHeap (s'.heap.push (seqObj "list" cs.toArray 0)) s'.heap.objs.size cs }) (each_map (R := fun v d => ∃ as, Reads (sortingHeap (s'.heap.push (seqObj "list" cs.toArray 0)) s'.heap.objs.size cs) v d as) enc er') hal hk (bound_map hu))
      hz ⟨.none, rfl, wpAny_pure ⟨_, rfl, ?_⟩⟩
    obtain ⟨ep, he'⟩ := sortedHeap_at (vs := cs) (out := (PySem.W.sortVals (dataKind (sortingHeap (s'.heap.push (seqObj "list" cs.toArray 0)) s'.heap.objs.size cs) (bs.map enc)) false cs cs).toArray) ho
    refine hfin _ _ _ ep (fun b o q => ?_) (Nat.le_refl _) he' (by rw [sortVals_length false rfl]; exact e.length) (sortVals_data false e er' hal)
    rw [sortedHeap_old (Nat.ne_of_lt (Heap.lt_size q)) (by rw [size_push']; exact Nat.lt_succ_of_lt (Heap.lt_size q))]
    exact Heap.get?_push_of_some _ q
end
/-- sorted(xs), xs a list or a tuple -/
def rSortS (K : PySem.W.Frag) : List V → Hp → VK → Prop := fun vs H Q => ∃ (a : Addr) (xs : List V) (ps : List PyData), vs = [.ref a] ∧ (SqL K H a xs ∨ SqT K H a xs) ∧ DpAll K H xs ps ∧ AllAlike ps ∧ Sortable ps ∧ (∀ d ∈ ps, d.depth ≤ 60) ∧ xs.length ≤ sizeLine ∧
  ∀ p, H p = none → Q (.ref p) (upd H p (.lst (((xs.zip ps).mergeSort (dataLe false Prod.snd)).map Prod.fst)))
section
variable {X : Cx} {pins : List (Addr × Obj)} {σ : L2.St} {H : Hp} {s : Shared}
theorem p_sortS (hu : X.A.units + 65 < cLine) : CallR X (.builtin "sorted") (rSortS X.K) := by
  intro pins s σ H vs us Q I r h
  obtain ⟨a, xs, ps, rfl, hs, hd, al, so, dp, hz, q⟩ := h
  rw [Vals.ref1 r]
  obtain ⟨its, rv, hcol⟩ : ∃ its, Vals xs its ∧ ∀ (A : Around) (E : Value → Shared → Prop) (Q' : List Value → Shared → Prop), (∀ h', (∀ b o', s.heap.get? b = some o' → h'.get? b = some o') → Q' its { s with heap := h' }) → wpAny (model X.prog X.w) A (collect (.ref a)) Q' E s := by
    rcases hs with hs | hs
    · obtain ⟨its, rv, hl, hz2⟩ := I.list hs
      obtain ⟨o, ho, hc, n, hd⟩ := hl.isList
      refine ⟨its, rv, fun A E Q' hq => ?_⟩
      refine wpAny_collect_seq a (.inl rfl) ho hc hd (fun h' hk => ?_) (by rw [List.size_toArray, ← rv.length]; exact hz)
      have := hq h' hk
      simpa using this
    · obtain ⟨its, rv, hl, hz2⟩ := I.tuple hs
      obtain ⟨o, ho, hc, n, hd⟩ := hl
      refine ⟨its, rv, fun A E Q' hq => ?_⟩
      refine wpAny_collect_seq a (.inr rfl) ho hc hd (fun h' hk => ?_) (by rw [List.size_toArray, ← rv.length]; exact hz)
      have := hq h' hk
      simpa using this
  have hlen := dpAll_len hd
  have hzip : (xs.zip ps).length = xs.length := by rw [List.length_zip]; omega
  have e2 : (xs.zip ps).map Prod.snd = ps := zip_snd hlen
  refine sorted_gen (enc := Prod.snd) (R := fun v (b : V × PyData) => RelV b.1 v) (fun cs s' bs => cs = its ∧ bs = xs.zip ps ∧ ∃ h', (∀ b o', s.heap.get? b = some o' → h'.get? b = some o') ∧ s' = { s with heap := h' })
    (fun E' Q' hq => hcol _ _ _ fun h' hk => hq _ _ _ ⟨rfl, rfl, h', hk, rfl⟩) (fun cs s' bs hcd => ?_) (fun cs s' bs hcd out h' p n k1 k2 k3 k4 k5 => ?_)
  · obtain ⟨rfl, rfl, h', hk, rfl⟩ := hcd
    have I' : Inv X pins σ H { s with heap := h' } := I.kept (t' := s.toks) hk
    refine ⟨each_rel rv hlen, each_reads I' hd rv, by rw [e2]; exact al, by rw [e2]; exact so, by rw [hzip]; exact hz, fun b hb => ?_⟩
    have : b.2 ∈ ps := by rw [← e2]; exact List.mem_map.mpr ⟨b, hb, rfl⟩
    have := dp _ this
    omega
  · obtain ⟨rfl, rfl, h1, hk, rfl⟩ := hcd
    have I' : Inv X pins σ H { s with heap := h1 } := I.kept (t' := s.toks) hk
    have hv := vals_each k5
    have hzl : (((xs.zip ps).mergeSort (dataLe false Prod.snd)).map Prod.fst).length ≤ sizeLine := by
      rw [hv.length, k4, hzip]
      exact hz
    exact ⟨.ref _, _, I'.laid (t' := s.toks) (o := .lst (((xs.zip ps).mergeSort (dataLe false Prod.snd)).map Prod.fst)) k1 k2 (show ObjOk X.prog X.w _ _ _ (.lst _) from ⟨hzl, out, n, hv, k3⟩), rfl, q _ (I'.hok.fresh k2)⟩
end
variable {T : Rt} {mu : List Nat} {n : Nat} {W : WX}
theorem o_sort : RdU T 1 (fun x H Q => rSortS T.K [x] H Q) sortD := by
  intro x vx G H μ st Q w px h
  have key : ∀ (ds : List D) (l : Addr) (xs : List V), items x = some ds → vx = .ref l → (SqL T.K H l xs ∨ SqT T.K H l xs) → xs.length ≤ LIM → RpL T.K G μ ds xs → rSortS T.K [vx] H Q := by
    intro ds l xs e1 ev hs h2 h3
    unfold sortD at h
    rw [e1] at h
    by_cases hc : okSort ds = true
    · simp only [if_pos hc] at h
      unfold okSort at hc
      rw [Bool.and_eq_true, Bool.and_eq_true] at hc
      obtain ⟨q1, q2, q3⟩ := dps_of w.gh 60 ds xs (shL_of hc.1.1) h3
      have sv := sort_vals h3 hc.1.1 hc.1.2
      refine ⟨l, xs, toPyL ds, by rw [ev], hs, q1, alike_ds hc.1.1 hc.1.2, sortable_ds hc.2, fun d hd => ?_, by rw [limS]; exact h2, fun p hp => ?_⟩
      · rw [toPyL_map] at hd
        obtain ⟨y, hy, rfl⟩ := List.mem_map.mp hd
        obtain ⟨i, hi⟩ := List.getElem?_of_mem hy
        obtain ⟨v, _, hv⟩ := h3.get hi
        exact (dp_of w.gh 60 y v (List.all_eq_true.mp hc.1.1 y hy) hv).2.2
      · obtain ⟨e1, w1⟩ := new_lst w hp (((xs.zip (toPyL ds)).mergeSort (dataLe false Prod.snd)).map Prod.fst)
        refine h _ _ _ e1 w1 (po_new w.gh hp ?_ sv)
        rw [List.length_map, List.length_mergeSort, List.length_zip]
        omega
    · simp only [if_neg hc] at h
      exact h.elim
  cases x with
  | lst ds =>
    obtain ⟨l, xs, ev, h1, h2, h3⟩ := po_lst px
    exact key ds l xs rfl ev (.inl (.inl (.inl h1))) h2 h3
  | tup ds =>
    obtain ⟨l, xs, ev, h1, h2, h3⟩ := po_tup px
    exact key ds l xs rfl ev (.inr (w.gh.sqt h1)) h2 h3
  | _ => exact h.elim
end BX

set_option Elab.async false
set_option linter.all false
set_option maxRecDepth 100000
/-! BS9: enumerate, zip over lists and tuples, as turns. -/
namespace BX
open PySem PySem.Spec PyProof.Rows L2
open AutoSeq1 (wpAny_loadPart')
/-- a list (false) or a tuple (true) -/
def SqK (b : Bool) (K : PySem.W.Frag) (H : Hp) (a : Addr) (xs : List V) : Prop := match b with
  | false => SqL K H a xs
  | true => SqT K H a xs
def IsSeqK (b : Bool) (h : Heap) (a : Addr) (items : Array Value) : Prop := match b with
  | false => h.IsList a items
  | true => h.IsTuple a items
def IterK (b : Bool) (h : Heap) (it a : Addr) (i : Nat) : Prop := match b with
  | false => h.IsListIter it a i
  | true => h.IsTupleIter it a i
def itObj (b : Bool) (a : Addr) : Obj := match b with
  | false => { cls := .type "list_iterator", data := .fields #[.ref a, .int 0 0] }
  | true => { cls := .type "tuple_iterator", data := .fields #[.ref a, .int 0 0] }
theorem begins_k (b : Bool) (a : Addr) (items : Array Value) : Begins (.ref a) (itObj b a) fun h => IsSeqK b h a items := by
  cases b with
  | false => exact begins_list a items
  | true => exact begins_tuple a items
theorem iterK_new {b : Bool} {h : Heap} {it a : Addr} (e : h.get? it = some (itObj b a)) : IterK b h it a 0 := by
  cases b with
  | false => exact ⟨_, e, rfl, rfl⟩
  | true => exact ⟨_, e, rfl, rfl⟩
theorem iterK_at {b : Bool} {h h' : Heap} {it a : Addr} {i : Nat} (x : IterK b h it a i) (e : ∀ o, h.get? it = some o → h'.get? it = some o) : IterK b h' it a i := by
  cases b with
  | false => exact Heap.IsListIter.at x e
  | true => exact Heap.IsTupleIter.at x e
theorem iterK_obj {b : Bool} {h : Heap} {it a : Addr} {i : Nat} (x : IterK b h it a i) : ∃ o, h.get? it = some o ∧ (∃ n, o.cls = .type n ∧ n ≠ "enumerate" ∧ n ≠ "zip" ∧ n ≠ "tuple" ∧ n ≠ "list") ∧ ∀ v, o.data ≠ .cell v := by
  cases b with
  | false =>
    obtain ⟨o, e, c, d⟩ := x
    exact ⟨o, e, ⟨_, c, by decide, by decide, by decide, by decide⟩, fun v z => by rw [d] at z; cases z⟩
  | true =>
    obtain ⟨o, e, c, d⟩ := x
    exact ⟨o, e, ⟨_, c, by decide, by decide, by decide, by decide⟩, fun v z => by rw [d] at z; cases z⟩
theorem seqK_obj {b : Bool} {h : Heap} {a : Addr} {items : Array Value} (x : IsSeqK b h a items) : ∃ o, h.get? a = some o ∧ (o.cls = .type "list" ∨ o.cls = .type "tuple") := by
  cases b with
  | false => obtain ⟨o, e, c, _⟩ := x; exact ⟨o, e, .inl c⟩
  | true => obtain ⟨o, e, c, _⟩ := x; exact ⟨o, e, .inr c⟩
theorem seq_ne_iter {b c : Bool} {h : Heap} {a it a' : Addr} {i : Nat} {items : Array Value} (x : IsSeqK b h a items) (y : IterK c h it a' i) : a ≠ it := fun z => by
  subst z
  obtain ⟨o, e, k⟩ := seqK_obj x
  obtain ⟨o', e', ⟨n, c1, _, _, c2, c3⟩, _⟩ := iterK_obj y
  rw [e] at e'
  cases e'
  rcases k with k | k <;> (rw [k] at c1; injection c1 with c1; subst c1; first | exact c2 rfl | exact c3 rfl)
theorem draws_k {prog : Program} {w : World} {A : Around} (hh : A.handled = none) (b : Bool) (it a : Addr) (hne : a ≠ it) (items : Array Value) :
    Draws prog w A it [it, a] items.size (fun i v => items[i]? = some v) (fun i h => IterK b h it a i ∧ IsSeqK b h a items) := by
  cases b with
  | false => exact Draws.list hh it a hne items
  | true => exact Draws.tuple hh it a hne items
section
variable {X : Cx} {pins : List (Addr × Obj)} {σ : L2.St} {H : Hp} {s : Shared} {b : Bool} {a : Addr} {xs ys : List V}
theorem inv_seqK (I : Inv X pins σ H s) (h : SqK b X.K H a xs) : ∃ its, Vals xs its ∧ IsSeqK b s.heap a its.toArray := by
  cases b with
  | false =>
    obtain ⟨its, rv, p, hz⟩ := I.list h
    exact ⟨its, rv, p.isList⟩
  | true =>
    obtain ⟨its, rv, p, hz⟩ := I.tuple h
    exact ⟨its, rv, p⟩
theorem inv_injK (I : Inv X pins σ H s) (h : SqK b X.K H a xs) (h' : SqK b X.K H a ys) : xs = ys := by
  cases b with
  | false => exact I.list_inj h h'
  | true => exact I.tuple_inj h h'
end
/-! ### enumerate -/
theorem meets_enum_newB {v1 : Value} {o1 : Obj} {H1 : Heap → Prop} (B1 : Begins v1 o1 H1) :
    Meets (Builtin.«enumerate.__new__» ⟨[.type "enumerate", v1], []⟩) (fun _ R s => H1 s.heap ∧
      R (.ok (.ret (.ref (s.heap.push o1).objs.size))) { s with heap := (s.heap.push o1).push { cls := .type "enumerate", data := .fields #[.none, .bool false, .ref s.heap.objs.size, rawInt 0, .none, .none] } }) :=
  .of_wp fun prog w A R s h => by
    obtain ⟨hp, g, d, tk, os⟩ := s
    obtain ⟨h1, h⟩ := h
    have hsub := sub_enumerate
    have q1 : ∀ {A' : Around} {E : Value → Shared → Prop} {Q : Value → Shared → Prop}, Q (.ref hp.objs.size) ⟨(hp.push o1), g, d, tk, os⟩ → wpAny (model prog w) A' (pyIter v1) Q E ⟨hp, g, d, tk, os⟩ :=
      fun q => B1.iter prog w _ _ ⟨hp, g, d, tk, os⟩ _ (B1.keeps _ _ h1 fun b o' e => e) q
    wp_walk
    refine wpAny_stack_any fun st => wpAny_pure ?_
    split
    · rename_i c _ _ _ _ _
      cases (c == Value.type "enumerate")
      · wp_walk using q1
        exact ⟨_, rfl, h⟩
      · wp_walk using q1
        exact ⟨_, rfl, h⟩
    · wp_walk using q1
      exact ⟨_, rfl, h⟩
theorem call_enumB {prog : Program} {w : World} {A : Around} {E : Value → Shared → Prop} {s : Shared} {v1 : Value} {o1 : Obj} {H1 : Heap → Prop} {Q : Value → Shared → Prop} (B1 : Begins v1 o1 H1) (h1 : H1 s.heap)
    (h : ∀ h', IsEnum h' (s.heap.objs.size + 1) s.heap.objs.size 0 .none → h'.get? s.heap.objs.size = some o1 → h'.objs.size = s.heap.objs.size + 2 →
      (∀ b o, s.heap.get? b = some o → h'.get? b = some o) → Q (.ref (s.heap.objs.size + 1)) { s with heap := h' }) :
    wpAny (model prog w) A (call (.type "enumerate") [v1]) Q E s := by
  refine callType_new F.called_enumerate (by decide) (F.typeCall_enumerate_1 _) (F.newCall_enumerate_1 _) (fun obj => F.args_object_init_2 obj _) F.entry_enumerate_new
    (meets_enum_newB B1) ⟨h1, ?_⟩
  have hz : (s.heap.push o1).objs.size = s.heap.objs.size + 1 := Heap.size_push ..
  show _ ∧ _
  rw [hz]
  have he : IsEnum ((s.heap.push o1).push
      { cls := .type "enumerate", data := .fields #[.none, .bool false, .ref s.heap.objs.size, rawInt 0, .none, .none] }) (s.heap.objs.size + 1) s.heap.objs.size 0 .none := by
    have := Heap.get?_push_size (s.heap.push o1)
      (o := { cls := .type "enumerate", data := .fields #[.none, .bool false, .ref s.heap.objs.size, rawInt 0, .none, .none] }) rfl
    rw [hz] at this; exact this
  refine ⟨⟨_, he, rfl⟩, h _ he (Heap.get?_push_of_some _ (Heap.get?_push_size _ B1.free)) (by rw [Heap.size_push, hz]) fun b o y => Heap.get?_push_of_some _ (Heap.get?_push_of_some _ y)⟩
/-- the sequence at a as it stands at each turn, each item in a new pair -/
def IteK (b : Bool) (K : PySem.W.Frag) (a : Addr) : It :=
  ⟨fun i H => ∃ (xs : List V) (x : V), SqK b K H a xs ∧ xs[i]? = some x, fun i H v H' => ∃ T x, v = .ref T ∧ H T = none ∧ H' = upd H T (.tup [.int (i : Nat), x]) ∧ ∀ xs, SqK b K H a xs → xs[i]? = some x, fun i H => ∃ xs : List V, SqK b K H a xs ∧ xs.length ≤ i⟩
theorem turn_enumK {P : Program} {w : World} {K : PySem.W.Frag} {elts : List Expr} {kk : Nat} {tpos : Pos} (b : Bool) (a e it : Addr) :
    Turn P w K (.Tuple elts kk tpos) (IteK b K a) [e, it] e (fun i h => (∃ old, IsEnum h e it ((i : Nat) : Int) old) ∧ IterK b h it a i ∧ e ≠ it) where
  mem := by simp
  obj := fun i h st c hc => by
    obtain ⟨⟨old, he⟩, hit, _⟩ := st
    have e' : c = e ∨ c = it := by simpa using hc
    rcases e' with z | z
    · rw [z]; exact ⟨_, he, fun v q => nomatch q⟩
    · rw [z]
      obtain ⟨o, h1, _, h2⟩ := iterK_obj hit
      exact ⟨o, h1, h2⟩
  keep := fun i h h' st k => let ⟨⟨old, he⟩, hi, hne⟩ := st; ⟨⟨old, k e (by simp) _ he⟩, iterK_at hi fun o q => k it (by simp) o q, hne⟩
  item := by
    intro X hP hw hK hc i pins s σ H E I hf st hg
    subst hP hw hK
    obtain ⟨⟨old, he⟩, hit, hne⟩ := st
    obtain ⟨xs, x, hq, hx⟩ := hg
    obtain ⟨its, rv, p⟩ := inv_seqK I hq
    obtain ⟨u, hu, ru⟩ := rv.get hx
    have hel : e < s.heap.objs.size := Heap.lt_size he
    have hil : it < s.heap.objs.size := by obtain ⟨_, q, _⟩ := iterK_obj hit; exact Heap.lt_size q
    have hae : a ≠ e := fun z => by
      obtain ⟨o, q, k⟩ := seqK_obj p
      rw [z, he] at q
      cases q
      rcases k with k | k
      · exact absurd (show Value.type "enumerate" = Value.type "list" from k) (by decide)
      · exact absurd (show Value.type "enumerate" = Value.type "tuple" from k) (by decide)
    have hlt : i < its.toArray.size := by
      obtain ⟨h1, _⟩ := List.getElem?_eq_some_iff.mp hu
      simpa using h1
    refine wpAny_pyNext_enum_itemD (draws_k (A := X.A.in1) (I.ok.hd hc) b it a (seq_ne_iter p hit) its.toArray) he ⟨hit, p⟩ hlt hne (by simp [hne, Ne.symm hae]) fun x' h' tk hx' ho st' hT hsz hk => ?_
    have ex : x' = u := by
      rw [show its.toArray[i]? = some u by simpa using hu] at hx'
      exact (Option.some.inj hx').symm
    subst ex
    obtain ⟨hit', _⟩ := st'
    refine ⟨_, rfl, wpAny_letOwnedTupleGo_enum (s := { s with heap := h', toks := tk + 1 }) ho fun h'' he' sb => ?_⟩
    have hT2 : h''.get? s.heap.objs.size = some { cls := .type "tuple", data := .seq #[.int i tk, x'] } := (sb.2 _ (Nat.ne_of_gt hel)).trans hT
    have new : ObjOk X.prog X.w (upd H s.heap.objs.size (.tup [.int (i : Nat), x])) h'' s.heap.objs.size (.tup [.int (i : Nat), x]) :=
      ⟨by show 2 ≤ sizeLine; decide, [.int i tk, x'], .cons ⟨_, rfl⟩ (.cons ru .nil), ⟨_, hT2, rfl, _, rfl⟩⟩
    have I1 : Inv X pins σ (upd H s.heap.objs.size (.tup [.int (i : Nat), x])) { s with heap := h'', toks := tk + 1 } :=
      I.turnedNew (ch := [e, it]) (fun c ob hb q => (sb.2 c (fun z => hb (by simp [z]))).trans (hk c ob (fun z => hb (by simp [z])) (fun z => hb (by simp [z])) q)) hf (Nat.le_refl _) new
    refine ⟨.ref s.heap.objs.size, _, I1, rfl, ⟨_, x, rfl, I.hok.fresh (Nat.le_refl _), rfl, fun ys hy => by rw [inv_injK I hy hq]; exact hx⟩, ⟨⟨x', ?_⟩, iterK_at hit' fun o q => (sb.2 it (Ne.symm hne)).trans q, hne⟩, fun c hc => ?_⟩
    · have e1 : ((i + 1 : Nat) : Int) = (i : Int) + 1 := by omega
      rw [e1]; exact he'
    · have hb' : c < s.heap.objs.size := by
        have e' : c = e ∨ c = it := by simpa using hc
        rcases e' with z | z
        · rw [z]; exact hel
        · rw [z]; exact hil
      rw [upd_ne (Nat.ne_of_lt hb')]
      exact (hf c hc).1
  done := by
    intro X hP hw hK hc i pins s σ H E I hf st hg
    subst hP hw hK
    obtain ⟨⟨old, he⟩, hit, hne⟩ := st
    obtain ⟨xs, hq, hx⟩ := hg
    obtain ⟨its, rv, p⟩ := inv_seqK I hq
    obtain ⟨f0, f1, f2, f3, f4, f5⟩ := hf it (by simp)
    have hl := rv.length
    have hend : ∀ (Q : Option Value → Shared → Prop), (∀ h', Heap.ExtBut it s.heap h' → Q none { s with heap := h' }) → wpAny (model X.prog X.w) X.A (pyNext (.ref e)) Q E s := by
      intro Q hQ
      have hT : s.TypeIs (.ref e) "enumerate" := ⟨_, he, rfl⟩
      unfold pyNext
      refine wpAny_bind (wpAny_attempt (wpAny_callSpecial?_slot (name := Str.ofString "__next__") hT F.slot_enumerate_next
        (wpAny_call_entry F.slot_enumerate_next hT F.entry_enumerate_next ?_ (F.args_enumerate_next_1 _))))
      show wpAny _ _ (field (.ref e) 2 >>= _) _ _ _
      refine wpAny_bind (wpAny_field he rfl (x := .ref it) rfl ?_)
      cases b with
      | false =>
        refine wpAny_bind (wpAny_nextOf_list_end (I.ok.hd hc) hit p (by simp; omega) fun h' x he' hx' => ?_)
        obtain ⟨o, ho, hc⟩ := hx'
        refine wpAny_bind (wpAny_isInstance (T := "StopIteration") (b := true) ⟨o, ho, hc⟩ isSubtype_stop ?_)
        exact wpAny_pure (hQ _ he')
      | true =>
        refine wpAny_bind (wpAny_nextOf_tuple_end (I.ok.hd hc) hit p (by simp; omega) fun h' x he' hx' => ?_)
        obtain ⟨o, ho, hc⟩ := hx'
        refine wpAny_bind (wpAny_isInstance (T := "StopIteration") (b := true) ⟨o, ho, hc⟩ isSubtype_stop ?_)
        exact wpAny_pure (hQ _ he')
    exact hend _ fun h' eb => ⟨rfl, I.turned (t' := s.toks) (fun c o hb q => eb c o hb q) f0 f1 f3 f4 f5⟩
  self := fun A i s Q E st h => let ⟨⟨_, he⟩, _⟩ := st; wpAny_pyIter_enum he h
def iEnumK (K : PySem.W.Frag) (te : TE) : TI := fun σ H R => te σ H fun v H1 => ∃ b a xs, [v] = [V.ref a] ∧ SqK b K H1 a xs ∧ R (IteK b K a) H1
theorem pi_enumK {X : Cx} {e : Expr} {te : TE} {p pos tpos : Pos} {elts : List Expr} {kk : Nat} (hg : Gl X "enumerate") (hm : X.mg "enumerate" = none) (ha : PE X e te) (hs : starEach [e] X.env = [(false, eval e X.env)]) :
    PI X (.Tuple elts kk tpos) (.Call (.Name "enumerate" p) [e] [] pos) (iEnumK X.K te) := by
  refine ⟨fun pins s σ H R I h => ?_⟩
  have hpa : PA X [e] (tCons te tNil) := pa_cons ha pa_nil hs
  refine Call_ (ld_blt I hg hm boot_enumerate (PyProof.Rows.callWith_type1 (thn (hpa.run pos pins s σ H (fun vs H1 => ∃ b a xs, vs = [V.ref a] ∧ SqK b X.K H1 a xs ∧ R (IteK b X.K a) H1) I h) fun us s1 ⟨vs, H1, I1, r1, q1⟩ => ?_) hs rfl))
  obtain ⟨b, a, xs, ex, hq, q⟩ := q1
  subst ex
  rw [Vals.ref1 r1]
  obtain ⟨its, rv, p'⟩ := inv_seqK I1 hq
  refine call_enumB (begins_k b a its.toArray) p' fun h' he hit hsz hk => wpAny_pyIter_enum he ?_
  have I2 : Inv X pins σ H1 { s1 with heap := h' } := I1.kept (t' := s1.toks) hk
  refine ⟨s1.heap.objs.size + 1, [s1.heap.objs.size + 1, s1.heap.objs.size], _, _, H1, rfl, I2, turn_enumK b a (s1.heap.objs.size + 1) s1.heap.objs.size, ⟨⟨.none, he⟩, iterK_new hit, Nat.succ_ne_self _⟩, fun c hb => ?_, q⟩
  have e' : c = s1.heap.objs.size + 1 ∨ c = s1.heap.objs.size := by simpa using hb
  have hle : s1.heap.objs.size ≤ c := by
    rcases e' with z | z
    · rw [z]; exact Nat.le_add_right _ _
    · rw [z]; exact Nat.le_refl _
  exact I1.fpOk hle (I1.hok.fresh hle)
end BX

set_option Elab.async false
set_option linter.all false
set_option maxRecDepth 100000
/-! BS10: iterables, targets, comprehensions. -/
namespace BX
open PySem PySem.Spec PyProof.Rows L2
variable {T : Rt} {mu : List Nat} {n : Nat} {W : WX}
theorem Res.of_ok {α β : Type} {m : M α} {f : α → M β} {s s' : Sto} {a : α} {k : β → Sto → Prop} {x : Xc → Sto → Prop} (e : m s = .ok a s') (h : Res (BX.bnd m f s) k x) : Res (f a s') k x := by
  unfold BX.bnd at h
  rw [e] at h
  exact h
theorem Res.of_ex {α β : Type} {m : M α} {f : α → M β} {s s' : Sto} {c : Xc} {k : β → Sto → Prop} {x : Xc → Sto → Prop} (e : m s = .ex c s') (h : Res (BX.bnd m f s) k x) : x c s' := by
  unfold BX.bnd at h
  rw [e] at h
  exact h
theorem Res.of_bad {α β : Type} {m : M α} {f : α → M β} {s : Sto} {k : β → Sto → Prop} {x : Xc → Sto → Prop} (e : m s = .bad) (h : Res (BX.bnd m f s) k x) : False := by
  unfold BX.bnd at h
  rw [e] at h
  exact h
def Wk (T : Rt) (J : It) (ds : List D) (C : Hp → Hp → List Addr → Prop) : Prop :=
  ∀ (i : Nat) (G H : Hp) (μ : List Addr) (st : Sto), C G H μ → WOk T G H μ st →
    (i < ds.length → J.go i H) ∧ (i = ds.length → J.stop i H) ∧
    ∀ x H', i < ds.length → J.yld i H x H' → ∃ d G', ds[i]? = some d ∧ Ev G H μ G' H' μ ∧ WOk T G' H' μ st ∧ Rp T.K G' μ d x
def Cd (fz : Bool) (G1 H1 : Hp) (μ1 : List Addr) : Hp → Hp → List Addr → Prop := fun G H μ => match fz with
  | true => Sub G1 G ∧ Pre μ1 μ
  | false => Ev G1 H1 μ1 G H μ
def RdI (T : Rt) (mu : List Nat) (n : Nat) (W : WX) (fz : Bool) (wi : TI) (f : Env → M (List D)) : Prop :=
  ∀ (E : EW) (ρ : Env) (σ : St) (G H : Hp) (μ : List Addr) (st : Sto) (R : It → Hp → Prop), Er T mu n E ρ σ G H μ st →
    Res (f ρ st) (fun ds st' => ∀ J G' H' μ', Ev G H μ G' H' μ' → WOk T G' H' μ' st' → Wk T J ds (Cd fz G' H' μ') → R J H') (WK T W G H μ σ) → wi σ H R
theorem Wk.imp {J : It} {ds : List D} {C C' : Hp → Hp → List Addr → Prop} (h : Wk T J ds C) (i : ∀ G H μ, C' G H μ → C G H μ) : Wk T J ds C' := fun k G H μ st c w => h k G H μ st (i G H μ c) w
theorem RdI.loose {wi : TI} {f : Env → M (List D)} {fz : Bool} (h : RdI T mu n W fz wi f) : RdI T mu n W false wi f := by
  cases fz with
  | false => exact h
  | true => exact fun E ρ σ G H μ st R er hr => h E ρ σ G H μ st R er (hr.mono (fun ds s1 h1 J G' H' μ' e w k => h1 J G' H' μ' e w (k.imp fun _ _ _ c => ⟨c.g, c.m⟩)) fun c s h => h)
/-! ### a value walked -/
def iAny (K : PySem.W.Frag) (t : TE) : TI := fun σ H R => iList K t σ H R ∨ iTup K t σ H R ∨ iStr t σ H R
theorem pi_any {X : Cx} {tg e : Expr} {t : TE} (h : PE X e t) : PI X tg e (iAny X.K t) := by
  refine ⟨fun pins s σ H R I q => ?_⟩
  rcases q with q | q | q
  · exact (pi_list h).run pins s σ H R I q
  · exact (pi_tup h).run pins s σ H R I q
  · exact (pi_str h).run pins s σ H R I q
theorem sub_no {G H : Hp} (s : Sub G H) {a : Addr} (h : H a = none) : G a = none := by
  cases q : G a with
  | none => rfl
  | some o => rw [s a o q] at h; cases h
theorem wk_list {K : PySem.W.Frag} {a : Addr} {ds : List D} {xs : List V} {C : Hp → Hp → List Addr → Prop} (eK : K = T.K) (h : ∀ G H μ, C G H μ → Sub G H → SqL T.K H a xs ∧ RpL T.K G μ ds xs) : Wk T (Itl K a) ds C := by
  subst eK
  intro i G H μ st c w
  obtain ⟨h1, h2⟩ := h G H μ c w.gh
  have wl := walk_list (K := T.K) (a := a) (xs := xs)
  have hl := h2.length
  refine ⟨fun hi => wl.goes i H (by omega) h1, fun hi => by rw [hi, hl]; exact wl.stops H h1, fun x H' hi y => ?_⟩
  obtain ⟨rfl, e⟩ := wl.yields i H x H' (by omega) h1 y
  have hd : ds[i]? = some ds[i] := List.getElem?_eq_getElem hi
  obtain ⟨v, e1, e2⟩ := h2.get hd
  rw [e] at e1
  cases e1
  exact ⟨_, G, hd, Ev.refl _ _ _, w, e2⟩
theorem wk_tup {K : PySem.W.Frag} {a : Addr} {ds : List D} {xs : List V} {C : Hp → Hp → List Addr → Prop} (eK : K = T.K) (h : ∀ G H μ, C G H μ → Sub G H → SqT T.K H a xs ∧ RpL T.K G μ ds xs) : Wk T (Itt K a) ds C := by
  subst eK
  intro i G H μ st c w
  obtain ⟨h1, h2⟩ := h G H μ c w.gh
  have wl := walk_tup (K := T.K) (a := a) (xs := xs)
  have hl := h2.length
  refine ⟨fun hi => wl.goes i H (by omega) h1, fun hi => by rw [hi, hl]; exact wl.stops H h1, fun x H' hi y => ?_⟩
  obtain ⟨rfl, e⟩ := wl.yields i H x H' (by omega) h1 y
  have hd : ds[i]? = some ds[i] := List.getElem?_eq_getElem hi
  obtain ⟨v, e1, e2⟩ := h2.get hd
  rw [e] at e1
  cases e1
  exact ⟨_, G, hd, Ev.refl _ _ _, w, e2⟩
theorem wk_str {s : List Nat} {C : Hp → Hp → List Addr → Prop} (h1 : s.length ≤ LIM) (h2 : ∀ c ∈ s, c < 1114112) : Wk T (Its ⟨s.toArray⟩) (s.map fun c => .str [c]) C := by
  intro i G H μ st c w
  have wl := walk_str (z := ⟨s.toArray⟩)
  have hl : (⟨s.toArray⟩ : Str).cps.size = s.length := by simp
  rw [List.length_map]
  refine ⟨fun hi => wl.goes i H (by omega) trivial, fun hi => by rw [hi, ← hl]; exact wl.stops H trivial, fun x H' hi y => ?_⟩
  obtain ⟨rfl, c, e, rfl⟩ := wl.yields i H x H' (by omega) trivial y
  have ec : s[i]? = some c := by simpa using e
  refine ⟨.str [c], G, by rw [List.getElem?_map, ec]; rfl, Ev.refl _ _ _, w, ?_⟩
  exact rp_str (x := [c]) (show 1 ≤ LIM by decide) fun b hb => by
    rw [List.mem_singleton] at hb
    subst hb
    exact h2 b (List.mem_of_getElem? ec)
theorem rd_iter {md : Nat} {t : TE} {f : Env → M D} {fz : Bool} (h : RdE T mu n W md t f) (hm : fz = true → md ≤ 1) : RdI T mu n W fz (iAny T.K t) (fun ρ => bnd (f ρ) itsM) := by
  have main : ∀ (md : Nat), RdE T mu n W md t f → (fz = true → md = 0) → RdI T mu n W fz (iAny T.K t) (fun ρ => bnd (f ρ) itsM) := by
    intro md h hm E ρ σ G H μ st R er hres
    cases e : f ρ st with
    | bad => exact (Res.of_bad e hres).elim
    | ex c s1 =>
      refine .inl (h E ρ σ G H μ st _ er ?_)
      rw [e]
      exact Res.of_ex e hres
    | ok d s1 =>
      replace hres := Res.of_ok e hres
      cases d with
      | lst ds =>
        refine .inl (h E ρ σ G H μ st _ er ?_)
        rw [e]
        intro v G' H' μ' e1 w1 p1
        cases fz with
        | true =>
          have := hm rfl
          subst this
          obtain ⟨a, xs, rfl, h1, h2, h3⟩ := (show ∃ a xs, v = .ref a ∧ G' a = some (.lst xs) ∧ xs.length ≤ LIM ∧ RpL T.K G' μ' ds xs from by simpa only [Rp] using (show Rp T.K G' μ' (.lst ds) v from p1))
          exact ⟨a, rfl, ⟨xs, .inl (.inl (w1.gh _ _ h1))⟩, hres _ G' H' μ' e1 w1 (wk_list (xs := xs) rfl fun G2 H2 μ2 c s2 => ⟨.inl (.inl (s2 _ _ (c.1 _ _ h1))), RpL.mono c.1 c.2 ds xs h3⟩)⟩
        | false =>
          obtain ⟨a, xs, rfl, h1, h2, h3⟩ := po_lst (p1.two w1.gh)
          exact ⟨a, rfl, ⟨xs, .inl (.inl h1)⟩, hres _ G' H' μ' e1 w1 (wk_list (xs := xs) rfl fun G2 H2 μ2 c s2 => ⟨.inl (.inl (c.h _ _ h1 rfl)), c.rpl h3⟩)⟩
      | tup ds =>
        refine .inr (.inl (h E ρ σ G H μ st _ er ?_))
        rw [e]
        intro v G' H' μ' e1 w1 p1
        obtain ⟨a, xs, rfl, h1, h2, h3⟩ := po_tup p1
        refine ⟨a, rfl, ⟨xs, w1.gh.sqt h1⟩, hres _ G' H' μ' e1 w1 (wk_tup (xs := xs) rfl fun G2 H2 μ2 c s2 => ?_)⟩
        have c' : Sub G' G2 ∧ Pre μ' μ2 := by
          cases fz with
          | true => exact c
          | false => exact ⟨c.g, c.m⟩
        exact ⟨(c'.1.trans s2).sqt h1, RpL.mono c'.1 c'.2 ds xs h3⟩
      | str s =>
        refine .inr (.inr (h E ρ σ G H μ st _ er ?_))
        rw [e]
        intro v G' H' μ' e1 w1 p1
        obtain ⟨rfl, h1, h2⟩ := po_str p1
        exact ⟨_, rfl, hres _ G' H' μ' e1 w1 (wk_str h1 h2)⟩
      | _ => exact hres.elim
  cases fz with
  | false => exact main md h (fun z => by cases z)
  | true => exact main 0 (h.zero (hm rfl)) fun _ => rfl
/-! ### ranges -/
theorem rngI_len : ∀ (n : Nat) (a c : Int), (rngI a c n).length = n
  | 0, _, _ => rfl
  | n + 1, a, c => by simp [rngI, rngI_len n]
theorem rngI_get : ∀ (n : Nat) (a c : Int) (i : Nat), i < n → (rngI a c n)[i]? = some (.int (a + (i : Int) * c))
  | 0, _, _, _, h => by omega
  | n + 1, a, c, 0, _ => by simp [rngI]
  | n + 1, a, c, i + 1, h => by
    simp only [rngI, List.getElem?_cons_succ]
    rw [rngI_get n (a + c) c i (by omega)]
    congr 2
    rw [Int.natCast_succ, Int.add_mul]
    omega
theorem wk_rng {lo : Int} {k : Nat} {C : Hp → Hp → List Addr → Prop} : Wk T (Itr lo k) (rngI lo 1 k) C := by
  intro i G H μ st c w
  have wl := walk_range (lo := lo) (n := k)
  rw [rngI_len]
  refine ⟨fun hi => wl.goes i H hi trivial, fun hi => by rw [hi]; exact wl.stops H trivial, fun x H' hi y => ?_⟩
  obtain ⟨rfl, rfl⟩ := wl.yields i H x H' hi trivial y
  refine ⟨_, G, rngI_get k lo 1 i hi, Ev.refl _ _ _, w, ?_⟩
  rw [Int.mul_one]
  exact rp_int
theorem wk_rngC {lo : Int} {k : Nat} {C : Hp → Hp → List Addr → Prop} : Wk T (Itc lo (-1) k) (rngI lo (-1) k) C := by
  intro i G H μ st c w
  have wl := walk_rangeC (lo := lo) (c := -1) (n := k)
  rw [rngI_len]
  refine ⟨fun hi => wl.goes i H hi trivial, fun hi => by rw [hi]; exact wl.stops H trivial, fun x H' hi y => ?_⟩
  obtain ⟨rfl, rfl⟩ := wl.yields i H x H' hi trivial y
  exact ⟨_, G, rngI_get k lo (-1) i hi, Ev.refl _ _ _, w, rp_int⟩
theorem rngM_ok {a b : Int} {s : Sto} {k : List D → Sto → Prop} {x : Xc → Sto → Prop} (h : Res (rngM a b s) k x) : (-(2 ^ 62) ≤ a ∧ a < 2 ^ 62 ∧ -(2 ^ 62) ≤ b ∧ b < 2 ^ 62 ∧ (b - a).toNat ≤ LIM) ∧ k (rngI a 1 (b - a).toNat) s := by
  unfold rngM at h
  split at h
  · rename_i hc
    simp only [Bool.and_eq_true, decide_eq_true_eq] at hc
    exact ⟨⟨hc.1.1.1.1, hc.1.1.1.2, hc.1.1.2, hc.1.2, hc.2⟩, h⟩
  · exact h.elim
theorem rd_r1 {md : Nat} {t : TE} {f : Env → M D} (h : RdE T mu n W md t f) : RdI T mu n W true (iRng1 (tCons t tNil)) (fun ρ => bnd (f ρ) fun x => bnd (asI x) fun i => rngM 0 i) := by
  intro E ρ σ G H μ st R er hres
  refine h E ρ σ G H μ st _ er (hres.bnd.mono (fun x s1 h1 v G1 H1 μ1 e1 w1 p1 => ?_) fun c s h => h)
  obtain ⟨i, rfl, h2⟩ := asI_bnd h1
  obtain ⟨⟨q1, q2, q3, q4, q5⟩, h3⟩ := rngM_ok h2
  refine ⟨i, by rw [po_int p1], q3, q4, ?_⟩
  have := h3 (Itr 0 (i - 0).toNat) G1 H1 μ1 e1 w1 wk_rng
  rw [Int.sub_zero] at this
  exact this
theorem rd_r2 {ma mb : Nat} {t u : TE} {f g : Env → M D} (h : RdE T mu n W ma t f) (h' : RdE T mu n W mb u g) : RdI T mu n W true (iRng2 (tCons t (tCons u tNil))) (fun ρ => bnd (f ρ) fun x => bnd (g ρ) fun y => bnd (asI x) fun i => bnd (asI y) fun j => rngM i j) := by
  intro E ρ σ G H μ st R er hres
  refine h E ρ σ G H μ st _ er (hres.bnd.mono (fun x s1 h1 v G1 H1 μ1 e1 w1 p1 => ?_) fun c s h => h)
  refine h' E ρ σ G1 H1 μ1 s1 _ (er.ev e1 w1) (h1.bnd.mono (fun y s2 h2 v2 G2 H2 μ2 e2 w2 p2 => ?_) fun c s h => WK.ev h e1)
  obtain ⟨i, rfl, h3⟩ := asI_bnd h2
  obtain ⟨j, rfl, h4⟩ := asI_bnd h3
  obtain ⟨⟨q1, q2, q3, q4, q5⟩, h5⟩ := rngM_ok h4
  exact ⟨i, j, by rw [po_int p1, po_int p2], ⟨q1, q2, q3, q4⟩, h5 _ G2 H2 μ2 (e1.trans e2) w2 wk_rng⟩
theorem rd_r3 {ma mb mc : Nat} {t u v : TE} {f g k : Env → M D} (h : RdE T mu n W ma t f) (h' : RdE T mu n W mb u g) (h'' : RdE T mu n W mc v k) : RdI T mu n W true (iRng3 (tCons t (tCons u (tCons v tNil))))
    (fun ρ => bnd (f ρ) fun x => bnd (g ρ) fun y => bnd (k ρ) fun z => bnd (asI x) fun i => bnd (asI y) fun j => bnd (asI z) fun k =>
      if k == -1 && decide (-(2 ^ 62) ≤ i) && decide (i < 2 ^ 62) && decide (-(2 ^ 62) ≤ j) && decide (j < 2 ^ 62) && decide ((i - j).toNat ≤ LIM) then ret (rngI i (-1) (i - j).toNat) else bad) := by
  intro E ρ σ G H μ st R er hres
  refine h E ρ σ G H μ st _ er (hres.bnd.mono (fun x s1 h1 v G1 H1 μ1 e1 w1 p1 => ?_) fun c s h => h)
  refine h' E ρ σ G1 H1 μ1 s1 _ (er.ev e1 w1) (h1.bnd.mono (fun y s2 h2 v2 G2 H2 μ2 e2 w2 p2 => ?_) fun c s h => WK.ev h e1)
  refine h'' E ρ σ G2 H2 μ2 s2 _ (er.ev (e1.trans e2) w2) (h2.bnd.mono (fun z s3 h3 v3 G3 H3 μ3 e3 w3 p3 => ?_) fun c s h => WK.ev h (e1.trans e2))
  obtain ⟨i, rfl, h4⟩ := asI_bnd h3
  obtain ⟨j, rfl, h5⟩ := asI_bnd h4
  obtain ⟨c, rfl, h6⟩ := asI_bnd h5
  split at h6
  · rename_i hc
    simp only [Bool.and_eq_true, decide_eq_true_eq, beq_iff_eq] at hc
    obtain ⟨⟨⟨⟨⟨c0, c1⟩, c2⟩, c3⟩, c4⟩, c5⟩ := hc
    subst c0
    exact ⟨i, j, -1, (i - j).toNat, by rw [po_int p1, po_int p2, po_int p3], RgC.neg c1 c2 c3 c4, h6 _ G3 H3 μ3 ((e1.trans e2).trans e3) w3 wk_rngC⟩
  · exact h6.elim
/-! ### enumerate -/
theorem enumL_len : ∀ (k : Nat) (ds : List D), (enumL k ds).length = ds.length
  | _, [] => rfl
  | k, d :: ds => by simp [enumL, enumL_len (k + 1) ds]
theorem enumL_get : ∀ (k : Nat) (ds : List D) (i : Nat) (d : D), ds[i]? = some d → (enumL k ds)[i]? = some (.tup [.int ((k + i : Nat) : Int), d])
  | _, [], _, _, h => by simp at h
  | k, e :: ds, 0, d, h => by
    simp at h
    subst h
    simp [enumL]
  | k, e :: ds, i + 1, d, h => by
    simp only [enumL, List.getElem?_cons_succ]
    rw [enumL_get (k + 1) ds i d (by simpa using h)]
    congr 4
    omega
theorem wk_enum {b : Bool} {a : Addr} {ds : List D} {xs : List V} {C : Hp → Hp → List Addr → Prop} (h : ∀ G H μ, C G H μ → Sub G H → SqK b T.K H a xs ∧ RpL T.K G μ ds xs) : Wk T (IteK b T.K a) (enumL 0 ds) C := by
  intro i G H μ st c w
  obtain ⟨h1, h2⟩ := h G H μ c w.gh
  have hl := h2.length
  rw [enumL_len]
  refine ⟨fun hi => ⟨xs, xs[i]'(by omega), h1, by simp [show i < xs.length by omega]⟩, fun hi => ⟨xs, h1, by omega⟩, fun x H' hi y => ?_⟩
  obtain ⟨p, z, rfl, hp, rfl, e⟩ := y
  have hd : ds[i]? = some ds[i] := List.getElem?_eq_getElem hi
  obtain ⟨v, e1, e2⟩ := h2.get hd
  rw [e xs h1] at e1
  cases e1
  have r : RpL T.K G μ [.int (i : Nat), ds[i]] [.int (i : Nat), z] := RpL.cons rp_int (RpL.one e2)
  obtain ⟨q1, q2, q3⟩ := new_tup w hp (by show 2 ≤ LIM; decide) r
  have := enumL_get 0 ds i _ hd
  rw [Nat.zero_add] at this
  exact ⟨_, _, this, q1, q2, q3⟩
theorem rd_enum {md : Nat} {t : TE} {f : Env → M D} {fz : Bool} (h : RdE T mu n W md t f) (hm : fz = true → md ≤ 1) : RdI T mu n W fz (iEnumK T.K t) (fun ρ => bnd (f ρ) fun x => bnd (seqM x) fun xs => ret (enumL 0 xs)) := by
  have main : ∀ (md : Nat), RdE T mu n W md t f → (fz = true → md = 0) → RdI T mu n W fz (iEnumK T.K t) (fun ρ => bnd (f ρ) fun x => bnd (seqM x) fun xs => ret (enumL 0 xs)) := by
    intro md h hm E ρ σ G H μ st R er hres
    refine h E ρ σ G H μ st _ er (hres.bnd.mono (fun x s1 h1 v G1 H1 μ1 e1 w1 p1 => ?_) fun c s h => h)
    cases x with
    | lst ds =>
      cases fz with
      | true =>
        have := hm rfl
        subst this
        obtain ⟨a, xs, rfl, g1, g2, g3⟩ := (show ∃ a xs, v = .ref a ∧ G1 a = some (.lst xs) ∧ xs.length ≤ LIM ∧ RpL T.K G1 μ1 ds xs from by simpa only [Rp] using (show Rp T.K G1 μ1 (.lst ds) v from p1))
        exact ⟨false, a, xs, rfl, .inl (.inl (w1.gh _ _ g1)), h1 _ G1 H1 μ1 e1 w1 (wk_enum (xs := xs) fun G2 H2 μ2 c s2 => ⟨.inl (.inl (s2 _ _ (c.1 _ _ g1))), RpL.mono c.1 c.2 ds xs g3⟩)⟩
      | false =>
        obtain ⟨a, xs, rfl, g1, g2, g3⟩ := po_lst (p1.two w1.gh)
        exact ⟨false, a, xs, rfl, .inl (.inl g1), h1 _ G1 H1 μ1 e1 w1 (wk_enum (xs := xs) fun G2 H2 μ2 c s2 => ⟨.inl (.inl (c.h _ _ g1 rfl)), c.rpl g3⟩)⟩
    | tup ds =>
      obtain ⟨a, xs, rfl, g1, g2, g3⟩ := po_tup p1
      refine ⟨true, a, xs, rfl, w1.gh.sqt g1, h1 _ G1 H1 μ1 e1 w1 (wk_enum (xs := xs) fun G2 H2 μ2 c s2 => ?_)⟩
      have c' : Sub G1 G2 ∧ Pre μ1 μ2 := by
        cases fz with
        | true => exact c
        | false => exact ⟨c.g, c.m⟩
      exact ⟨(c'.1.trans s2).sqt g1, RpL.mono c'.1 c'.2 ds xs g3⟩
    | _ => exact h1.elim
  cases fz with
  | false => exact main md h (fun z => by cases z)
  | true => exact main 0 (h.zero (hm rfl)) fun _ => rfl
/-! ### slots set, forgotten -/
section
variable {E : EW} {ρ : Env} {σ : St} {G H : Hp} {μ : List Addr} {st : Sto}
theorem get_set {α : Type} {l : List (Option α)} {i j : Nat} {x : Option α} {d : α} (h : (l.set i x)[j]? = some (some d)) : (j = i ∧ x = some d ∧ i < l.length) ∨ (j ≠ i ∧ l[j]? = some (some d)) := by
  by_cases e : i = j
  · subst e
    by_cases hl : i < l.length
    · rw [List.getElem?_set_self hl] at h
      exact .inl ⟨rfl, Option.some.inj h, hl⟩
    · rw [List.getElem?_eq_none (by rw [List.length_set]; omega)] at h
      cases h
  · rw [List.getElem?_set_ne e] at h
    exact .inr ⟨fun z => e z.symm, h⟩
theorem Er.set (er : Er T mu n E ρ σ G H μ st) {i : Nat} {d : D} {v : V} (hi : i ∉ mu) (r : Rp T.K G μ d v) : Er T mu n E (ρ.set i (some d)) (σ.set i (some v)) G H μ st := by
  refine ⟨er.w, er.en, by rw [List.length_set]; exact er.lr, by rw [List.length_set]; exact er.ls, fun j e hj h => ?_, fun j e hj h => ?_, fun j l d1 d2 u hj hl hjl l1 l2 h1 h2 h3 h4 => ?_⟩
  · rcases get_set h with ⟨rfl, q, hl⟩ | ⟨q, h'⟩
    · cases q
      exact ⟨v, List.getElem?_set_self (by rw [er.ls, ← er.lr]; exact hl), r⟩
    · obtain ⟨u, h1, h2⟩ := er.pl j e hj h'
      exact ⟨u, by rw [List.getElem?_set_ne fun z => q z.symm]; exact h1, h2⟩
  · have q : j ≠ i := fun z => hi (z ▸ hj)
    rw [List.getElem?_set_ne fun z => q z.symm] at h
    obtain ⟨u, h1, h2⟩ := er.ow j e hj h
    exact ⟨u, by rw [List.getElem?_set_ne fun z => q z.symm]; exact h1, h2⟩
  · have q : j ≠ i := fun z => hi (z ▸ hj)
    have q' : l ≠ i := fun z => hi (z ▸ hl)
    rw [List.getElem?_set_ne fun z => q z.symm] at h1 h3
    rw [List.getElem?_set_ne fun z => q' z.symm] at h2 h4
    exact er.ap j l d1 d2 u hj hl hjl l1 l2 h1 h2 h3 h4
theorem Er.drop (er : Er T mu n E ρ σ G H μ st) (i : Nat) : Er T mu n E (ρ.set i none) (σ.set i none) G H μ st := by
  refine ⟨er.w, er.en, by rw [List.length_set]; exact er.lr, by rw [List.length_set]; exact er.ls, fun j e hj h => ?_, fun j e hj h => ?_, fun j l d1 d2 u hj hl hjl l1 l2 h1 h2 h3 h4 => ?_⟩
  · rcases get_set h with ⟨_, q, _⟩ | ⟨q, h'⟩
    · cases q
    · obtain ⟨u, h1, h2⟩ := er.pl j e hj h'
      exact ⟨u, by rw [List.getElem?_set_ne fun z => q z.symm]; exact h1, h2⟩
  · rcases get_set h with ⟨_, q, _⟩ | ⟨q, h'⟩
    · cases q
    · obtain ⟨u, h1, h2⟩ := er.ow j e hj h'
      exact ⟨u, by rw [List.getElem?_set_ne fun z => q z.symm]; exact h1, h2⟩
  · rcases get_set h1 with ⟨_, q, _⟩ | ⟨q, h1'⟩
    · cases q
    · rcases get_set h2 with ⟨_, q', _⟩ | ⟨q', h2'⟩
      · cases q'
      · rw [List.getElem?_set_ne fun z => q z.symm] at h3
        rw [List.getElem?_set_ne fun z => q' z.symm] at h4
        exact er.ap j l d1 d2 u hj hl hjl l1 l2 h1' h2' h3 h4
theorem Er.wipe (er : Er T mu n E ρ σ G H μ st) : ∀ vs : List Nat, Er T mu n E (wipeE vs ρ) (L2.wipe σ vs) G H μ st
  | [] => er
  | v :: vs => (Er.wipe er vs).drop v
end
theorem wipe_get (σ : St) (j : Nat) : ∀ vs : List Nat, (L2.wipe σ vs)[j]? = if j ∈ vs then (if j < σ.length then some none else none) else σ[j]?
  | [] => by simp [L2.wipe]
  | v :: vs => by
    unfold L2.wipe
    rw [List.getElem?_set, wipe_length, wipe_get σ j vs]
    by_cases e : v = j
    · subst e
      simp
    · have e' : ¬ j = v := fun z => e z.symm
      simp [e, e']
theorem wipe_eq {σ σ2 : St} {vs : List Nat} (hl : σ2.length = σ.length) (h : ∀ j, j ∉ vs → σ2[j]? = (L2.wipe σ vs)[j]?) : L2.wipe σ2 vs = L2.wipe σ vs := by
  apply List.ext_getElem?
  intro j
  rw [wipe_get σ2 j vs]
  by_cases hj : j ∈ vs
  · rw [if_pos hj, wipe_get, if_pos hj, hl]
  · rw [if_neg hj]
    exact h j hj
/-! ### targets -/
def slT : Tg → List Nat
  | .one i => [i]
  | .many is => is
def RdG (T : Rt) (mu : List Nat) (n : Nat) (tg : Tg) (g : TG) : Prop :=
  ∀ (E : EW) (ρ : Env) (σ : St) (G H : Hp) (μ : List Addr) (st : Sto) (d : D) (v : V) (ρ1 : Env) (Q : St → Hp → Prop), Er T mu n E ρ σ G H μ st → Rp T.K G μ d v → stT tg d ρ = some ρ1 →
    (∀ σ1, Er T mu n E ρ1 σ1 G H μ st → σ1.length = σ.length → (∀ j, j ∉ slT tg → σ1[j]? = σ[j]?) → Q σ1 H) → g v σ H Q
theorem rd_gone {i : Nat} (hi : i ∉ mu) : RdG T mu n (.one i) (gName i) := by
  intro E ρ σ G H μ st d v ρ1 Q er r h q
  simp only [stT] at h
  cases h
  exact q _ (er.set hi r) (List.length_set ..) fun j hj => List.getElem?_set_ne fun z => hj (by simp [slT, z])
def gMany : List Nat → TGs
  | [] => gNil
  | i :: is => gCons (gName i) (gMany is)
theorem rd_gs : ∀ (is : List Nat) (E : EW) (ρ : Env) (σ : St) (G H : Hp) (μ : List Addr) (st : Sto) (ds : List D) (vs : List V) (Q : St → Hp → Prop), (∀ i ∈ is, i ∉ mu) → Er T mu n E ρ σ G H μ st → RpL T.K G μ ds vs → ds.length = is.length →
    (∀ σ1, Er T mu n E (setAll is ds ρ) σ1 G H μ st → σ1.length = σ.length → (∀ j, j ∉ is → σ1[j]? = σ[j]?) → Q σ1 H) → gMany is vs σ H Q
  | [], E, ρ, σ, G, H, μ, st, ds, vs, Q, hi, er, r, hl, q => by
    have : ds = [] := List.eq_nil_of_length_eq_zero hl
    subst this
    simp only [RpL] at r
    refine ⟨r, q σ ?_ rfl fun _ _ => rfl⟩
    simpa [setAll] using er
  | i :: is, E, ρ, σ, G, H, μ, st, [], vs, Q, hi, er, r, hl, q => by simp at hl
  | i :: is, E, ρ, σ, G, H, μ, st, d :: ds, vs, Q, hi, er, r, hl, q => by
    simp only [RpL] at r
    obtain ⟨v, vs, rfl, r1, r2⟩ := r
    refine ⟨v, vs, rfl, rd_gs is E _ _ G H μ st ds vs Q (fun j hj => hi j (List.mem_cons_of_mem _ hj)) (er.set (hi i List.mem_cons_self) r1) r2 (by simpa using hl) fun σ1 er1 l1 s1 => ?_⟩
    refine q σ1 er1 (by rw [l1, List.length_set]) fun j hj => ?_
    rw [List.mem_cons, not_or] at hj
    rw [s1 j hj.2, List.getElem?_set_ne fun z => hj.1 z.symm]
theorem rd_gmany {is : List Nat} (hi : ∀ i ∈ is, i ∉ mu) : RdG T mu n (.many is) (gTup T.K is.length (gMany is)) := by
  intro E ρ σ G H μ st d v ρ1 Q er r h q
  cases d with
  | tup ds =>
    simp only [stT] at h
    split at h
    · rename_i hl
      cases h
      simp only [Rp] at r
      obtain ⟨a, xs, rfl, h1, h2, h3⟩ := r
      exact ⟨a, xs, rfl, er.w.gh.sqt h1, by rw [← h3.length]; exact hl, rd_gs is E ρ σ G H μ st ds xs Q hi er h3 hl q⟩
    · cases h
  | _ => simp [stT] at h
/-! ### a list of one's own changed -/
theorem chg_lst {G1 H1 G H : Hp} {μ1 μ : List Addr} {st : Sto} {p : Addr} {xs ys : List V} (e : Ev G1 H1 μ1 G H μ) (w : WOk T G H μ st) (h1 : H1 p = none) (hg : G p = none) (hp : H p = some (.lst xs)) :
    Ev G1 H1 μ1 G (upd H p (.lst ys)) μ ∧ WOk T G (upd H p (.lst ys)) μ st := by
  have ne1 : ∀ b o, H1 b = some o → b ≠ p := fun b o q => ne_of_none q h1
  refine ⟨⟨e.g, e.m, fun b o q c => by rw [upd_ne (ne1 b o q)]; exact e.h b o q c, fun b o q => by rw [upd_ne (ne1 b o q)]; exact e.i b o q, e.f⟩, ⟨fun b o q => by rw [upd_ne (ne_of_none q hg)]; exact w.gh b o q, w.nd, w.len, fun k b ob h2 h3 => ?_⟩⟩
  obtain ⟨q1, dx, fs, q2, q3⟩ := w.obj k b ob h2 h3
  have nb : b ≠ p := fun z => by subst z; rw [hp] at q2; cases q2
  exact ⟨q1, dx, fs, by rw [upd_ne nb]; exact q2, q3⟩
/-! ### comprehensions -/
theorem nox_ok {α : Type} {m : M α} {s s' : Sto} {a : α} (h : nox m s = .ok a s') : m s = .ok a s' := by
  unfold nox at h
  cases e : m s with
  | ok b s1 => rw [e] at h; exact h
  | ex c s1 => rw [e] at h; cases h
  | bad => rw [e] at h; cases h
theorem bnd_ok {α β : Type} {m : M α} {f : α → M β} {s s' : Sto} {b : β} (h : bnd m f s = .ok b s') : ∃ a s1, m s = .ok a s1 ∧ f a s1 = .ok b s' := by
  unfold bnd at h
  cases e : m s with
  | ok a s1 => rw [e] at h; exact ⟨a, s1, rfl, h⟩
  | ex c s1 => rw [e] at h; cases h
  | bad => rw [e] at h; cases h
theorem bnd_of_ok {α β : Type} {m : M α} {f : α → M β} {s s' : Sto} {a : α} (e : m s = .ok a s') : bnd m f s = f a s' := by
  unfold bnd
  rw [e]
theorem bnd_of_bad {α β : Type} {m : M α} {f : α → M β} {s : Sto} (e : m s = .bad) : bnd m f s = .bad := by
  unfold bnd
  rw [e]
theorem nox_of_ok {α : Type} {m : M α} {s s' : Sto} {a : α} (e : m s = .ok a s') : nox m s = .ok a s' := by
  unfold nox
  rw [e]
theorem nox_of_bad {α : Type} {m : M α} {s : Sto} (e : m s = .bad) : nox m s = .bad := by
  unfold nox
  rw [e]
theorem nox_of_ex {α : Type} {m : M α} {s s' : Sto} {c : Xc} (e : m s = .ex c s') : nox m s = .bad := by
  unfold nox
  rw [e]
theorem cpM_res {c : Env → M Bool} {e : Env → M D} {tg : Tg} {ρ : Env} : ∀ (ds : List D) (st : Sto), (∃ zs s', cpM c e tg ρ ds st = .ok zs s') ∨ cpM c e tg ρ ds st = .bad
  | [], st => .inl ⟨[], st, rfl⟩
  | d :: ds, st => by
    unfold cpM
    cases h : stT tg d ρ with
    | none => exact .inr rfl
    | some ρ1 =>
      simp only
      cases h1 : c ρ1 st with
      | bad => exact .inr (bnd_of_bad (nox_of_bad h1))
      | ex _ _ => exact .inr (bnd_of_bad (nox_of_ex h1))
      | ok b s1 =>
        rw [bnd_of_ok (nox_of_ok h1)]
        cases b with
        | false => exact cpM_res ds s1
        | true =>
          show (∃ zs s', bnd (nox (e ρ1)) _ s1 = .ok zs s') ∨ bnd (nox (e ρ1)) _ s1 = .bad
          cases h2 : e ρ1 s1 with
          | bad => exact .inr (bnd_of_bad (nox_of_bad h2))
          | ex _ _ => exact .inr (bnd_of_bad (nox_of_ex h2))
          | ok y s2 =>
            rw [bnd_of_ok (nox_of_ok h2)]
            rcases cpM_res (c := c) (e := e) (tg := tg) (ρ := ρ) ds s2 with ⟨zs, s', q⟩ | q
            · exact .inl ⟨y :: zs, s', by rw [bnd_of_ok q]; rfl⟩
            · exact .inr (bnd_of_bad q)
theorem cpM_cons {c : Env → M Bool} {e : Env → M D} {tg : Tg} {ρ : Env} {d : D} {ds zs : List D} {st s' : Sto} (h : cpM c e tg ρ (d :: ds) st = .ok zs s') :
    ∃ ρ1 b s1, stT tg d ρ = some ρ1 ∧ c ρ1 st = .ok b s1 ∧ ((b = false ∧ cpM c e tg ρ ds s1 = .ok zs s') ∨ (b = true ∧ ∃ y s2 ys, e ρ1 s1 = .ok y s2 ∧ cpM c e tg ρ ds s2 = .ok ys s' ∧ zs = y :: ys)) := by
  unfold cpM at h
  cases q : stT tg d ρ with
  | none => rw [q] at h; cases h
  | some ρ1 =>
    rw [q] at h
    obtain ⟨b, s1, h1, h2⟩ := bnd_ok h
    refine ⟨ρ1, b, s1, rfl, nox_ok h1, ?_⟩
    cases b with
    | false => exact .inl ⟨rfl, h2⟩
    | true =>
      obtain ⟨y, s2, h3, h4⟩ := bnd_ok (show bnd (nox (e ρ1)) _ s1 = .ok zs s' from h2)
      obtain ⟨ys, s3, h5, h6⟩ := bnd_ok h4
      cases h6
      exact .inr ⟨rfl, y, s2, ys, nox_ok h3, h5, rfl⟩
def W0 : WX := fun _ _ _ _ => False
theorem rd_cp {wi : TI} {g : TG} {tt : TT} {te : TE} {fi : Env → M (List D)} {fc : Env → M Bool} {fe : Env → M D} {tg : Tg} {own : List Nat} (hI : RdI T mu n W false wi fi) (hg : RdG T mu n tg g) (hc : RdT T mu n W0 tt fc) (he : RdE T mu n W0 0 te fe) (hs : ∀ i ∈ slT tg, i ∈ own) :
    RdE T mu n W 1 (tLc wi g tt te own) (fun ρ => bnd (fi ρ) fun ds => bnd (cpM fc fe tg (wipeE own ρ) ds) mkL) := by
  intro E ρ σ G H μ st Q er hres
  refine hI E ρ σ G H μ st _ er (hres.bnd.mono (fun ds s1 h1 J G1 H1 μ1 e1 w1 wk D hD => ?_) fun c s h => h)
  rcases cpM_res (c := fc) (e := fe) (tg := tg) (ρ := wipeE own ρ) ds s1 with ⟨zs, s', hz⟩ | hz
  rotate_left
  · exact (Res.of_bad hz h1).elim
  have h2 : Res (mkL zs s') (fun d st' => ∀ v G' H' μ', Ev G H μ G' H' μ' → WOk T G' H' μ' st' → Po T 1 H G' H' μ' d v → Q v H') (WK T W G H μ σ) := Res.of_ok hz h1
  have hlim : zs.length ≤ LIM := by
    unfold mkL at h2
    split at h2
    · assumption
    · exact h2.elim
  have h3 : ∀ v G' H' μ', Ev G H μ G' H' μ' → WOk T G' H' μ' s' → Po T 1 H G' H' μ' (.lst zs) v → Q v H' := by
    unfold mkL at h2
    rw [if_pos hlim] at h2
    exact h2
  have gD : G1 D = none := sub_no w1.gh hD
  have er1 : Er T mu n E (wipeE own ρ) (L2.wipe σ own) G1 H1 μ1 s1 := (er.ev e1 w1).wipe own
  let P : Nat → Hp → Prop := fun i H2 => ∃ G2 μ2 st2 acc vs ys, Ev G1 H1 μ1 G2 H2 μ2 ∧ WOk T G2 H2 μ2 st2 ∧ H2 D = some (.lst vs) ∧ G2 D = none ∧ RpL T.K G2 μ2 acc vs ∧ cpM fc fe tg (wipeE own ρ) (ds.drop i) st2 = .ok ys s' ∧ acc ++ ys = zs
  have wl : Walk J ds.length (fun H2 => ∃ G2 μ2 st2, Ev G1 H1 μ1 G2 H2 μ2 ∧ WOk T G2 H2 μ2 st2) (fun i H2 x H' => i < ds.length ∧ J.yld i H2 x H') :=
    ⟨fun i H2 hi ⟨G2, μ2, st2, c, w⟩ => (wk i G2 H2 μ2 st2 c w).1 hi, fun H2 ⟨G2, μ2, st2, c, w⟩ => (wk ds.length G2 H2 μ2 st2 c w).2.1 rfl, fun i H2 x H' hi _ y => ⟨hi, y⟩⟩
  obtain ⟨e0, w0⟩ := new_lst w1 hD []
  refine lc_it (σ := σ) (H1 := H1) (D := D) (Qd := Q (.ref D)) wl P ⟨G1, μ1, s1, [], [], zs, e0, w0, upd_same, gD, RpL.nil, hz, rfl⟩ (fun i H2 _ ⟨G2, μ2, st2, _, _, _, c, w, _⟩ => ⟨G2, μ2, st2, c, w⟩) (fun i x H2 H' hi p y => ?_) (fun H2 p => ?_)
  · obtain ⟨G2, μ2, st2, acc, vs, ys, c2, w2, hd, hg2, hr, hcp, hzs⟩ := p
    obtain ⟨d, G3, hdi, c3, w3, rp⟩ := (wk i G2 H2 μ2 st2 c2 w2).2.2 x H' hi y.2
    have hdrop : ds.drop i = d :: ds.drop (i + 1) := by
      rw [List.drop_eq_getElem_cons hi]
      congr 1
      rw [List.getElem?_eq_getElem hi] at hdi
      exact Option.some.inj hdi
    rw [hdrop] at hcp
    obtain ⟨ρ1, b, sa, k1, k2, k3⟩ := cpM_cons hcp
    have er3 := er1.ev (c2.trans c3) w3
    have hd3 : H' D = some (.lst vs) := c3.h D _ hd rfl
    have hg3 : G3 D = none := c3.f D hg2 (by rw [hd]; simp)
    refine hg E (wipeE own ρ) (L2.wipe σ own) G3 H' μ2 st2 d x ρ1 _ er3 rp k1 fun σ2 er4 l4 s4 => ⟨?_, ?_⟩
    · refine wipe_eq ?_ fun j hj => s4 j fun hj' => hj (hs j hj')
      rw [l4, wipe_length]
    · refine hc E ρ1 σ2 G3 H' μ2 st2 _ er4 ?_
      rw [k2]
      intro G4 H4 μ4 c4 w4
      have c14 := (c2.trans c3).trans c4
      have hd4 : H4 D = some (.lst vs) := c4.h D _ hd3 rfl
      have hg4 : G4 D = none := c4.f D hg3 (by rw [hd3]; simp)
      have hr4 := (c3.trans c4).rpl hr
      rcases k3 with ⟨rfl, k3⟩ | ⟨rfl, y', s2, ys', k3, k4, rfl⟩
      · rw [if_neg (by decide)]
        exact ⟨G4, μ4, sa, acc, vs, ys, c14, w4, hd4, hg4, hr4, k3, hzs⟩
      · rw [if_pos rfl]
        refine he E ρ1 σ2 G4 H4 μ4 sa _ (er4.ev c4 w4) ?_
        rw [k3]
        intro v5 G5 H5 μ5 c5 w5 p5
        have hd5 : H5 D = some (.lst vs) := c5.h D _ hd4 rfl
        have hg5 : G5 D = none := c5.f D hg4 (by rw [hd4]; simp)
        have hr5 := c5.rpl hr4
        have hlen : vs.length < LIM := by
          rw [← hr5.length]
          rw [← hzs, List.length_append, List.length_cons] at hlim
          omega
        obtain ⟨c6, w6⟩ := chg_lst (ys := vs ++ [v5]) (c14.trans c5) w5 hD hg5 hd5
        exact ⟨vs, hd5, by rw [limS]; exact hlen, G5, μ5, s2, acc ++ [y'], vs ++ [v5], ys', c6, w6, upd_same, hg5, hr5.append (RpL.one (po_rp0 p5)), k4, by rw [List.append_assoc]; exact hzs⟩
  · obtain ⟨G2, μ2, st2, acc, vs, ys, c2, w2, hd, hg2, hr, hcp, hzs⟩ := p
    rw [List.drop_length] at hcp
    cases hcp
    rw [List.append_nil] at hzs
    subst hzs
    refine h3 (.ref D) G2 H2 μ2 (e1.trans c2) w2 ⟨D, vs, rfl, ?_, hg2, hd, by rw [← hr.length]; exact hlim, hr⟩
    cases q : H D with
    | none => rfl
    | some o =>
      obtain ⟨o', q'⟩ := e1.i D o q
      rw [hD] at q'
      cases q'
end BX

set_option Elab.async false
set_option linter.all false
set_option maxRecDepth 100000
/-! BS11: the text against the syntax: expressions. -/
namespace BX
open PySem PySem.Spec PyProof.Rows L2
/-! ### views -/
def vName : Expr → Option Str
  | .Name x _ => some x
  | _ => none
def vCst : Expr → Option Const
  | .Constant c _ _ => some c
  | _ => none
def vBin : Expr → Option (Expr × Operator × Expr)
  | .BinOp a o b _ => some (a, o, b)
  | _ => none
def vUn : Expr → Option (UnaryOp × Expr)
  | .UnaryOp o a _ => some (o, a)
  | _ => none
def vBool : Expr → Option (BoolOp × List Expr)
  | .BoolOp o a _ => some (o, a)
  | _ => none
def vCmp : Expr → Option (Expr × List CmpOp × List Expr)
  | .Compare a os bs _ => some (a, os, bs)
  | _ => none
def vIf : Expr → Option (Expr × Expr × Expr)
  | .IfExp c a b _ => some (c, a, b)
  | _ => none
def vSub : Expr → Option (Expr × Expr)
  | .Subscript a b _ => some (a, b)
  | _ => none
def vSlice : Expr → Option (Option Expr × Option Expr × Option Expr)
  | .Slice a b c _ => some (a, b, c)
  | _ => none
def vList : Expr → Option (List Expr)
  | .List a _ => some a
  | _ => none
def vTup : Expr → Option (List Expr)
  | .Tuple a _ _ => some a
  | _ => none
def vLc : Expr → Option (Expr × Comprehension × Scope)
  | .ListComp e [g] sc _ => some (e, g, sc)
  | _ => none
def vCall : Expr → Option (Str × List Expr)
  | .Call (.Name x _) es [] _ => some (x, es)
  | _ => none
theorem vName_eq {e : Expr} {x : Str} (h : vName e = some x) : ∃ p, e = .Name x p := by
  cases e <;> first | (simp [vName] at h; done) | (simp only [vName, Option.some.injEq] at h; subst h; exact ⟨_, rfl⟩)
theorem vCst_eq {e : Expr} {c : Const} (h : vCst e = some c) : ∃ k p, e = .Constant c k p := by
  cases e <;> first | (simp [vCst] at h; done) | (simp only [vCst, Option.some.injEq] at h; subst h; exact ⟨_, _, rfl⟩)
theorem vBin_eq {e : Expr} {q : Expr × Operator × Expr} (h : vBin e = some q) : ∃ p, e = .BinOp q.1 q.2.1 q.2.2 p := by
  cases e <;> first | (simp [vBin] at h; done) | (simp only [vBin, Option.some.injEq] at h; subst h; exact ⟨_, rfl⟩)
theorem vUn_eq {e : Expr} {q : UnaryOp × Expr} (h : vUn e = some q) : ∃ p, e = .UnaryOp q.1 q.2 p := by
  cases e <;> first | (simp [vUn] at h; done) | (simp only [vUn, Option.some.injEq] at h; subst h; exact ⟨_, rfl⟩)
theorem vBool_eq {e : Expr} {q : BoolOp × List Expr} (h : vBool e = some q) : ∃ p, e = .BoolOp q.1 q.2 p := by
  cases e <;> first | (simp [vBool] at h; done) | (simp only [vBool, Option.some.injEq] at h; subst h; exact ⟨_, rfl⟩)
theorem vCmp_eq {e : Expr} {q : Expr × List CmpOp × List Expr} (h : vCmp e = some q) : ∃ p, e = .Compare q.1 q.2.1 q.2.2 p := by
  cases e <;> first | (simp [vCmp] at h; done) | (simp only [vCmp, Option.some.injEq] at h; subst h; exact ⟨_, rfl⟩)
theorem vIf_eq {e : Expr} {q : Expr × Expr × Expr} (h : vIf e = some q) : ∃ p, e = .IfExp q.1 q.2.1 q.2.2 p := by
  cases e <;> first | (simp [vIf] at h; done) | (simp only [vIf, Option.some.injEq] at h; subst h; exact ⟨_, rfl⟩)
theorem vSub_eq {e : Expr} {q : Expr × Expr} (h : vSub e = some q) : ∃ p, e = .Subscript q.1 q.2 p := by
  cases e <;> first | (simp [vSub] at h; done) | (simp only [vSub, Option.some.injEq] at h; subst h; exact ⟨_, rfl⟩)
theorem vSlice_eq {e : Expr} {q : Option Expr × Option Expr × Option Expr} (h : vSlice e = some q) : ∃ p, e = .Slice q.1 q.2.1 q.2.2 p := by
  cases e <;> first | (simp [vSlice] at h; done) | (simp only [vSlice, Option.some.injEq] at h; subst h; exact ⟨_, rfl⟩)
theorem vList_eq {e : Expr} {q : List Expr} (h : vList e = some q) : ∃ p, e = .List q p := by
  cases e <;> first | (simp [vList] at h; done) | (simp only [vList, Option.some.injEq] at h; subst h; exact ⟨_, rfl⟩)
theorem vTup_eq {e : Expr} {q : List Expr} (h : vTup e = some q) : ∃ k p, e = .Tuple q k p := by
  cases e <;> first | (simp [vTup] at h; done) | (simp only [vTup, Option.some.injEq] at h; subst h; exact ⟨_, _, rfl⟩)
theorem vLc_eq {e : Expr} {q : Expr × Comprehension × Scope} (h : vLc e = some q) : ∃ p, e = .ListComp q.1 [q.2.1] q.2.2 p := by
  unfold vLc at h
  split at h
  · cases h
    exact ⟨_, rfl⟩
  · cases h
theorem vCall_eq {e : Expr} {q : Str × List Expr} (h : vCall e = some q) : ∃ p1 p, e = .Call (.Name q.1 p1) q.2 [] p := by
  unfold vCall at h
  split at h
  · cases h
    exact ⟨_, _, rfl⟩
  · cases h
def tstE : Expr → Bool
  | .Name .. => true
  | .Call .. => true
  | .Subscript .. => true
  | .Attribute .. => true
  | .Constant .. => true
  | _ => false
theorem tstE_ok {e : Expr} (h : tstE e = true) (env : PySem.Env) : ∀ whole, isTrue e env whole = (do let v ← whole; standAt e.pos; holding [v] (truthy v)) := by
  cases e <;> first | (intro _; rfl) | (simp [tstE] at h; done)
/-! ### what is known of a block's text -/
structure MC where
  N : List Str
  sc : Scope
  fs : Str → Bool
  mu : List Nat
structure CxtM (T : Rt) (k : Nat) (C : MC) (W : WX) (X : Cx) : Prop where
  c : Cxt T k C.N C.sc W X
  fn : ∀ x, C.fs x = true → X.fn x = true
def locB (C : MC) (x : Str) : Bool := match C.sc.names.lookup x with
  | some .local => true
  | some .cell => C.fs x
  | _ => false
def cmpOk (o : CO) (p : CmpOp) : Bool := decide (coP o = p)
def bnS : B1 → String
  | .len => "len"
  | .int => "int"
  | .str => "str"
  | .tuple => "tuple"
  | .list => "list"
  | .sorted => "sorted"
  | .sortedSet => "sorted"
  | .lenSet => "len"
  | .max => "max"
  | .min => "min"
  | .sum => "sum"
  | .all => "all"
def b1Ok : B1 → Bool
  | .len => true
  | .int => true
  | .tuple => true
  | .list => true
  | .sorted => true
  | .all => true
  | _ => false
/-- what comes of it: 0 it stands, 1 new, 2 maybe a slot's own list -/
def mdP (mu : List Nat) : P → Nat
  | .var i => if i ∈ mu then 2 else 0
  | .bin .. => 1
  | .cmp .. => 1
  | .chn .. => 1
  | .sl .. => 1
  | .rv .. => 1
  | .li .. => 1
  | .tu .. => 1
  | .cp .. => 1
  | .b1 .. => 1
  | _ => 0
def isRev : Expr → Bool
  | .Slice none none (some (.UnaryOp .USub (.Constant (.int 1) _ _) _)) _ => true
  | _ => false
def mTg (C : MC) : List Nat → List Expr → Bool
  | [], [] => true
  | i :: is, e :: es => (match vName e with
      | some x => nthB C.N i x && locB C x && !(decide (i ∈ C.mu))
      | none => false) && mTg C is es
  | _, _ => false
def mT1 (C : MC) : Tg → Expr → Bool
  | .one i, e => mTg C [i] [e]
  | .many is, e => match vTup e with
    | some es => mTg C is es
    | none => false
def tyE (t : Ty) (e : Expr) : Bool := match vName e with
  | some x => x == Str.ofString (tyS t)
  | none => false
def mTys : List Ty → List Expr → Bool
  | [], [] => true
  | t :: ts, e :: es => tyE t e && mTys ts es
  | _, _ => false
def allOk (es : List Expr) : Bool := es.all okE
def nm (N : List Str) (i : Nat) : Str := N.getD i ""
/-- the block of a comprehension -/
def MC.blk (C : MC) (scope : Scope) : MC := { C with sc := relS scope C.sc, fs := fun x => scope.names.lookup x == some .cell }
mutual
def mE (C : MC) : P → Expr → Bool
  | .var i, e => (match vName e with
    | some x => nthB C.N i x && visB C.sc x && dbB x
    | none => false)
  | .cI i, e => (match vCst e with
    | some (.int j) => decide (i = j)
    | _ => false)
  | .cB b, e => (match vCst e with
    | some (.bool c) => decide (b = c)
    | _ => false)
  | .cN, e => (match vCst e with
    | some .none => true
    | _ => false)
  | .cS s, e => (match vCst e with
    | some (.str x) => decide (x = ⟨s.toArray⟩) && decide (s.length ≤ LIM) && s.all (fun c => decide (c < 1114112))
    | _ => false)
  | .gl x d, e => (match vName e with
    | some y => (y == x) && glB C.sc x && dbB x && !isLst d
    | none => false)
  | .bin o a b, e => (match vBin e with
    | some q => decide (boP o = q.2.1) && okE q.1 && okE q.2.2 && mE C a q.1 && mE C b q.2.2
    | none => false)
  | .neg a, e => (match vUn e with
    | some q => decide (q.1 = .USub) && okE q.2 && mE C a q.2
    | none => false)
  | .no a, e => (match vUn e with
    | some q => decide (q.1 = .Not) && okE q.2 && mE C a q.2
    | none => false)
  | .an ps, e => (match vBool e with
    | some q => decide (q.1 = .And) && mV C ps q.2
    | none => false)
  | .orr ps, e => (match vBool e with
    | some q => decide (q.1 = .Or) && mV C ps q.2
    | none => false)
  | .cmp o a b, e => (match vCmp e with
    | some (x, [p], [y]) => cmpOk o p && okE y && mE C a x && mE C b y
    | _ => false)
  | .chn o1 o2 a b c, e => (match vCmp e with
    | some (x, [p, q], [y, z]) => cmpOk o1 p && cmpOk o2 q && okE y && okE z && mE C a x && mE C b y && mE C c z
    | _ => false)
  | .ife t a b, e => (match vIf e with
    | some q => mT C t q.1 && mE C a q.2.1 && mE C b q.2.2 && decide (mdP C.mu a ≤ 1) && decide (mdP C.mu b ≤ 1)
    | none => false)
  | .ix a b, e => (match vSub e with
    | some q => okE q.2 && mE C a q.1 && mE C b q.2
    | none => false)
  | .sl a lo hi, e => (match vSub e with
    | some q => (match vSlice q.2 with
      | some (l, h, none) => mE C a q.1 && mQ C lo l && mQ C hi h
      | _ => false)
    | none => false)
  | .rv a, e => (match vSub e with
    | some q => isRev q.2 && mE C a q.1
    | none => false)
  | .st2 _ _, _ => false
  | .li ps, e => (match vList e with
    | some es => mL C ps es
    | none => false)
  | .tu ps, e => (match vTup e with
    | some es => mL C ps es
    | none => false)
  | .cp e0 tg it c own, e => (match vLc e with
    | some q => decide (q.2.1.is_async = 0) && okE q.2.1.iter && blkC C.N C.sc q.2.2 (own.map fun i => (nm C.N i, i)) && (slT tg).all (fun i => decide (i ∈ own)) && mI C it q.2.1.target q.2.1.iter &&
        mT1 (C.blk q.2.2) tg q.2.1.target && mCn (C.blk q.2.2) c q.2.1.ifs && mE (C.blk q.2.2) e0 q.1 && decide (mdP C.mu e0 ≤ 1)
    | none => false)
  | .ca x _ ps, e => (match vCall e with
    | some q => (q.1 == x) && glB C.sc x && dbB x && !q.2.isEmpty && allOk q.2 && mL C ps q.2
    | none => false)
  | .pk _ _ _, _ => false
  | .b1 f a, e => (match vCall e with
    | some (x, [y]) => b1Ok f && (x == Str.ofString (bnS f)) && glB C.sc x && okE y && mE C a y
    | _ => false)
  | .b2 _ _ _, _ => false
  | .isi a ts, e => (match vCall e with
    | some (x, [y, z]) => (x == "isinstance") && glB C.sc x && okE y && okE z && mE C a y && (match ts with
      | [t] => tyE t z && glB C.sc (Str.ofString (tyS t))
      | ts => (match vTup z with
        | some zs => mTys ts zs && ts.all (fun t => glB C.sc (Str.ofString (tyS t))) && decide (ts.length ≤ LIM)
        | none => false))
    | _ => false)
  | .mt _ _ _, _ => false
  | .lr _ _ _, _ => false
  | .dic _ _ _, _ => false
  | .dix _ _, _ => false
  | .at _ _ _, _ => false
  | .me _ _ _ _ _, _ => false
  | .mk _ _ _ _, _ => false
/-- as a test -/
def mT (C : MC) : P → Expr → Bool
  | .an ps, e => (match vBool e with
    | some q => decide (q.1 = .And) && mTs C ps q.2
    | none => false)
  | .orr ps, e => (match vBool e with
    | some q => decide (q.1 = .Or) && mTs C ps q.2
    | none => false)
  | .no a, e => (match vUn e with
    | some q => decide (q.1 = .Not) && mT C a q.2
    | none => false)
  | .cmp o a b, e => (match vCmp e with
    | some (x, [p], [y]) => cmpOk o p && okE y && mE C a x && mE C b y
    | _ => false)
  | .chn o1 o2 a b c, e => (match vCmp e with
    | some (x, [p, q], [y, z]) => cmpOk o1 p && cmpOk o2 q && okE y && okE z && mE C a x && mE C b y && mE C c z
    | _ => false)
  | .var i, e => (match vName e with
    | some x => nthB C.N i x && visB C.sc x && dbB x
    | none => false)
  | .ca x _ ps, e => (match vCall e with
    | some q => (q.1 == x) && glB C.sc x && dbB x && !q.2.isEmpty && allOk q.2 && mL C ps q.2
    | none => false)
  | .b1 f a, e => (match vCall e with
    | some (x, [y]) => b1Ok f && (x == Str.ofString (bnS f)) && glB C.sc x && okE y && mE C a y
    | _ => false)
  | .isi a ts, e => (match vCall e with
    | some (x, [y, z]) => (x == "isinstance") && glB C.sc x && okE y && okE z && mE C a y && (match ts with
      | [t] => tyE t z && glB C.sc (Str.ofString (tyS t))
      | ts => (match vTup z with
        | some zs => mTys ts zs && ts.all (fun t => glB C.sc (Str.ofString (tyS t))) && decide (ts.length ≤ LIM)
        | none => false))
    | _ => false)
  | .cB b, e => (match vCst e with
    | some (.bool c) => decide (b = c)
    | _ => false)
  | _, _ => false
def mTs (C : MC) : PL → List Expr → Bool
  | .cons p .nil, [e] => mT C p e
  | .cons p ps, e :: f :: es => mT C p e && mTs C ps (f :: es)
  | _, _ => false
/-- operands of and, or, as values -/
def mV (C : MC) : PL → List Expr → Bool
  | .cons p .nil, [e] => mE C p e && decide (mdP C.mu p ≤ 1)
  | .cons p ps, e :: f :: es => mE C p e && mV C ps (f :: es)
  | _, _ => false
/-- items, arguments -/
def mL (C : MC) : PL → List Expr → Bool
  | .nil, [] => true
  | .cons p ps, e :: es => okE e && mE C p e && decide (mdP C.mu p ≤ 1) && mL C ps es
  | _, _ => false
def mQ (C : MC) : PQ → Option Expr → Bool
  | .none, none => true
  | .some p, some e => mE C p e
  | _, _ => false
def mCn (C : MC) : PQ → List Expr → Bool
  | .none, [] => true
  | .some p, [e] => mT C p e
  | _, _ => false
def mI (C : MC) : I → Expr → Expr → Bool
  | .e p, _, e => mE C p e
  | .r1 a, _, e => (match vCall e with
    | some (x, [y]) => (x == "range") && glB C.sc x && okE y && mE C a y
    | _ => false)
  | .r2 a b, _, e => (match vCall e with
    | some (x, [y, z]) => (x == "range") && glB C.sc x && okE y && okE z && mE C a y && mE C b z
    | _ => false)
  | .r3 a b c, _, e => (match vCall e with
    | some (x, [y, z, w]) => (x == "range") && glB C.sc x && okE y && okE z && okE w && mE C a y && mE C b z && mE C c w
    | _ => false)
  | .en a, tg, e => (match vCall e with
    | some (x, [y]) => (x == "enumerate") && glB C.sc x && okE y && (vTup tg).isSome && mE C a y
    | _ => false)
  | .zp _ _, _, _ => false
  | .zp3 _ _ _, _, _ => false
end
/-- what is walked stands by itself -/
def fzI (mu : List Nat) : I → Bool
  | .e p => decide (mdP mu p ≤ 1)
  | .en p => decide (mdP mu p ≤ 1)
  | .zp a b => decide (mdP mu a ≤ 1) && decide (mdP mu b ≤ 1)
  | .zp3 a b c => decide (mdP mu a ≤ 1) && (decide (mdP mu b ≤ 1) && decide (mdP mu c ≤ 1))
  | _ => true
/-! ### what it leans on -/
mutual
def ndP : P → List Nd
  | .gl x d => [.gl x d]
  | .bin _ a b => ndP a ++ ndP b
  | .neg a => ndP a
  | .no a => ndP a
  | .an ps => ndL ps
  | .orr ps => ndL ps
  | .cmp _ a b => ndP a ++ ndP b
  | .chn _ _ a b c => ndP a ++ (ndP b ++ ndP c)
  | .ife t a b => ndP t ++ (ndP a ++ ndP b)
  | .ix a b => ndP a ++ ndP b
  | .sl a lo hi => ndP a ++ (ndQ lo ++ ndQ hi)
  | .rv a => ndP a
  | .st2 a _ => ndP a
  | .li ps => ndL ps
  | .tu ps => ndL ps
  | .cp e _ it c _ => ndP e ++ (ndI it ++ ndQ c)
  | .ca x F ps => .fn x F :: ndL ps
  | .pk fs i ps => fs.map (fun q => .fn q.1 q.2) ++ (ndP i ++ ndL ps)
  | .b1 f a => .bi (Str.ofString (bnS f)) :: ndP a
  | .b2 _ a b => ndP a ++ ndP b
  | .isi a ts => .bi "isinstance" :: (ts.map (fun t => .bi (Str.ofString (tyS t))) ++ ndP a)
  | .mt _ o a => ndP o ++ ndP a
  | .lr _ a b => ndP a ++ ndP b
  | .dic _ a b => ndP a ++ ndP b
  | .dix _ a => ndP a
  | .at o x k => .at x k :: ndP o
  | .me o c x F ps => .me c x F :: (ndP o ++ ndL ps)
  | .mk x c F ps => .mk x c F :: ndL ps
  | _ => []
def ndL : PL → List Nd
  | .nil => []
  | .cons p ps => ndP p ++ ndL ps
def ndQ : PQ → List Nd
  | .none => []
  | .some p => ndP p
def ndI : I → List Nd
  | .e p => ndP p
  | .r1 a => .bi "range" :: ndP a
  | .r2 a b => .bi "range" :: (ndP a ++ ndP b)
  | .r3 a b c => .bi "range" :: (ndP a ++ (ndP b ++ ndP c))
  | .en a => .bi "enumerate" :: ndP a
  | .zp a b => .bi "zip" :: (ndP a ++ ndP b)
  | .zp3 a b c => .bi "zip" :: (ndP a ++ (ndP b ++ ndP c))
end
/-- a def's promise -/
def spOf (T : Rt) (F : List D → M D) : Sp := fun vs H Q E => ∃ G μ st ds, WOk T G H μ st ∧ RpL T.K G μ ds vs ∧
  Res (F ds st) (fun d st' => ∀ v G' H' μ', Ev G H μ G' H' μ' → WOk T G' H' μ' st' → Rp T.K G' μ' d v → Q v H') (fun c st' => ∀ G' H' μ', Ev G H μ G' H' μ' → WOk T G' H' μ' st' → E (.ref (T.ca c)) none H')
def FnIn (T : Rt) (k : Nat) (x : Str) (F : List D → M D) : Prop := ∃ f fd ps, T.mg x = some (.ref f) ∧ PySem.W.keepIn T.K (.ref f) = true ∧ Binds T.K fd ps [] ∧ FnOk T.P T.w T.K T.mg T.base (L2.CX T.P T.w) k f fd ps (spOf T F)
def NdOk (T : Rt) (k : Nat) : Nd → Prop
  | .bi x => T.mg x = none
  | .fn x F => FnIn T k x F
  | .gl x d => ∃ u v, T.mg x = some u ∧ RelV v u ∧ ∀ G μ, Rp T.K G μ d v
  | _ => True
def Nds (T : Rt) (k : Nat) (l : List Nd) : Prop := ∀ q ∈ l, NdOk T k q
theorem Nds.app {T : Rt} {k : Nat} {a b : List Nd} (h : Nds T k (a ++ b)) : Nds T k a ∧ Nds T k b := ⟨fun q hq => h q (List.mem_append_left _ hq), fun q hq => h q (List.mem_append_right _ hq)⟩
theorem Nds.con {T : Rt} {k : Nat} {a : Nd} {b : List Nd} (h : Nds T k (a :: b)) : NdOk T k a ∧ Nds T k b := ⟨h a List.mem_cons_self, fun q hq => h q (List.mem_cons_of_mem _ hq)⟩
end BX

set_option Elab.async false
set_option linter.all false
set_option maxRecDepth 100000
/-! BS12: a text that is matched does as the evaluator says: expressions. -/
namespace BX
open PySem PySem.Spec PyProof.Rows L2
variable {T : Rt} {k : Nat}
theorem bfT {b : Bool} (h : b = true) : ¬ b = false := by rw [h]; decide
theorem ex_and {a b : Bool} (h : (a && b) = true) : a = true ∧ b = true := by rwa [Bool.and_eq_true] at h
section
variable {C : MC} {W : WX} {X : Cx}
theorem nd_of (c : CxtM T k C W X) : X.N.Nodup := by rw [c.c.xN]; exact c.c.nd
theorem backTo_ok {es : List Expr} (h : allOk es = true) (pos : Pos) (env : PySem.Env) : (backTo pos (starEach es env)).any (·.1) = false := by
  induction es with
  | nil => rfl
  | cons e es ih =>
    unfold allOk at h
    rw [List.all_cons] at h
    obtain ⟨h1, h2⟩ := ex_and h
    rw [okE_star h1]
    show (false || (backTo pos (starEach es env)).any (·.1)) = false
    rw [ih h2]
    rfl
theorem star1 {e : Expr} (h : okE e = true) (env : PySem.Env) : starEach [e] env = [(false, eval e env)] := okE_star h [] env
/-! ### one rule each -/
theorem s_var {i : Nat} {x : Str} {p : Pos} (c : CxtM T k C W X) (h1 : nthB C.N i x = true) (h2 : visB C.sc x = true) (h3 : dbB x = true) : PE X (.Name x p) (tVar i) :=
  pe_var (by rw [c.c.xN]; exact nthB_ok h1) (c.c.vis h2) (db1 h3) (db2 h3)
theorem b1_rule (f : B1) (hf : b1Ok f = true) : ∃ r : List V → Hp → VK → Prop, RdU T 1 (fun x H Q => r [x] H Q) (b1D f) ∧ ∀ (C : MC) (W : WX) (X : Cx) (a : Expr) (ta : TE) (p1 p : Pos), CxtM T k C W X → T.mg (Str.ofString (bnS f)) = none → glB C.sc (Str.ofString (bnS f)) = true → okE a = true → PE X a ta →
    PE X (.Call (.Name (Str.ofString (bnS f)) p1) [a] [] p) (tCB r (tCons ta tNil)) := by
  cases f with
  | len => exact ⟨fun xs H Q => ∃ x n, xs = [x] ∧ LenV T.K x H n ∧ Q (.int n) H, o_len, fun C W X a ta p1 p c hm hg ha he => pe_callB (by rw [← c.c.K]; exact call_len) (c.c.gl hg) (by rw [c.c.mg]; exact hm) boot_len (pa_cons he pa_nil (star1 ha _)) (by decide) (by decide) (okE_star ha _ _) rfl⟩
  | int => exact ⟨fun xs H Q => (∃ i, xs = [.int i] ∧ Q (.int i) H) ∨ ∃ k, xs = [.bl k] ∧ Q (.int (if k then 1 else 0)) H, o_int, fun C W X a ta p1 p c hm hg ha he => pe_callTy call_int1 (c.c.gl hg) (by rw [c.c.mg]; exact hm) boot_int (pa_cons he pa_nil (star1 ha _)) (by decide) (by decide) (okE_star ha _ _) rfl⟩
  | tuple => exact ⟨fun xs H Q => ∃ p ys, xs = [.ref p] ∧ ((SqL T.K H p ys ∧ ∀ l, H l = none → Q (.ref l) (upd H l (.tup ys))) ∨ (SqT T.K H p ys ∧ Q (.ref p) H)), o_tup, fun C W X a ta p1 p c hm hg ha he => pe_callTy (by rw [← c.c.K]; exact call_tuple_of) (c.c.gl hg) (by rw [c.c.mg]; exact hm) boot_tuple (pa_cons he pa_nil (star1 ha _)) (by decide) (by decide) (okE_star ha _ _) rfl⟩
  | list => exact ⟨fun xs H Q => ∃ p ys, xs = [.ref p] ∧ (SqL T.K H p ys ∨ SqT T.K H p ys) ∧ ∀ l, H l = none → Q (.ref l) (upd H l (.lst ys)), o_lst, fun C W X a ta p1 p c hm hg ha he => pe_callTy (by rw [← c.c.K]; exact call_list_of) (c.c.gl hg) (by rw [c.c.mg]; exact hm) boot_list (pa_cons he pa_nil (star1 ha _)) (by decide) (by decide) (okE_star ha _ _) rfl⟩
  | sorted => exact ⟨rSortS T.K, o_sort, fun C W X a ta p1 p c hm hg ha he => pe_callB (by rw [← c.c.K]; exact p_sortS c.c.u) (c.c.gl hg) (by rw [c.c.mg]; exact hm) boot_sorted (pa_cons he pa_nil (star1 ha _)) (by decide) (by decide) (okE_star ha _ _) rfl⟩
  | all => exact ⟨rAll T.K, o_all, fun C W X a ta p1 p c hm hg ha he => pe_callB (by rw [← c.c.K]; exact cr_all c.c.calm) (c.c.gl hg) (by rw [c.c.mg]; exact hm) boot_all (pa_cons he pa_nil (star1 ha _)) (by decide) (by decide) (okE_star ha _ _) rfl⟩
  | _ => simp [b1Ok] at hf
theorem s_call {x : Str} {F : List D → M D} {es : List Expr} {ta : TA} {p1 p : Pos} (c : CxtM T k C W X) (hF : FnIn T k x F) (hg : glB C.sc x = true) (hd : dbB x = true) (hn : es ≠ []) (ho : allOk es = true) (ha : PA X es ta) :
    PE X (.Call (.Name x p1) es [] p) (tCallS (spOf T F) (WE W) ta) := by
  obtain ⟨f, fd, ps, h1, h2, h3, h4⟩ := hF
  cases es with
  | nil => exact absurd rfl hn
  | cons e es =>
    unfold allOk at ho
    rw [List.all_cons] at ho
    obtain ⟨o1, o2⟩ := ex_and ho
    have F' : FnOk X.prog X.w X.K X.mg X.base (L2.CX X.prog X.w) k f fd ps (spOf T F) := by
      rw [c.c.prog, c.c.w, c.c.K, c.c.mg, c.c.base]
      exact h4
    exact pe_callS F' c.c.room (c.c.gl hg) (by rw [c.c.mg]; exact h1) (by rw [c.c.K]; exact h2) (by rw [c.c.K]; exact h3) (fun σ => passAt c.c.tk σ) ha (db1 hd) (okE_star o1 _ _) (backTo_ok (es := es) o2 _ _)
theorem rd_call {mu : List Nat} {n : Nat} {F : List D → M D} {ta : TA} {f : Env → M (List D)} (h : RdA T mu n W ta f) : RdE T mu n W 0 (tCallS (spOf T F) (WE W) ta) (fun ρ => bnd (f ρ) F) := by
  intro E ρ σ G H μ st Q er hres
  refine h E ρ σ G H μ st _ er (hres.bnd.mono (fun ds s1 h1 vs G1 H1 μ1 e1 w1 p1 => ?_) fun c s h => h)
  refine ⟨G1, μ1, s1, ds, w1, p1, h1.mono (fun d s2 h2 v G2 H2 μ2 e2 w2 r2 => h2 v G2 H2 μ2 (e1.trans e2) w2 ?_) fun c s2 h2 G2 H2 μ2 e2 w2 => h2 G2 H2 μ2 (e1.trans e2) w2⟩
  exact po_md0 r2
theorem s_tys {ts : List Ty} {zs : List Expr} (hn : ∀ t ∈ ts, T.mg (Str.ofString (tyS t)) = none) (h : mTys ts zs = true) (hg : ts.all (fun t => glB C.sc (Str.ofString (tyS t))) = true) (c : CxtM T k C W X) : ∃ t, PA X zs t ∧ t = (ts.map fun t => tC (V.ty (tyS t))).foldr tCons tNil := by
  induction ts generalizing zs with
  | nil =>
    cases zs with
    | nil => exact ⟨_, pa_nil, rfl⟩
    | cons z zs => simp [mTys] at h
  | cons t ts ih =>
    cases zs with
    | nil => simp [mTys] at h
    | cons z zs =>
      simp only [mTys] at h
      rw [List.all_cons] at hg
      obtain ⟨h1, h2⟩ := ex_and h
      obtain ⟨g1, g2⟩ := ex_and hg
      obtain ⟨u, hu, rfl⟩ := ih (fun t' ht' => hn t' (List.mem_cons_of_mem _ ht')) h2 g2
      unfold tyE at h1
      split at h1
      · rename_i y e
        obtain ⟨p, rfl⟩ := vName_eq e
        have ey := beq_iff_eq.mp h1
        subst ey
        have hb : bootBuiltins (Str.ofString (tyS t)) = some (.type (tyS t)) := by cases t <;> decide +kernel
        refine ⟨_, pa_cons (pe_bltn (v := V.ty (tyS t)) (c.c.gl g1) (by rw [c.c.mg]; exact hn t List.mem_cons_self) hb rfl (by cases t <;> decide) (by cases t <;> decide)) hu rfl, rfl⟩
      · cases h1
theorem s_ty {t : Ty} {z : Expr} (hn : T.mg (Str.ofString (tyS t)) = none) (h : tyE t z = true) (hg : glB C.sc (Str.ofString (tyS t)) = true) (c : CxtM T k C W X) : PE X z (tC (V.ty (tyS t))) := by
  unfold tyE at h
  split at h
  · rename_i y e
    obtain ⟨p, rfl⟩ := vName_eq e
    have ey := beq_iff_eq.mp h
    subst ey
    have hb : bootBuiltins (Str.ofString (tyS t)) = some (.type (tyS t)) := by cases t <;> decide +kernel
    exact pe_bltn (v := V.ty (tyS t)) (c.c.gl hg) (by rw [c.c.mg]; exact hn) hb rfl (by cases t <;> decide) (by cases t <;> decide)
  · cases h
/-- tCons of the tuple of classes: what it gives -/
theorem tys_run {H : Hp} {σ : St} : ∀ (ts : List Ty) (Q : List V → Hp → Prop), Q (ts.map fun t => V.ty (tyS t)) H → ((ts.map fun t => tC (V.ty (tyS t))).foldr tCons tNil) σ H Q
  | [], Q, h => h
  | t :: ts, Q, h => by
    show ((ts.map fun t => tC (V.ty (tyS t))).foldr tCons tNil) σ H fun xs H2 => Q (V.ty (tyS t) :: xs) H2
    exact tys_run ts _ h
end
end BX

set_option Elab.async false
set_option linter.all false
set_option maxRecDepth 100000
/-! BS13: expressions, all together. -/
namespace BX
open PySem PySem.Spec PyProof.Rows L2
variable {T : Rt} {k : Nat}
/-- an expression's text is right -/
abbrev OkE (T : Rt) (k : Nat) (C : MC) (W : WX) (p : P) (e : Expr) : Prop := ∃ t, RdE T C.mu C.N.length W (mdP C.mu p) t (ev p) ∧ ∀ X, CxtM T k C W X → PE X e t
abbrev OkT (T : Rt) (k : Nat) (C : MC) (W : WX) (p : P) (e : Expr) : Prop := ∃ t, RdT T C.mu C.N.length W t (evT p) ∧ ∀ X, CxtM T k C W X → PT X e t
theorem RdE.as {mu : List Nat} {n md : Nat} {W : WX} {t : TE} {f g : Env → M D} (h : RdE T mu n W md t f) (e : ∀ ρ, g ρ = f ρ) : RdE T mu n W md t g := by
  rw [show g = f from funext e]
  exact h
theorem RdT.as {mu : List Nat} {n : Nat} {W : WX} {t : TT} {f g : Env → M Bool} (h : RdT T mu n W t f) (e : ∀ ρ, g ρ = f ρ) : RdT T mu n W t g := by
  rw [show g = f from funext e]
  exact h
theorem RdA.as {mu : List Nat} {n : Nat} {W : WX} {t : TA} {f g : Env → M (List D)} (h : RdA T mu n W t f) (e : ∀ ρ, g ρ = f ρ) : RdA T mu n W t g := by
  rw [show g = f from funext e]
  exact h
theorem RdP.as {mu : List Nat} {n : Nat} {W : WX} {t : TO} {f g : Env → M (Option Int)} (h : RdP T mu n W t f) (e : ∀ ρ, g ρ = f ρ) : RdP T mu n W t g := by
  rw [show g = f from funext e]
  exact h
theorem RdI.as {mu : List Nat} {n : Nat} {W : WX} {fz : Bool} {t : TI} {f g : Env → M (List D)} (h : RdI T mu n W fz t f) (e : ∀ ρ, g ρ = f ρ) : RdI T mu n W fz t g := by
  rw [show g = f from funext e]
  exact h
theorem cut2 {X : Cx} {e : Expr} {t : TE} (h : PE X e t) (ht : tstE e = true) : PT X e (tB t) := pt_val h (tstE_ok ht X.env)
theorem isRev_eq {e : Expr} (h : isRev e = true) : ∃ k p1 p2 p3, e = .Slice none none (some (.UnaryOp .USub (.Constant (.int 1) k p1) p2)) p3 := by
  unfold isRev at h
  split at h
  · exact ⟨_, _, _, _, rfl⟩
  · cases h
theorem mTg_len {C : MC} : ∀ {is : List Nat} {es : List Expr}, mTg C is es = true → es.length = is.length
  | [], [], _ => rfl
  | [], _ :: _, h => by simp [mTg] at h
  | _ :: _, [], h => by simp [mTg] at h
  | i :: is, e :: es, h => by
    simp only [mTg] at h
    obtain ⟨h1, h2⟩ := ex_and h
    simp [mTg_len h2]
theorem s_loc {C : MC} {W : WX} {X : Cx} {i : Nat} {x : Str} {p : Pos} (c : CxtM T k C W X) (h1 : nthB C.N i x = true) (h2 : locB C x = true) : PG X (.Name x p) (gName i) := by
  have nd := nd_of c
  have hi : X.N[i]? = some x := by rw [c.c.xN]; exact nthB_ok h1
  unfold locB at h2
  split at h2
  · rename_i e
    have e' : X.env.scope.names.lookup x = some .local := by rw [c.c.sc]; exact e
    exact pg_name nd hi (.inl e') (.inr e')
  · rename_i e
    have e' : X.env.scope.names.lookup x = some .cell := by rw [c.c.sc]; exact e
    exact pg_name nd hi (.inr e') (.inl (c.fn x h2))
  · cases h2
theorem s_tgs {C : MC} : ∀ {is : List Nat} {es : List Expr}, mTg C is es = true → (∀ i ∈ is, i ∉ C.mu) ∧ ∀ (W : WX) (X : Cx), CxtM T k C W X → PGs X es (gMany is) ∧ (assignEach es X.env).length = is.length ∧ (assignEach es X.env).findIdx? (·.1) = none
  | [], [], _ => And.intro (fun i hi => nomatch hi) (fun W X c => And.intro pgs_nil (And.intro rfl rfl))
  | [], _ :: _, h => by simp [mTg] at h
  | _ :: _, [], h => by simp [mTg] at h
  | i :: is, e :: es, h => by
    simp only [mTg] at h
    obtain ⟨h1, h2⟩ := ex_and h
    obtain ⟨g1, g2⟩ := s_tgs h2
    split at h1
    · rename_i x ex
      obtain ⟨p, rfl⟩ := vName_eq ex
      obtain ⟨h3, h4⟩ := ex_and h1
      obtain ⟨h5, h6⟩ := ex_and h3
      have hi : i ∉ C.mu := by simpa using h4
      refine ⟨fun j hj => (List.mem_cons.mp hj).elim (fun z => z ▸ hi) (g1 j), fun W X c => ?_⟩
      obtain ⟨q1, q2, q3⟩ := g2 W X c
      refine ⟨pgs_cons (s_loc c h5 h6) q1 rfl, by show (assignEach es X.env).length + 1 = _; rw [q2]; rfl, ?_⟩
      show ((false, assign (.Name x p) X.env) :: assignEach es X.env).findIdx? (·.1) = none
      rw [List.findIdx?_cons]
      simp only [Bool.false_eq_true, if_false]
      rw [q3]
      rfl
    · cases h1
theorem s_tg {C : MC} {tg : Tg} {e : Expr} (h : mT1 C tg e = true) : ∃ g, RdG T C.mu C.N.length tg g ∧ ∀ (W : WX) (X : Cx), CxtM T k C W X → PG X e g := by
  cases tg with
  | one i =>
    simp only [mT1, mTg] at h
    obtain ⟨h1, _⟩ := ex_and h
    split at h1
    · rename_i x ex
      obtain ⟨p, rfl⟩ := vName_eq ex
      obtain ⟨h3, h4⟩ := ex_and h1
      obtain ⟨h5, h6⟩ := ex_and h3
      exact ⟨_, rd_gone (by simpa using h4), fun W X c => s_loc c h5 h6⟩
    · cases h1
  | many is =>
    simp only [mT1] at h
    split at h
    · rename_i es ee
      obtain ⟨kk, p, rfl⟩ := vTup_eq ee
      obtain ⟨g1, g2⟩ := s_tgs (T := T) (k := k) h
      refine ⟨_, rd_gmany g1, fun W X c => ?_⟩
      obtain ⟨q1, q2, q3⟩ := g2 W X c
      rw [← c.c.K]
      exact pg_tup c.c.calm q1 q2 q3
    · cases h
theorem blk_cxt {C : MC} {W : WX} {X : Cx} {scope : Scope} (c : CxtM T k C W X) (s : Shared) (H : Hp) (D : Addr) (cl : List (Str × Addr)) (fp : List Addr) : CxtM T k (C.blk scope) W0 (X.blk s H scope (compEnvC scope cl D X.env) fp) := by
  refine ⟨⟨c.c.prog, c.c.w, c.c.K, c.c.mg, c.c.base, c.c.xN, c.c.nd, ?_, c.c.calm, c.c.room, fun u s' ⟨_, _, _, _, _, _, _, _, _, _, _, _, _, _, _, _, z⟩ => z.elim⟩, fun x h => h⟩
  show relS scope X.env.scope = relS scope C.sc
  rw [c.c.sc]
theorem co_all (o : CO) : ∃ r, RdO T 1 r (cmpD o) ∧ ∀ (C : MC) (W : WX) (X : Cx), CxtM T k C W X → OpR X (compareOp (coP o)) r := by
  cases o with
  | eq => exact ⟨rEqN T.K false, o_eq false, fun C W X c => by rw [← c.c.K]; exact op_eqD (by have := c.c.u; omega)⟩
  | ne => exact ⟨rEqN T.K true, o_eq true, fun C W X c => by rw [← c.c.K]; exact op_neD (by have := c.c.u; omega)⟩
  | lt => exact ⟨rLt T.K, o_lt, fun C W X c => by rw [← c.c.K]; exact p_lt c.c.u⟩
  | le => exact ⟨_, o_le, fun C W X c => op_le⟩
  | gt => exact ⟨_, o_gt, fun C W X c => op_gt⟩
  | ge => exact ⟨_, o_ge, fun C W X c => op_ge⟩
  | isin => exact ⟨rInA T.K false, o_in false, fun C W X c => by rw [← c.c.K]; exact p_inA c.c.u⟩
  | notin => exact ⟨rInA T.K true, o_in true, fun C W X c => by rw [← c.c.K]; exact p_notInA c.c.u⟩
  | is_ => exact ⟨rIs false, o_is false, fun C W X c => op_isN⟩
  | isnot => exact ⟨rIs true, o_is true, fun C W X c => op_notN⟩
abbrev OkL (T : Rt) (k : Nat) (C : MC) (W : WX) (ps : PL) (es : List Expr) : Prop := ∃ t, RdA T C.mu C.N.length W t (evL ps) ∧ ∀ X, CxtM T k C W X → PA X es t
abbrev OkQ (T : Rt) (k : Nat) (C : MC) (W : WX) (q : PQ) (e : Option Expr) : Prop := ∃ t, RdP T C.mu C.N.length W t (evPQ q) ∧ ∀ X, CxtM T k C W X → L2.PO X e t
abbrev OkC (T : Rt) (k : Nat) (C : MC) (W : WX) (q : PQ) (es : List Expr) : Prop := ∃ t, RdT T C.mu C.N.length W t (evC q) ∧ ∀ X, CxtM T k C W X → PTs X es t
abbrev OkI (T : Rt) (k : Nat) (C : MC) (W : WX) (i : I) (tg e : Expr) : Prop := ∃ wi, RdI T C.mu C.N.length W (fzI C.mu i) wi (evI i) ∧ ∀ X, CxtM T k C W X → PI X tg e wi
/-- a comprehension from its parts -/
theorem s_cp {C : MC} {W : WX} {e0 : P} {tg : Tg} {it : I} {cn : PQ} {own : List Nat} {elt target iter : Expr} {ifs : List Expr} {scope : Scope} (hI : OkI T k C W it target iter) (hC : OkC T k (C.blk scope) W0 cn ifs) (hE : OkE T k (C.blk scope) W0 e0 elt)
    (hm : mdP C.mu e0 ≤ 1) (hT : mT1 (C.blk scope) tg target = true) (hs : (slT tg).all (fun i => decide (i ∈ own)) = true) (hb : blkC C.N C.sc scope (own.map fun i => (nm C.N i, i)) = true) :
    ∃ wi g tt te, RdE T C.mu C.N.length W 1 (tLc wi g tt te own) (ev (.cp e0 tg it cn own)) ∧ ∀ X, CxtM T k C W X → PI X target iter wi ∧ BlkOk X.N X.env.scope scope (own.map fun i => (nm C.N i, i)) ∧
      (∀ (s : Shared) (H : Hp) (D : Addr) (cl : List (Str × Addr)) (fp : List Addr), PG (X.blk s H scope (compEnvC scope cl D X.env) fp) target g) ∧
      (∀ (s : Shared) (H : Hp) (D : Addr) (cl : List (Str × Addr)) (fp : List Addr), PTs (X.blk s H scope (compEnvC scope cl D X.env) fp) ifs tt) ∧
      (∀ (s : Shared) (H : Hp) (D : Addr) (cl : List (Str × Addr)) (fp : List Addr), PE (X.blk s H scope (compEnvC scope cl D X.env) fp) elt te) := by
  obtain ⟨wi, ri, pi⟩ := hI
  obtain ⟨tt, rt, pt⟩ := hC
  obtain ⟨te, re, pe⟩ := hE
  obtain ⟨g, rg, pg⟩ := s_tg (T := T) (k := k) hT
  refine ⟨wi, g, tt, te, ?_, fun X c => ⟨pi X c, ?_, fun s H D cl fp => pg W0 _ (blk_cxt c s H D cl fp), fun s H D cl fp => pt _ (blk_cxt c s H D cl fp), fun s H D cl fp => pe _ (blk_cxt c s H D cl fp)⟩⟩
  · have := rd_cp (T := T) (W := W) ri.loose rg rt (re.zero hm) (fun i hi => of_decide_eq_true (List.all_eq_true.mp hs i hi))
    exact this.as fun _ => rfl
  · rw [c.c.xN, c.c.sc]
    exact blkOk_by hb
theorem own_snd {N : List Str} (own : List Nat) : (own.map fun i => (nm N i, i)).map (·.2) = own := by
  rw [List.map_map]
  exact List.map_id _
theorem an_one (m : M Bool) : (bnd m fun b => if b then ret true else ret false) = m := by
  conv => rhs; rw [← bnd_ret m]
  congr 1
  funext b
  cases b <;> rfl
theorem or_one (m : M Bool) : (bnd m fun b => if b then ret true else ret false) = m := an_one m
theorem s_isi (a : P) (ts : List Ty) (C : MC) (e : Expr) (W : WX) (h : mE C (.isi a ts) e = true) (hn : Nds T k (ndP (.isi a ts))) (ih : ∀ y, mE C a y = true → OkE T k C W a y) : OkE T k C W (.isi a ts) e := by
  simp only [mE] at h
  split at h
  · rename_i x y z ex
    obtain ⟨p1, p, rfl⟩ := vCall_eq ex
    obtain ⟨h1, h2⟩ := ex_and h
    obtain ⟨h3, h4⟩ := ex_and h1
    obtain ⟨h5, h6⟩ := ex_and h3
    obtain ⟨h7, h8⟩ := ex_and h5
    obtain ⟨h9, h10⟩ := ex_and h7
    have eq := beq_iff_eq.mp h9
    obtain ⟨n1, n2⟩ := Nds.con (show Nds T k (.bi "isinstance" :: (ts.map (fun t => .bi (Str.ofString (tyS t))) ++ ndP a)) from hn)
    obtain ⟨n3, n4⟩ := Nds.app n2
    have nt : ∀ t ∈ ts, T.mg (Str.ofString (tyS t)) = none := fun t ht => n3 (.bi (Str.ofString (tyS t))) (List.mem_map.mpr ⟨t, ht, rfl⟩)
    obtain ⟨ta, ra, pa⟩ := ih y h4
    have key : (∃ t, ts = [t] ∧ tyE t z = true ∧ glB C.sc (Str.ofString (tyS t)) = true) ∨ ∃ zs, vTup z = some zs ∧ mTys ts zs = true ∧ ts.all (fun t => glB C.sc (Str.ofString (tyS t))) = true ∧ ts.length ≤ LIM := by
      split at h2
      · rename_i t
        obtain ⟨a1, a2⟩ := ex_and h2
        exact .inl ⟨t, rfl, a1, a2⟩
      · split at h2
        · rename_i zs ez
          obtain ⟨a0, a3⟩ := ex_and h2
          obtain ⟨a1, a2⟩ := ex_and a0
          exact .inr ⟨zs, ez, a1, a2, of_decide_eq_true a3⟩
        · cases h2
    rcases key with ⟨t, rfl, k1, k2⟩ | ⟨zs, ez, k1, k2, k3⟩
    · refine ⟨tUn (rIsi1 T.K t) ta, ((rd_un ra (o_isi1 t)).zero (Nat.le_refl 1)).as fun _ => rfl, fun X c => ?_⟩
      have hz := s_ty (nt t List.mem_cons_self) k1 k2 c
      show PE X (.Call (.Name x p1) [y, z] [] p) _
      rw [eq]
      refine pe_callB (r := rIsi T.K) (t := tCons ta (tCons (tC (V.ty (tyS t))) tNil)) (by rw [← c.c.K]; exact call_isi) (c.c.gl (by rw [← eq]; exact h10)) (by rw [c.c.mg]; exact n1) boot_isinstance
        (pa_cons (pa X c) (pa_cons hz pa_nil (star1 h6 _)) (okE_star h8 _ _)) (by decide) (by decide) (okE_star h8 _ _) (backTo_ok (by simp [allOk, h6]) _ _)
    · refine ⟨tCB (rIsiT T.K) (tCons ta (tCons (tTup ((ts.map fun t => tC (V.ty (tyS t))).foldr tCons tNil)) tNil)), ?_, fun X c => ?_⟩
      · refine RdE.zero (md := 1) ?_ (Nat.le_refl 1)
        intro E ρ σ G H μ st Q er hres
        have hres' : Res (bnd (ev a ρ) (fun x => if noObj x then ret (D.bl (ts.any fun t => isTy t x)) else BX.bad) st) _ _ := hres
        refine ra E ρ σ G H μ st _ er (hres'.bnd.mono (fun d s1 g1 v G1 H1 μ1 e1 w1 q1 => ?_) fun c s g => g)
        refine tys_run ts _ ⟨?_, fun p2 hp2 => ?_⟩
        · rw [List.length_map]
          rw [limS]
          exact k3
        · have := o_isiN (T := T) ts d v G1 H1 μ1 s1 Q w1 (q1.two w1.gh).any (g1.mono (fun d2 s2 g2 v2 G2 H2 e2 w2 q2 => g2 v2 G2 H2 μ1 (e1.trans e2) w2 (q2.back e1.i)) fun _ _ _ => trivial) p2 hp2
          exact this
      · obtain ⟨kk, pz, rfl⟩ := vTup_eq ez
        obtain ⟨u, hu, rfl⟩ := s_tys nt k1 k2 c
        show PE X (.Call (.Name x p1) [y, .Tuple zs kk pz] [] p) _
        rw [eq]
        exact pe_callB (r := rIsiT T.K) (by rw [← c.c.K]; exact call_isiT) (c.c.gl (by rw [← eq]; exact h10)) (by rw [c.c.mg]; exact n1) boot_isinstance
          (pa_cons (pa X c) (pa_cons (pe_tup hu) pa_nil (star1 h6 _)) (okE_star h8 _ _)) (by decide) (by decide) (okE_star h8 _ _) (backTo_ok (by simp [allOk, h6]) _ _)
  · cases h
set_option maxHeartbeats 4000000 in
mutual
theorem mE_ok : ∀ (p : P) (C : MC) (e : Expr) (W : WX), mE C p e = true → Nds T k (ndP p) → OkE T k C W p e
  | .var i, C, e, W, h, _ => by
    simp only [mE] at h
    split at h
    · rename_i x ex
      obtain ⟨p, rfl⟩ := vName_eq ex
      obtain ⟨h1, h2⟩ := ex_and h
      obtain ⟨h3, h4⟩ := ex_and h1
      refine ⟨_, ?_, fun X c => s_var c h3 h4 h2⟩
      exact (rd_var (T := T) (W := W) (N := C.N) (mu := C.mu) i).as fun _ => rfl
    · cases h
  | .cI i, C, e, W, h, _ => by
    simp only [mE] at h
    split at h
    · rename_i j ex
      obtain ⟨q, p, rfl⟩ := vCst_eq ex
      cases (of_decide_eq_true h)
      exact ⟨_, (rd_c fun _ _ _ _ => pk_int).as fun _ => rfl, fun X c => pe_int⟩
    · cases h
  | .cB b, C, e, W, h, _ => by
    simp only [mE] at h
    split at h
    · rename_i j ex
      obtain ⟨q, p, rfl⟩ := vCst_eq ex
      cases (of_decide_eq_true h)
      exact ⟨_, (rd_c fun _ _ _ _ => pk_bl).as fun _ => rfl, fun X c => pe_bl⟩
    · cases h
  | .cN, C, e, W, h, _ => by
    simp only [mE] at h
    split at h
    · rename_i ex
      obtain ⟨q, p, rfl⟩ := vCst_eq ex
      exact ⟨_, (rd_c fun _ _ _ _ => pk_non).as fun _ => rfl, fun X c => pe_non⟩
    · cases h
  | .cS s, C, e, W, h, _ => by
    simp only [mE] at h
    split at h
    · rename_i x ex
      obtain ⟨q, p, rfl⟩ := vCst_eq ex
      obtain ⟨h1, h2⟩ := ex_and h
      obtain ⟨h3, h4⟩ := ex_and h1
      have ex := of_decide_eq_true h3
      subst ex
      exact ⟨_, (rd_c fun _ _ _ _ => pk_str (of_decide_eq_true h4) fun c hc => of_decide_eq_true (List.all_eq_true.mp h2 c hc)).as fun _ => rfl, fun X c => pe_str⟩
    · cases h
  | .gl x d, C, e, W, h, hn => by
    simp only [mE] at h
    split at h
    · rename_i y ex
      obtain ⟨p, rfl⟩ := vName_eq ex
      obtain ⟨h1, h2⟩ := ex_and h
      obtain ⟨h3, h4⟩ := ex_and h1
      obtain ⟨h5, h6⟩ := ex_and h3
      have ey := beq_iff_eq.mp h5
      subst ey
      obtain ⟨u, v, m1, m2, m3⟩ := (show NdOk T k (.gl y d) from hn _ (by simp [ndP]))
      exact ⟨_, (rd_c fun G H H' μ => Po.of (by simpa using h2) (m3 G μ)).as fun _ => rfl, fun X c => pe_glob (c.c.gl h6) (by rw [c.c.mg]; exact m1) m2 (db1 h4)⟩
    · cases h
  | .bin o a b, C, e, W, h, hn => by
    simp only [mE] at h
    split at h
    · rename_i q ex
      obtain ⟨p, rfl⟩ := vBin_eq ex
      obtain ⟨h1, h2⟩ := ex_and h
      obtain ⟨h3, h4⟩ := ex_and h1
      obtain ⟨h5, h6⟩ := ex_and h3
      obtain ⟨h7, h8⟩ := ex_and h5
      obtain ⟨n1, n2⟩ := Nds.app (show Nds T k (ndP a ++ ndP b) from hn)
      obtain ⟨ta, ra, pa⟩ := mE_ok a C q.1 W h4 n1
      obtain ⟨tb, rb, pb⟩ := mE_ok b C q.2.2 W h2 n2
      have eo := of_decide_eq_true h7
      have key : ∃ r : R2, RdO T 1 r (opD o) ∧ ∀ X, CxtM T k C W X → OpR X (binaryOp (boP o)) r := by
        cases o with
        | add => exact ⟨rAdd T.K, o_add, fun X c => by rw [← c.c.K]; exact p_add⟩
        | sub => exact ⟨_, o_sub, fun X c => op_sub⟩
        | mul => exact ⟨rMul T.K, o_mul, fun X c => by rw [← c.c.K]; exact p_mul⟩
        | mod => exact ⟨_, o_mod, fun X c => op_modN⟩
        | fdiv => exact ⟨_, o_fdiv, fun X c => op_fdivN⟩
      obtain ⟨r, hr, ho⟩ := key
      refine ⟨tOp r ta tb, (rd_op ra rb hr).as fun _ => rfl, fun X c => ?_⟩
      rw [← eo]
      exact pe_op (ho X c) (pa X c) (pb X c)
    · cases h
  | .neg a, C, e, W, h, hn => by
    simp only [mE] at h
    split at h
    · rename_i q ex
      obtain ⟨p, rfl⟩ := vUn_eq ex
      obtain ⟨h1, h2⟩ := ex_and h
      obtain ⟨h3, h4⟩ := ex_and h1
      obtain ⟨ta, ra, pa⟩ := mE_ok a C q.2 W h2 hn
      refine ⟨_, (rd_neg ra).as fun _ => rfl, fun X c => ?_⟩
      rw [of_decide_eq_true h3]
      exact pe_un un_neg (pa X c)
    · cases h
  | .no a, C, e, W, h, hn => by
    simp only [mE] at h
    split at h
    · rename_i q ex
      obtain ⟨p, rfl⟩ := vUn_eq ex
      obtain ⟨h1, h2⟩ := ex_and h
      obtain ⟨h3, h4⟩ := ex_and h1
      obtain ⟨ta, ra, pa⟩ := mE_ok a C q.2 W h2 hn
      refine ⟨_, (rd_notV ra).as fun _ => rfl, fun X c => ?_⟩
      rw [of_decide_eq_true h3]
      exact pe_not (pa X c)
    · cases h
  | .an ps, C, e, W, h, hn => by
    simp only [mE] at h
    split at h
    · rename_i q ex
      obtain ⟨p, rfl⟩ := vBool_eq ex
      obtain ⟨h1, h2⟩ := ex_and h
      obtain ⟨t, r, pe⟩ := mV_and ps C q.2 W p h2 hn
      refine ⟨t, r.as fun _ => rfl, fun X c => ?_⟩
      rw [of_decide_eq_true h1]
      exact pe X c
    · cases h
  | .orr ps, C, e, W, h, hn => by
    simp only [mE] at h
    split at h
    · rename_i q ex
      obtain ⟨p, rfl⟩ := vBool_eq ex
      obtain ⟨h1, h2⟩ := ex_and h
      obtain ⟨t, r, pe⟩ := mV_or ps C q.2 W p h2 hn
      refine ⟨t, r.as fun _ => rfl, fun X c => ?_⟩
      rw [of_decide_eq_true h1]
      exact pe X c
    · cases h
  | .cmp o a b, C, e, W, h, hn => by
    simp only [mE] at h
    split at h
    · rename_i x q y ex
      obtain ⟨p, rfl⟩ := vCmp_eq ex
      obtain ⟨h1, h2⟩ := ex_and h
      obtain ⟨h3, h4⟩ := ex_and h1
      obtain ⟨h5, h6⟩ := ex_and h3
      obtain ⟨n1, n2⟩ := Nds.app (show Nds T k (ndP a ++ ndP b) from hn)
      obtain ⟨ta, ra, pa⟩ := mE_ok a C x W h4 n1
      obtain ⟨tb, rb, pb⟩ := mE_ok b C y W h2 n2
      obtain ⟨r, hr, ho⟩ := co_all (T := T) (k := k) o
      refine ⟨tOp r ta tb, (rd_op ra rb hr).as fun _ => rfl, fun X c => ?_⟩
      have eo := of_decide_eq_true h5
      show PE X (.Compare x [q] [y] p) _
      rw [← eo]
      exact pe_cmpR (ho C W X c) (pa X c) (pb X c) (okE_bh h6 _)
    · cases h
  | .chn o1 o2 a b d, C, e, W, h, hn => by
    simp only [mE] at h
    split at h
    · rename_i x q1 q2 y z ex
      obtain ⟨p, rfl⟩ := vCmp_eq ex
      obtain ⟨h1, h2⟩ := ex_and h
      obtain ⟨h3, h4⟩ := ex_and h1
      obtain ⟨h5, h6⟩ := ex_and h3
      obtain ⟨h7, h8⟩ := ex_and h5
      obtain ⟨h9, h10⟩ := ex_and h7
      obtain ⟨h11, h12⟩ := ex_and h9
      obtain ⟨n1, n2⟩ := Nds.app (show Nds T k (ndP a ++ (ndP b ++ ndP d)) from hn)
      obtain ⟨n3, n4⟩ := Nds.app n2
      obtain ⟨ta, ra, pa⟩ := mE_ok a C x W h6 n1
      obtain ⟨tb, rb, pb⟩ := mE_ok b C y W h4 n3
      obtain ⟨tc, rc, pc⟩ := mE_ok d C z W h2 n4
      obtain ⟨r, hr, ho⟩ := co_all (T := T) (k := k) o1
      obtain ⟨r', hr', ho'⟩ := co_all (T := T) (k := k) o2
      refine ⟨tChain r r' ta tb tc, (rd_chn ra rb rc hr hr').as fun _ => rfl, fun X c => ?_⟩
      have e1 := of_decide_eq_true h11
      have e2 := of_decide_eq_true h12
      show PE X (.Compare x [q1, q2] [y, z] p) _
      rw [← e1, ← e2]
      exact pe_chain (ho C W X c) (ho' C W X c) (pa X c) (pb X c) (pc X c) (okE_bh h8 _)
    · cases h
  | .ife t a b, C, e, W, h, hn => by
    simp only [mE] at h
    split at h
    · rename_i q ex
      obtain ⟨p, rfl⟩ := vIf_eq ex
      obtain ⟨h1, h2⟩ := ex_and h
      obtain ⟨h3, h4⟩ := ex_and h1
      obtain ⟨h5, h6⟩ := ex_and h3
      obtain ⟨h7, h8⟩ := ex_and h5
      obtain ⟨n1, n2⟩ := Nds.app (show Nds T k (ndP t ++ (ndP a ++ ndP b)) from hn)
      obtain ⟨n3, n4⟩ := Nds.app n2
      obtain ⟨tt, rt, pt⟩ := mT_ok t C q.1 W h7 n1
      obtain ⟨ta, ra, pa⟩ := mE_ok a C q.2.1 W h8 n3
      obtain ⟨tb, rb, pb⟩ := mE_ok b C q.2.2 W h6 n4
      exact ⟨_, (rd_if rt (ra.zero (of_decide_eq_true h4)) (rb.zero (of_decide_eq_true h2))).as fun _ => rfl, fun X c => pe_ifExp (pt X c) (pa X c) (pb X c)⟩
    · cases h
  | .ix a b, C, e, W, h, hn => by
    simp only [mE] at h
    split at h
    · rename_i q ex
      obtain ⟨p, rfl⟩ := vSub_eq ex
      obtain ⟨h1, h2⟩ := ex_and h
      obtain ⟨h3, h4⟩ := ex_and h1
      obtain ⟨n1, n2⟩ := Nds.app (show Nds T k (ndP a ++ ndP b) from hn)
      obtain ⟨ta, ra, pa⟩ := mE_ok a C q.1 W h4 n1
      obtain ⟨tb, rb, pb⟩ := mE_ok b C q.2 W h2 n2
      exact ⟨tOp (rIx T.K) ta tb, (rd_op ra rb o_ix).as fun _ => rfl, fun X c => pe_ix (by rw [← c.c.K]; exact ix_seq) (pa X c) (pb X c) (okE_ix h3)⟩
    · cases h
  | .sl a lo hi, C, e, W, h, hn => by
    simp only [mE] at h
    split at h
    · rename_i q ex
      obtain ⟨p, rfl⟩ := vSub_eq ex
      split at h
      · rename_i l u es
        obtain ⟨p2, e2⟩ := vSlice_eq es
        obtain ⟨h1, h2⟩ := ex_and h
        obtain ⟨h3, h4⟩ := ex_and h1
        obtain ⟨n1, n2⟩ := Nds.app (show Nds T k (ndP a ++ (ndQ lo ++ ndQ hi)) from hn)
        obtain ⟨n3, n4⟩ := Nds.app n2
        obtain ⟨ta, ra, pa⟩ := mE_ok a C q.1 W h3 n1
        obtain ⟨tl, rl, pl⟩ := mQ_ok lo C l W h4 n3
        obtain ⟨th, rh, ph⟩ := mQ_ok hi C u W h2 n4
        refine ⟨_, (rd_sl ra rl rh).as fun _ => rfl, fun X c => ?_⟩
        rw [e2]
        exact pe_slice (by rw [← c.c.K]; exact p_sl) (pa X c) (pl X c) (ph X c)
      · cases h
    · cases h
  | .rv a, C, e, W, h, hn => by
    simp only [mE] at h
    split at h
    · rename_i q ex
      obtain ⟨p, rfl⟩ := vSub_eq ex
      obtain ⟨h1, h2⟩ := ex_and h
      obtain ⟨kk, p1, p2, p3, e2⟩ := isRev_eq h1
      obtain ⟨ta, ra, pa⟩ := mE_ok a C q.1 W h2 hn
      refine ⟨tUn (rRev T.K) ta, (rd_un ra o_rev).as fun _ => rfl, fun X c => ?_⟩
      rw [e2, ← c.c.K]
      exact pe_rev (pa X c)
    · cases h
  | .st2 _ _, C, e, W, h, _ => by simp [mE] at h
  | .li ps, C, e, W, h, hn => by
    simp only [mE] at h
    split at h
    · rename_i es ex
      obtain ⟨p, rfl⟩ := vList_eq ex
      obtain ⟨t, r, pa⟩ := mL_ok ps C es W h hn
      exact ⟨_, (rd_lst r).as fun _ => rfl, fun X c => pe_lst (pa X c)⟩
    · cases h
  | .tu ps, C, e, W, h, hn => by
    simp only [mE] at h
    split at h
    · rename_i es ex
      obtain ⟨q, p, rfl⟩ := vTup_eq ex
      obtain ⟨t, r, pa⟩ := mL_ok ps C es W h hn
      exact ⟨_, (rd_tup r).as fun _ => rfl, fun X c => pe_tup (pa X c)⟩
    · cases h
  | .cp e0 tg it cn own, C, e, W, h, hn => by
    simp only [mE] at h
    split at h
    · rename_i q ex
      obtain ⟨p, rfl⟩ := vLc_eq ex
      obtain ⟨elt, ⟨target, iter, ifs, asy⟩, scope⟩ := q
      obtain ⟨h1, g9⟩ := ex_and h
      obtain ⟨h2, g8⟩ := ex_and h1
      obtain ⟨h3, g7⟩ := ex_and h2
      obtain ⟨h4, g6⟩ := ex_and h3
      obtain ⟨h5, g5⟩ := ex_and h4
      obtain ⟨h6, g4⟩ := ex_and h5
      obtain ⟨h7, g3⟩ := ex_and h6
      obtain ⟨g1, g2⟩ := ex_and h7
      have g1' : asy = 0 := of_decide_eq_true g1
      subst g1'
      obtain ⟨n1, n2⟩ := Nds.app (show Nds T k (ndP e0 ++ (ndI it ++ ndQ cn)) from hn)
      obtain ⟨n3, n4⟩ := Nds.app n2
      obtain ⟨wi, g, tt, te, hr, hX⟩ := s_cp (cn := cn) (it := it) (mI_ok it C target iter W g5 n3) (mC_ok cn (C.blk scope) ifs W0 g7 n4) (mE_ok e0 (C.blk scope) elt W0 g8 n1) (of_decide_eq_true g9) g6 g4 g3
      refine ⟨_, hr, fun X c => ?_⟩
      obtain ⟨x1, x2, x3, x4, x5⟩ := hX X c
      have := pe_lc (pos := p) c.c.calm (nd_of c) x1 x2 x3 x4 x5 (fun x => okE_fs g2 X.env x)
      rw [own_snd] at this
      exact this
    · cases h
  | .ca x F ps, C, e, W, h, hn => by
    simp only [mE] at h
    split at h
    · rename_i q ex
      obtain ⟨p1, p, rfl⟩ := vCall_eq ex
      obtain ⟨h1, h2⟩ := ex_and h
      obtain ⟨h3, h4⟩ := ex_and h1
      obtain ⟨h5, h6⟩ := ex_and h3
      obtain ⟨h7, h8⟩ := ex_and h5
      obtain ⟨h9, h10⟩ := ex_and h7
      have eq := beq_iff_eq.mp h9
      obtain ⟨n1, n2⟩ := Nds.con (show Nds T k (.fn x F :: ndL ps) from hn)
      obtain ⟨t, r, pa⟩ := mL_ok ps C q.2 W h2 n2
      refine ⟨_, (rd_call r).as fun _ => rfl, fun X c => ?_⟩
      rw [eq]
      exact s_call c n1 h10 h8 (fun z => by rw [z] at h6; simp at h6) h4 (pa X c)
    · cases h
  | .pk _ _ _, C, e, W, h, _ => by simp [mE] at h
  | .b1 f a, C, e, W, h, hn => by
    simp only [mE] at h
    split at h
    · rename_i x y ex
      obtain ⟨p1, p, rfl⟩ := vCall_eq ex
      obtain ⟨h1, h2⟩ := ex_and h
      obtain ⟨h3, h4⟩ := ex_and h1
      obtain ⟨h5, h6⟩ := ex_and h3
      obtain ⟨h7, h8⟩ := ex_and h5
      have eq := beq_iff_eq.mp h8
      obtain ⟨n1, n2⟩ := Nds.con (show Nds T k (.bi (Str.ofString (bnS f)) :: ndP a) from hn)
      obtain ⟨ta, ra, pa⟩ := mE_ok a C y W h2 n2
      obtain ⟨r, hr, ho⟩ := b1_rule (T := T) (k := k) f h7
      refine ⟨_, (rd_un ra hr).as fun _ => rfl, fun X c => ?_⟩
      show PE X (.Call (.Name x p1) [y] [] p) _
      rw [eq]
      exact ho C W X y ta p1 p c n1 (by rw [← eq]; exact h6) h4 (pa X c)
    · cases h
  | .b2 _ _ _, C, e, W, h, _ => by simp [mE] at h
  | .isi a ts, C, e, W, h, hn => s_isi a ts C e W h hn fun y h1 => mE_ok a C y W h1 (Nds.app (Nds.con hn).2).2
  | .mt _ _ _, C, e, W, h, _ => by simp [mE] at h
  | .lr _ _ _, C, e, W, h, _ => by simp [mE] at h
  | .dic _ _ _, C, e, W, h, _ => by simp [mE] at h
  | .dix _ _, C, e, W, h, _ => by simp [mE] at h
  | .at _ _ _, C, e, W, h, _ => by simp [mE] at h
  | .me _ _ _ _ _, C, e, W, h, _ => by simp [mE] at h
  | .mk _ _ _ _, C, e, W, h, _ => by simp [mE] at h
theorem mT_ok : ∀ (p : P) (C : MC) (e : Expr) (W : WX), mT C p e = true → Nds T k (ndP p) → OkT T k C W p e
  | .an ps, C, e, W, h, hn => by
    simp only [mT] at h
    split at h
    · rename_i q ex
      obtain ⟨p, rfl⟩ := vBool_eq ex
      obtain ⟨h1, h2⟩ := ex_and h
      obtain ⟨t, r, pw⟩ := mTs_and ps C q.2 W p h2 hn
      refine ⟨t, (r).as (fun _ => rfl), fun X c => ?_⟩
      rw [of_decide_eq_true h1]
      exact (pw X c).pt
    · cases h
  | .orr ps, C, e, W, h, hn => by
    simp only [mT] at h
    split at h
    · rename_i q ex
      obtain ⟨p, rfl⟩ := vBool_eq ex
      obtain ⟨h1, h2⟩ := ex_and h
      obtain ⟨t, r, pw⟩ := mTs_or ps C q.2 W p h2 hn
      refine ⟨t, (r).as (fun _ => rfl), fun X c => ?_⟩
      rw [of_decide_eq_true h1]
      exact (pw X c).pt
    · cases h
  | .no a, C, e, W, h, hn => by
    simp only [mT] at h
    split at h
    · rename_i q ex
      obtain ⟨p, rfl⟩ := vUn_eq ex
      obtain ⟨h1, h2⟩ := ex_and h
      obtain ⟨ta, ra, pa⟩ := mT_ok a C q.2 W h2 hn
      refine ⟨_, (rd_notT ra).as (fun _ => rfl), fun X c => ?_⟩
      rw [of_decide_eq_true h1]
      exact pt_not (pa X c)
    · cases h
  | .cmp o a b, C, e, W, h, hn => by
    simp only [mT] at h
    split at h
    · rename_i x q y ex
      obtain ⟨p, rfl⟩ := vCmp_eq ex
      obtain ⟨h1, h2⟩ := ex_and h
      obtain ⟨h3, h4⟩ := ex_and h1
      obtain ⟨h5, h6⟩ := ex_and h3
      obtain ⟨n1, n2⟩ := Nds.app (show Nds T k (ndP a ++ ndP b) from hn)
      obtain ⟨ta, ra, pa⟩ := mE_ok a C x W h4 n1
      obtain ⟨tb, rb, pb⟩ := mE_ok b C y W h2 n2
      obtain ⟨r, hr, ho⟩ := co_all (T := T) (k := k) o
      refine ⟨tTest (tOp r ta tb), (rd_test (rd_op ra rb hr)).as (fun _ => rfl), fun X c => ?_⟩
      have eo := of_decide_eq_true h5
      show PT X (.Compare x [q] [y] p) _
      rw [← eo]
      exact pt_cmpR (ho C W X c) (pa X c) (pb X c) (okE_bh h6 _)
    · cases h
  | .chn o1 o2 a b d, C, e, W, h, hn => by
    simp only [mT] at h
    split at h
    · rename_i x q1 q2 y z ex
      obtain ⟨p, rfl⟩ := vCmp_eq ex
      obtain ⟨h1, h2⟩ := ex_and h
      obtain ⟨h3, h4⟩ := ex_and h1
      obtain ⟨h5, h6⟩ := ex_and h3
      obtain ⟨h7, h8⟩ := ex_and h5
      obtain ⟨h9, h10⟩ := ex_and h7
      obtain ⟨h11, h12⟩ := ex_and h9
      obtain ⟨n1, n2⟩ := Nds.app (show Nds T k (ndP a ++ (ndP b ++ ndP d)) from hn)
      obtain ⟨n3, n4⟩ := Nds.app n2
      obtain ⟨ta, ra, pa⟩ := mE_ok a C x W h6 n1
      obtain ⟨tb, rb, pb⟩ := mE_ok b C y W h4 n3
      obtain ⟨tc, rc, pc⟩ := mE_ok d C z W h2 n4
      obtain ⟨r, hr, ho⟩ := co_all (T := T) (k := k) o1
      obtain ⟨r', hr', ho'⟩ := co_all (T := T) (k := k) o2
      refine ⟨tTest (tChain r r' ta tb tc), (rd_test (rd_chn ra rb rc hr hr')).as (fun _ => rfl), fun X c => ?_⟩
      have e1 := of_decide_eq_true h11
      have e2 := of_decide_eq_true h12
      show PT X (.Compare x [q1, q2] [y, z] p) _
      rw [← e1, ← e2]
      exact pt_chain (ho C W X c) (ho' C W X c) (pa X c) (pb X c) (pc X c) (okE_bh h8 _)
    · cases h
  | .var i, C, e, W, h, hn => by
    have h' : mE C (.var i) e = true := by simpa only [mE, mT] using h
    have ht : tstE e = true := by
      simp only [mT] at h
      split at h
      · rename_i x ex
        obtain ⟨p, rfl⟩ := vName_eq ex
        rfl
      · cases h
    simp only [mE] at h'
    split at h'
    · rename_i x ex
      obtain ⟨p, rfl⟩ := vName_eq ex
      obtain ⟨h1, h2⟩ := ex_and h'
      obtain ⟨h3, h4⟩ := ex_and h1
      exact ⟨tB (tVar i), (rd_test (rd_var (T := T) (W := W) (N := C.N) (mu := C.mu) i)).as (fun _ => rfl), fun X c => cut2 (s_var c h3 h4 h2) ht⟩
    · cases h'
  | .ca x F ps, C, e, W, h, hn => by
    simp only [mT] at h
    split at h
    · rename_i q ex
      obtain ⟨p1, p, rfl⟩ := vCall_eq ex
      obtain ⟨h1, h2⟩ := ex_and h
      obtain ⟨h3, h4⟩ := ex_and h1
      obtain ⟨h5, h6⟩ := ex_and h3
      obtain ⟨h7, h8⟩ := ex_and h5
      obtain ⟨h9, h10⟩ := ex_and h7
      have eq := beq_iff_eq.mp h9
      obtain ⟨n1, n2⟩ := Nds.con (show Nds T k (.fn x F :: ndL ps) from hn)
      obtain ⟨t, r, pa⟩ := mL_ok ps C q.2 W h2 n2
      refine ⟨_, (rd_test (rd_call r)).as (fun _ => rfl), fun X c => cut2 ?_ rfl⟩
      rw [eq]
      exact s_call c n1 h10 h8 (fun z => by rw [z] at h6; simp at h6) h4 (pa X c)
    · cases h
  | .b1 f a, C, e, W, h, hn => by
    simp only [mT] at h
    split at h
    · rename_i x y ex
      obtain ⟨p1, p, rfl⟩ := vCall_eq ex
      obtain ⟨h1, h2⟩ := ex_and h
      obtain ⟨h3, h4⟩ := ex_and h1
      obtain ⟨h5, h6⟩ := ex_and h3
      obtain ⟨h7, h8⟩ := ex_and h5
      have eq := beq_iff_eq.mp h8
      obtain ⟨n1, n2⟩ := Nds.con (show Nds T k (.bi (Str.ofString (bnS f)) :: ndP a) from hn)
      obtain ⟨ta, ra, pa⟩ := mE_ok a C y W h2 n2
      obtain ⟨r, hr, ho⟩ := b1_rule (T := T) (k := k) f h7
      refine ⟨_, (rd_test (rd_un ra hr)).as (fun _ => rfl), fun X c => cut2 ?_ rfl⟩
      show PE X (.Call (.Name x p1) [y] [] p) _
      rw [eq]
      exact ho C W X y ta p1 p c n1 (by rw [← eq]; exact h6) h4 (pa X c)
    · cases h
  | .isi a ts, C, e, W, h, hn => by
    have h' : mE C (.isi a ts) e = true := by simpa only [mE, mT] using h
    have ht : tstE e = true := by
      simp only [mT] at h
      split at h
      · rename_i ex
        obtain ⟨p1, p, rfl⟩ := vCall_eq ex
        rfl
      · cases h
    obtain ⟨t, r, pe⟩ := s_isi (T := T) (k := k) a ts C e W h' hn (fun y h1 => mE_ok a C y W h1 (Nds.app (Nds.con hn).2).2)
    exact ⟨tB t, (rd_test r).as (fun _ => rfl), fun X c => cut2 (pe X c) ht⟩
  | .cB b, C, e, W, h, hn => by
    simp only [mT] at h
    split at h
    · rename_i j ex
      obtain ⟨q, p, rfl⟩ := vCst_eq ex
      cases (of_decide_eq_true h)
      exact ⟨tB (tC (.bl b)), (rd_test (rd_c (md := 0) fun _ _ _ _ => pk_bl)).as (fun _ => rfl), fun X c => cut2 pe_bl rfl⟩
    · cases h
  | .cI _, C, e, W, h, _ => by simp [mT] at h
  | .cN, C, e, W, h, _ => by simp [mT] at h
  | .cS _, C, e, W, h, _ => by simp [mT] at h
  | .gl _ _, C, e, W, h, _ => by simp [mT] at h
  | .bin _ _ _, C, e, W, h, _ => by simp [mT] at h
  | .neg _, C, e, W, h, _ => by simp [mT] at h
  | .ife _ _ _, C, e, W, h, _ => by simp [mT] at h
  | .ix _ _, C, e, W, h, _ => by simp [mT] at h
  | .sl _ _ _, C, e, W, h, _ => by simp [mT] at h
  | .rv _, C, e, W, h, _ => by simp [mT] at h
  | .st2 _ _, C, e, W, h, _ => by simp [mT] at h
  | .li _, C, e, W, h, _ => by simp [mT] at h
  | .tu _, C, e, W, h, _ => by simp [mT] at h
  | .cp _ _ _ _ _, C, e, W, h, _ => by simp [mT] at h
  | .pk _ _ _, C, e, W, h, _ => by simp [mT] at h
  | .b2 _ _ _, C, e, W, h, _ => by simp [mT] at h
  | .mt _ _ _, C, e, W, h, _ => by simp [mT] at h
  | .lr _ _ _, C, e, W, h, _ => by simp [mT] at h
  | .dic _ _ _, C, e, W, h, _ => by simp [mT] at h
  | .dix _ _, C, e, W, h, _ => by simp [mT] at h
  | .at _ _ _, C, e, W, h, _ => by simp [mT] at h
  | .me _ _ _ _ _, C, e, W, h, _ => by simp [mT] at h
  | .mk _ _ _ _, C, e, W, h, _ => by simp [mT] at h
theorem mTs_and : ∀ (ps : PL) (C : MC) (es : List Expr) (W : WX) (pos : Pos), mTs C ps es = true → Nds T k (ndL ps) → ∃ t, RdT T C.mu C.N.length W t (evTAn ps) ∧ ∀ X, CxtM T k C W X → PW X (.BoolOp .And es pos) t
  | .nil, C, es, W, pos, h, hn => by simp [mTs] at h
  | .cons p .nil, C, [e], W, pos, h, hn => by
    simp only [mTs] at h
    obtain ⟨ta, ra, pa⟩ := mT_ok p C e W h (Nds.app hn).1
    refine ⟨ta, ra.congr fun ρ => ?_, fun X c => pw_and1 (pa X c)⟩
    simp only [evTAn, an_one]
  | .cons p .nil, C, [], W, pos, h, hn => by simp [mTs] at h
  | .cons p .nil, C, e :: f :: es, W, pos, h, hn => by simp [mTs] at h
  | .cons p (.cons q ps), C, [], W, pos, h, hn => by simp [mTs] at h
  | .cons p (.cons q ps), C, [e], W, pos, h, hn => by simp [mTs] at h
  | .cons p (.cons q ps), C, e :: f :: es, W, pos, h, hn => by
    have h' : (mT C p e && mTs C (.cons q ps) (f :: es)) = true := by simpa only [mTs] using h
    obtain ⟨h1, h2⟩ := ex_and h'
    obtain ⟨n1, n2⟩ := Nds.app (show Nds T k (ndP p ++ ndL (.cons q ps)) from hn)
    obtain ⟨ta, ra, pa⟩ := mT_ok p C e W h1 n1
    obtain ⟨tb, rb, pb⟩ := mTs_and (.cons q ps) C (f :: es) W pos h2 n2
    exact ⟨tAnd ta tb, (rd_andT ra rb).congr fun ρ => by simp only [evTAn], fun X c => pw_and (pa X c) (pb X c)⟩
theorem mTs_or : ∀ (ps : PL) (C : MC) (es : List Expr) (W : WX) (pos : Pos), mTs C ps es = true → Nds T k (ndL ps) → ∃ t, RdT T C.mu C.N.length W t (evTOr ps) ∧ ∀ X, CxtM T k C W X → PW X (.BoolOp .Or es pos) t
  | .nil, C, es, W, pos, h, hn => by simp [mTs] at h
  | .cons p .nil, C, [e], W, pos, h, hn => by
    simp only [mTs] at h
    obtain ⟨ta, ra, pa⟩ := mT_ok p C e W h (Nds.app hn).1
    refine ⟨ta, ra.congr fun ρ => ?_, fun X c => pw_or1 (pa X c)⟩
    simp only [evTOr, or_one]
  | .cons p .nil, C, [], W, pos, h, hn => by simp [mTs] at h
  | .cons p .nil, C, e :: f :: es, W, pos, h, hn => by simp [mTs] at h
  | .cons p (.cons q ps), C, [], W, pos, h, hn => by simp [mTs] at h
  | .cons p (.cons q ps), C, [e], W, pos, h, hn => by simp [mTs] at h
  | .cons p (.cons q ps), C, e :: f :: es, W, pos, h, hn => by
    have h' : (mT C p e && mTs C (.cons q ps) (f :: es)) = true := by simpa only [mTs] using h
    obtain ⟨h1, h2⟩ := ex_and h'
    obtain ⟨n1, n2⟩ := Nds.app (show Nds T k (ndP p ++ ndL (.cons q ps)) from hn)
    obtain ⟨ta, ra, pa⟩ := mT_ok p C e W h1 n1
    obtain ⟨tb, rb, pb⟩ := mTs_or (.cons q ps) C (f :: es) W pos h2 n2
    exact ⟨tOr ta tb, (rd_orT ra rb).congr fun ρ => by simp only [evTOr], fun X c => pw_or (pa X c) (pb X c)⟩
theorem mV_and : ∀ (ps : PL) (C : MC) (es : List Expr) (W : WX) (pos : Pos), mV C ps es = true → Nds T k (ndL ps) → ∃ t, RdE T C.mu C.N.length W 0 t (evAn ps) ∧ ∀ X, CxtM T k C W X → PE X (.BoolOp .And es pos) t
  | .nil, C, es, W, pos, h, hn => by simp [mV] at h
  | .cons p .nil, C, [e], W, pos, h, hn => by
    simp only [mV] at h
    obtain ⟨h1, h2⟩ := ex_and h
    obtain ⟨ta, ra, pa⟩ := mE_ok p C e W h1 (Nds.app hn).1
    exact ⟨ta, (ra.zero (of_decide_eq_true h2)).as (fun _ => rfl), fun X c => pe_one (pa X c)⟩
  | .cons p .nil, C, [], W, pos, h, hn => by simp [mV] at h
  | .cons p .nil, C, e :: f :: es, W, pos, h, hn => by simp [mV] at h
  | .cons p (.cons q ps), C, [], W, pos, h, hn => by simp [mV] at h
  | .cons p (.cons q ps), C, [e], W, pos, h, hn => by simp [mV] at h
  | .cons p (.cons q ps), C, e :: f :: es, W, pos, h, hn => by
    have h' : (mE C p e && mV C (.cons q ps) (f :: es)) = true := by simpa only [mV] using h
    obtain ⟨h1, h2⟩ := ex_and h'
    obtain ⟨n1, n2⟩ := Nds.app (show Nds T k (ndP p ++ ndL (.cons q ps)) from hn)
    obtain ⟨ta, ra, pa⟩ := mE_ok p C e W h1 n1
    obtain ⟨tb, rb, pb⟩ := mV_and (.cons q ps) C (f :: es) W pos h2 n2
    exact ⟨tAndV ta tb, (rd_andV ra rb).as (fun _ => rfl), fun X c => pe_and (pa X c) (pb X c)⟩
theorem mV_or : ∀ (ps : PL) (C : MC) (es : List Expr) (W : WX) (pos : Pos), mV C ps es = true → Nds T k (ndL ps) → ∃ t, RdE T C.mu C.N.length W 0 t (evOr ps) ∧ ∀ X, CxtM T k C W X → PE X (.BoolOp .Or es pos) t
  | .nil, C, es, W, pos, h, hn => by simp [mV] at h
  | .cons p .nil, C, [e], W, pos, h, hn => by
    simp only [mV] at h
    obtain ⟨h1, h2⟩ := ex_and h
    obtain ⟨ta, ra, pa⟩ := mE_ok p C e W h1 (Nds.app hn).1
    exact ⟨ta, (ra.zero (of_decide_eq_true h2)).as (fun _ => rfl), fun X c => pe_one (pa X c)⟩
  | .cons p .nil, C, [], W, pos, h, hn => by simp [mV] at h
  | .cons p .nil, C, e :: f :: es, W, pos, h, hn => by simp [mV] at h
  | .cons p (.cons q ps), C, [], W, pos, h, hn => by simp [mV] at h
  | .cons p (.cons q ps), C, [e], W, pos, h, hn => by simp [mV] at h
  | .cons p (.cons q ps), C, e :: f :: es, W, pos, h, hn => by
    have h' : (mE C p e && mV C (.cons q ps) (f :: es)) = true := by simpa only [mV] using h
    obtain ⟨h1, h2⟩ := ex_and h'
    obtain ⟨n1, n2⟩ := Nds.app (show Nds T k (ndP p ++ ndL (.cons q ps)) from hn)
    obtain ⟨ta, ra, pa⟩ := mE_ok p C e W h1 n1
    obtain ⟨tb, rb, pb⟩ := mV_or (.cons q ps) C (f :: es) W pos h2 n2
    exact ⟨tOrV ta tb, (rd_orV ra rb).as (fun _ => rfl), fun X c => pe_or (pa X c) (pb X c)⟩
theorem mL_ok : ∀ (ps : PL) (C : MC) (es : List Expr) (W : WX), mL C ps es = true → Nds T k (ndL ps) → OkL T k C W ps es
  | .nil, C, [], W, h, hn => ⟨tNil, (rd_nil).as (fun _ => rfl), fun X c => pa_nil⟩
  | .nil, C, _ :: _, W, h, hn => by simp [mL] at h
  | .cons _ _, C, [], W, h, hn => by simp [mL] at h
  | .cons p ps, C, e :: es, W, h, hn => by
    simp only [mL] at h
    obtain ⟨h1, h2⟩ := ex_and h
    obtain ⟨h3, h4⟩ := ex_and h1
    obtain ⟨h5, h6⟩ := ex_and h3
    obtain ⟨n1, n2⟩ := Nds.app (show Nds T k (ndP p ++ ndL ps) from hn)
    obtain ⟨ta, ra, pa⟩ := mE_ok p C e W h6 n1
    obtain ⟨tb, rb, pb⟩ := mL_ok ps C es W h2 n2
    exact ⟨_, (rd_cons (ra.zero (of_decide_eq_true h4)) rb).as (fun _ => rfl), fun X c => pa_cons (pa X c) (pb X c) (okE_star h5 _ _)⟩
theorem mQ_ok : ∀ (q : PQ) (C : MC) (e : Option Expr) (W : WX), mQ C q e = true → Nds T k (ndQ q) → OkQ T k C W q e
  | .none, C, none, W, h, hn => ⟨_, (rd_pnone).as (fun _ => rfl), fun X c => po_none⟩
  | .none, C, some _, W, h, hn => by simp [mQ] at h
  | .some _, C, none, W, h, hn => by simp [mQ] at h
  | .some p, C, some e, W, h, hn => by
    simp only [mQ] at h
    obtain ⟨ta, ra, pa⟩ := mE_ok p C e W h hn
    exact ⟨_, (rd_psome ra).as (fun _ => rfl), fun X c => po_some (pa X c)⟩
theorem mC_ok : ∀ (q : PQ) (C : MC) (es : List Expr) (W : WX), mCn C q es = true → Nds T k (ndQ q) → OkC T k C W q es
  | .none, C, [], W, h, hn => ⟨tYes, fun E ρ σ G H μ st Q er hres => by
      have : Res (ret true st) _ _ := hres
      exact this G H μ (Ev.refl _ _ _) er.w, fun X c => pts_nil⟩
  | .none, C, _ :: _, W, h, hn => by simp [mCn] at h
  | .some _, C, [], W, h, hn => by simp [mCn] at h
  | .some _, C, _ :: _ :: _, W, h, hn => by simp [mCn] at h
  | .some p, C, [e], W, h, hn => by
    simp only [mCn] at h
    obtain ⟨ta, ra, pa⟩ := mT_ok p C e W h hn
    exact ⟨ta, (ra).as (fun _ => rfl), fun X c => pts_one (pa X c)⟩
theorem mI_ok : ∀ (i : I) (C : MC) (tg e : Expr) (W : WX), mI C i tg e = true → Nds T k (ndI i) → OkI T k C W i tg e
  | .e p, C, tg, e, W, h, hn => by
    simp only [mI] at h
    obtain ⟨ta, ra, pa⟩ := mE_ok p C e W h hn
    refine ⟨iAny T.K ta, (rd_iter ra fun z => of_decide_eq_true z).as (fun _ => rfl), fun X c => ?_⟩
    rw [← c.c.K]
    exact pi_any (pa X c)
  | .r1 a, C, tg, e, W, h, hn => by
    simp only [mI] at h
    split at h
    · rename_i x y ex
      obtain ⟨p1, p, rfl⟩ := vCall_eq ex
      obtain ⟨h1, h2⟩ := ex_and h
      obtain ⟨h3, h4⟩ := ex_and h1
      obtain ⟨h5, h6⟩ := ex_and h3
      have eq := beq_iff_eq.mp h5
      obtain ⟨n1, n2⟩ := Nds.con (show Nds T k (.bi "range" :: ndP a) from hn)
      obtain ⟨ta, ra, pa⟩ := mE_ok a C y W h2 n2
      refine ⟨_, (rd_r1 ra).as (fun _ => rfl), fun X c => ?_⟩
      show PI X tg (.Call (.Name x p1) [y] [] p) _
      rw [eq]
      exact pi_range1 (c.c.gl (by rw [← eq]; exact h6)) (by rw [c.c.mg]; exact n1) (pa_cons (pa X c) pa_nil (star1 h4 _)) (star1 h4 _)
    · cases h
  | .r2 a b, C, tg, e, W, h, hn => by
    simp only [mI] at h
    split at h
    · rename_i x y z ex
      obtain ⟨p1, p, rfl⟩ := vCall_eq ex
      obtain ⟨h1, h2⟩ := ex_and h
      obtain ⟨h3, h4⟩ := ex_and h1
      obtain ⟨h5, h6⟩ := ex_and h3
      obtain ⟨h7, h8⟩ := ex_and h5
      obtain ⟨h9, h10⟩ := ex_and h7
      have eq := beq_iff_eq.mp h9
      obtain ⟨n1, n2⟩ := Nds.con (show Nds T k (.bi "range" :: (ndP a ++ ndP b)) from hn)
      obtain ⟨n3, n4⟩ := Nds.app n2
      obtain ⟨ta, ra, pa⟩ := mE_ok a C y W h4 n3
      obtain ⟨tb, rb, pb⟩ := mE_ok b C z W h2 n4
      refine ⟨_, (rd_r2 ra rb).as (fun _ => rfl), fun X c => ?_⟩
      show PI X tg (.Call (.Name x p1) [y, z] [] p) _
      rw [eq]
      exact pi_range2 (c.c.gl (by rw [← eq]; exact h10)) (by rw [c.c.mg]; exact n1) (pa_cons (pa X c) (pa_cons (pb X c) pa_nil (star1 h6 _)) (okE_star h8 _ _)) (by rw [okE_star h8, star1 h6]) (star1 h6 _)
    · cases h
  | .r3 a b d, C, tg, e, W, h, hn => by
    simp only [mI] at h
    split at h
    · rename_i x y z w ex
      obtain ⟨p1, p, rfl⟩ := vCall_eq ex
      obtain ⟨h1, h2⟩ := ex_and h
      obtain ⟨h3, h4⟩ := ex_and h1
      obtain ⟨h5, h6⟩ := ex_and h3
      obtain ⟨h7, h8⟩ := ex_and h5
      obtain ⟨h9, h10⟩ := ex_and h7
      obtain ⟨h11, h12⟩ := ex_and h9
      obtain ⟨h13, h14⟩ := ex_and h11
      have eq := beq_iff_eq.mp h13
      obtain ⟨n1, n2⟩ := Nds.con (show Nds T k (.bi "range" :: (ndP a ++ (ndP b ++ ndP d))) from hn)
      obtain ⟨n3, n4⟩ := Nds.app n2
      obtain ⟨n5, n6⟩ := Nds.app n4
      obtain ⟨ta, ra, pa⟩ := mE_ok a C y W h6 n3
      obtain ⟨tb, rb, pb⟩ := mE_ok b C z W h4 n5
      obtain ⟨tc, rc, pc⟩ := mE_ok d C w W h2 n6
      refine ⟨_, (rd_r3 ra rb rc).as (fun _ => rfl), fun X c => ?_⟩
      show PI X tg (.Call (.Name x p1) [y, z, w] [] p) _
      rw [eq]
      exact pi_range3 (c.c.gl (by rw [← eq]; exact h14)) (by rw [c.c.mg]; exact n1) (pa_cons (pa X c) (pa_cons (pb X c) (pa_cons (pc X c) pa_nil (star1 h8 _)) (okE_star h10 _ _)) (okE_star h12 _ _)) (okE_star h12 _ _) (backTo_ok (by simp [allOk, h8, h10]) _ _)
    · cases h
  | .en a, C, tg, e, W, h, hn => by
    simp only [mI] at h
    split at h
    · rename_i x y ex
      obtain ⟨p1, p, rfl⟩ := vCall_eq ex
      obtain ⟨h1, h2⟩ := ex_and h
      obtain ⟨h3, h4⟩ := ex_and h1
      obtain ⟨h5, h6⟩ := ex_and h3
      obtain ⟨h7, h8⟩ := ex_and h5
      have eq := beq_iff_eq.mp h7
      obtain ⟨es, he⟩ := Option.isSome_iff_exists.mp h4
      obtain ⟨kk, tp, rfl⟩ := vTup_eq he
      obtain ⟨n1, n2⟩ := Nds.con (show Nds T k (.bi "enumerate" :: ndP a) from hn)
      obtain ⟨ta, ra, pa⟩ := mE_ok a C y W h2 n2
      refine ⟨iEnumK T.K ta, (rd_enum ra fun z => of_decide_eq_true z).as (fun _ => rfl), fun X c => ?_⟩
      show PI X _ (.Call (.Name x p1) [y] [] p) _
      rw [eq, ← c.c.K]
      exact pi_enumK (c.c.gl (by rw [← eq]; exact h8)) (by rw [c.c.mg]; exact n1) (pa X c) (star1 h6 _)
    · cases h
  | .zp _ _, C, tg, e, W, h, _ => by simp [mI] at h
  | .zp3 _ _ _, C, tg, e, W, h, _ => by simp [mI] at h
end
end BX

set_option Elab.async false
set_option linter.all false
set_option maxRecDepth 100000
/-! BS14: statements, one by one. -/
namespace BX
open PySem PySem.Spec PyProof.Rows L2
open PySem.SeqAt (dataPlace remove_list_data)
variable {T : Rt} {mu : List Nat} {n : Nat} {W : WX}
def EndsP (T : Rt) (mu : List Nat) (n : Nat) (E : EW) (G : Hp) (μ : List Addr) (σ : St) (as : List Nat) (D : Ends) : Fl × Env → Sto → Prop := fun q st' => match q.1 with
  | .nx => ∀ σ' G' H' μ', Er T mu n E q.2 σ' G' H' μ' st' → Sub G G' → Pre μ μ' → (∀ j, j ∉ as → σ'[j]? = σ[j]?) → D.nx σ' H'
  | .bk => ∀ σ' G' H' μ', Er T mu n E q.2 σ' G' H' μ' st' → Sub G G' → Pre μ μ' → (∀ j, j ∉ as → σ'[j]? = σ[j]?) → D.bk σ' H'
  | .ct => ∀ σ' G' H' μ', Er T mu n E q.2 σ' G' H' μ' st' → Sub G G' → Pre μ μ' → (∀ j, j ∉ as → σ'[j]? = σ[j]?) → D.ct σ' H'
  | .rt d => ∀ v G' H' μ', Ev E.G E.H E.μ G' H' μ' → WOk T G' H' μ' st' → Rp T.K G' μ' d v → D.rt v H'
def WS (T : Rt) (W : WX) (n : Nat) (E : EW) : Xc → Sto → Prop := fun c st' => ∀ σ' G' H' μ', σ'.length = n → Ev E.G E.H E.μ G' H' μ' → WOk T G' H' μ' st' → W (.ref (T.ca c)) none σ' H'
def RdS (T : Rt) (mu : List Nat) (n : Nat) (W : WX) (as : List Nat) (t : TS) (f : Env → MF) : Prop :=
  ∀ (E : EW) (ρ : Env) (σ : St) (G H : Hp) (μ : List Addr) (st : Sto) (D : Ends), Er T mu n E ρ σ G H μ st → Res (f ρ st) (EndsP T mu n E G μ σ as D) (WS T W n E) → t D σ H
theorem RdS.as {as : List Nat} {t : TS} {f g : Env → MF} (h : RdS T mu n W as t f) (e : ∀ ρ, g ρ = f ρ) : RdS T mu n W as t g := by
  rw [show g = f from funext e]
  exact h
section
variable {E : EW} {ρ : Env} {σ : St} {G H G' H' : Hp} {μ μ' : List Addr} {st st' : Sto}
theorem WS.wk {c : Xc} {s : Sto} (er : Er T mu n E ρ σ G H μ st) (h : WS T W n E c s) : WK T W G H μ σ c s := fun G' H' μ' e w => h σ G' H' μ' er.ls (er.en.trans e) w
/-- an expression first -/
theorem RdE.run {md : Nat} {t : TE} {f : Env → M D} {α : Type} {g : D → M α} {k : α → Sto → Prop} {Q : VK} (h : RdE T mu n W md t f) (er : Er T mu n E ρ σ G H μ st) (hres : Res (bnd (f ρ) g st) k (WS T W n E))
    (hq : ∀ d s1 v G1 H1 μ1, Ev G H μ G1 H1 μ1 → WOk T G1 H1 μ1 s1 → Po T md H G1 H1 μ1 d v → Res (g d s1) k (WS T W n E) → Q v H1) : t σ H Q :=
  h E ρ σ G H μ st Q er (hres.bnd.mono (fun d s1 h1 v G1 H1 μ1 e w p => hq d s1 v G1 H1 μ1 e w p h1) fun c s h => WS.wk er h)
theorem RdT.run {t : TT} {f : Env → M Bool} {α : Type} {g : Bool → M α} {k : α → Sto → Prop} {Q : Bool → Hp → Prop} (h : RdT T mu n W t f) (er : Er T mu n E ρ σ G H μ st) (hres : Res (bnd (f ρ) g st) k (WS T W n E))
    (hq : ∀ b s1 G1 H1 μ1, Ev G H μ G1 H1 μ1 → WOk T G1 H1 μ1 s1 → Res (g b s1) k (WS T W n E) → Q b H1) : t σ H Q :=
  h E ρ σ G H μ st Q er (hres.bnd.mono (fun d s1 h1 G1 H1 μ1 e w => hq d s1 G1 H1 μ1 e w h1) fun c s h => WS.wk er h)
/-! ### assignments -/
theorem rd_asg {md : Nat} {t : TE} {f : Env → M D} {tg : Tg} {g : TG} (h : RdE T mu n W 0 t f) (hg : RdG T mu n tg g) : RdS T mu n W (slT tg) (tAsg t g) (fun ρ => bnd (f ρ) fun d => bnd (ofO (stT tg d ρ)) fun ρ1 => ret (.nx, ρ1)) := by
  intro E ρ σ G H μ st D er hres
  refine h.run er hres fun d s1 v G1 H1 μ1 e1 w1 p1 h1 => ?_
  cases q : stT tg d ρ with
  | none => rw [q] at h1; exact h1.elim
  | some ρ1 =>
    rw [q] at h1
    exact hg E ρ σ G1 H1 μ1 s1 d v ρ1 _ (er.ev e1 w1) (po_rp0 p1) q fun σ1 er1 _ s => h1 σ1 G1 H1 μ1 er1 e1.g e1.m s
/-- a slot gets a list of its own -/
theorem Er.own (er : Er T mu n E ρ σ G H μ st) {i : Nat} {d : D} {v : V} (hi : i ∈ mu) (r : Ow T.K E.H G H μ d v) (ha : isLst d = true → ∀ j, j ∈ mu → j ≠ i → ∀ e, ρ[j]? = some (some e) → isLst e = true → σ[j]? ≠ some (some v)) :
    Er T mu n E (ρ.set i (some d)) (σ.set i (some v)) G H μ st := by
  refine ⟨er.w, er.en, by rw [List.length_set]; exact er.lr, by rw [List.length_set]; exact er.ls, fun j e hj h => ?_, fun j e hj h => ?_, fun j l d1 d2 u hj hl hjl l1 l2 h1 h2 h3 h4 => ?_⟩
  · have q : j ≠ i := fun z => hj (z ▸ hi)
    rw [List.getElem?_set_ne fun z => q z.symm] at h
    obtain ⟨u, h1, h2⟩ := er.pl j e hj h
    exact ⟨u, by rw [List.getElem?_set_ne fun z => q z.symm]; exact h1, h2⟩
  · rcases get_set h with ⟨rfl, q, hl⟩ | ⟨q, h'⟩
    · cases q
      exact ⟨v, List.getElem?_set_self (by rw [er.ls, ← er.lr]; exact hl), r⟩
    · obtain ⟨u, h1, h2⟩ := er.ow j e hj h'
      exact ⟨u, by rw [List.getElem?_set_ne fun z => q z.symm]; exact h1, h2⟩
  · rcases get_set h1 with ⟨rfl, q, hlen⟩ | ⟨q, h1'⟩
    · cases q
      rcases get_set h2 with ⟨rfl, _, _⟩ | ⟨q', h2'⟩
      · exact hjl rfl
      · rw [List.getElem?_set_self (by rw [er.ls, ← er.lr]; exact hlen)] at h3
        cases h3
        rw [List.getElem?_set_ne fun z => q' z.symm] at h4
        exact ha l1 l hl q' d2 h2' l2 h4
    · rcases get_set h2 with ⟨rfl, q', hlen⟩ | ⟨q', h2'⟩
      · cases q'
        rw [List.getElem?_set_self (by rw [er.ls, ← er.lr]; exact hlen)] at h4
        cases h4
        rw [List.getElem?_set_ne fun z => q z.symm] at h3
        exact ha l2 j hj q d1 h1' l1 h3
      · rw [List.getElem?_set_ne fun z => q z.symm] at h3
        rw [List.getElem?_set_ne fun z => q' z.symm] at h4
        exact er.ap j l d1 d2 u hj hl hjl l1 l2 h1' h2' h3 h4
end
theorem rd_m {md : Nat} {t : TE} {f : Env → M D} {i : Nat} {p : P} (hi : i ∈ mu) (h : RdE T mu n W md t f) (hm : md ≤ 1) (hf : fresh p = true → md = 1) : RdS T mu n W [i] (tAsg t (gName i)) (fun ρ => bnd (f ρ) fun d => if fresh p || !isLst d then ret (.nx, ρ.set i (some d)) else bad) := by
  intro E ρ σ G H μ st D er hres
  refine h.run er hres fun d s1 v G1 H1 μ1 e1 w1 p1 h1 => ?_
  split at h1
  · rename_i hc
    have er1 := er.ev e1 w1
    have same : ∀ j, j ∉ [i] → (σ.set i (some v))[j]? = σ[j]? := fun j hj => List.getElem?_set_ne fun z => hj (by simp [z])
    by_cases hl : isLst d = true
    · have hfr : fresh p = true := by simpa [hl] using hc
      have := hf hfr
      subst this
      cases d with
      | lst ds =>
        obtain ⟨a, xs, rfl, q1, q2, q3, q4, q5⟩ := (show ∃ a xs, v = .ref a ∧ H a = none ∧ G1 a = none ∧ H1 a = some (.lst xs) ∧ xs.length ≤ LIM ∧ RpL T.K G1 μ1 ds xs from p1)
        have hEa : E.H a = none := by
          cases z : E.H a with
          | none => rfl
          | some o =>
            obtain ⟨o', z'⟩ := er.en.i a o z
            rw [q1] at z'
            cases z'
        refine h1 _ G1 H1 μ1 (er1.own hi ⟨a, xs, rfl, hEa, q2, q3, q4, q5⟩ fun _ j hj hji e he le hs => ?_) e1.g e1.m same
        obtain ⟨u, u1, u2⟩ := er.ow j e hj he
        rw [hs] at u1
        cases u1
        cases e with
        | lst es =>
          obtain ⟨a', xs', z1, _, _, z2, _⟩ := (show ∃ a' xs', V.ref a = .ref a' ∧ E.H a' = none ∧ G a' = none ∧ H a' = some (.lst xs') ∧ xs'.length ≤ LIM ∧ RpL T.K G μ es xs' from u2)
          cases z1
          rw [q1] at z2
          cases z2
        | _ => cases le
      | _ => cases hl
    · have hl' : isLst d = false := by simpa using hl
      refine h1 _ G1 H1 μ1 (er1.own hi ?_ fun z => absurd z hl) e1.g e1.m same
      have r := p1.plain hl'
      cases d <;> first | exact r | cases hl'
  · exact h1.elim
/-! ### a slot's own list changed -/
theorem Er.chg {E : EW} {ρ : Env} {σ : St} {G H : Hp} {μ : List Addr} {st : Sto} (er : Er T mu n E ρ σ G H μ st) {i : Nat} {ds ds' : List D} {ys : List V} {l : Addr} {xs : List V} (hi : i ∈ mu) (hr : ρ[i]? = some (some (.lst ds))) (hs : σ[i]? = some (some (.ref l))) (hH : H l = some (.lst xs)) (hz : ys.length ≤ LIM) (r : RpL T.K G μ ds' ys) :
    Er T mu n E (ρ.set i (some (.lst ds'))) σ G (upd H l (.lst ys)) μ st := by
  obtain ⟨v, v1, v2⟩ := er.ow i _ hi hr
  rw [hs] at v1
  cases v1
  obtain ⟨a, zs, z1, z2, z3, z4, z5, z6⟩ := (show ∃ a zs, V.ref l = .ref a ∧ E.H a = none ∧ G a = none ∧ H a = some (.lst zs) ∧ zs.length ≤ LIM ∧ RpL T.K G μ ds zs from v2)
  cases z1
  obtain ⟨e, w⟩ := chg_lst (ys := ys) er.en er.w z2 z3 hH
  have hlen : i < ρ.length := (List.getElem?_eq_some_iff.mp hr).1
  refine ⟨w, e, by rw [List.length_set]; exact er.lr, er.ls, fun j d hj h => ?_, fun j d hj h => ?_, fun j k d1 d2 u hj hk hjk l1 l2 h1 h2 h3 h4 => ?_⟩
  · have q : j ≠ i := fun z => hj (z ▸ hi)
    rw [List.getElem?_set_ne fun z => q z.symm] at h
    exact er.pl j d hj h
  · rcases get_set h with ⟨rfl, q, _⟩ | ⟨q, h'⟩
    · cases q
      exact ⟨_, hs, l, ys, rfl, z2, z3, upd_same, hz, r⟩
    · obtain ⟨u, u1, u2⟩ := er.ow j d hj h'
      refine ⟨u, u1, ?_⟩
      cases d with
      | lst es =>
        obtain ⟨a', xs', y1, y2, y3, y4, y5, y6⟩ := (show ∃ a' xs', u = .ref a' ∧ E.H a' = none ∧ G a' = none ∧ H a' = some (.lst xs') ∧ xs'.length ≤ LIM ∧ RpL T.K G μ es xs' from u2)
        subst y1
        have ne : a' ≠ l := fun z => by
          subst z
          exact er.ap j i _ _ _ hj hi q rfl rfl h' hr u1 hs
        exact ⟨a', xs', rfl, y2, y3, by rw [upd_ne ne]; exact y4, y5, y6⟩
      | _ => exact u2
  · have key : ∀ {j : Nat} {d : D}, (ρ.set i (some (.lst ds')))[j]? = some (some d) → isLst d = true → ∃ d', ρ[j]? = some (some d') ∧ isLst d' = true := by
      intro j d h hd
      rcases get_set h with ⟨rfl, _, _⟩ | ⟨_, h'⟩
      · exact ⟨_, hr, rfl⟩
      · exact ⟨d, h', hd⟩
    obtain ⟨d1', k1, k2⟩ := key h1 l1
    obtain ⟨d2', k3, k4⟩ := key h2 l2
    exact er.ap j k d1' d2' u hj hk hjk k2 k4 k1 k3 h3 h4
theorem chg_ok {i : Nat} {f : List D → Option (List D)} {ρ : Env} {s : Sto} {k : Fl × Env → Sto → Prop} {x : Xc → Sto → Prop} (h : Res (chg i f ρ s) k x) : ∃ ds ys, ρ[i]? = some (some (.lst ds)) ∧ f ds = some ys ∧ k (.nx, ρ.set i (some (.lst ys))) s := by
  unfold BX.chg at h
  cases e : ρ[i]? with
  | none => rw [e] at h; exact h.elim
  | some o =>
    rw [e] at h
    cases o with
    | none => exact h.elim
    | some d =>
      cases d with
      | lst ds =>
        cases e' : f ds with
        | none =>
          simp only [e'] at h
          exact h.elim
        | some ys =>
          simp only [e'] at h
          exact ⟨ds, ys, rfl, e', h⟩
      | _ => exact h.elim
theorem Er.lst {E : EW} {ρ : Env} {σ : St} {G H : Hp} {μ : List Addr} {st : Sto} (er : Er T mu n E ρ σ G H μ st) {i : Nat} {ds : List D} (hi : i ∈ mu) (h : ρ[i]? = some (some (.lst ds))) : ∃ a xs, σ[i]? = some (some (.ref a)) ∧ H a = some (.lst xs) ∧ xs.length ≤ LIM ∧ RpL T.K G μ ds xs := by
  obtain ⟨v, v1, v2⟩ := er.ow i _ hi h
  obtain ⟨a, zs, z1, z2, z3, z4, z5, z6⟩ := (show ∃ a zs, v = .ref a ∧ E.H a = none ∧ G a = none ∧ H a = some (.lst zs) ∧ zs.length ≤ LIM ∧ RpL T.K G μ ds zs from v2)
  subst z1
  exact ⟨a, zs, v1, z4, z5, z6⟩
theorem lsM_ok {α : Type} {i : Nat} {ρ : Env} {g : Unit → M α} {s : Sto} {k : α → Sto → Prop} {x : Xc → Sto → Prop} (h : Res (bnd (lsM i ρ) g s) k x) : (∃ ds, ρ[i]? = some (some (.lst ds))) ∧ Res (g () s) k x := by
  unfold lsM at h
  split at h
  · rename_i ds e
    exact ⟨⟨ds, e⟩, h⟩
  · exact h.elim
/-- o.m(e), o a slot with a list of its own -/
theorem rd_chg {md : Nat} {t : TE} {f : Env → M D} {i : Nat} {r : V → List V → Hp → VK → Prop} {g : D → List D → Option (List D)} (hi : i ∈ mu) (h : RdE T mu n W md t f)
    (hr : ∀ (H0 G H : Hp) (μ : List Addr) (st : Sto) (d : D) (v : V) (a : Addr) (ds ys : List D) (xs : List V) (Q : VK), WOk T G H μ st → Po T md H0 G H μ d v → H a = some (.lst xs) → xs.length ≤ LIM → RpL T.K G μ ds xs → g d ds = some ys →
      (∀ zs, zs.length ≤ LIM → RpL T.K G μ ys zs → Q .non (upd H a (.lst zs))) → r (.ref a) [v] H Q) :
    RdS T mu n W [] (tDrop (tBM T.K "list" r (tVar i) (tCons t tNil))) (fun ρ => bnd (lsM i ρ) fun _ => bnd (f ρ) fun d => BX.chg i (g d) ρ) := by
  intro E ρ σ G H μ st D er hres
  obtain ⟨⟨ds, hd⟩, hres⟩ := lsM_ok hres
  obtain ⟨a, xs, q1, q2, q3, q4⟩ := er.lst hi hd
  refine ⟨.ref a, q1, .inl ⟨rfl, xs, .inl (.inl q2)⟩, ?_⟩
  refine h.run er hres fun d s1 v G1 H1 μ1 e1 w1 p1 h1 => ?_
  obtain ⟨ds', ys, k1, k2, k3⟩ := chg_ok h1
  rw [hd] at k1
  cases k1
  have er1 := er.ev e1 w1
  have q2' := e1.h _ _ q2 rfl
  have q4' := e1.rpl q4
  exact hr H G1 H1 μ1 s1 d v a ds ys xs _ w1 p1 q2' q3 q4' k2 fun zs z1 z2 => k3 σ G1 _ μ1 (er1.chg hi hd q1 q2' z1 z2) e1.g e1.m fun _ _ => rfl
theorem r_app {H0 G H : Hp} {μ : List Addr} {d : D} {v : V} {a : Addr} {ds ys : List D} {xs : List V} {Q : VK} (p : Po T 0 H0 G H μ d v) (hH : H a = some (.lst xs)) (hl : xs.length ≤ LIM) (hx : RpL T.K G μ ds xs) (e : appD d ds = some ys)
    (q : ∀ zs, zs.length ≤ LIM → RpL T.K G μ ys zs → Q .non (upd H a (.lst zs))) : rAppend (.ref a) [v] H Q := by
  unfold appD at e
  split at e
  · rename_i hz
    cases e
    rw [hx.length] at hz
    exact ⟨a, xs, v, rfl, rfl, hH, by rw [limS]; exact hz, q _ (by rw [List.length_append, List.length_singleton]; exact hz) (hx.append (RpL.one (po_rp0 p)))⟩
  · cases e
theorem r_ext {H0 G H : Hp} {μ : List Addr} {md : Nat} {st : Sto} {d : D} {v : V} {a : Addr} {ds ys : List D} {xs : List V} {Q : VK} (w : WOk T G H μ st) (p : Po T md H0 G H μ d v) (hH : H a = some (.lst xs)) (hl : xs.length ≤ LIM) (hx : RpL T.K G μ ds xs) (e : extD d ds = some ys)
    (q : ∀ zs, zs.length ≤ LIM → RpL T.K G μ ys zs → Q .non (upd H a (.lst zs))) : rExtend (.ref a) [v] H Q := by
  cases d with
  | lst es =>
    obtain ⟨b, zs, rfl, h1, h2, h3⟩ := po_lst (p.two w.gh)
    simp only [extD] at e
    split at e
    · rename_i hz
      cases e
      rw [hx.length, h3.length] at hz
      exact ⟨a, b, xs, zs, rfl, rfl, hH, h1, by rw [limS]; exact hz, q _ (by rw [List.length_append]; exact hz) (hx.append h3)⟩
    · cases e
  | _ => simp [extD] at e
/-! ### remove -/
def rRemD (K : PySem.W.Frag) : V → List V → Hp → VK → Prop := fun x vs H Q => ∃ (a : Addr) (xs : List V) (y : V) (ps : List PyData) (d : PyData) (j : Nat), x = .ref a ∧ vs = [y] ∧ H a = some (.lst xs) ∧ DpAll K H xs ps ∧ Dp K H y d ∧ SeqAt.shaped (.list ps) = true ∧ SeqAt.shaped d = true ∧
  dataPlace ps d = some j ∧ Q .non (upd H a (.lst (xs.eraseIdx j)))
theorem p_remD {X : Cx} (hu : X.A.units + 65 < cLine) : MtM X "list.remove" (rRemD X.K) := by
  intro pins s σ H x vs v us Q I rx rv h
  obtain ⟨a, xs, y, ps, d, j, rfl, rfl, hH, hp, hd, s1, s2, hj, q⟩ := h
  cases rx
  obtain ⟨u, rfl, ru⟩ := rv.one
  obtain ⟨z, its, n, r, hl, e⟩ := I.lstM hH
  obtain ⟨as, h4⟩ := Dp.readsAll I ps _ its hp r
  obtain ⟨bs, r1⟩ := Dp.reads I d y u hd ru
  have hpl : PyData.plainAll ps = true := by
    have := PyData.plain_of_canLay0 _ (SeqAt.canLay_of_shaped s1)
    simpa only [PyData.plain] using this
  refine remove_list_data (vs := its.toArray) (j := j) ⟨_, e, rfl, n, rfl⟩ (show ReadsAll s.heap its.toArray.toList ps as from h4) r1 hpl (PyData.plain_of_canLay0 _ (SeqAt.canLay_of_shaped s2)) (room_in_shaped s2 hu) hj (by rw [List.size_toArray, ← hl]; exact z) ?_
  refine ⟨.non, _, I.lset (its' := its.eraseIdx j) (t' := s.toks) hH e (by show its.toArray.eraseIdxIfInBounds j = _; rw [List.eraseIdxIfInBounds_toArray]) (r.eraseIdx j) ?_, rfl, q⟩
  have := len_erase xs j
  omega
theorem fstIx_ge (d : D) : ∀ (xs : List D) (i j : Nat), fstIx d xs i = some j → i ≤ j
  | [], _, _, h => by simp [fstIx] at h
  | x :: xs, i, j, h => by
    unfold fstIx at h
    split at h
    · cases h; exact Nat.le_refl _
    · have := fstIx_ge d xs (i + 1) j h
      omega
theorem fst_place {m : Nat} {d : D} (hd : sh m d = true) {n : Nat} : ∀ (xs : List D) (i j : Nat), shL n xs = true → fstIx d xs i = some j → (toPyL xs).findIdx? (fun y => PyData.eqv y (toPy d)) = some (j - i)
  | [], _, _, _, h => by simp [fstIx] at h
  | x :: xs, i, j, hs, h => by
    simp only [shL, Bool.and_eq_true] at hs
    unfold fstIx at h
    simp only [toPyL, List.findIdx?_cons]
    rw [eqv_toPy n m x d hs.1 hd]
    by_cases c : eqD x d = true
    · rw [if_pos c] at h
      cases h
      simp [c]
    · rw [if_neg c] at h
      have c' : eqD x d = false := by simpa using c
      rw [c']
      simp only [Bool.false_eq_true, if_false]
      have h2 := fst_place hd xs (i + 1) j hs.2 h
      have h3 := fstIx_ge d xs (i + 1) j h
      rw [h2]
      simp only [Option.map_some, Option.some.injEq]
      omega
theorem r_rem {H0 G H : Hp} {μ : List Addr} {md : Nat} {st : Sto} {d : D} {v : V} {a : Addr} {ds ys : List D} {xs : List V} {Q : VK} (w : WOk T G H μ st) (p : Po T md H0 G H μ d v) (hH : H a = some (.lst xs)) (hl : xs.length ≤ LIM) (hx : RpL T.K G μ ds xs) (e : remD d ds = some ys)
    (q : ∀ zs, zs.length ≤ LIM → RpL T.K G μ ys zs → Q .non (upd H a (.lst zs))) : rRemD T.K (.ref a) [v] H Q := by
  unfold remD at e
  split at e
  · rename_i hc
    rw [Bool.and_eq_true] at hc
    cases k : fstIx d ds 0 with
    | none => rw [k] at e; cases e
    | some j =>
      rw [k] at e
      cases e
      obtain ⟨q1, q2, q3⟩ := dps_of w.gh 60 ds xs hc.2 hx
      obtain ⟨d1, s1⟩ := po_dp' w.gh (p.two w.gh) hc.1
      have hj := fst_place hc.1 ds 0 j hc.2 k
      rw [Nat.sub_zero] at hj
      exact ⟨a, xs, v, toPyL ds, toPy d, j, rfl, rfl, hH, q1, d1, shaped_mk (n := 61) (by simpa [PyData.canLay0] using q2) (by simp [PyData.depth]; omega) (by decide), s1, hj, q _ (Nat.le_trans (len_erase xs j) hl) (hx.eraseIdx j)⟩
  · cases e
end BX

set_option Elab.async false
set_option linter.all false
set_option maxRecDepth 100000
/-! BS15: statements that hold others. -/
namespace BX
open PySem PySem.Spec PyProof.Rows L2
variable {T : Rt} {mu : List Nat} {n : Nat} {W : WX}
section
variable {E : EW} {ρ : Env} {σ : St} {G H : Hp} {μ : List Addr} {st : Sto}
/-- x[k] = v, x a slot with a list of its own -/
theorem rd_ixs {md : Nat} {t u : TE} {f g : Env → M D} {i : Nat} (hi : i ∈ mu) (h : RdE T mu n W 0 t f) (h' : RdE T mu n W md u g) : RdS T mu n W [] (tAsg t (gSub (tVar i) u rSetL)) (fun ρ => bnd (f ρ) fun d => bnd (lsM i ρ) fun _ => bnd (g ρ) fun z => bnd (asI z) fun k => BX.chg i (setD k d) ρ) := by
  intro E ρ σ G H μ st D er hres
  refine h.run er hres fun d s1 v G1 H1 μ1 e1 w1 p1 h1 => ?_
  have er1 := er.ev e1 w1
  obtain ⟨⟨ds, hd⟩, h1⟩ := lsM_ok h1
  obtain ⟨a, xs, q1, q2, q3, q4⟩ := er1.lst hi hd
  refine ⟨.ref a, q1, ?_⟩
  refine h'.run er1 h1 fun z s2 vz G2 H2 μ2 e2 w2 p2 h2 => ?_
  obtain ⟨k, rfl, h3⟩ := asI_bnd h2
  obtain ⟨ds', ys, k1, k2, k3⟩ := chg_ok h3
  rw [hd] at k1
  cases k1
  unfold setD at k2
  cases e : BX.ixN ds.length k with
  | none => rw [e] at k2; cases k2
  | some j =>
    rw [e] at k2
    cases k2
    have er2 := er1.ev e2 w2
    have q2' := e2.h _ _ q2 rfl
    have q4' := e2.rpl q4
    rw [q4.length] at e
    exact ⟨a, xs, k, j, rfl, po_int p2, q2', e, k3 σ G2 _ μ2 (er2.chg hi hd q1 q2' (by rw [List.length_set]; exact q3) (q4'.set j (e2.rp (po_rp0 p1)))) (e1.g.trans e2.g) (e1.m.trans e2.m) fun _ _ => rfl⟩
/-- a slot's own list moved to a slot of its own right: it stands from now on -/
theorem Er.frz1 (er : Er T mu n E ρ σ G H μ st) {j : Nat} {ds : List D} (hj : j ∈ mu) (h : ρ[j]? = some (some (.lst ds))) : ∃ G' v, Sub G G' ∧ σ[j]? = some (some v) ∧ Rp T.K G' μ (.lst ds) v ∧ Er T mu n E (ρ.set j none) (σ.set j none) G' H μ st := by
  obtain ⟨v, v1, v2⟩ := er.ow j _ hj h
  obtain ⟨a, xs, rfl, z2, z3, z4, z5, z6⟩ := (show ∃ a zs, v = .ref a ∧ E.H a = none ∧ G a = none ∧ H a = some (.lst zs) ∧ zs.length ≤ LIM ∧ RpL T.K G μ ds zs from v2)
  obtain ⟨e', w', sub⟩ := er.en.freeze er.w z2 z3 z4
  refine ⟨_, .ref a, sub, v1, ?_, ?_⟩
  · simp only [Rp]
    exact ⟨a, xs, rfl, upd_same, z5, RpL.mono sub (Pre.refl _) ds xs z6⟩
  · have er0 := er.drop j
    refine ⟨w', e', er0.lr, er0.ls, fun i d hi hr => ?_, fun i d hi hr => ?_, er0.ap⟩
    · obtain ⟨u, u1, u2⟩ := er0.pl i d hi hr
      exact ⟨u, u1, Rp.mono sub (Pre.refl _) _ _ u2⟩
    · rcases get_set hr with ⟨_, q, _⟩ | ⟨q, hr'⟩
      · cases q
      · obtain ⟨u, u1, u2⟩ := er.ow i d hi hr'
        refine ⟨u, by rw [List.getElem?_set_ne fun z => q z.symm]; exact u1, ?_⟩
        cases d with
        | lst es =>
          obtain ⟨b, ys, rfl, y2, y3, y4, y5, y6⟩ := (show ∃ a zs, u = .ref a ∧ E.H a = none ∧ G a = none ∧ H a = some (.lst zs) ∧ zs.length ≤ LIM ∧ RpL T.K G μ es zs from u2)
          have ne : b ≠ a := fun z => by
            subst z
            exact er.ap i j _ _ _ hi hj q rfl rfl hr' h u1 v1
          exact ⟨b, ys, rfl, y2, by rw [upd_ne ne]; exact y3, y4, y5, RpL.mono sub (Pre.refl _) es ys y6⟩
        | _ => exact Rp.mono sub (Pre.refl _) _ _ u2
theorem wrong {P : Prop} (h : False) : P := h.elim
/-- all slots' own lists stand from now on -/
theorem Er.frz : ∀ (l : List Nat) {mu : List Nat} {G : Hp}, Er T mu n E ρ σ G H μ st → (∀ i ∈ mu, i ∈ l) → ∃ G', Sub G G' ∧ Er T [] n E ρ σ G' H μ st
  | [], mu, G, er, hm => by
    have : mu = [] := List.eq_nil_iff_forall_not_mem.mpr fun a ha => by have := hm a ha; cases this
    subst this
    exact ⟨G, Sub.refl _, er⟩
  | j :: l, mu, G, er, hm => by
    have step : ∃ G', Sub G G' ∧ Er T (mu.filter fun i => decide (i ≠ j)) n E ρ σ G' H μ st := by
      by_cases hj : j ∈ mu
      · by_cases hd : ∃ ds, ρ[j]? = some (some (.lst ds))
        · obtain ⟨ds, hd⟩ := hd
          obtain ⟨G', v, sub, v1, v2, er'⟩ := er.frz1 hj hd
          refine ⟨G', sub, er'.w, er'.en, er.lr, er.ls, fun i d hi hr => ?_, fun i d hi hr => ?_, fun i k d1 d2 u hi hk hik l1 l2 h1 h2 h3 h4 => ?_⟩
          · by_cases e : i = j
            · subst e
              rw [hd] at hr
              cases hr
              exact ⟨v, v1, v2⟩
            · have him : i ∉ mu := fun z => hi (List.mem_filter.mpr ⟨z, by simpa using e⟩)
              obtain ⟨u, u1, u2⟩ := er'.pl i d him (by rw [List.getElem?_set_ne fun z => e z.symm]; exact hr)
              exact ⟨u, by rw [List.getElem?_set_ne fun z => e z.symm] at u1; exact u1, u2⟩
          · obtain ⟨him, e⟩ := List.mem_filter.mp hi
            have e : i ≠ j := by simpa using e
            obtain ⟨u, u1, u2⟩ := er'.ow i d him (by rw [List.getElem?_set_ne fun z => e z.symm]; exact hr)
            exact ⟨u, by rw [List.getElem?_set_ne fun z => e z.symm] at u1; exact u1, u2⟩
          · exact er.ap i k d1 d2 u (List.mem_filter.mp hi).1 (List.mem_filter.mp hk).1 hik l1 l2 h1 h2 h3 h4
        · refine ⟨G, Sub.refl _, er.w, er.en, er.lr, er.ls, fun i d hi hr => ?_, fun i d hi hr => er.ow i d (List.mem_filter.mp hi).1 hr, fun i k d1 d2 u hi hk hik l1 l2 h1 h2 h3 h4 => er.ap i k d1 d2 u (List.mem_filter.mp hi).1 (List.mem_filter.mp hk).1 hik l1 l2 h1 h2 h3 h4⟩
          by_cases him : i ∈ mu
          · have e : i = j := Classical.byContradiction fun z => hi (List.mem_filter.mpr ⟨him, by simpa using z⟩)
            subst e
            obtain ⟨u, u1, u2⟩ := er.ow i d him hr
            refine ⟨u, u1, ?_⟩
            cases d with
            | lst ds => exact absurd ⟨ds, hr⟩ hd
            | _ => exact u2
          · exact er.pl i d him hr
      · have e : (mu.filter fun i => decide (i ≠ j)) = mu := List.filter_eq_self.mpr fun i hi => by
          have : i ≠ j := fun z => hj (z ▸ hi)
          simpa using this
        rw [e]
        exact ⟨G, Sub.refl _, er⟩
    obtain ⟨G1, s1, er1⟩ := step
    obtain ⟨G2, s2, er2⟩ := Er.frz l er1 fun i hi => by
      obtain ⟨h1, h2⟩ := List.mem_filter.mp hi
      have h2 : i ≠ j := by simpa using h2
      exact (List.mem_cons.mp (hm i h1)).elim (fun z => absurd z h2) id
    exact ⟨G2, s1.trans s2, er2⟩
end
theorem rd_mv {i j : Nat} (hj : j ∈ mu) (hi : i ∉ mu) : RdS T mu n W [i, j] (tAsg (tVar j) (gName i)) (fun ρ => bnd (getV j ρ) fun d => ret (.nx, (ρ.set j none).set i (some d))) := by
  intro E ρ σ G H μ st D er hres
  cases e : ρ[j]? with
  | none =>
    unfold getV at hres
    simp only [e] at hres
    exact hres.elim
  | some o =>
    cases o with
    | none =>
      unfold getV at hres
      simp only [e] at hres
      exact hres.elim
    | some d =>
      have hg : getV j ρ = ret d := by unfold getV; rw [e]
      rw [show (fun ρ => bnd (getV j ρ) fun d => ret (Fl.nx, (ρ.set j none).set i (some d))) ρ = ret (.nx, (ρ.set j none).set i (some d)) from by show bnd (getV j ρ) _ = _; rw [hg]; rfl] at hres
      by_cases hl : ∃ ds, d = .lst ds
      · obtain ⟨ds, rfl⟩ := hl
        obtain ⟨G', v, sub, v1, v2, er'⟩ := er.frz1 hj e
        refine ⟨v, v1, ?_⟩
        have er2 := er'.set hi v2
        -- the slot j still holds the list; nothing is known of it
        have er3 : Er T mu n E ((ρ.set j none).set i (some (.lst ds))) (σ.set i (some v)) G' H μ st := by
          refine ⟨er2.w, er2.en, er2.lr, by rw [List.length_set]; exact er.ls, fun k d hk hr => ?_, fun k d hk hr => ?_, fun k l d1 d2 u hk hl hkl l1 l2 h1 h2 h3 h4 => ?_⟩
          · obtain ⟨u, u1, u2⟩ := er2.pl k d hk hr
            refine ⟨u, ?_, u2⟩
            by_cases ki : k = i
            · subst ki
              rw [List.getElem?_set] at u1 ⊢
              simpa using u1
            · rw [List.getElem?_set_ne fun z => ki z.symm] at u1 ⊢
              rcases get_set u1 with ⟨_, q, _⟩ | ⟨_, q⟩
              · cases q
              · exact q
          · obtain ⟨u, u1, u2⟩ := er2.ow k d hk hr
            refine ⟨u, ?_, u2⟩
            have ki : k ≠ i := fun z => hi (z ▸ hk)
            rw [List.getElem?_set_ne fun z => ki z.symm] at u1 ⊢
            rcases get_set u1 with ⟨_, q, _⟩ | ⟨_, q⟩
            · cases q
            · exact q
          · have ki : k ≠ i := fun z => hi (z ▸ hk)
            have li : l ≠ i := fun z => hi (z ▸ hl)
            rw [List.getElem?_set_ne fun z => ki z.symm] at h1 h3
            rw [List.getElem?_set_ne fun z => li z.symm] at h2 h4
            rcases get_set h1 with ⟨_, q, _⟩ | ⟨_, h1'⟩
            · cases q
            rcases get_set h2 with ⟨_, q, _⟩ | ⟨_, h2'⟩
            · cases q
            exact er.ap k l d1 d2 u hk hl hkl l1 l2 h1' h2' h3 h4
        exact hres _ G' H μ er3 sub (Pre.refl _) fun k hk => List.getElem?_set_ne fun z => hk (by simp [z])
      · obtain ⟨v, v1, v2⟩ := er.ow j d hj e
        have v2' : Rp T.K G μ d v := by cases d <;> first | exact v2 | exact absurd ⟨_, rfl⟩ hl
        refine ⟨v, v1, ?_⟩
        have er2 := er.set hi v2'
        have er3 : Er T mu n E ((ρ.set j none).set i (some d)) (σ.set i (some v)) G H μ st := by
          have key : ∀ {k : Nat} {d' : BX.D}, ((ρ.set j none).set i (some d))[k]? = some (some d') → (ρ.set i (some d))[k]? = some (some d') := by
            intro k d' h
            rcases get_set h with ⟨rfl, q, hl⟩ | ⟨q, h'⟩
            · cases q
              rw [List.length_set] at hl
              exact List.getElem?_set_self hl
            · rcases get_set h' with ⟨_, q', _⟩ | ⟨_, h''⟩
              · cases q'
              · rw [List.getElem?_set_ne fun z => q z.symm]
                exact h''
          exact ⟨er2.w, er2.en, by rw [List.length_set, List.length_set]; exact er.lr, er2.ls, fun k d hk hr => er2.pl k d hk (key hr), fun k d hk hr => er2.ow k d hk (key hr), fun k l d1 d2 u hk hl hkl l1 l2 h1 h2 h3 h4 => er2.ap k l d1 d2 u hk hl hkl l1 l2 (key h1) (key h2) h3 h4⟩
        exact hres _ G H μ er3 (Sub.refl _) (Pre.refl _) fun k hk => List.getElem?_set_ne fun z => hk (by simp [z])
/-! ### plain ones -/
theorem rd_drop {md : Nat} {t : TE} {f : Env → M D} (h : RdE T mu n W md t f) : RdS T mu n W [] (tDrop t) (fun ρ => bnd (f ρ) fun _ => ret (.nx, ρ)) := by
  intro E ρ σ G H μ st D er hres
  exact h.run er hres fun d s1 v G1 H1 μ1 e1 w1 p1 h1 => h1 σ G1 H1 μ1 (er.ev e1 w1) e1.g e1.m fun _ _ => rfl
theorem rd_next : RdS T mu n W [] tNext (fun ρ => ret (.nx, ρ)) := by
  intro E ρ σ G H μ st D er hres
  exact hres σ G H μ er (Sub.refl _) (Pre.refl _) fun _ _ => rfl
theorem rd_retN : RdS T mu n W [] tRetN (fun ρ => ret (.rt .non, ρ)) := by
  intro E ρ σ G H μ st D er hres
  exact hres .non G H μ er.en er.w rp_non
theorem rd_ret {md : Nat} {t : TE} {f : Env → M D} (h : RdE T [] n W md t f) (hm : md ≤ 1) : RdS T mu n W [] (tRet t) (fun ρ => bnd (f ρ) fun d => ret (.rt d, ρ)) := by
  intro E ρ σ G H μ st D er hres
  obtain ⟨G', sub, er'⟩ := er.frz mu fun i hi => hi
  refine (h.zero hm).run er' hres fun d s1 v G1 H1 μ1 e1 w1 p1 h1 => ?_
  exact h1 v G1 H1 μ1 (er'.en.trans e1) w1 (po_rp0 p1)
theorem EndsP.later {E : EW} {G G1 : Hp} {μ μ1 : List Addr} {σ σ1 : St} {as a1 : List Nat} {D : Ends} {q : Fl × Env} {s : Sto} (h : EndsP T mu n E G μ σ as D q s) (hs : Sub G G1) (hp : Pre μ μ1) (ha : ∀ j, j ∉ as → j ∉ a1 ∧ σ1[j]? = σ[j]?) : EndsP T mu n E G1 μ1 σ1 a1 D q s := by
  obtain ⟨fl, ρ1⟩ := q
  cases fl with
  | nx => exact fun σ' G' H' μ' e sub pre sm => h σ' G' H' μ' e (hs.trans sub) (hp.trans pre) fun j hj => (sm j (ha j hj).1).trans (ha j hj).2
  | bk => exact fun σ' G' H' μ' e sub pre sm => h σ' G' H' μ' e (hs.trans sub) (hp.trans pre) fun j hj => (sm j (ha j hj).1).trans (ha j hj).2
  | ct => exact fun σ' G' H' μ' e sub pre sm => h σ' G' H' μ' e (hs.trans sub) (hp.trans pre) fun j hj => (sm j (ha j hj).1).trans (ha j hj).2
  | rt d => exact h
theorem rd_if' {a1 a2 : List Nat} {tc : TT} {t u : TS} {c : Env → M Bool} {f g : Env → MF} (hc : RdT T mu n W tc c) (h : RdS T mu n W a1 t f) (h' : RdS T mu n W a2 u g) : RdS T mu n W (a1 ++ a2) (tIfS tc t u) (fun ρ => bnd (c ρ) fun k => if k then f ρ else g ρ) := by
  intro E ρ σ G H μ st D er hres
  refine hc.run er hres fun b s1 G1 H1 μ1 e1 w1 h1 => ?_
  have er1 := er.ev e1 w1
  cases b with
  | true => exact h E ρ σ G1 H1 μ1 s1 D er1 (Res.mono h1 (fun q s hq => EndsP.later hq e1.g e1.m fun j hj => ⟨fun z => hj (List.mem_append_left _ z), rfl⟩) fun _ _ x => x)
  | false => exact h' E ρ σ G1 H1 μ1 s1 D er1 (Res.mono h1 (fun q s hq => EndsP.later hq e1.g e1.m fun j hj => ⟨fun z => hj (List.mem_append_right _ z), rfl⟩) fun _ _ x => x)
theorem rd_seq {a1 a2 : List Nat} {t u : TS} {f g : Env → MF} (h : RdS T mu n W a1 t f) (h' : RdS T mu n W a2 u g) : RdS T mu n W (a1 ++ a2) (tSeq t u) (fun ρ => bnd (f ρ) fun q => match q.1 with
    | .nx => g q.2
    | x => ret (x, q.2)) := by
  intro E ρ σ G H μ st D er hres
  refine h E ρ σ G H μ st _ er (hres.bnd.mono (fun q s1 h1 => ?_) fun _ _ x => x)
  obtain ⟨fl, ρ1⟩ := q
  cases fl with
  | nx =>
    show ∀ σ' G' H' μ', Er T mu n E ρ1 σ' G' H' μ' s1 → Sub G G' → Pre μ μ' → (∀ j, j ∉ a1 → σ'[j]? = σ[j]?) → u D σ' H'
    intro σ1 G1 H1 μ1 er1 sub pre sm
    exact h' E ρ1 σ1 G1 H1 μ1 s1 D er1 (Res.mono h1 (fun q s hq => hq.later sub pre fun j hj => ⟨fun z => hj (List.mem_append_right _ z), sm j fun z => hj (List.mem_append_left _ z)⟩) fun _ _ x => x)
  | bk => exact (show EndsP T mu n E G μ σ (a1 ++ a2) D (.bk, ρ1) s1 from h1).later (Sub.refl _) (Pre.refl _) fun j hj => ⟨fun z => hj (List.mem_append_left _ z), rfl⟩
  | ct => exact (show EndsP T mu n E G μ σ (a1 ++ a2) D (.ct, ρ1) s1 from h1).later (Sub.refl _) (Pre.refl _) fun j hj => ⟨fun z => hj (List.mem_append_left _ z), rfl⟩
  | rt d => exact h1
/-! ### loops -/
/-- a turn's end: what the body leaves goes on with the loop -/
theorem turn_end {E : EW} {G0 G : Hp} {μ0 μ : List Addr} {σ0 σ : St} {as ab : List Nat} {D : Ends} {Nx : St → Hp → Prop} {loop : Env → MF} {body : MF} {st : Sto} (hab : ∀ j, j ∉ as → j ∉ ab) (hsub : Sub G0 G) (hpre : Pre μ0 μ) (hsm : ∀ j, j ∉ as → σ[j]? = σ0[j]?)
    (hN : ∀ ρ1 σ1 G1 H1 μ1 s1, Er T mu n E ρ1 σ1 G1 H1 μ1 s1 → Sub G G1 → Sub G0 G1 → Pre μ0 μ1 → Pre μ μ1 → (∀ j, j ∉ as → σ1[j]? = σ0[j]?) → (∀ j, j ∉ ab → σ1[j]? = σ[j]?) → Res (loop ρ1 s1) (EndsP T mu n E G0 μ0 σ0 as D) (WS T W n E) → Nx σ1 H1)
    (h : Res (bnd body (fun q => match q.1 with
      | .nx => loop q.2
      | .ct => loop q.2
      | .bk => ret (.nx, q.2)
      | .rt x => ret (.rt x, q.2)) st) (EndsP T mu n E G0 μ0 σ0 as D) (WS T W n E)) :
    Res (body st) (EndsP T mu n E G μ σ ab { D with nx := Nx, ct := Nx, bk := D.nx }) (WS T W n E) := by
  refine h.bnd.mono (fun q s1 h1 => ?_) fun _ _ x => x
  obtain ⟨fl, ρ1⟩ := q
  have go : Res (loop ρ1 s1) (EndsP T mu n E G0 μ0 σ0 as D) (WS T W n E) → ∀ σ' G' H' μ', Er T mu n E ρ1 σ' G' H' μ' s1 → Sub G G' → Pre μ μ' → (∀ j, j ∉ ab → σ'[j]? = σ[j]?) → Nx σ' H' := by
    intro h1 σ1 G1 H1 μ1 er1 sub pre sm
    exact hN ρ1 σ1 G1 H1 μ1 s1 er1 sub (hsub.trans sub) (hpre.trans pre) pre (fun j hj => (sm j (hab j hj)).trans (hsm j hj)) sm h1
  cases fl with
  | nx => exact go h1
  | ct => exact go h1
  | bk =>
    show ∀ σ' G' H' μ', Er T mu n E ρ1 σ' G' H' μ' s1 → Sub G G' → Pre μ μ' → (∀ j, j ∉ ab → σ'[j]? = σ[j]?) → D.nx σ' H'
    intro σ1 G1 H1 μ1 er1 sub pre sm
    exact (show EndsP T mu n E G0 μ0 σ0 as D (.nx, ρ1) s1 from h1) σ1 G1 H1 μ1 er1 (hsub.trans sub) (hpre.trans pre) fun j hj => (sm j (hab j hj)).trans (hsm j hj)
  | rt d => exact h1
theorem rd_for {ab : List Nat} {wi : TI} {fi : Env → M (List D)} {tg : Tg} {g : TG} {tb : TS} {b : Env → MF} (hI : RdI T mu n W true wi fi) (hg : RdG T mu n tg g) (hb : RdS T mu n W ab tb b) : RdS T mu n W (slT tg ++ ab) (tFor wi g tb) (fun ρ => bnd (fi ρ) fun ds => forM tg b ds ρ) := by
  intro E ρ σ G H μ st D er hres
  refine hI E ρ σ G H μ st _ er (hres.bnd.mono (fun ds s1 h1 J G1 H1 μ1 e1 w1 wk => ?_) fun c s h => WS.wk er h)
  let as := slT tg ++ ab
  let P : Nat → St → Hp → Prop := fun i σ2 H2 => ∃ ρ2 G2 μ2 st2, Er T mu n E ρ2 σ2 G2 H2 μ2 st2 ∧ Sub G1 G2 ∧ Pre μ1 μ2 ∧ (∀ j, j ∉ as → σ2[j]? = σ[j]?) ∧ Res (forM tg b (ds.drop i) ρ2 st2) (EndsP T mu n E G μ σ as D) (WS T W n E)
  have wl : Walk J ds.length (fun H2 => ∃ G2 μ2 st2, (Sub G1 G2 ∧ Pre μ1 μ2) ∧ WOk T G2 H2 μ2 st2) (fun i H2 x H' => i < ds.length ∧ J.yld i H2 x H') :=
    ⟨fun i H2 hi ⟨G2, μ2, st2, c, w⟩ => (wk i G2 H2 μ2 st2 c w).1 hi, fun H2 ⟨G2, μ2, st2, c, w⟩ => (wk ds.length G2 H2 μ2 st2 c w).2.1 rfl, fun i H2 x H' hi _ y => ⟨hi, y⟩⟩
  refine for_it wl P ⟨ρ, G1, μ1, s1, er.ev e1 w1, Sub.refl _, Pre.refl _, fun _ _ => rfl, h1⟩ (fun i σ2 H2 _ ⟨ρ2, G2, μ2, st2, e, s, p, _, _⟩ => ⟨G2, μ2, st2, ⟨s, p⟩, e.w⟩) (fun i x σ2 H2 H' hi p y => ?_) (fun σ2 H2 p => ?_)
  · obtain ⟨ρ2, G2, μ2, st2, er2, sub, pre, sm, hr⟩ := p
    obtain ⟨d, G3, hdi, c3, w3, rp⟩ := (wk i G2 H2 μ2 st2 ⟨sub, pre⟩ er2.w).2.2 x H' hi y.2
    have hdrop : ds.drop i = d :: ds.drop (i + 1) := by
      rw [List.drop_eq_getElem_cons hi]
      congr 1
      rw [List.getElem?_eq_getElem hi] at hdi
      exact Option.some.inj hdi
    rw [hdrop] at hr
    unfold forM at hr
    cases q : stT tg d ρ2 with
    | none =>
      simp only [q] at hr
      exact hr.elim
    | some ρ3 =>
      simp only [q] at hr
      have er3 := er2.ev c3 w3
      refine hg E ρ2 σ2 G3 H' μ2 st2 d x ρ3 _ er3 rp q fun σ3 er4 _ s4 => ?_
      have sm3 : ∀ j, j ∉ as → σ3[j]? = σ[j]? := fun j hj => (s4 j fun z => hj (List.mem_append_left _ z)).trans (sm j hj)
      refine hb E ρ3 σ3 G3 H' μ2 st2 _ er4 (turn_end (as := as) (fun j hj z => hj (List.mem_append_right _ z)) (e1.g.trans (sub.trans c3.g)) (e1.m.trans pre) sm3 (fun ρ5 σ5 G5 H5 μ5 s5 er5 k1 k2 k3 k4 k5 _ k6 => ?_) hr)
      exact ⟨ρ5, G5, μ5, s5, er5, (sub.trans c3.g).trans k1, pre.trans k4, k5, k6⟩
  · obtain ⟨ρ2, G2, μ2, st2, er2, sub, pre, sm, hr⟩ := p
    rw [List.drop_length] at hr
    exact (show EndsP T mu n E G μ σ as D (.nx, ρ2) st2 from hr) σ2 G2 H2 μ2 er2 (e1.g.trans sub) (e1.m.trans pre) sm
theorem rd_while {ab : List Nat} {tc : TT} {c : Env → M Bool} {tb : TS} {b : Env → MF} (hc : RdT T mu n W tc c) (hb : RdS T mu n W ab tb b) : RdS T mu n W ab (tWhile tc tb) (fun ρ => whM c b FUEL ρ) := by
  intro E ρ σ G H μ st D er hres
  refine ⟨fun m σ2 H2 => ∃ ρ2 G2 μ2 st2, Er T mu n E ρ2 σ2 G2 H2 μ2 st2 ∧ Sub G G2 ∧ Pre μ μ2 ∧ (∀ j, j ∉ ab → σ2[j]? = σ[j]?) ∧ Res (whM c b m ρ2 st2) (EndsP T mu n E G μ σ ab D) (WS T W n E), ⟨FUEL, ρ, G, μ, st, er, Sub.refl _, Pre.refl _, fun _ _ => rfl, hres⟩, ?_⟩
  rintro m σ2 H2 ⟨ρ2, G2, μ2, st2, er2, sub, pre, sm, hr⟩
  cases m with
  | zero => exact hr.elim
  | succ m =>
    unfold whM at hr
    refine hc.run er2 hr fun k s1 G3 H3 μ3 e3 w3 h3 => ?_
    have er3 := er2.ev e3 w3
    cases k with
    | false =>
      rw [if_neg (by decide)]
      exact (show EndsP T mu n E G μ σ ab D (.nx, ρ2) s1 from h3) σ2 G3 H3 μ3 er3 (sub.trans e3.g) (pre.trans e3.m) sm
    | true =>
      rw [if_pos rfl]
      refine ⟨fun σ' H' => ∃ ρ2 G2 μ2 st2, Er T mu n E ρ2 σ' G2 H' μ2 st2 ∧ Sub G G2 ∧ Pre μ μ2 ∧ (∀ j, j ∉ ab → σ'[j]? = σ[j]?) ∧ Res (whM c b m ρ2 st2) (EndsP T mu n E G μ σ ab D) (WS T W n E), fun σ' H' q => ⟨m, Nat.lt_succ_self m, q⟩, ?_⟩
      refine hb E ρ2 σ2 G3 H3 μ3 s1 _ er3 (turn_end (as := ab) (fun j hj => hj) (sub.trans e3.g) (pre.trans e3.m) sm (fun ρ5 σ5 G5 H5 μ5 s5 er5 k1 k2 k3 k4 k5 _ k6 => ?_) h3)
      exact ⟨ρ5, G5, μ5, s5, er5, k2, k3, k5, k6⟩
theorem forS_ok {i : Nat} {tg : Tg} {b : Env → MF} {f j : Nat} {ρ : Env} {st : Sto} {k : Fl × Env → Sto → Prop} {x : Xc → Sto → Prop} (h : Res (forS i tg b f j ρ st) k x) :
    ∃ f' ds, f = f' + 1 ∧ ρ[i]? = some (some (.lst ds)) ∧ ((ds[j]? = none ∧ k (.nx, ρ) st) ∨ ∃ d ρ1, ds[j]? = some d ∧ stT tg d ρ = some ρ1 ∧ Res (bnd (b ρ1) (fun q => match q.1 with
          | .nx => forS i tg b f' (j + 1) q.2
          | .ct => forS i tg b f' (j + 1) q.2
          | .bk => ret (.nx, q.2)
          | .rt x => ret (.rt x, q.2)) st) k x) := by
  cases f with
  | zero => exact h.elim
  | succ f =>
    unfold forS at h
    cases e : ρ[i]? with
    | none => simp only [e] at h; exact h.elim
    | some o =>
      simp only [e] at h
      cases o with
      | none => exact h.elim
      | some dd =>
        cases dd with
        | lst ds =>
          refine ⟨f, ds, rfl, rfl, ?_⟩
          simp only at h
          cases e2 : ds[j]? with
          | none =>
            simp only [e2] at h
            exact .inl ⟨rfl, h⟩
          | some d =>
            simp only [e2] at h
            cases e3 : stT tg d ρ with
            | none => simp only [e3] at h; exact h.elim
            | some ρ1 =>
              simp only [e3] at h
              exact .inr ⟨d, ρ1, rfl, e3, h⟩
        | _ => exact h.elim
/-- a walk over a slot's own list -/
theorem rd_frm {ab : List Nat} {i F : Nat} {tg : Tg} {g : TG} {tb : TS} {b : Env → MF} (hi : i ∈ mu) (hg : RdG T mu n tg g) (hb : RdS T mu n W ab tb b) (hia : i ∉ ab) (hit : i ∉ slT tg) : RdS T mu n W (slT tg ++ ab) (tFor (iList T.K (tVar i)) g tb) (fun ρ => forS i tg b F 0 ρ) := by
  intro E ρ σ G H μ st D er hres
  let as := slT tg ++ ab
  obtain ⟨f0, ds0, _, hd0, _⟩ := forS_ok hres
  obtain ⟨a, xs0, q1, q2, q3, q4⟩ := er.lst hi hd0
  refine ⟨.ref a, q1, a, rfl, ⟨xs0, .inl (.inl q2)⟩, ?_⟩
  refine ⟨fun j m σ2 H2 => ∃ ρ2 G2 μ2 st2, Er T mu n E ρ2 σ2 G2 H2 μ2 st2 ∧ Sub G G2 ∧ Pre μ μ2 ∧ (∀ j, j ∉ as → σ2[j]? = σ[j]?) ∧ σ2[i]? = some (some (.ref a)) ∧ Res (forS i tg b m j ρ2 st2) (EndsP T mu n E G μ σ as D) (WS T W n E), ⟨F, ρ, G, μ, st, er, Sub.refl _, Pre.refl _, fun _ _ => rfl, q1, hres⟩, ?_⟩
  rintro j m σ2 H2 ⟨ρ2, G2, μ2, st2, er2, sub, pre, sm, sa, hr⟩
  obtain ⟨m', ds, rfl, hd, hr⟩ := forS_ok hr
  obtain ⟨a', xs, k1, k2, k3, k4⟩ := er2.lst hi hd
  rw [sa] at k1
  cases k1
  have hlen := k4.length
  rcases hr with ⟨hj, hr⟩ | ⟨d, ρ3, hj, q, hr⟩
  · refine .inl ⟨⟨xs, .inl (.inl k2), ?_⟩, (show EndsP T mu n E G μ σ as D (.nx, ρ2) st2 from hr) σ2 G2 H2 μ2 er2 sub pre sm⟩
    have := List.getElem?_eq_none_iff.mp hj
    omega
  · obtain ⟨v, hv, rp⟩ := k4.get hj
    refine .inr ⟨⟨xs, v, .inl (.inl k2), hv⟩, fun σ' H' => ∃ ρ2 G2 μ2 st2, Er T mu n E ρ2 σ' G2 H' μ2 st2 ∧ Sub G G2 ∧ Pre μ μ2 ∧ (∀ j, j ∉ as → σ'[j]? = σ[j]?) ∧ σ'[i]? = some (some (.ref a)) ∧ Res (forS i tg b m' (j + 1) ρ2 st2) (EndsP T mu n E G μ σ as D) (WS T W n E), fun σ' H' q => ⟨m', Nat.lt_succ_self _, q⟩, fun x H' y => ?_⟩
    obtain ⟨rfl, hx⟩ := y
    have ex := hx xs (.inl (.inl k2))
    rw [hv] at ex
    cases ex
    refine hg E ρ2 σ2 G2 _ μ2 st2 d v ρ3 _ er2 rp q fun σ3 er4 _ s4 => ?_
    have sm3 : ∀ j, j ∉ as → σ3[j]? = σ[j]? := fun j hj => (s4 j fun z => hj (List.mem_append_left _ z)).trans (sm j hj)
    refine hb E ρ3 σ3 G2 _ μ2 st2 _ er4 (turn_end (as := as) (fun j hj z => hj (List.mem_append_right _ z)) sub pre sm3 (fun ρ5 σ5 G5 H5 μ5 s5 er5 k1 k2 k3 k4 k5 k7 k6 => ?_) hr)
    exact ⟨ρ5, G5, μ5, s5, er5, k2, k3, k5, ((k7 i hia).trans (s4 i hit)).trans sa, k6⟩
end BX

set_option Elab.async false
set_option linter.all false
set_option maxRecDepth 100000
/-! BS16: the text against the syntax: statements. -/
namespace BX
open PySem PySem.Spec PyProof.Rows L2
def noLc : Expr → Bool
  | .ListComp .. => false
  | .SetComp .. => false
  | .DictComp .. => false
  | _ => true
def noTup : Expr → Bool
  | .Tuple .. => false
  | _ => true
theorem sw_no {e : Expr} (h : noLc e = true) (t : Option Expr) (l : Nat) (env : PySem.Env) : swapsWith e t l env = pure false := by
  cases e <;> first | rfl | (simp [noLc] at h; done)
theorem ss_name {e : Expr} {x : Str} {p : Pos} (env : PySem.Env) : swappedStores [.Name x p] e env = pure none := by
  cases e <;> rfl
theorem ss_tup {e : Expr} {ts : List Expr} {k : Nat} {p : Pos} (h : noTup e = true) (env : PySem.Env) : swappedStores [.Tuple ts k p] e env = pure none := by
  cases e <;> first | rfl | (simp [noTup] at h; done)
theorem ss_sub {e a b : Expr} {p : Pos} (env : PySem.Env) : swappedStores [.Subscript a b p] e env = pure none := by
  cases e <;> rfl
/-- whether a comprehension's list is bound within its block -/
def swB (sc scope : Scope) (t : Str) (p pos : Pos) : Bool := (decide (sc.names.lookup t = some .local) && (p.line == pos.line)) && !(scope.names.any fun (n, k) => n == t && (k == .local || k == .cell))
theorem sw_eq {elt : Expr} {gs : List Comprehension} {scope : Scope} {pos p : Pos} {t : Str} {l : Nat} {env : PySem.Env} (hk : env.scope.kind = .function) : swapsWith (.ListComp elt gs scope pos) (some (.Name t p)) l env = pure (swB env.scope scope t p pos) := by
  have hb : env.blockKind = .function := by unfold PySem.Env.blockKind; rw [hk]; rfl
  unfold swapsWith swB
  simp only [hb]
  have e : (env.kindOf t == some .local) = decide (env.scope.names.lookup t = some .local) := by
    show (env.scope.names.lookup t == some NameKind.local) = _
    cases env.scope.names.lookup t with
    | none => rfl
    | some k => cases k <;> rfl
  rw [e]
  rfl
theorem sws {t v : Expr} {l : Nat} {env : PySem.Env} {b : Bool} (h : swapsWith v (some t) l env = pure b) : swapsWithSole [t] v l env = pure b := h
/-! ### views -/
def vAsg : Stmt → Option (Expr × Expr × Pos)
  | .Assign [t] v p => some (t, v, p)
  | _ => none
def vEx : Stmt → Option (Expr × Pos)
  | .Expr e p => some (e, p)
  | _ => none
def vIfS : Stmt → Option (Expr × List Stmt × List Stmt)
  | .If c a b _ => some (c, a, b)
  | _ => none
def vFor : Stmt → Option (Expr × Expr × List Stmt)
  | .For t i b [] _ => some (t, i, b)
  | _ => none
def vWh : Stmt → Option (Expr × List Stmt)
  | .While c b [] _ => some (c, b)
  | _ => none
def vRet : Stmt → Option (Option Expr)
  | .Return e _ => some e
  | _ => none
def vRs : Stmt → Option Str
  | .Raise (some (.Call (.Name x _) [.Constant (.str _) _ _] [] _)) none _ => some x
  | _ => none
def vPs : Stmt → Bool
  | .Pass _ => true
  | _ => false
/-- x.m(e): the name, the method, the argument, the two rows -/
def vMet : Expr → Option (Str × Str × Expr × Bool)
  | .Call (.Attribute (.Name x _) m ap) [e] [] cp => some (x, m, e, ap.endLine == cp.line)
  | _ => none
theorem vAsg_eq {s : Stmt} {q : Expr × Expr × Pos} (h : vAsg s = some q) : s = .Assign [q.1] q.2.1 q.2.2 := by
  unfold vAsg at h
  split at h
  · cases h; rfl
  · cases h
theorem vEx_eq {s : Stmt} {q : Expr × Pos} (h : vEx s = some q) : s = .Expr q.1 q.2 := by
  unfold vEx at h
  split at h
  · cases h; rfl
  · cases h
theorem vIfS_eq {s : Stmt} {q : Expr × List Stmt × List Stmt} (h : vIfS s = some q) : ∃ p, s = .If q.1 q.2.1 q.2.2 p := by
  unfold vIfS at h
  split at h
  · cases h; exact ⟨_, rfl⟩
  · cases h
theorem vFor_eq {s : Stmt} {q : Expr × Expr × List Stmt} (h : vFor s = some q) : ∃ p, s = .For q.1 q.2.1 q.2.2 [] p := by
  unfold vFor at h
  split at h
  · cases h; exact ⟨_, rfl⟩
  · cases h
theorem vWh_eq {s : Stmt} {q : Expr × List Stmt} (h : vWh s = some q) : ∃ p, s = .While q.1 q.2 [] p := by
  unfold vWh at h
  split at h
  · cases h; exact ⟨_, rfl⟩
  · cases h
theorem vRet_eq {s : Stmt} {q : Option Expr} (h : vRet s = some q) : ∃ p, s = .Return q p := by
  unfold vRet at h
  split at h
  · cases h; exact ⟨_, rfl⟩
  · cases h
theorem vRs_eq {s : Stmt} {x : Str} (h : vRs s = some x) : ∃ p1 m j p2 p3 p, s = .Raise (some (.Call (.Name x p1) [.Constant (.str m) j p2] [] p3)) none p := by
  unfold vRs at h
  split at h
  · cases h; exact ⟨_, _, _, _, _, _, rfl⟩
  · cases h
theorem vPs_eq {s : Stmt} (h : vPs s = true) : ∃ p, s = .Pass p := by
  unfold vPs at h
  split at h
  · exact ⟨_, rfl⟩
  · cases h
theorem vMet_eq {e : Expr} {q : Str × Str × Expr × Bool} (h : vMet e = some q) : ∃ p1 ap cp, e = .Call (.Attribute (.Name q.1 p1) q.2.1 ap) [q.2.2.1] [] cp ∧ q.2.2.2 = (ap.endLine == cp.line) := by
  unfold vMet at h
  split at h
  · cases h; exact ⟨_, _, _, rfl, rfl⟩
  · cases h
/-- x.m(e) -/
def mMet (C : MC) (i : Nat) (m : Str) (e : Expr) (f : Expr → Bool) : Bool := match vMet e with
  | some q => nthB C.N i q.1 && visB C.sc q.1 && dbB q.1 && decide (i ∈ C.mu) && (q.2.1 == m) && okE q.2.2.1 && q.2.2.2 && f q.2.2.1
  | none => false
def isCp : P → Bool
  | .cp .. => true
  | _ => false
/-! ### the text -/
def varB (N : List Str) (sc : Scope) (i : Nat) (e : Expr) : Bool := match vName e with
  | some u => nthB N i u && visB sc u && dbB u
  | none => false
def isXB (N : List Str) (sc : Scope) (i : Nat) (cn : Str) (e : Expr) : Bool := match vCall e with
  | some (x, [y, z]) => (x == "isinstance") && glB sc x && varB N sc i y && (match vName z with
    | some v => (v == cn) && glB sc v && dbB v
    | none => false)
  | _ => false
def lisB (N : List Str) (sc : Scope) (i : Nat) : List (Str × Xc) → List Expr → Bool
  | [], [] => true
  | p :: r, e :: es => isXB N sc i p.1 e && okE e && lisB N sc i r es
  | _, _ => false
def tgB (N : List Str) (sc : Scope) (i : Nat) (e : Expr) : Bool := match vName e with
  | some x => nthB N i x && decide (sc.names.lookup x = some .local)
  | none => false
def mcB (N : List Str) (sc : Scope) (m : Str) (e : Expr) : Bool := match vMet e with
  | some (x, m', y, rows) => nthB N 1 x && visB sc x && dbB x && (m' == m) && rows && (match vCst y with
    | some (.bool b) => b
    | _ => false)
  | none => false
def oneB (e : Expr) : Bool := match vCst e with
  | some (.int i) => decide (i = 1)
  | _ => false
def refStr (e : Expr) : Bool := match vCst e with
  | some (.str x) => decide (x = ⟨REF.toArray⟩)
  | _ => false
def tstRB (N : List Str) (sc : Scope) (e : Expr) : Bool := match vBool e with
  | some (o, [x, y]) => decide (o = .Or) && (match vCmp x with
      | some (l, [op], [r]) => decide (op = .NotEq) && mcB N sc "count" l && oneB r
      | _ => false) && (match vUn y with
      | some (o', z) => decide (o' = .Not) && isXB N sc 0 "ValueError" z
      | none => false)
  | _ => false
def retB1 (s : Stmt) : Bool := match vRet s with
  | some (some e) => (match vTup e with
    | some [p, q] => refStr p && (match vUn q with
      | some (o, z) => decide (o = .USub) && oneB z
      | none => false)
    | _ => false)
  | _ => false
def retB2 (N : List Str) (sc : Scope) (s : Stmt) : Bool := match vRet s with
  | some (some e) => (match vTup e with
    | some [p, q] => refStr p && mcB N sc "index" q
    | _ => false)
  | _ => false
def endRB (N : List Str) (sc : Scope) (s s' : Stmt) : Bool := (match vIfS s with
    | some (e, [r], []) => tstRB N sc e && retB1 r
    | _ => false) && retB2 N sc s'
def rfT (N : List Str) (sc : Scope) : List (List (Str × Xc)) → List Stmt → Bool
  | [], [s, s'] => endRB N sc s s'
  | ch :: r, s :: ss => (match vAsg s with
    | some (t, v, _) => tgB N sc 1 t && (match vBin v with
      | some (a, o, b) => decide (o = .Add) && varB N sc 1 a && (match vList b with
        | some es => lisB N sc 0 ch es
        | none => false)
      | none => false)
    | none => false) && rfT N sc r ss
  | _, _ => false
def rfB (N : List Str) (sc : Scope) : List (List (Str × Xc)) → List Stmt → Bool
  | ch :: r, s :: ss => (match vAsg s with
    | some (t, v, _) => tgB N sc 1 t && (match vList v with
        | some es => lisB N sc 0 ch es
        | none => false)
    | none => false) && rfT N sc r ss
  | _, _ => false
/-! ### try, an except suite -/
def vTry : Stmt → Option (List Stmt × Str × Str × Stmt)
  | .Try body [.ExceptHandler (some (.Name x _)) (some n) [s] _] [] [] _ => some (body, x, n, s)
  | _ => none
theorem vTry_eq {s : Stmt} {q : List Stmt × Str × Str × Stmt} (h : vTry s = some q) : ∃ p1 p2 p, s = .Try q.1 [.ExceptHandler (some (.Name q.2.1 p1)) (some q.2.2.1) [q.2.2.2] p2] [] [] p := by
  unfold vTry at h
  split at h
  · cases h; exact ⟨_, _, _, rfl⟩
  · cases h
def strB (s : List Nat) (e : Expr) : Bool := match vCst e with
  | some (.str x) => decide (x = ⟨s.toArray⟩) && decide (s.length ≤ LIM) && s.all (fun c => decide (c < 1114112))
  | _ => false
def hdB (C : MC) (h : Nat) : Hd → Stmt → Bool
  | .ref x _, s => (match vRet s with
    | some (some e) => (match vCall e with
      | some (y, [z]) => (y == x) && glB C.sc y && dbB y && varB C.N C.sc h z
      | _ => false)
    | _ => false)
  | .yes, s => (match vRet s with
    | some (some e) => isXB C.N C.sc h "ValueError" e
    | _ => false)
  | .two x _ a b, s => (match vRet s with
    | some (some e) => (match vIf e with
      | some (t, p, q) => isXB C.N C.sc h x t && strB a p && strB b q
      | _ => false)
    | _ => false)
def ndHd (al : List Xc) : Hd → List Nd
  | .ref x fl => [.xf al x fl]
  | .yes => []
  | .two x c _ _ => [.xt al x c]
mutual
def slS : S → List Nat
  | .a tg _ => slT tg
  | .m i _ => [i]
  | .mv i j => [i, j]
  | .iff _ b c => slB b ++ slB c
  | .fr tg _ b => slT tg ++ slB b
  | .frm _ tg b => slT tg ++ slB b
  | .wh _ b => slB b
  | .tr b _ _ _ h _ => h :: slB b
  | _ => []
def slB : SL → List Nat
  | .nil => []
  | .cons s ss => slS s ++ slB ss
end
mutual
def mS (C : MC) : S → Stmt → Bool
  | .a tg p, s => (match vAsg s with
    | some (t, v, _) => mT1 C tg t && okE v && mE C p v && decide (mdP C.mu p ≤ 1) && (match tg with
      | .one _ => noLc v || isCp p
      | .many _ => noLc v && noTup v)
    | none => false)
  | .m i p, s => (match vAsg s with
    | some (t, v, _) => (match vName t with
      | some x => nthB C.N i x && locB C x && decide (i ∈ C.mu) && okE v && mE C p v && decide (mdP C.mu p ≤ 1) && (!fresh p || decide (mdP C.mu p = 1)) && (noLc v || isCp p)
      | none => false)
    | none => false)
  | .mv i j, s => (match vAsg s with
    | some (t, v, _) => (match vName t, vName v with
      | some x, some y => nthB C.N i x && locB C x && !(decide (i ∈ C.mu)) && nthB C.N j y && visB C.sc y && dbB y && decide (j ∈ C.mu)
      | _, _ => false)
    | none => false)
  | .ap i p, s => (match vEx s with
    | some (e, _) => mMet C i "append" e fun y => mE C p y && decide (mdP C.mu p ≤ 1)
    | none => false)
  | .ext i p, s => (match vEx s with
    | some (e, _) => mMet C i "extend" e fun y => mE C p y
    | none => false)
  | .rm i p, s => (match vEx s with
    | some (e, _) => mMet C i "remove" e fun y => mE C p y
    | none => false)
  | .ixs i k p, s => (match vAsg s with
    | some (t, v, _) => (match vSub t with
      | some (a, b) => (match vName a with
        | some x => nthB C.N i x && visB C.sc x && dbB x && decide (i ∈ C.mu) && okE b && okE v && noLc v && mE C p v && decide (mdP C.mu p ≤ 1) && mE C k b
        | none => false)
      | none => false)
    | none => false)
  | .e p, s => (match vEx s with
    | some (e, _) => noLc e && okE e && mE C p e
    | none => false)
  | .iff t b c, s => (match vIfS s with
    | some (e, x, y) => mT C t e && mB C b x && mB C c y
    | none => false)
  | .fr tg it b, s => (match vFor s with
    | some (t, i, x) => mT1 C tg t && okE i && mI C it t i && fzI C.mu it && mB C b x
    | none => false)
  | .frm i tg b, s => (match vFor s with
    | some (t, e, x) => mT1 C tg t && (match vName e with
        | some y => nthB C.N i y && visB C.sc y && dbB y && decide (i ∈ C.mu)
        | none => false) && mB C b x && !(decide (i ∈ slB b)) && !(decide (i ∈ slT tg))
    | none => false)
  | .wh t b, s => (match vWh s with
    | some (e, x) => mT C t e && mB C b x
    | none => false)
  | .rt p, s => (match vRet s with
    | some (some e) => mE { C with mu := [] } p e && decide (mdP [] p ≤ 1)
    | _ => false)
  | .rn, s => (match vRet s with
    | some none => true
    | _ => false)
  | .ps, s => vPs s
  | .rs x _, s => (match vRs s with
    | some y => (y == x) && glB C.sc x && dbB x
    | none => false)
  | .tr b cx _ _ h hd, s => (match vTry s with
    | some (body, x, n, su) => nthB C.N h n && decide (C.sc.names.lookup n = some .local) && !(decide (h ∈ C.mu)) && (x == cx) && glB C.sc cx && dbB cx && mB C b body && hdB C h hd su
    | none => false)
  | .sa _ _ _ _, _ => false
def mB (C : MC) : SL → List Stmt → Bool
  | .nil, [] => true
  | .cons s ss, x :: xs => mS C s x && mB C ss xs
  | _, _ => false
end
mutual
def ndS : S → List Nd
  | .a _ p => ndP p
  | .m _ p => ndP p
  | .mv _ _ => []
  | .ap _ p => ndP p
  | .ext _ p => ndP p
  | .rm _ p => ndP p
  | .ixs _ k p => ndP p ++ ndP k
  | .e p => ndP p
  | .iff t b c => ndP t ++ (ndB b ++ ndB c)
  | .fr _ it b => ndI it ++ ndB b
  | .frm _ _ b => ndB b
  | .wh t b => ndP t ++ ndB b
  | .rt p => ndP p
  | .rn => []
  | .ps => []
  | .rs x c => [.rs x c]
  | .tr b cx cl al _ hd => .xc al cx cl :: (ndHd al hd ++ ndB b)
  | .sa o x k p => .at x k :: (ndP o ++ ndP p)
def ndB : SL → List Nd
  | .nil => []
  | .cons s ss => ndS s ++ ndB ss
end
end BX

set_option Elab.async false
set_option linter.all false
set_option maxRecDepth 100000
/-! BT0: a def's names. -/
namespace BX
open PySem PySem.Spec PyProof.Rows L2
/-! ### a def -/
def fsB (N ps : List Str) (sc : Scope) : Bool := decide (sc.kind = .function) && !sc.isCoroutine && !sc.isGenerator && decide N.Nodup && decide (N.take ps.length = ps) && ps.all (fun x => match sc.names.lookup x with
    | some .local => true
    | some .cell => true
    | _ => false) && sc.names.all fun y => !(decide (y.2 = .free))
theorem fsB_ok {N ps : List Str} {sc : Scope} (h : fsB N ps sc = true) : FnScope N ps sc := by
  unfold fsB at h
  obtain ⟨h1, h2⟩ := ex_and h
  obtain ⟨h3, h4⟩ := ex_and h1
  obtain ⟨h5, h6⟩ := ex_and h3
  obtain ⟨h7, h8⟩ := ex_and h5
  obtain ⟨h9, h10⟩ := ex_and h7
  obtain ⟨h11, h12⟩ := ex_and h9
  refine ⟨of_decide_eq_true h11, by simpa using h12, by simpa using h10, of_decide_eq_true h8, of_decide_eq_true h6, fun x hx => ?_, fun y hy => ?_⟩
  · have := List.all_eq_true.mp h4 x hx
    split at this
    · rename_i e; exact .inl e
    · rename_i e; exact .inr e
    · cases this
  · have := List.all_eq_true.mp h2 y hy
    simpa using this
end BX

set_option Elab.async false
set_option linter.all false
set_option maxRecDepth 100000
/-! BT1: what an except suite does. -/
namespace BX
open PySem PySem.Spec PyProof.Rows L2
open PySem.SeqAt (dataPlace)
/-! ### count, index of a list -/
section
variable {prog : Program} {w : World} {A : Around} {E : Value → Shared → Prop} {s : Shared} {l : Addr} {vs : Array Value} {xs : List PyData} {x : Value} {d : PyData} {as bs : List Addr} {Q : Value → Shared → Prop}
theorem index_list_dataX {j : Nat} (hl : s.heap.IsList l vs) (rs : ReadsAll s.heap vs.toList xs as) (rx : Reads s.heap x d bs) (hxs : PyData.plainAll xs = true) (hd : d.plain = true) (hu : A.units + 1 + min (PyData.depthAll xs) d.depth < cLine)
    (hp : dataPlace xs d = some j) (hsz : vs.size ≤ LIM) (h : Q (.int (j : Nat) s.toks) { s with toks := s.toks + 1 }) : wpAny (model prog w) A (call (.builtin "list.index") [.ref l, x]) Q E s := by
  obtain ⟨⟨cls, dd, data, sl⟩, ho, hc, n, hd'⟩ := id hl
  simp only at hc hd'
  subst hc hd'
  obtain ⟨hj, hit, hno⟩ := PySem.SeqAt.hit_at rs hxs hp
  have h9 : (j : Int) < 2 ^ 63 - 1 := by
    have : LIM = 16777216 := rfl
    omega
  exact call_meets F.slot_list_index ⟨_, ho, rfl⟩ F.entry_list_index (F.args_list_index_2 _ _) (PySem.SeqAt.list_indexAt l vs n dd sl x _ j hj h9 hit hno) ⟨ho, PySem.SeqAt.items_plain rs rx hxs hd hu, h⟩
end
def rCntD (K : PySem.W.Frag) : V → List V → Hp → VK → Prop := fun x vs H Q => ∃ (a : Addr) (xs : List V) (y : V) (ps : List PyData) (d : PyData), x = .ref a ∧ vs = [y] ∧ H a = some (.lst xs) ∧ DpAll K H xs ps ∧ Dp K H y d ∧ SeqAt.shaped (.list ps) = true ∧ SeqAt.shaped d = true ∧
  Q (.int ((ps.countP fun z => PyData.eqv z d : Nat) : Int)) H
def rIdxD (K : PySem.W.Frag) : V → List V → Hp → VK → Prop := fun x vs H Q => ∃ (a : Addr) (xs : List V) (y : V) (ps : List PyData) (d : PyData) (j : Nat), x = .ref a ∧ vs = [y] ∧ H a = some (.lst xs) ∧ DpAll K H xs ps ∧ Dp K H y d ∧ SeqAt.shaped (.list ps) = true ∧ SeqAt.shaped d = true ∧
  dataPlace ps d = some j ∧ Q (.int (j : Nat)) H
theorem p_cntD {X : Cx} (hu : X.A.units + 65 < cLine) : MtM X "list.count" (rCntD X.K) := by
  intro pins s σ H x vs v us Q I rx rv h
  obtain ⟨a, xs, y, ps, d, rfl, rfl, hH, hp, hd, s1, s2, q⟩ := h
  cases rx
  obtain ⟨u, rfl, ru⟩ := rv.one
  obtain ⟨z, its, n, r, hl, e⟩ := I.lstM hH
  obtain ⟨as, h4⟩ := Dp.readsAll I ps _ its hp r
  obtain ⟨bs, r1⟩ := Dp.reads I d y u hd ru
  have hpl : PyData.plainAll ps = true := by
    have := PyData.plain_of_canLay0 _ (SeqAt.canLay_of_shaped s1)
    simpa only [PyData.plain] using this
  exact PySem.SeqAt.count_list_data (vs := its.toArray) ⟨_, e, rfl, n, rfl⟩ (show ReadsAll s.heap its.toArray.toList ps as from h4) r1 hpl (PyData.plain_of_canLay0 _ (SeqAt.canLay_of_shaped s2)) (room_in_shaped s2 hu) ⟨.int _, H, I.tok _, ⟨_, rfl⟩, q⟩
theorem p_idxD {X : Cx} (hu : X.A.units + 65 < cLine) : MtM X "list.index" (rIdxD X.K) := by
  intro pins s σ H x vs v us Q I rx rv h
  obtain ⟨a, xs, y, ps, d, j, rfl, rfl, hH, hp, hd, s1, s2, hj, q⟩ := h
  cases rx
  obtain ⟨u, rfl, ru⟩ := rv.one
  obtain ⟨z, its, n, r, hl, e⟩ := I.lstM hH
  obtain ⟨as, h4⟩ := Dp.readsAll I ps _ its hp r
  obtain ⟨bs, r1⟩ := Dp.reads I d y u hd ru
  have hpl : PyData.plainAll ps = true := by
    have := PyData.plain_of_canLay0 _ (SeqAt.canLay_of_shaped s1)
    simpa only [PyData.plain] using this
  exact index_list_dataX (vs := its.toArray) ⟨_, e, rfl, n, rfl⟩ (show ReadsAll s.heap its.toArray.toList ps as from h4) r1 hpl (PyData.plain_of_canLay0 _ (SeqAt.canLay_of_shaped s2)) (room_in_shaped s2 hu) hj (by rw [List.size_toArray, ← hl]; exact z) ⟨.int _, H, I.tok _, ⟨_, rfl⟩, q⟩
theorem cnt_place {m : Nat} {d : D} (hd : sh m d = true) {n : Nat} : ∀ (xs : List D), shL n xs = true → (toPyL xs).countP (fun y => PyData.eqv y (toPy d)) = xs.countP fun x => eqD x d
  | [], _ => rfl
  | x :: xs, hs => by
    simp only [shL, Bool.and_eq_true] at hs
    simp only [toPyL, List.countP_cons]
    rw [eqv_toPy n m x d hs.1 hd, cnt_place hd xs hs.2]
section
variable {T : Rt}
theorem r_cnt {G H : Hp} {μ : List Addr} {st : Sto} {d : D} {v : V} {a : Addr} {ds : List D} {xs : List V} {Q : VK} (w : WOk T G H μ st) (p : Po T 2 H G H μ d v) (hH : H a = some (.lst xs)) (hx : RpL T.K G μ ds xs) (s1 : sh 60 d = true) (s2 : shL 60 ds = true)
    (q : Q (.int ((ds.countP fun x => eqD x d : Nat) : Int)) H) : rCntD T.K (.ref a) [v] H Q := by
  obtain ⟨q1, q2, q3⟩ := dps_of w.gh 60 ds xs s2 hx
  obtain ⟨d1, d2⟩ := po_dp' w.gh p s1
  exact ⟨a, xs, v, toPyL ds, toPy d, rfl, rfl, hH, q1, d1, shaped_mk (n := 61) (by simpa [PyData.canLay0] using q2) (by simp [PyData.depth]; omega) (by decide), d2, by rw [cnt_place s1 ds s2]; exact q⟩
theorem r_idx {G H : Hp} {μ : List Addr} {st : Sto} {d : D} {v : V} {a : Addr} {ds : List D} {xs : List V} {Q : VK} {j : Nat} (w : WOk T G H μ st) (p : Po T 2 H G H μ d v) (hH : H a = some (.lst xs)) (hx : RpL T.K G μ ds xs) (s1 : sh 60 d = true) (s2 : shL 60 ds = true)
    (hj : fstIx d ds 0 = some j) (q : Q (.int (j : Nat)) H) : rIdxD T.K (.ref a) [v] H Q := by
  obtain ⟨q1, q2, q3⟩ := dps_of w.gh 60 ds xs s2 hx
  obtain ⟨d1, d2⟩ := po_dp' w.gh p s1
  have hj' := fst_place s1 ds 0 j s2 hj
  rw [Nat.sub_zero] at hj'
  exact ⟨a, xs, v, toPyL ds, toPy d, j, rfl, rfl, hH, q1, d1, shaped_mk (n := 61) (by simpa [PyData.canLay0] using q2) (by simp [PyData.depth]; omega) (by decide), d2, hj', q⟩
end
/-! ### isinstance of the exception that is handled -/
theorem call_isX {X : Cx} {a D : Addr} {oe : Obj} (hp : (a, oe) ∈ X.pn) (C : ExcC X.K D) (hz : Zc (.ref D) none oe) (hf : ∃ vs, oe.data = .fields vs) : CallR X (.builtin "isinstance") (rIsE X.K D a) := by
  intro pins s σ H xs us Q I r h
  obtain ⟨c, cv, b, rfl, hcv, e, q⟩ := h
  cases r with
  | cons rx rr =>
    cases rr with
    | cons rt rr =>
      cases rr
      cases rx
      have ec := hcv _ rt
      subst ec
      obtain ⟨hget, _⟩ := I.pin (a, oe) (List.mem_append.mpr (.inl hp))
      obtain ⟨vs, hv⟩ := hf
      have J : PySem.W.InstAt s.heap a oe D none := by
        obtain ⟨oc, od, oda, osl⟩ := oe
        obtain ⟨h1, h2⟩ := hz
        dsimp only at h1 h2 hv
        subst h1 h2 hv
        exact ⟨hget, rfl, rfl, trivial⟩
      exact PySem.W.kia_one (PySem.W.handS_kitx_exc C.hg C.hk C.hs C.hd C.ha C.hn C.ht C.hm) I.kIn J e (fun z => nomatch z) fun tk => ⟨.bl b, H, I.kept (t' := tk) fun _ _ z => z, rfl, q⟩
end BX

set_option Elab.async false
set_option linter.all false
set_option maxRecDepth 100000
/-! BT2: the def that tells which refusal it is. -/
namespace BX
open PySem PySem.Spec PyProof.Rows L2
/-- a context in which the exception at a is handled -/
structure HX (T : Rt) (N : List Str) (sc : Scope) (c : Xc) (a : Addr) (oe : Obj) (X : Cx) : Prop where
  K : X.K = T.K
  mg : X.mg = T.mg
  xN : X.N = N
  nd : N.Nodup
  sc : X.env.scope = sc
  u : X.A.units + 65 < cLine
  pin : (a, oe) ∈ X.pn
  z : Zc (.ref (T.ca c)) none oe
  f : ∃ vs, oe.data = .fields vs
structure XcF (T : Rt) (al : List Xc) : Prop where
  exc : ∀ c ∈ al, ExcC T.K (T.ca c)
  val : ∀ c ∈ al, PySem.W.kitOne T.K (.ref (T.ca c)) (.type "ValueError") = some true
  mi : T.mg "isinstance" = none
  mv : T.mg "ValueError" = none
def XcN (T : Rt) (al : List Xc) (x : Str) (C : Xc) : Prop := T.mg x = some (.ref (T.ca C)) ∧ ∀ c ∈ al, PySem.W.kitOne T.K (.ref (T.ca c)) (.ref (T.ca C)) = some (isX c C)
/-! ### the readings -/
section
variable {T : Rt} {N : List Str} {sc : Scope} {c : Xc} {a : Addr} {oe : Obj} {X : Cx} {al : List Xc}
theorem HX.vis (h : HX T N sc c a oe X) {x : Str} (g : visB sc x = true) : Vis X.env.scope x := by
  rw [h.sc]
  unfold visB at g
  unfold Vis
  split at g <;> first | (cases g; done) | (rename_i e; rw [e]; simp)
theorem HX.gl (h : HX T N sc c a oe X) {x : Str} (g : glB sc x = true) : Gl X x := by
  show X.env.scope.names.lookup x = some .globalImplicit
  rw [h.sc]
  unfold glB at g
  split at g
  · rename_i e
    exact e
  · cases g
theorem h_var (h : HX T N sc c a oe X) {i : Nat} {e : Expr} (g : varB N sc i e = true) : PE X e (tVar i) := by
  unfold varB at g
  split at g
  · rename_i u eu
    obtain ⟨p, rfl⟩ := vName_eq eu
    obtain ⟨g1, g2⟩ := ex_and g
    obtain ⟨g3, g4⟩ := ex_and g1
    exact pe_var (by rw [h.xN]; exact nthB_ok g3) (h.vis g4) (db1 g2) (db2 g2)
  · cases g
abbrev tIsR (K : PySem.W.Frag) (D a : Addr) (i : Nat) (cv : V) : TE := tCB (rIsE K D a) (tCons (tVar i) (tCons (tC cv) tNil))
theorem h_isX (h : HX T N sc c a oe X) (F : XcF T al) (hc : c ∈ al) {i : Nat} {cn : Str} {e : Expr} {cv : V} (g : isXB N sc i cn e = true) (hz : ∀ p, glB sc cn = true → dbB cn = true → PE X (.Name cn p) (tC cv)) : PE X e (tIsR T.K (T.ca c) a i cv) := by
  unfold isXB at g
  split at g
  · rename_i x y z ex
    obtain ⟨p1, p, rfl⟩ := vCall_eq ex
    obtain ⟨g1, g2⟩ := ex_and g
    obtain ⟨g3, g4⟩ := ex_and g1
    obtain ⟨g5, g6⟩ := ex_and g3
    split at g2
    · rename_i v ev
      obtain ⟨p2, rfl⟩ := vName_eq ev
      obtain ⟨k1, k2⟩ := ex_and g2
      obtain ⟨k3, k4⟩ := ex_and k1
      have e1 := beq_iff_eq.mp g5
      have e2 := beq_iff_eq.mp k3
      subst e2
      have py := h_var h g4
      have oy : okE y = true := by
        unfold varB at g4
        split at g4
        · rename_i u eu
          obtain ⟨p, rfl⟩ := vName_eq eu
          rfl
        · cases g4
      show PE X (.Call (.Name x p1) [y, .Name v p2] [] p) _
      rw [e1]
      rw [e1] at g6
      exact pe_callB (by rw [← h.K]; exact call_isX h.pin (by rw [h.K]; exact F.exc c hc) h.z h.f) (h.gl g6) (by rw [h.mg]; exact F.mi) boot_isinstance
        (pa_cons py (pa_cons (hz p2 k4 k2) pa_nil rfl) (okE_star oy _ _)) (by decide) (by decide) (okE_star oy _ _) rfl
    · cases g2
  · cases g
theorem isR_run {K : PySem.W.Frag} {D a : Addr} {i : Nat} {cv : V} {cvv : Value} {b : Bool} {σ : St} {H : Hp} {Q : VK} (hσ : σ[i]? = some (some (.ref a))) (hcv : ∀ u, RelV cv u → u = cvv) (e : PySem.W.kitOne K (.ref D) cvv = some b) (q : Q (.bl b) H) : tIsR K D a i cv σ H Q :=
  ⟨.ref a, hσ, cv, cvv, b, rfl, hcv, e, q⟩
def tLis (T : Rt) (D a : Addr) (i : Nat) : List (Str × Xc) → TA
  | [] => tNil
  | p :: r => tCons (tIsR T.K D a i (.ref (T.ca p.2))) (tLis T D a i r)
theorem h_lis (h : HX T N sc c a oe X) (F : XcF T al) (hc : c ∈ al) {i : Nat} : ∀ (ch : List (Str × Xc)) (es : List Expr), lisB N sc i ch es = true → (∀ p ∈ ch, XcN T al p.1 p.2) → PA X es (tLis T (T.ca c) a i ch)
  | [], [], _, _ => pa_nil
  | [], _ :: _, g, _ => by simp [lisB] at g
  | _ :: _, [], g, _ => by simp [lisB] at g
  | p :: r, e :: es, g, hn => by
    simp only [lisB] at g
    obtain ⟨g1, g2⟩ := ex_and g
    obtain ⟨g3, g4⟩ := ex_and g1
    exact pa_cons (h_isX h F hc g3 fun q k1 k2 => pe_glob (h.gl k1) (by rw [h.mg]; exact (hn p List.mem_cons_self).1) rfl (db1 k2)) (h_lis h F hc r es g2 fun p' hp' => hn p' (List.mem_cons_of_mem _ hp')) (okE_star g4 _ _)
abbrev flV (c : Xc) (ch : List (Str × Xc)) : List V := ch.map fun p => V.bl (isX c p.2)
theorem lis_run {σ : St} {H : Hp} {i : Nat} (hσ : σ[i]? = some (some (.ref a))) (hc : c ∈ al) : ∀ (ch : List (Str × Xc)) (Q : List V → Hp → Prop), (∀ p ∈ ch, XcN T al p.1 p.2) → Q (flV c ch) H → tLis T (T.ca c) a i ch σ H Q
  | [], Q, _, q => q
  | p :: r, Q, hn, q => isR_run hσ (fun u h => h) ((hn p List.mem_cons_self).2 c hc) (lis_run hσ hc r (fun xs H2 => Q (.bl (isX c p.2) :: xs) H2) (fun p' hp' => hn p' (List.mem_cons_of_mem _ hp')) q)
theorem rpl_fl {G : Hp} {μ : List Addr} : ∀ (ch : List (Str × Xc)), RpL T.K G μ (flD c (ch.map Prod.snd)) (flV c ch)
  | [] => RpL.nil
  | p :: r => RpL.cons (by simp only [Rp]) (rpl_fl r)
theorem h_tg (h : HX T N sc c a oe X) {i : Nat} {e : Expr} (g : tgB N sc i e = true) : ∃ x p, e = .Name x p ∧ PG X (.Name x p) (gName i) := by
  unfold tgB at g
  split at g
  · rename_i x ex
    obtain ⟨p, rfl⟩ := vName_eq ex
    obtain ⟨g1, g2⟩ := ex_and g
    have e' : X.env.scope.names.lookup x = some .local := by rw [h.sc]; exact of_decide_eq_true g2
    exact ⟨x, p, rfl, pg_name (by rw [h.xN]; exact h.nd) (by rw [h.xN]; exact nthB_ok g1) (.inl e') (.inr e')⟩
  · cases g
/-- x.m(True), x in slot 1 -/
theorem h_mc (h : HX T N sc c a oe X) {m : Str} {id : String} {r : V → List V → Hp → VK → Prop} {e : Expr} (g : mcB N sc m e = true) (slot : Slot "list" m id) (hty : typeOf (.builtin id) = pure (.type "method_descriptor")) (hm : MtR X id r) : PE X e (tBM T.K "list" r (tVar 1) (tCons (tC (.bl true)) tNil)) := by
  unfold mcB at g
  split at g
  · rename_i x m' y rows ex
    obtain ⟨p1, ap, cp, rfl, el⟩ := vMet_eq ex
    obtain ⟨g1, g2⟩ := ex_and g
    obtain ⟨g3, g4⟩ := ex_and g1
    obtain ⟨g5, g6⟩ := ex_and g3
    obtain ⟨g7, g8⟩ := ex_and g5
    obtain ⟨g9, g10⟩ := ex_and g7
    have em := beq_iff_eq.mp g6
    subst em
    split at g2
    · rename_i b ey
      obtain ⟨q, p, rfl⟩ := vCst_eq ey
      subst g2
      rw [← h.K]
      exact pe_bm PySem.F.plainAttrs_list slot hty hm (pe_var (by rw [h.xN]; exact nthB_ok g9) (h.vis g10) (db1 g8) (db2 g8)) (pa_cons pe_bl pa_nil rfl) rfl rfl (by rw [← el]; exact g4) rfl rfl
    · cases g2
  · cases g
theorem h_ret2 (h : HX T N sc c a oe X) {s : Stmt} (g : retB2 N sc s = true) : PS X s (tRet (tTup (tCons (tC (.str ⟨REF.toArray⟩)) (tCons (tBM T.K "list" (rIdxD T.K) (tVar 1) (tCons (tC (.bl true)) tNil)) tNil)))) := by
  unfold retB2 at g
  split at g
  · rename_i e es
    obtain ⟨p, rfl⟩ := vRet_eq es
    split at g
    · rename_i x y et
      obtain ⟨q, p2, rfl⟩ := vTup_eq et
      obtain ⟨g1, g2⟩ := ex_and g
      unfold refStr at g1
      split at g1
      · rename_i z ez
        obtain ⟨q2, p3, rfl⟩ := vCst_eq ez
        have e1 := of_decide_eq_true g1
        subst e1
        have hy : okE y = true := by
          unfold mcB at g2
          split at g2
          · rename_i ex
            obtain ⟨p1, ap, cp, rfl, el⟩ := vMet_eq ex
            rfl
          · cases g2
        exact ps_ret (pe_tup (pa_cons pe_str (pa_cons (h_mc h g2 PySem.F.slot_list_index PySem.F.type_list_index (by rw [← h.K]; exact p_idxD h.u)) pa_nil (okE_star hy _ _)) rfl))
      · cases g1
    · cases g
  · cases g
theorem h_ret1 {s : Stmt} (g : retB1 s = true) : PS X s (tRet (tTup (tCons (tC (.str ⟨REF.toArray⟩)) (tCons (tUn (rU fun i => .int (-i)) (tC (.int 1))) tNil)))) := by
  unfold retB1 at g
  split at g
  · rename_i e es
    obtain ⟨p, rfl⟩ := vRet_eq es
    split at g
    · rename_i x y et
      obtain ⟨q, p2, rfl⟩ := vTup_eq et
      obtain ⟨g1, g2⟩ := ex_and g
      unfold refStr at g1
      split at g1
      · rename_i z ez
        obtain ⟨q2, p3, rfl⟩ := vCst_eq ez
        have e1 := of_decide_eq_true g1
        subst e1
        split at g2
        · rename_i o w eu
          obtain ⟨p4, rfl⟩ := vUn_eq eu
          obtain ⟨k1, k2⟩ := ex_and g2
          have e2 := of_decide_eq_true k1
          subst e2
          unfold oneB at k2
          split at k2
          · rename_i i ei
            obtain ⟨q3, p5, rfl⟩ := vCst_eq ei
            have e3 := of_decide_eq_true k2
            subst e3
            exact ps_ret (pe_tup (pa_cons pe_str (pa_cons (pe_un un_neg pe_int) pa_nil rfl) rfl))
          · cases k2
        · cases g2
      · cases g1
    · cases g
  · cases g
theorem h_tst (h : HX T N sc c a oe X) (F : XcF T al) (hc : c ∈ al) {e : Expr} (g : tstRB N sc e = true) :
    PT X e (tOr (tTest (tOp rNe (tBM T.K "list" (rCntD T.K) (tVar 1) (tCons (tC (.bl true)) tNil)) (tC (.int 1)))) (tNot (tB (tIsR T.K (T.ca c) a 0 (.ty "ValueError"))))) := by
  unfold tstRB at g
  split at g
  · rename_i o x y ex
    obtain ⟨p, rfl⟩ := vBool_eq ex
    obtain ⟨g1, g2⟩ := ex_and g
    obtain ⟨g3, g4⟩ := ex_and g1
    have e1 := of_decide_eq_true g3
    subst e1
    split at g4
    · rename_i l op r ec
      obtain ⟨p2, rfl⟩ := vCmp_eq ec
      obtain ⟨k1, k2⟩ := ex_and g4
      obtain ⟨k3, k4⟩ := ex_and k1
      have e2 := of_decide_eq_true k3
      subst e2
      unfold oneB at k2
      split at k2
      · rename_i i ei
        obtain ⟨q3, p5, rfl⟩ := vCst_eq ei
        have e3 := of_decide_eq_true k2
        subst e3
        split at g2
        · rename_i o' z eu
          obtain ⟨p4, rfl⟩ := vUn_eq eu
          obtain ⟨m1, m2⟩ := ex_and g2
          have e4 := of_decide_eq_true m1
          subst e4
          have hz : tstE z = true := by
            unfold isXB at m2
            split at m2
            · rename_i ez
              obtain ⟨p1, p, rfl⟩ := vCall_eq ez
              rfl
            · cases m2
          refine (pw_or (pt_cmpR op_ne (h_mc h k4 PySem.F.slot_list_count PySem.F.type_list_count (by rw [← h.K]; exact p_cntD h.u)) pe_int rfl) (pw_or1 (pt_not (cut2 (h_isX h F hc m2 fun p k1 k2 => ?_) hz)))).pt
          exact pe_bltn (v := V.ty "ValueError") (h.gl k1) (by rw [h.mg]; exact F.mv) (by decide +kernel) rfl (by decide) (by decide)
        · cases g2
      · cases k2
    · cases g4
  · cases g
theorem one_run {v : V} {σ : St} {H : Hp} {Q : List V → Hp → Prop} (q : Q [v] H) : tCons (tC v) tNil σ H Q := q
theorem two_run {v : V} {t : TE} {σ : St} {H : Hp} {D : Ends} {u : TS} (q : t σ H fun x H1 => [v, x].length ≤ sizeLine ∧ ∀ p, H1 p = none → D.rt (.ref p) (upd H1 p (.tup [v, x]))) : tSeq (tRet (tTup (tCons (tC v) (tCons t tNil)))) u D σ H := q
theorem nxt_run {D : Ends} {u : TS} {σ : St} {H : Hp} (q : u D σ H) : tNext { D with nx := u D } σ H := q
/-- the tail: the test, the answers -/
theorem h_end (F : XcF T al) (hc : c ∈ al) {s s' : Stmt} (g : endRB N sc s s' = true) : ∃ t, (∀ X, HX T N sc c a oe X → PSs X [s, s'] t) ∧
    ∀ (D : Ends) (σ : St) (G H : Hp) (μ : List Addr) (st : Sto) (fl : List Xc) (l : Addr) (xs : List V), WOk T G H μ st → σ[0]? = some (some (.ref a)) → σ[1]? = some (some (.ref l)) → H l = some (.lst xs) → RpL T.K G μ (flD c fl) xs →
      (∀ d, refD c fl = some d → ∀ v G' H' μ', Ev G H μ G' H' μ' → WOk T G' H' μ' st → Rp T.K G' μ' d v → D.rt v H') → refD c fl ≠ none → t D σ H := by
  unfold endRB at g
  obtain ⟨g1, g2⟩ := ex_and g
  split at g1
  · rename_i e r ei
    obtain ⟨p, rfl⟩ := vIfS_eq ei
    obtain ⟨k1, k2⟩ := ex_and g1
    refine ⟨_, fun X h => pss_cons (ps_if (h_tst h F hc k1) (pss_cons (h_ret1 k2) pss_nil) pss_nil) (pss_cons (h_ret2 h g2) pss_nil), ?_⟩
    intro D σ G H μ st fl l xs w h0 h1 hH hx hq hne
    have hsh : ∀ fl : List Xc, shL 60 (flD c fl) = true := fun fl => by
      induction fl with
      | nil => rfl
      | cons C fl ih => simp only [flD, List.map_cons, shL, sh, Bool.true_and]; exact ih
    have tup : ∀ (d : BX.D) (v : V) (Q : VK), Rp T.K G μ d v → (∀ v' G' H' μ', Ev G H μ G' H' μ' → WOk T G' H' μ' st → Rp T.K G' μ' (.tup [.str REF, d]) v' → Q v' H') → ([V.str ⟨REF.toArray⟩, v].length ≤ sizeLine ∧ ∀ p, H p = none → Q (.ref p) (upd H p (.tup [V.str ⟨REF.toArray⟩, v]))) := by
      intro d v Q r q
      refine ⟨by show 2 ≤ sizeLine; decide, fun p hp => ?_⟩
      obtain ⟨e1, w1, r1⟩ := new_tup (ds := [.str REF, d]) w hp (show [V.str ⟨REF.toArray⟩, v].length ≤ LIM from by show 2 ≤ LIM; decide) (RpL.cons (show Rp T.K G μ (.str REF) (.str ⟨REF.toArray⟩) from (pk_str (by decide) (by decide) : Po T 0 H G H μ (.str REF) _)) (RpL.one r))
      exact q _ _ _ _ e1 w1 r1
    show tIfS _ _ _ _ σ H
    refine ⟨.ref l, h1, .inl ⟨rfl, xs, .inl (.inl hH)⟩, ?_⟩
    refine one_run ?_
    refine r_cnt (d := .bl true) w pk_bl hH hx rfl (hsh fl) ?_
    refine ⟨rfl, ?_⟩
    refine ⟨_, rfl, ?_⟩
    by_cases hk : (flD c fl).countP (fun x => eqD x (.bl true)) = 1
    · have e1 : (!decide (V.int ((flD c fl).countP (fun x => eqD x (.bl true)) : Nat) = V.int 1)) = false := by rw [hk]; rfl
      rw [e1]
      simp only [Bool.false_eq_true, if_false]
      refine isR_run h0 (fun u h => h) (F.val c hc) ⟨true, rfl, ?_⟩
      simp only [Bool.not_true, Bool.false_eq_true, if_false]
      refine nxt_run (two_run ?_)
      refine ⟨.ref l, h1, .inl ⟨rfl, xs, .inl (.inl hH)⟩, ?_⟩
      unfold refD at hq hne
      rw [if_pos hk] at hq hne
      cases hj : fstIx (.bl true) (flD c fl) 0 with
      | none => rw [hj] at hne; exact absurd rfl hne
      | some j =>
        rw [hj] at hq
        refine one_run ?_
        refine r_idx (d := .bl true) w pk_bl hH hx rfl (hsh fl) hj ?_
        exact tup (.int j) (.int j) _ (by simp only [Rp]) fun v' G' H' μ' e1 w1 r1 => hq _ rfl v' G' H' μ' e1 w1 r1
    · have e1 : (!decide (V.int ((flD c fl).countP (fun x => eqD x (.bl true)) : Nat) = V.int 1)) = true := by
        have : ¬ (V.int ((flD c fl).countP (fun x => eqD x (.bl true)) : Nat) = V.int 1) := fun z => hk (by have := V.int.inj z; omega)
        simp [this]
      rw [e1]
      simp only [if_true]
      show tRet _ _ σ H
      unfold refD at hq
      rw [if_neg hk] at hq
      refine ⟨1, rfl, ?_⟩
      exact tup (.int (-1)) (.int (-1)) _ (by simp only [Rp]) fun v' G' H' μ' e1 w1 r1 => hq _ rfl v' G' H' μ' e1 w1 r1
  · cases g1
end
end BX

set_option Elab.async false
set_option linter.all false
set_option maxRecDepth 100000
/-! BT3: that def, called in a suite. -/
namespace BX
open PySem PySem.Spec PyProof.Rows L2
section
variable {T : Rt} {N : List Str} {sc : Scope} {c : Xc} {a : Addr} {oe : Obj} {al : List Xc}
abbrev RfOk (T : Rt) (c : Xc) (a : Addr) (D : Ends) (t : TS) (fl0 fl : List Xc) : Prop := ∀ (σ : St) (G H : Hp) (μ : List Addr) (st : Sto) (l : Addr) (xs : List V), WOk T G H μ st → 1 < σ.length → σ[0]? = some (some (.ref a)) → σ[1]? = some (some (.ref l)) → H l = some (.lst xs) → RpL T.K G μ (flD c fl0) xs →
      (∀ d, refD c fl = some d → ∀ v G' H' μ', Ev G H μ G' H' μ' → WOk T G' H' μ' st → Rp T.K G' μ' d v → D.rt v H') → t D σ H
theorem flD_app (fl fl' : List Xc) : flD c (fl ++ fl') = flD c fl ++ flD c fl' := by simp [flD]
theorem flD_len (fl : List Xc) : (flD c fl).length = fl.length := by simp [flD]
theorem rf_tail (F : XcF T al) (hc : c ∈ al) : ∀ (chs : List (List (Str × Xc))) (ss : List Stmt), rfT N sc chs ss = true → (∀ ch ∈ chs, ∀ p ∈ ch, XcN T al p.1 p.2) → ∃ t, (∀ X, HX T N sc c a oe X → PSs X ss t) ∧
    ∀ (D : Ends) (fl : List Xc), fl.length + chs.flatten.length ≤ LIM → refD c (fl ++ chs.flatten.map Prod.snd) ≠ none → RfOk T c a D t fl (fl ++ chs.flatten.map Prod.snd)
  | [], [s, s'], g, hn => by
    simp only [rfT] at g
    obtain ⟨t, p, q⟩ := h_end (a := a) (oe := oe) F hc g
    refine ⟨t, p, fun D fl hl hne σ G H μ st l xs w h0 h1 h2 h3 h4 hq => ?_⟩
    simp only [List.flatten_nil, List.map_nil, List.append_nil] at hne hq
    exact q D σ G H μ st fl l xs w h1 h2 h3 h4 hq hne
  | [], [], g, _ => by simp [rfT] at g
  | [], [_], g, _ => by simp [rfT] at g
  | [], _ :: _ :: _ :: _, g, _ => by simp [rfT] at g
  | _ :: _, [], g, _ => by simp [rfT] at g
  | ch :: r, s :: ss, g, hn => by
    simp only [rfT] at g
    obtain ⟨g1, g2⟩ := ex_and g
    obtain ⟨u, pu, qu⟩ := rf_tail F hc r ss g2 fun ch' h' => hn ch' (List.mem_cons_of_mem _ h')
    split at g1
    · rename_i t v pos es
      have e := vAsg_eq es
      subst e
      obtain ⟨k1, k2⟩ := ex_and g1
      split at k2
      · rename_i x o b eb
        obtain ⟨p, rfl⟩ := vBin_eq eb
        obtain ⟨m1, m2⟩ := ex_and k2
        obtain ⟨m3, m4⟩ := ex_and m1
        have e1 := of_decide_eq_true m3
        subst e1
        split at m2
        · rename_i es' el
          obtain ⟨p2, rfl⟩ := vList_eq el
          refine ⟨tSeq (tAsg (tOp rCat (tVar 1) (tLst (tLis T (T.ca c) a 0 ch))) (gName 1)) u, fun X h => ?_, fun D fl hl hne σ G H μ st l xs w h0 h1 h2 h3 h4 hq => ?_⟩
          · obtain ⟨x', p', rfl, pg⟩ := h_tg h k1
            exact pss_cons (ps_asg (pe_op op_cat (h_var h m4) (pe_lst (h_lis h F hc ch es' m2 (hn ch List.mem_cons_self)))) pg (sws (sw_no rfl _ _ _)) (ss_name _) rfl) (pu X h)
          · have hfl : fl.length + (ch.length + r.flatten.length) ≤ LIM := by rw [List.flatten_cons, List.length_append] at hl; exact hl
            have hx := h4.length
            rw [flD_len] at hx
            have hcl : (flV c ch).length = ch.length := by simp
            show tAsg _ _ _ σ H
            refine ⟨.ref l, h2, ?_⟩
            show tLis T (T.ca c) a 0 ch σ H _
            refine lis_run h1 hc ch _ (hn ch List.mem_cons_self) ⟨by rw [limS, hcl]; omega, fun p3 hp3 => ?_⟩
            have nl : l ≠ p3 := fun z => by rw [z] at h3; rw [hp3] at h3; cases h3
            obtain ⟨e1, w1⟩ := new_lst w hp3 (flV c ch)
            refine ⟨l, p3, xs, flV c ch, rfl, rfl, by rw [upd_ne nl]; exact h3, upd_same, by rw [limS, hcl]; omega, fun p4 hp4 => ?_⟩
            obtain ⟨e2, w2⟩ := new_lst w1 hp4 (xs ++ flV c ch)
            have efl : fl ++ ((ch :: r).flatten.map Prod.snd) = (fl ++ ch.map Prod.snd) ++ r.flatten.map Prod.snd := by simp
            rw [efl] at hq hne
            refine qu D (fl ++ ch.map Prod.snd) (by rw [List.length_append, List.length_map]; omega) hne (σ.set 1 (some (.ref p4))) G _ μ st p4 (xs ++ flV c ch) w2 (by rw [List.length_set]; exact h0) (by rw [List.getElem?_set_ne (by decide)]; exact h1) (List.getElem?_set_self h0) upd_same ?_ fun d hd v G' H' μ' e3 w3 r3 => hq d hd v G' H' μ' ((e1.trans e2).trans e3) w3 r3
            rw [flD_app]
            exact h4.append (rpl_fl ch)
        · cases m2
      · cases k2
    · cases g1
theorem rf_body (F : XcF T al) (hc : c ∈ al) {chs : List (List (Str × Xc))} {ss : List Stmt} (g : rfB N sc chs ss = true) (hn : ∀ ch ∈ chs, ∀ p ∈ ch, XcN T al p.1 p.2) (hl : chs.flatten.length ≤ LIM) (hne : refD c (chs.flatten.map Prod.snd) ≠ none) : ∃ t, (∀ X, HX T N sc c a oe X → PSs X ss t) ∧
    ∀ (D : Ends) (σ : St) (G H : Hp) (μ : List Addr) (st : Sto), WOk T G H μ st → 1 < σ.length → σ[0]? = some (some (.ref a)) →
      (∀ d, refD c (chs.flatten.map Prod.snd) = some d → ∀ v G' H' μ', Ev G H μ G' H' μ' → WOk T G' H' μ' st → Rp T.K G' μ' d v → D.rt v H') → t D σ H := by
  unfold rfB at g
  split at g
  · rename_i ch r s ss'
    obtain ⟨g1, g2⟩ := ex_and g
    obtain ⟨u, pu, qu⟩ := rf_tail (a := a) (oe := oe) F hc r ss' g2 fun ch' h' => hn ch' (List.mem_cons_of_mem _ h')
    split at g1
    · rename_i t v pos es
      have e := vAsg_eq es
      subst e
      obtain ⟨k1, k2⟩ := ex_and g1
      split at k2
      · rename_i es' el
        obtain ⟨p2, rfl⟩ := vList_eq el
        refine ⟨tSeq (tAsg (tLst (tLis T (T.ca c) a 0 ch)) (gName 1)) u, fun X h => ?_, fun D σ G H μ st w h0 h1 hq => ?_⟩
        · obtain ⟨x', p', rfl, pg⟩ := h_tg h k1
          exact pss_cons (ps_asg (pe_lst (h_lis h F hc ch es' k2 (hn ch List.mem_cons_self))) pg (sws (sw_no rfl _ _ _)) (ss_name _) rfl) (pu X h)
        · have hfl : ch.length + r.flatten.length ≤ LIM := by rw [List.flatten_cons, List.length_append] at hl; exact hl
          have hcl : (flV c ch).length = ch.length := by simp
          show tAsg _ _ _ σ H
          show tLis T (T.ca c) a 0 ch σ H _
          refine lis_run h1 hc ch _ (hn ch List.mem_cons_self) ⟨by rw [limS, hcl]; omega, fun p3 hp3 => ?_⟩
          obtain ⟨e1, w1⟩ := new_lst w hp3 (flV c ch)
          have efl : (ch :: r).flatten.map Prod.snd = ch.map Prod.snd ++ r.flatten.map Prod.snd := by simp
          rw [efl] at hq hne
          exact qu D (ch.map Prod.snd) (by rw [List.length_map]; omega) hne (σ.set 1 (some (.ref p3))) G _ μ st p3 (flV c ch) w1 (by rw [List.length_set]; exact h0) (by rw [List.getElem?_set_ne (by decide)]; exact h1) (List.getElem?_set_self h0) upd_same (rpl_fl ch) fun d hd v G' H' μ' e3 w3 r3 => hq d hd v G' H' μ' (e1.trans e3) w3 r3
      · cases k2
    · cases g1
  · cases g
end
end BX

set_option Elab.async false
set_option linter.all false
set_option maxRecDepth 100000
/-! BT4: a def called where an exception is handled; the suites. -/
namespace BX
open PySem PySem.Spec PyProof.Rows L2
open L2H (RoomH PinOk cxH inv_startH)
abbrev E0 : XK := fun _ _ _ => False
/-- what the def that tells the refusal promises -/
structure FnX (T : Rt) (al fl : List Xc) (f : Addr) (fd : FuncData) (ps : List Str) : Prop where
  len : ps.length = 1
  run : ∀ (A : Around) (outer : List PySem.Env) (s : Shared) (H : Hp) (args : Args) (p : Addr × Obj) (c : Xc) (Q : VK) (G : Hp) (μ : List Addr) (st : Sto), c ∈ al → RoomH 1 A → PinOk outer H s p → Zc (.ref (T.ca c)) none p.2 → (∃ vs, p.2.data = .fields vs) → Env0 T.P T.w T.K T.mg T.base A outer s H →
    BindsTo s fd args (ps.zip [.ref p.1]) → WOk T G H μ st → refD c fl ≠ none → (∀ d, refD c fl = some d → ∀ v G' H' μ', Ev G H μ G' H' μ' → WOk T G' H' μ' st → Rp T.K G' μ' d v → Q v H') →
    codeAny (model T.P T.w) A (.call (.ref f) args) (CR (L2.CX T.P T.w) outer T.P T.w H s Q E0) s
theorem fnx_of {T : Rt} {al : List Xc} {chs : List (List (Str × Xc))} {f : Addr} {name qual : Str} {params : Arguments} {body : List Stmt} {scope : Scope} {dV kV doc pm cdv ct oc : Value} {an od : Option Addr} {osl : Array (Option Value)} {N ps : List Str}
    (lk : T.K.lookup f = some ⟨oc, od, .func (PySem.W.fnOf name qual params body scope dV kV doc pm an cdv ct), osl⟩) (hcd : PySem.W.codeIn T.K cdv qual = true) (hS : fsB N ps scope = true) (hlen : ps.length = 1) (hN : 2 ≤ N.length)
    (F : XcF T al) (g : rfB N scope chs body = true) (hn : ∀ ch ∈ chs, ∀ p ∈ ch, XcN T al p.1 p.2) (hl : chs.flatten.length ≤ LIM) :
    FnX T al (chs.flatten.map Prod.snd) f (PySem.W.fnOf name qual params body scope dV kV doc pm an cdv ct) ps := by
  have S := fsB_ok hS
  refine ⟨hlen, fun A outer s H args p c Q G μ st hc hr hpin hz hf e0 hb w hne hq => ?_⟩
  have KX : T.K.In s.heap := e0.mod.kin.keeps fun b o e => (e0.bs b o e).1
  have lim : s.heap.NoLimit := e0.mod.nolimit.keeps fun b o e => (e0.bs b o e).1
  have hkind : ∀ y ∈ ps.zip [Value.ref p.1], scope.names.lookup y.1 = some .local ∨ (scope.names.lookup y.1 = some .cell ∧ ((cellsFrom (s.heap.objs.size + 1) scope.names []).lookup y.1).isSome = true) := fun ⟨n, v⟩ hy => by
    rcases S.par n (List.of_mem_zip hy).1 with q | q
    · exact .inl q
    · exact .inr ⟨q, PySem.W.cellsFrom_some _ _ _ (.inl q)⟩
  refine codeAny_call_function hr.depth (KX _ _ lk) rfl S.co S.gen rfl (PySem.W.codeRec_of KX hcd) (hb _ _ _ _ ?_)
  refine wpAny_newFunctionEnv_cells S.kind hkind fun env he s1 x => ?_
  subst he
  refine ⟨lim.keeps x.toInCall.keep, codeAny_func ?_⟩
  obtain ⟨a, oe⟩ := p
  obtain ⟨t, ht, qt⟩ := rf_body (a := a) (oe := oe) (N := N) (sc := scope) F hc g hn hl hne
  have hr' := hr.deeper (k := 0) (envOfC qual scope s.heap.objs.size f cdv)
  have hx : HX T N scope c a oe (cxH (L2.CX T.P T.w) T.P T.w T.K T.mg T.base N qual scope f cdv A outer s H E0 (a, oe)) :=
    ⟨rfl, rfl, rfl, S.nd, rfl, by have := hr'.un; show (A.deeper _).units + 65 < cLine; omega, by simp [cxH], hz, hf⟩
  have I : Inv (cxH (L2.CX T.P T.w) T.P T.w T.K T.mg T.base N qual scope f cdv A outer s H E0 (a, oe)) [] (L2.start N [.ref a]) H s1 := inv_startH S hpin e0 hlen.symm (.cons rfl .nil) x
  have hsl : (L2.start N [V.ref a]).length = N.length := by
    unfold L2.start
    rw [List.length_append, List.length_map, List.length_replicate]
    simp only [List.length_cons, List.length_nil]
    omega
  refine wpAny_mono ((ht _ hx).run [] s1 (L2.start N [.ref a]) H { nx := fun _ H' => Q .non H', rt := Q } I (qt _ _ G H μ st w (by rw [hsl]; omega) rfl hq)) (fun fl s' hs => ?_) fun e s' hs => hs
  have fin : ∀ {σ' : St} {H' : Hp} {v : V} {u : Value}, Inv (cxH (L2.CX T.P T.w) T.P T.w T.K T.mg T.base N qual scope f cdv A outer s H E0 (a, oe)) [] σ' H' s' → RelV v u → Q v H' → CE outer T.P T.w H s Q u s' :=
    fun {σ' H' v u} J rv q => ⟨v, H', J.os, J.bare, J.base, J.hok, rv, q⟩
  cases fl with
  | ret u =>
    obtain ⟨v, σ', H', J, rv, q⟩ := hs
    exact fin J rv q
  | next =>
    obtain ⟨σ', H', J, q⟩ := hs
    exact fin (v := V.non) (u := Value.none) J rfl q
  | brk =>
    obtain ⟨_, _, _, q⟩ := hs
    exact False.elim q
  | cont =>
    obtain ⟨_, _, _, q⟩ := hs
    exact False.elim q
/-- it, by its name -/
def FxIn (T : Rt) (al : List Xc) (x : Str) (fl : List Xc) : Prop := ∃ f fd ps, T.mg x = some (.ref f) ∧ PySem.W.keepIn T.K (.ref f) = true ∧ Binds T.K fd ps [] ∧ FnX T al fl f fd ps
section
variable {T : Rt} {N : List Str} {sc : Scope} {c : Xc} {a : Addr} {oe : Obj} {X : Cx} {al fl : List Xc}
/-- an answer that is laid anew -/
abbrev AnsQ (T : Rt) (d : Option D) (H : Hp) (Q : VK) : Prop := ∃ G μ st, WOk T G H μ st ∧ d ≠ none ∧ ∀ d', d = some d' → ∀ v G' H' μ', Ev G H μ G' H' μ' → WOk T G' H' μ' st → Rp T.K G' μ' d' v → Q v H'
def tRef (T : Rt) (c : Xc) (fl : List Xc) (a : Addr) (i : Nat) : TE := fun σ H Q => σ[i]? = some (some (.ref a)) ∧ AnsQ T (refD c fl) H Q
theorem h_call (h : HX T N sc c a oe X) (hP : X.prog = T.P) (hw : X.w = T.w) (hb0 : X.base = T.base) (hr : RoomH 1 X.A) (tk : Takes X (fun _ _ _ _ => False)) (hc : c ∈ al) {x : Str} (F : FxIn T al x fl) (hg : glB sc x = true) (hd : dbB x = true) {i : Nat} {e : Expr} (he : varB N sc i e = true) {q p : Pos} :
    PE X (.Call (.Name x q) [e] [] p) (tRef T c fl a i) := by
  obtain ⟨f, fd, ps, m1, m2, m3, F⟩ := F
  have pa : PA X [e] (tCons (tVar i) tNil) := by
    have pe := h_var h he
    unfold varB at he
    split at he
    · rename_i u eu
      obtain ⟨p, rfl⟩ := vName_eq eu
      exact pa_cons pe pa_nil rfl
    · cases he
  have hst : starEach [e] X.env = (false, eval e X.env) :: starEach [] X.env := by
    unfold varB at he
    split at he
    · rename_i u eu
      obtain ⟨p, rfl⟩ := vName_eq eu
      rfl
    · cases he
  refine ⟨fun pins s σ H Q I hq => ?_⟩
  obtain ⟨h1, G, μ, st, w, hne, q2⟩ := hq
  refine wpAny_Call_Name_kw (ld_glob I (h.gl hg) (by rw [h.mg]; exact m1) ?_ (db1 hd))
  refine PySem.W.callWith_K (h₀ := X.base) I.ok.mod.kin (by rw [h.K]; exact m2) (thn (pa.run p pins s σ H (fun vs H1 => vs = [.ref a] ∧ H1 = H) I ⟨.ref a, h1, rfl, rfl⟩) fun us s1 ⟨vs, H1, I1, r, ⟨e1, e2⟩⟩ => ⟨I1.kIn, ?_⟩) hst rfl
  subst e1 e2
  obtain ⟨u, rfl, ru⟩ := r.one
  have ru' : u = Value.ref a := ru
  subst ru'
  have P1 := I1.pin (a, oe) (List.mem_append_left _ h.pin)
  have hpin : PinOk X.stack H1 s1 (a, oe) := ⟨P1.1, P1.2.1, fun hm => (List.mem_cons.mp (I1.stkSub a hm)).elim P1.2.2.1 P1.2.2.2.1, P1.2.2.2.2⟩
  have b := m3 s1 [.ref a] (by rw [← h.K]; exact I1.kIn) (by rw [List.append_nil, F.len]; rfl)
  rw [List.append_nil] at b
  have e0 := I1.env0
  rw [hP, hw, h.K, h.mg, hb0] at e0
  have key := F.run X.A X.stack s1 H1 ⟨[.ref a], []⟩ (a, oe) c Q G μ st hc hr hpin h.z h.f e0 b w hne q2
  rw [← hP, ← hw] at key
  refine wpAny_call (codeAny_mono key fun r s' hq => ?_)
  cases r with
  | error e => exact passAt tk σ pins H1 s1 e s' I1 hq
  | ok fl =>
    cases fl with
    | ret u => exact I1.after hq
    | next => exact False.elim hq
    | brk => exact False.elim hq
    | cont => exact False.elim hq
end
end BX

set_option Elab.async false
set_option linter.all false
set_option maxRecDepth 100000
/-! BT5: contexts of statements, what they need; try. -/
namespace BX
open PySem PySem.Spec PyProof.Rows L2
/-- the context of a def's body, or of a try's -/
structure CxtS (T : Rt) (k : Nat) (C : MC) (W : WX) (X : Cx) : Prop where
  m : CxtM T k C W X
  po : PassesOwn (model X.prog X.w) X.A X.env X.xe
  kind : C.sc.kind = .function
  stk : X.stack = X.env :: X.outer
  fra : X.env.frame = some X.env.locals
abbrev OkS (T : Rt) (k : Nat) (C : MC) (W : WX) (s : S) (x : Stmt) : Prop := ∃ t, RdS T C.mu C.N.length W (slS s) t (evS s) ∧ ∀ X, CxtS T k C W X → PS X x t
abbrev OkB (T : Rt) (k : Nat) (C : MC) (W : WX) (s : SL) (x : List Stmt) : Prop := ∃ t, RdS T C.mu C.N.length W (slB s) t (evB s) ∧ ∀ X, CxtS T k C W X → PSs X x t
/-- an exception's class -/
structure XcOk (T : Rt) (c : Xc) : Prop where
  base : ∃ B newId initId bmB, ExcBaseFacts B newId initId bmB ∧ PySem.W.excIn T.K (T.ca c) bmB newId = true
  keep : PySem.W.keepIn T.K (.ref (T.ca c)) = true
  sub : PySem.W.subIn T.K (.ref (T.ca c)) (.type "BaseException") = some true
  ty : PySem.W.typeIn T.K (.ref (T.ca c)) = some (.type "type")
def NdX (T : Rt) (k : Nat) : Nd → Prop
  | .rs x c => T.mg x = some (.ref (T.ca c)) ∧ XcOk T c
  | .xc al x cl => XcF T al ∧ T.mg x = some (.ref (T.ca cl)) ∧ ∀ c ∈ al, PySem.W.exmOne T.K (.ref (T.ca c)) (.ref (T.ca cl)) = some (isX c cl)
  | .xf al x fl => FxIn T al x fl ∧ 1 ≤ k
  | .xt al x C => XcN T al x C
  | q => NdOk T k q
def NdsX (T : Rt) (k : Nat) (l : List Nd) : Prop := ∀ q ∈ l, NdX T k q
variable {T : Rt} {k : Nat}
theorem NdsX.app {a b : List Nd} (h : NdsX T k (a ++ b)) : NdsX T k a ∧ NdsX T k b := ⟨fun q hq => h q (List.mem_append_left _ hq), fun q hq => h q (List.mem_append_right _ hq)⟩
theorem NdX.ok {q : Nd} (h : NdX T k q) : NdOk T k q := by
  cases q with
  | rs x c => trivial
  | xc al x c => trivial
  | xf al x c => trivial
  | xt al x c => trivial
  | _ => exact h
theorem NdsX.ok {a : List Nd} (h : NdsX T k a) : Nds T k a := fun q hq => (h q hq).ok
/-- name = value, whatever the value -/
theorem s_asg1 {C : MC} {W : WX} {X : Cx} {i : Nat} {x : Str} {px pos : Pos} {p : P} {v : Expr} {t : TE} (c : CxtS T k C W X) (h1 : nthB C.N i x = true) (h2 : locB C x = true) (hn : noLc v = true) (pe : PE X v t) : PS X (.Assign [.Name x px] v pos) (tAsg t (gName i)) :=
  ps_asg pe (s_loc c.m h1 h2) (sws (sw_no hn _ _ _)) (ss_name _) rfl
/-- the same of a comprehension -/
theorem s_asgc {C : MC} {W : WX} {i : Nat} {x : Str} {px pos : Pos} {p : P} {v : Expr} (h1 : nthB C.N i x = true) (h2 : locB C x = true) (hp : isCp p = true) (h : mE C p v = true) (hn : Nds T k (ndP p)) :
    ∃ t, RdE T C.mu C.N.length W 1 t (ev p) ∧ ∀ X, CxtS T k C W X → PS X (.Assign [.Name x px] v pos) (tAsg t (gName i)) := by
  cases p with
  | cp e0 tg it cn own =>
    simp only [mE] at h
    split at h
    · rename_i q ex
      obtain ⟨p, rfl⟩ := vLc_eq ex
      obtain ⟨elt, ⟨target, iter, ifs, asy⟩, scope⟩ := q
      obtain ⟨k1, g9⟩ := ex_and h
      obtain ⟨k2, g8⟩ := ex_and k1
      obtain ⟨k3, g7⟩ := ex_and k2
      obtain ⟨k4, g6⟩ := ex_and k3
      obtain ⟨k5, g5⟩ := ex_and k4
      obtain ⟨k6, g4⟩ := ex_and k5
      obtain ⟨k7, g3⟩ := ex_and k6
      obtain ⟨g1, g2⟩ := ex_and k7
      have g1' : asy = 0 := of_decide_eq_true g1
      subst g1'
      obtain ⟨n1, n2⟩ := Nds.app (show Nds T k (ndP e0 ++ (ndI it ++ ndQ cn)) from hn)
      obtain ⟨n3, n4⟩ := Nds.app n2
      obtain ⟨wi, g, tt, te, hr, hX⟩ := s_cp (cn := cn) (it := it) (mI_ok it C target iter W g5 n3) (mC_ok cn (C.blk scope) ifs W0 g7 n4) (mE_ok e0 (C.blk scope) elt W0 g8 n1) (of_decide_eq_true g9) g6 g4 g3
      refine ⟨_, hr, fun X c => ?_⟩
      obtain ⟨x1, x2, x3, x4, x5⟩ := hX X c.m
      have hk : X.env.scope.kind = .function := by rw [c.m.c.sc]; exact c.kind
      cases hs : swB X.env.scope scope x px p with
      | true =>
        have hl : X.env.scope.names.lookup x = some .local := by
          unfold swB at hs
          exact of_decide_eq_true (ex_and (ex_and hs).1).1
        have hi : X.N[i]? = some x := by rw [c.m.c.xN]; exact nthB_ok h1
        have := ps_setLc (py := px) (pos := p) (spos := pos) c.m.c.calm (nd_of c.m) hi hl (by rw [sw_eq hk, hs]) x1 x2 x3 x4 x5 (fun x => okE_fs g2 X.env x)
        rw [own_snd] at this
        exact this
      | false =>
        have pe := pe_lc (pos := p) c.m.c.calm (nd_of c.m) x1 x2 x3 x4 x5 (fun x => okE_fs g2 X.env x)
        rw [own_snd] at pe
        exact ps_asg pe (s_loc c.m h1 h2) (sws (by rw [sw_eq hk, hs])) (ss_name _) rfl
    · cases h
  | _ => cases hp
theorem s_met {C : MC} {W : WX} {X : Cx} {i : Nat} {m : Str} {e : Expr} {f : Expr → Bool} {pos : Pos} {id : String} {r : V → List V → Hp → VK → Prop} {T' : String} (c : CxtM T k C W X) (h : mMet C i m e f = true) (pa : PlainAttrs T') (slot : Slot T' m id) (hty : typeOf (.builtin id) = pure (.type "method_descriptor")) (hm : MtR X id r) (t : TE)
    (he : ∀ y, f y = true → PE X y t) : PE X e (tBM X.K T' r (tVar i) (tCons t tNil)) := by
  unfold mMet at h
  split at h
  · rename_i q ex
    obtain ⟨p1, ap, cp, rfl, el⟩ := vMet_eq ex
    obtain ⟨h1, h2⟩ := ex_and h
    obtain ⟨h3, h4⟩ := ex_and h1
    obtain ⟨h5, h6⟩ := ex_and h3
    obtain ⟨h7, h8⟩ := ex_and h5
    obtain ⟨h9, h10⟩ := ex_and h7
    obtain ⟨h11, h12⟩ := ex_and h9
    obtain ⟨h13, h14⟩ := ex_and h11
    have em := beq_iff_eq.mp h8
    rw [em]
    refine pe_bm pa slot hty hm (s_var c h13 h14 h12) (pa_cons (he _ h2) pa_nil (star1 h6 _)) rfl ?_ (by rw [← el]; exact h4) (okE_star h6 _ _) rfl
    rw [star1 h6]
    rfl
  · cases h
theorem mMet_f {C : MC} {i : Nat} {m : Str} {e : Expr} {f : Expr → Bool} (h : mMet C i m e f = true) : i ∈ C.mu ∧ ∃ y, f y = true := by
  unfold mMet at h
  split at h
  · rename_i q ex
    obtain ⟨h1, h2⟩ := ex_and h
    obtain ⟨h3, h4⟩ := ex_and h1
    obtain ⟨h5, h6⟩ := ex_and h3
    obtain ⟨h7, h8⟩ := ex_and h5
    obtain ⟨h9, h10⟩ := ex_and h7
    exact ⟨of_decide_eq_true h10, _, h2⟩
  · cases h
theorem mMet_y {C : MC} {i : Nat} {m : Str} {e : Expr} {f : Expr → Bool} (h : mMet C i m e f = true) : ∃ q, vMet e = some q ∧ f q.2.2.1 = true ∧ i ∈ C.mu := by
  unfold mMet at h
  split at h
  · rename_i q ex
    obtain ⟨h1, h2⟩ := ex_and h
    obtain ⟨h3, h4⟩ := ex_and h1
    obtain ⟨h5, h6⟩ := ex_and h3
    obtain ⟨h7, h8⟩ := ex_and h5
    obtain ⟨h9, h10⟩ := ex_and h7
    exact ⟨q, ex, h2, of_decide_eq_true h10⟩
  · cases h
theorem s_met2 {C : MC} {W : WX} {X : Cx} {i : Nat} {m : Str} {e : Expr} {f : Expr → Bool} {q : Str × Str × Expr × Bool} {id : String} {r : V → List V → Hp → VK → Prop} {T' : String} (c : CxtM T k C W X) (h : mMet C i m e f = true) (hq : vMet e = some q) (pa : PlainAttrs T') (slot : Slot T' m id) (hty : typeOf (.builtin id) = pure (.type "method_descriptor")) (hm : MtR X id r) (t : TE)
    (he : PE X q.2.2.1 t) : PE X e (tBM X.K T' r (tVar i) (tCons t tNil)) := by
  unfold mMet at h
  rw [hq] at h
  obtain ⟨p1, ap, cp, rfl, el⟩ := vMet_eq hq
  simp only at h
  obtain ⟨h1, h2⟩ := ex_and h
  obtain ⟨h3, h4⟩ := ex_and h1
  obtain ⟨h5, h6⟩ := ex_and h3
  obtain ⟨h7, h8⟩ := ex_and h5
  obtain ⟨h9, h10⟩ := ex_and h7
  obtain ⟨h11, h12⟩ := ex_and h9
  obtain ⟨h13, h14⟩ := ex_and h11
  have em := beq_iff_eq.mp h8
  rw [em]
  refine pe_bm pa slot hty hm (s_var c h13 h14 h12) (pa_cons he pa_nil (star1 h6 _)) rfl ?_ (by rw [← el]; exact h4) (okE_star h6 _ _) rfl
  rw [star1 h6]
  rfl
theorem mMet_lc {C : MC} {i : Nat} {m : Str} {e : Expr} {f : Expr → Bool} (h : mMet C i m e f = true) : noLc e = true := by
  unfold mMet at h
  split at h
  · rename_i q ex
    obtain ⟨p1, ap, cp, rfl, el⟩ := vMet_eq ex
    rfl
  · cases h
theorem rd_rs {mu : List Nat} {n : Nat} {W : WX} {c : Xc} : RdS T mu n W [] (fun _ σ H => W (.ref (T.ca c)) none σ H) (fun _ => exc c) := by
  intro E ρ σ G H μ st D er hres
  exact (show WS T W n E c st from hres) σ G H μ er.ls er.en er.w
theorem s_rs {C : MC} {W : WX} {X : Cx} {x m : Str} {c : Xc} {p1 p2 p3 p : Pos} {j : Nat} (cx : CxtM T k C W X) (hg : glB C.sc x = true) (hd : dbB x = true) (hx : T.mg x = some (.ref (T.ca c)) ∧ XcOk T c) :
    PS X (.Raise (some (.Call (.Name x p1) [.Constant (.str m) j p2] [] p3)) none p) (fun _ σ H => W (.ref (T.ca c)) none σ H) := by
  obtain ⟨h1, ⟨B, newId, initId, bmB, F, q⟩, h3, h4, h5⟩ := hx
  exact ps_raise cx.c.calm cx.c.tk (pmk_own F (by rw [cx.c.K]; exact q) (by rw [cx.c.mg]; exact h1) (by rw [cx.c.K]; exact h3) (raises_own (by rw [cx.c.K]; exact h4) (by rw [cx.c.K]; exact h5)) (cx.c.gl hg) (db1 hd))
end BX

set_option Elab.async false
set_option linter.all false
set_option maxRecDepth 100000
/-! BT6: try: .. except x as n: one statement. -/
namespace BX
open PySem PySem.Spec PyProof.Rows L2
variable {T : Rt} {k : Nat}
theorem PS.imp {X : Cx} {s : Stmt} {t t' : TS} (h : PS X s t) (i : ∀ D σ H, t' D σ H → t D σ H) : PS X s t' := ⟨fun pins s σ H D I q => h.run pins s σ H D I (i D σ H q)⟩
theorem strB_eq {s : List Nat} {e : Expr} (h : strB s e = true) : (∃ k p, e = .Constant (.str ⟨s.toArray⟩) k p) ∧ s.length ≤ LIM ∧ ∀ c ∈ s, c < 1114112 := by
  unfold strB at h
  split at h
  · rename_i x ex
    obtain ⟨q, p, rfl⟩ := vCst_eq ex
    obtain ⟨h1, h2⟩ := ex_and h
    obtain ⟨h3, h4⟩ := ex_and h1
    have e1 := of_decide_eq_true h3
    subst e1
    exact ⟨⟨q, p, rfl⟩, of_decide_eq_true h4, fun c hc => of_decide_eq_true (List.all_eq_true.mp h2 c hc)⟩
  · cases h
theorem ans_c {d : D} {H : Hp} {Q : VK} {v : V} (h : AnsQ T (some d) H Q) (hr : ∀ G μ, Rp T.K G μ d v) : Q v H := by
  obtain ⟨G, μ, st, w, _, q⟩ := h
  exact q d rfl v G H μ (Ev.refl _ _ _) w (hr G μ)
theorem isX_tst {N : List Str} {sc : Scope} {i : Nat} {cn : Str} {e : Expr} (g : isXB N sc i cn e = true) : tstE e = true := by
  unfold isXB at g
  split at g
  · rename_i ez
    obtain ⟨p1, p, rfl⟩ := vCall_eq ez
    rfl
  · cases g
/-- the suite's statement -/
theorem s_suite {C : MC} {W : WX} {X : Cx} {h : Nat} {hd : Hd} {s : Stmt} {al : List Xc} {c : Xc} {a : Addr} {oe : Obj} {pn : List (Addr × Obj)} (cx : CxtS T k C W X) (g : hdB C h hd s = true) (F : XcF T al) (hn : NdsX T k (ndHd al hd)) (hc : c ∈ al)
    (hz : Zc (.ref (T.ca c)) none oe) (hf : ∃ vs, oe.data = .fields vs) : PS (X.suite a ((a, oe) :: pn)) s (fun D σ H => σ[h]? = some (some (.ref a)) ∧ AnsQ T (hdD c hd) H D.rt) := by
  have hx : HX T C.N C.sc c a oe (X.suite a ((a, oe) :: pn)) :=
    ⟨cx.m.c.K, cx.m.c.mg, cx.m.c.xN, cx.m.c.nd, cx.m.c.sc, by have := cx.m.c.u; exact this, by simp, hz, hf⟩
  cases hd with
  | ref x fl =>
    simp only [hdB] at g
    split at g
    · rename_i e es
      obtain ⟨p, rfl⟩ := vRet_eq es
      split at g
      · rename_i y z ec
        obtain ⟨p1, p2, rfl⟩ := vCall_eq ec
        obtain ⟨g1, g2⟩ := ex_and g
        obtain ⟨g3, g4⟩ := ex_and g1
        obtain ⟨g5, g6⟩ := ex_and g3
        have e1 := beq_iff_eq.mp g5
        obtain ⟨n1, n2⟩ := (show NdX T k (.xf al x fl) from hn _ (by simp [ndHd]))
        have r := cx.m.c.room
        have hr : L2H.RoomH 1 (X.suite a ((a, oe) :: pn)).A := ⟨by have := r.dp; show X.A.depth + 3 * 1 + 5 < _; omega, by have := r.un; show X.A.units + 16 * 1 + 200 < _; omega⟩
        have tk : Takes (X.suite a ((a, oe) :: pn)) (fun _ _ _ _ => False) := fun u s' xx => by
          obtain ⟨_, _, _, _, _, _, _, _, _, _, _, _, _, _, _, _, z⟩ := xx
          exact z.elim
        refine PS.imp (ps_ret (h_call hx cx.m.c.prog cx.m.c.w cx.m.c.base hr tk hc (x := y) (fl := fl) (by rw [e1]; exact n1) g6 g4 g2)) fun D σ H q => q
      · cases g
    · cases g
  | yes =>
    simp only [hdB] at g
    split at g
    · rename_i e es
      obtain ⟨p, rfl⟩ := vRet_eq es
      refine PS.imp (ps_ret (h_isX hx F hc g fun p k1 k2 => pe_bltn (v := V.ty "ValueError") (hx.gl k1) (by rw [hx.mg]; exact F.mv) (by decide +kernel) rfl (by decide) (by decide))) fun D σ H q => ?_
      exact isR_run q.1 (fun u h => h) (F.val c hc) (ans_c q.2 fun G μ => by simp only [Rp])
    · cases g
  | two x C' sa sb =>
    simp only [hdB] at g
    split at g
    · rename_i e es
      obtain ⟨p, rfl⟩ := vRet_eq es
      split at g
      · rename_i t u v ei
        obtain ⟨p2, rfl⟩ := vIf_eq ei
        obtain ⟨g1, g2⟩ := ex_and g
        obtain ⟨g3, g4⟩ := ex_and g1
        obtain ⟨⟨q1, p3, ee⟩, l1, c1⟩ := strB_eq g4
        subst ee
        obtain ⟨⟨q2, p4, ee⟩, l2, c2⟩ := strB_eq g2
        subst ee
        obtain ⟨n1, n2⟩ := (show NdX T k (.xt al x C') from hn _ (by simp [ndHd]))
        refine PS.imp (ps_ret (pe_ifExp (cut2 (h_isX (cv := .ref (T.ca C')) hx F hc g3 fun p k1 k2 => pe_glob (hx.gl k1) (by rw [hx.mg]; exact n1) rfl (db1 k2)) (isX_tst g3)) pe_str pe_str)) fun D σ H q => ?_
        refine isR_run q.1 (fun u h => h) (n2 c hc) ⟨_, rfl, ?_⟩
        have q2 := q.2
        simp only [hdD] at q2
        cases hb : isX c C' with
        | true =>
          rw [hb] at q2
          exact ans_c q2 fun G μ => (pk_str l1 c1 : Po T 0 H G H μ (.str sa) _)
        | false =>
          rw [hb] at q2
          exact ans_c q2 fun G μ => (pk_str l2 c2 : Po T 0 H G H μ (.str sb) _)
      · cases g
    · cases g
theorem EndsP.few {mu : List Nat} {n : Nat} {E : EW} {G : Hp} {μ : List Addr} {σ : St} {as as' : List Nat} {D : Ends} {q : Fl × Env} {s : Sto} (i : ∀ j, j ∈ as → j ∈ as') (h : EndsP T mu n E G μ σ as' D q s) : EndsP T mu n E G μ σ as D q s := by
  obtain ⟨fl, ρ⟩ := q
  cases fl with
  | rt d => exact h
  | nx => exact fun σ' G' H' μ' e g m z => h σ' G' H' μ' e g m fun j hj => z j fun hj' => hj (i j hj')
  | bk => exact fun σ' G' H' μ' e g m z => h σ' G' H' μ' e g m fun j hj => z j fun hj' => hj (i j hj')
  | ct => exact fun σ' G' H' μ' e g m z => h σ' G' H' μ' e g m fun j hj => z j fun hj' => hj (i j hj')
theorem rd_try {mu : List Nat} {n : Nat} {W : WX} {as : List Nat} {tb : WX → TS} {f : Env → MF} {al : List Xc} {cl : Xc} {hd : Hd} {h : Nat} (hh : h < n) (hb : ∀ W, RdS T mu n W as (tb W) f) (hx : ∀ c ∈ al, PySem.W.exmOne T.K (.ref (T.ca c)) (.ref (T.ca cl)) = some (isX c cl)) :
    RdS T mu n W (h :: as) (fun D σ H => tb (wAs T.K (.ref (T.ca cl)) h (fun a cls d D σ H => ∃ c ∈ al, cls = .ref (T.ca c) ∧ d = none ∧ σ[h]? = some (some (.ref a)) ∧ AnsQ T (hdD c hd) H D.rt) W D) D σ H) (fun ρ => tryM f (hsM al cl hd) ρ) := by
  intro E ρ σ G H μ st D er hres
  refine hb _ E ρ σ G H μ st D er ?_
  replace hres : Res (match f ρ st with
    | .ex c s' => (match hsM al cl hd c with
      | some d => .ok (.rt d, ρ) s'
      | none => .bad)
    | r => r) (EndsP T mu n E G μ σ (h :: as) D) (WS T W n E) := hres
  cases e : f ρ st with
  | bad => rw [e] at hres; exact hres.elim
  | ok q s' =>
    rw [e] at hres
    exact EndsP.few (fun j hj => List.mem_cons_of_mem _ hj) hres
  | ex c s' =>
    rw [e] at hres
    cases e2 : hsM al cl hd c with
    | none => simp only [e2] at hres; exact hres.elim
    | some d =>
      simp only [e2] at hres
      unfold hsM at e2
      split at e2
      · rename_i hcc
        rw [Bool.and_eq_true] at hcc
        have hc : c ∈ al := by simpa using hcc.1
        show WS T _ n E c s'
        intro σ' G' H' μ' hl ev w
        refine ⟨true, by rw [hx c hc, hcc.2], fun _ a ha => ⟨c, hc, rfl, rfl, List.getElem?_set_self (by rw [hl]; exact hh), G', μ', s', w, by rw [e2]; simp, fun d' hd' v G2 H2 μ2 ev2 w2 r2 => ?_⟩, fun z => nomatch z⟩
        rw [e2] at hd'
        cases hd'
        exact hres v G2 H2 μ2 (ev.trans ev2) w2 r2
      · cases e2
theorem s_try {C : MC} {W : WX} {X : Cx} {h : Nat} {hd : Hd} {body : List Stmt} {su : Stmt} {x nn : Str} {p1 p2 p : Pos} {al : List Xc} {cl : Xc} {tb : WX → TS} (cx : CxtS T k C W X) (g1 : nthB C.N h nn = true) (g2 : C.sc.names.lookup nn = some .local) (g3 : glB C.sc x = true) (g4 : dbB x = true)
    (hx : T.mg x = some (.ref (T.ca cl))) (F : XcF T al) (hn : NdsX T k (ndHd al hd)) (g : hdB C h hd su = true) (hb : ∀ W X, CxtS T k C W X → PSs X body (tb W)) :
    PS X (.Try body [.ExceptHandler (some (.Name x p1)) (some nn) [su] p2] [] [] p) (fun D σ H => tb (wAs T.K (.ref (T.ca cl)) h (fun a cls d D σ H => ∃ c ∈ al, cls = .ref (T.ca c) ∧ d = none ∧ σ[h]? = some (some (.ref a)) ∧ AnsQ T (hdD c hd) H D.rt) W D) D σ H) := by
  rw [← cx.m.c.K]
  refine ps_try_as cx.stk cx.fra (by rw [cx.m.c.xN]; exact cx.m.c.nd) (by rw [cx.m.c.xN]; exact nthB_ok g1) (by show X.env.scope.names.lookup nn = _; rw [cx.m.c.sc]; exact g2) ⟨cx.m.c.gl g3, db1 g4, .inl (by rw [cx.m.c.mg]; exact hx)⟩ cx.m.c.tk (fun W' pn xe tk po => hb W' _ ?_) (fun a oe cls d pn hz hf => ?_)
  · exact ⟨⟨⟨cx.m.c.prog, cx.m.c.w, cx.m.c.K, cx.m.c.mg, cx.m.c.base, cx.m.c.xN, cx.m.c.nd, cx.m.c.sc, cx.m.c.calm, cx.m.c.room, tk⟩, cx.m.fn⟩, po, cx.kind, cx.stk, cx.fra⟩
  · refine ⟨fun pins s σ H D I q => ?_⟩
    obtain ⟨c, hc, rfl, rfl, q1, q2⟩ := q
    exact (pss_cons (s_suite (a := a) (oe := oe) (pn := pn) cx g F hn hc hz hf) pss_nil).run pins s σ H D I ⟨q1, q2⟩
end BX

set_option Elab.async false
set_option linter.all false
set_option maxRecDepth 100000
/-! BS17: statements, all together. -/
namespace BX
open PySem PySem.Spec PyProof.Rows L2
variable {T : Rt} {k : Nat}
theorem nodup_name {C : MC} {t v : Expr} {tg : Tg} (h : mT1 C tg t = true) (hw : (match tg with
      | .one _ => true
      | .many _ => noTup v) = true) (env : PySem.Env) : swappedStores [t] v env = pure none ∧ (assignEach [t] env).map (·.2) = [assign t env] := by
  cases tg with
  | one i =>
    simp only [mT1, mTg] at h
    obtain ⟨h1, _⟩ := ex_and h
    split at h1
    · rename_i x ex
      obtain ⟨p, rfl⟩ := vName_eq ex
      exact ⟨ss_name _, rfl⟩
    · cases h1
  | many is =>
    simp only [mT1] at h
    split at h
    · rename_i es ee
      obtain ⟨kk, p, rfl⟩ := vTup_eq ee
      exact ⟨ss_tup hw _, rfl⟩
    · cases h
theorem tg_name {C : MC} {i : Nat} {t : Expr} (h : mT1 C (.one i) t = true) : ∃ x p, t = .Name x p ∧ nthB C.N i x = true ∧ locB C x = true ∧ i ∉ C.mu := by
  simp only [mT1, mTg] at h
  obtain ⟨h1, _⟩ := ex_and h
  split at h1
  · rename_i x ex
    obtain ⟨p, rfl⟩ := vName_eq ex
    obtain ⟨h3, h4⟩ := ex_and h1
    obtain ⟨h5, h6⟩ := ex_and h3
    exact ⟨x, p, rfl, h5, h6, by simpa using h4⟩
  · cases h1
theorem okE_as {b : Expr} (h : okE b = true) (o : Expr) (p : Pos) (env : PySem.Env) (v : Value) : assign (.Subscript o b p) env v = (do
      let ov ← holding [v] (eval o env)
      let iv ← holding [v, ov] (eval b env)
      standAt p
      holding [v, ov, iv] (setItem ov iv v)
      release [v, ov, iv] []) := by
  cases b <;> first | rfl | (simp [okE] at h; done)
set_option maxHeartbeats 2000000 in
mutual
theorem mS_ok : ∀ (s : S) (C : MC) (x : Stmt) (W : WX), mS C s x = true → NdsX T k (ndS s) → OkS T k C W s x
  | .a tg p, C, s, W, h, hn => by
    simp only [mS] at h
    split at h
    · rename_i t v pos ev'
      have es := vAsg_eq ev'
      subst es
      obtain ⟨h1, h2⟩ := ex_and h
      obtain ⟨h3, h4⟩ := ex_and h1
      obtain ⟨h5, h6⟩ := ex_and h3
      obtain ⟨h7, h8⟩ := ex_and h5
      have nn : Nds T k (ndP p) := NdsX.ok hn
      cases tg with
      | one i =>
        obtain ⟨x, px, rfl, k1, k2, k3⟩ := tg_name h7
        cases hl : noLc v with
        | true =>
          obtain ⟨t, r, pe⟩ := mE_ok p C v W h6 nn
          exact ⟨tAsg t (gName i), (rd_asg (md := 0) (r.zero (of_decide_eq_true h4)) (rd_gone k3)).as fun _ => rfl, fun X c => s_asg1 (p := p) c k1 k2 hl (pe X c.m)⟩
        | false =>
          have hp : isCp p = true := by
            have h2' : (noLc v || isCp p) = true := h2
            rw [hl, Bool.false_or] at h2'
            exact h2'
          obtain ⟨t, r, ps⟩ := s_asgc (T := T) (k := k) (W := W) (px := px) (pos := pos) k1 k2 hp h6 nn
          exact ⟨tAsg t (gName i), (rd_asg (md := 0) (r.zero (Nat.le_refl 1)) (rd_gone k3)).as fun _ => rfl, ps⟩
      | many is =>
        obtain ⟨k1, k2⟩ := ex_and (show (noLc v && noTup v) = true from h2)
        obtain ⟨t', r, pe⟩ := mE_ok p C v W h6 nn
        obtain ⟨g, rg, pg⟩ := s_tg (T := T) (k := k) h7
        refine ⟨tAsg t' g, (rd_asg (md := 0) (r.zero (of_decide_eq_true h4)) rg).as fun _ => rfl, fun X c => ?_⟩
        obtain ⟨n1, n2⟩ := nodup_name (v := v) h7 k2 X.env
        exact ps_asg (pe X c.m) (pg W X c.m) (sws (sw_no k1 _ _ _)) n1 n2
    · cases h
  | .m i p, C, s, W, h, hn => by
    simp only [mS] at h
    split at h
    · rename_i t v pos ev'
      have es := vAsg_eq ev'
      subst es
      split at h
      · rename_i x ex
        obtain ⟨px, rfl⟩ := vName_eq ex
        obtain ⟨h1, h2⟩ := ex_and h
        obtain ⟨h3, h4⟩ := ex_and h1
        obtain ⟨h5, h6⟩ := ex_and h3
        obtain ⟨h7, h8⟩ := ex_and h5
        obtain ⟨h9, h10⟩ := ex_and h7
        obtain ⟨h11, h12⟩ := ex_and h9
        obtain ⟨h13, h14⟩ := ex_and h11
        have nn : Nds T k (ndP p) := NdsX.ok hn
        have hf : fresh p = true → mdP C.mu p = 1 := fun z => by
          rw [z] at h4
          simpa using h4
        have hi : i ∈ C.mu := of_decide_eq_true h12
        cases hl : noLc v with
        | true =>
          obtain ⟨t, r, pe⟩ := mE_ok p C v W h8 nn
          exact ⟨tAsg t (gName i), (rd_m hi r (of_decide_eq_true h6) hf).as fun _ => rfl, fun X c => s_asg1 (p := p) c h13 h14 hl (pe X c.m)⟩
        | false =>
          have hp : isCp p = true := by
            rw [hl, Bool.false_or] at h2
            exact h2
          obtain ⟨t, r, ps⟩ := s_asgc (T := T) (k := k) (W := W) (px := px) (pos := pos) h13 h14 hp h8 nn
          exact ⟨tAsg t (gName i), (rd_m hi r (Nat.le_refl 1) fun _ => rfl).as fun _ => rfl, ps⟩
      · cases h
    · cases h
  | .mv i j, C, s, W, h, hn => by
    simp only [mS] at h
    split at h
    · rename_i t v pos ev'
      have es := vAsg_eq ev'
      subst es
      split at h
      · rename_i x y ex ey
        obtain ⟨px, rfl⟩ := vName_eq ex
        obtain ⟨py, rfl⟩ := vName_eq ey
        obtain ⟨h1, h2⟩ := ex_and h
        obtain ⟨h3, h4⟩ := ex_and h1
        obtain ⟨h5, h6⟩ := ex_and h3
        obtain ⟨h7, h8⟩ := ex_and h5
        obtain ⟨h9, h10⟩ := ex_and h7
        obtain ⟨h11, h12⟩ := ex_and h9
        exact ⟨_, (rd_mv (of_decide_eq_true h2) (by simpa using h10)).as fun _ => rfl, fun X c => s_asg1 (p := .cN) c h11 h12 rfl (s_var c.m h8 h6 h4)⟩
      · cases h
    · cases h
  | .ap i p, C, s, W, h, hn => by
    simp only [mS] at h
    split at h
    · rename_i e pos ev'
      have es := vEx_eq ev'
      subst es
      obtain ⟨q, hq, hf, hi⟩ := mMet_y h
      obtain ⟨h1, h2⟩ := ex_and hf
      obtain ⟨t, r, pe⟩ := mE_ok p C q.2.2.1 W h1 (NdsX.ok hn)
      refine ⟨_, (rd_chg (r := rAppend) (g := appD) hi (r.zero (of_decide_eq_true h2)) fun H0 G H μ st d v a ds ys xs Q w p1 hH hl hx e q => r_app p1 hH hl hx e q).as fun _ => rfl, fun X c => ?_⟩
      rw [← c.m.c.K]
      exact ps_expr (s_met2 c.m h hq PySem.F.plainAttrs_list PySem.F.slot_list_append PySem.F.type_list_append mt_append t (pe X c.m)) (sw_no (mMet_lc h) _ _ _)
    · cases h
  | .ext i p, C, s, W, h, hn => by
    simp only [mS] at h
    split at h
    · rename_i e pos ev'
      have es := vEx_eq ev'
      subst es
      obtain ⟨q, hq, hf, hi⟩ := mMet_y h
      obtain ⟨t, r, pe⟩ := mE_ok p C q.2.2.1 W hf (NdsX.ok hn)
      refine ⟨_, (rd_chg (r := rExtend) (g := extD) hi r fun H0 G H μ st d v a ds ys xs Q w p1 hH hl hx e q => r_ext w p1 hH hl hx e q).as fun _ => rfl, fun X c => ?_⟩
      rw [← c.m.c.K]
      exact ps_expr (s_met2 c.m h hq PySem.F.plainAttrs_list PySem.F.slot_list_extend PySem.F.type_list_extend mt_extend t (pe X c.m)) (sw_no (mMet_lc h) _ _ _)
    · cases h
  | .rm i p, C, s, W, h, hn => by
    simp only [mS] at h
    split at h
    · rename_i e pos ev'
      have es := vEx_eq ev'
      subst es
      obtain ⟨q, hq, hf, hi⟩ := mMet_y h
      obtain ⟨t, r, pe⟩ := mE_ok p C q.2.2.1 W hf (NdsX.ok hn)
      refine ⟨_, (rd_chg (r := rRemD T.K) (g := remD) hi r fun H0 G H μ st d v a ds ys xs Q w p1 hH hl hx e q => r_rem w p1 hH hl hx e q).as fun _ => rfl, fun X c => ?_⟩
      rw [← c.m.c.K]
      exact ps_expr (s_met2 c.m h hq PySem.F.plainAttrs_list PySem.F.slot_list_remove PySem.F.type_list_remove (p_remD c.m.c.u) t (pe X c.m)) (sw_no (mMet_lc h) _ _ _)
    · cases h
  | .ixs i kk p, C, s, W, h, hn => by
    simp only [mS] at h
    split at h
    · rename_i t v pos ev'
      have es := vAsg_eq ev'
      subst es
      split at h
      · rename_i a b eb
        obtain ⟨pb, ee⟩ := vSub_eq eb
        subst ee
        split at h
        · rename_i x ex
          obtain ⟨px, ee⟩ := vName_eq ex
          subst ee
          obtain ⟨h1, h2⟩ := ex_and h
          obtain ⟨h3, h4⟩ := ex_and h1
          obtain ⟨h5, h6⟩ := ex_and h3
          obtain ⟨h7, h8⟩ := ex_and h5
          obtain ⟨h9, h10⟩ := ex_and h7
          obtain ⟨h11, h12⟩ := ex_and h9
          obtain ⟨h13, h14⟩ := ex_and h11
          obtain ⟨h15, h16⟩ := ex_and h13
          obtain ⟨h17, h18⟩ := ex_and h15
          obtain ⟨n1, n2⟩ := NdsX.app (show NdsX T k (ndP p ++ ndP kk) from hn)
          obtain ⟨t, r, pe⟩ := mE_ok p C v W h6 n1.ok
          obtain ⟨u, ru, pu⟩ := mE_ok kk C b W h2 n2.ok
          refine ⟨_, (rd_ixs (of_decide_eq_true h14) (r.zero (of_decide_eq_true h4)) ru).as fun _ => rfl, fun X c => ?_⟩
          exact ps_asg (pe X c.m) (pg_sub (s_var c.m h17 h18 h16) (pu X c.m) set_list (fun v => okE_as h12 _ _ _ v)) (sws (sw_no h8 _ _ _)) (ss_sub _) rfl
        · cases h
      · cases h
    · cases h
  | .e p, C, s, W, h, hn => by
    simp only [mS] at h
    split at h
    · rename_i e pos ev'
      have es := vEx_eq ev'
      subst es
      obtain ⟨h1, h2⟩ := ex_and h
      obtain ⟨h3, h4⟩ := ex_and h1
      obtain ⟨t, r, pe⟩ := mE_ok p C e W h2 (NdsX.ok hn)
      exact ⟨_, (rd_drop r).as fun _ => rfl, fun X c => ps_expr (pe X c.m) (sw_no h3 _ _ _)⟩
    · cases h
  | .iff t b d, C, s, W, h, hn => by
    simp only [mS] at h
    split at h
    · rename_i e x y ev'
      obtain ⟨p, rfl⟩ := vIfS_eq ev'
      obtain ⟨h1, h2⟩ := ex_and h
      obtain ⟨h3, h4⟩ := ex_and h1
      obtain ⟨n1, n2⟩ := NdsX.app (show NdsX T k (ndP t ++ (ndB b ++ ndB d)) from hn)
      obtain ⟨n3, n4⟩ := n2.app
      obtain ⟨tc, rc, pc⟩ := mT_ok t C e W h3 n1.ok
      obtain ⟨tb, rb, pb⟩ := mB_ok b C x W h4 n3
      obtain ⟨td, rd, pd⟩ := mB_ok d C y W h2 n4
      exact ⟨_, (rd_if' rc rb rd).as fun _ => rfl, fun X c => ps_if (pc X c.m) (pb X c) (pd X c)⟩
    · cases h
  | .fr tg it b, C, s, W, h, hn => by
    simp only [mS] at h
    split at h
    · rename_i t i x ev'
      obtain ⟨p, rfl⟩ := vFor_eq ev'
      obtain ⟨h1, h2⟩ := ex_and h
      obtain ⟨h3, h4⟩ := ex_and h1
      obtain ⟨h5, h6⟩ := ex_and h3
      obtain ⟨h7, h8⟩ := ex_and h5
      obtain ⟨n1, n2⟩ := NdsX.app (show NdsX T k (ndI it ++ ndB b) from hn)
      obtain ⟨wi, ri, pi⟩ := mI_ok it C t i W h6 n1.ok
      obtain ⟨g, rg, pg⟩ := s_tg (T := T) (k := k) h7
      obtain ⟨tb, rb, pb⟩ := mB_ok b C x W h2 n2
      rw [h4] at ri
      exact ⟨_, (rd_for ri rg rb).as fun _ => rfl, fun X c => ps_for c.po c.m.c.calm (pi X c.m) (pg W X c.m) (pb X c) (fun y => okE_fs h8 X.env y)⟩
    · cases h
  | .frm i tg b, C, s, W, h, hn => by
    simp only [mS] at h
    split at h
    · rename_i t e x ev'
      obtain ⟨p, rfl⟩ := vFor_eq ev'
      obtain ⟨h1, h2⟩ := ex_and h
      obtain ⟨h3, h4⟩ := ex_and h1
      obtain ⟨h5, h6⟩ := ex_and h3
      obtain ⟨h7, h8⟩ := ex_and h5
      split at h8
      · rename_i y ey
        obtain ⟨py, rfl⟩ := vName_eq ey
        obtain ⟨k1, k2⟩ := ex_and h8
        obtain ⟨k3, k4⟩ := ex_and k1
        obtain ⟨k5, k6⟩ := ex_and k3
        obtain ⟨g, rg, pg⟩ := s_tg (T := T) (k := k) h7
        obtain ⟨tb, rb, pb⟩ := mB_ok b C x W h6 hn
        refine ⟨_, (rd_frm (F := FUEL) (of_decide_eq_true k2) rg rb (by simpa using h4) (by simpa using h2)).as fun _ => rfl, fun X c => ?_⟩
        rw [← c.m.c.K]
        exact ps_for c.po c.m.c.calm (pi_list (s_var c.m k5 k6 k4)) (pg W X c.m) (pb X c) (fun y => okE_fs rfl X.env y)
      · cases h8
    · cases h
  | .wh t b, C, s, W, h, hn => by
    simp only [mS] at h
    split at h
    · rename_i e x ev'
      obtain ⟨p, rfl⟩ := vWh_eq ev'
      obtain ⟨h1, h2⟩ := ex_and h
      obtain ⟨n1, n2⟩ := NdsX.app (show NdsX T k (ndP t ++ ndB b) from hn)
      obtain ⟨tc, rc, pc⟩ := mT_ok t C e W h1 n1.ok
      obtain ⟨tb, rb, pb⟩ := mB_ok b C x W h2 n2
      exact ⟨_, (rd_while rc rb).as fun _ => rfl, fun X c => ps_while c.po (pc X c.m) (pb X c)⟩
    · cases h
  | .rt p, C, s, W, h, hn => by
    simp only [mS] at h
    split at h
    · rename_i e ev'
      obtain ⟨pp, rfl⟩ := vRet_eq ev'
      obtain ⟨h1, h2⟩ := ex_and h
      obtain ⟨t, r, pe⟩ := mE_ok p { C with mu := [] } e W h1 (NdsX.ok hn)
      exact ⟨_, (rd_ret r (of_decide_eq_true h2)).as fun _ => rfl, fun X c => ps_ret (pe X ⟨⟨c.m.c.prog, c.m.c.w, c.m.c.K, c.m.c.mg, c.m.c.base, c.m.c.xN, c.m.c.nd, c.m.c.sc, c.m.c.calm, c.m.c.room, c.m.c.tk⟩, c.m.fn⟩)⟩
    · cases h
  | .rn, C, s, W, h, hn => by
    simp only [mS] at h
    split at h
    · rename_i ev'
      obtain ⟨pp, rfl⟩ := vRet_eq ev'
      exact ⟨_, rd_retN.as fun _ => rfl, fun X c => ps_retN⟩
    · cases h
  | .ps, C, s, W, h, hn => by
    simp only [mS] at h
    obtain ⟨pp, rfl⟩ := vPs_eq h
    exact ⟨_, rd_next.as fun _ => rfl, fun X c => ps_pass⟩
  | .rs x xc, C, s, W, h, hn => by
    simp only [mS] at h
    split at h
    · rename_i y ev'
      obtain ⟨p1, m, j, p2, p3, p, rfl⟩ := vRs_eq ev'
      obtain ⟨h1, h2⟩ := ex_and h
      obtain ⟨h3, h4⟩ := ex_and h1
      have e := beq_iff_eq.mp h3
      subst e
      exact ⟨_, (rd_rs (c := xc)).as fun _ => rfl, fun X c => s_rs c.m h4 h2 (show NdX T k (.rs y xc) from hn _ (by simp [ndS]))⟩
    · cases h
  | .tr b cx cl al hs hd, C, s, W, h, hn => by
    simp only [mS] at h
    split at h
    · rename_i body x nn su ev'
      obtain ⟨p1, p2, p, rfl⟩ := vTry_eq ev'
      obtain ⟨h1, h2⟩ := ex_and h
      obtain ⟨h3, h4⟩ := ex_and h1
      obtain ⟨h5, h6⟩ := ex_and h3
      obtain ⟨h7, h8⟩ := ex_and h5
      obtain ⟨h9, h10⟩ := ex_and h7
      obtain ⟨h11, h12⟩ := ex_and h9
      obtain ⟨h13, h14⟩ := ex_and h11
      have e := beq_iff_eq.mp h10
      subst e
      obtain ⟨F, hx, he⟩ := (show NdX T k (.xc al x cl) from hn _ (by simp [ndS]))
      obtain ⟨n1, n2⟩ := NdsX.app (show NdsX T k (ndHd al hd ++ ndB b) from fun q hq => hn q (by simp only [ndS]; exact List.mem_cons_of_mem _ hq))
      have hl : hs < C.N.length := (List.getElem?_eq_some_iff.mp (nthB_ok h13)).1
      have hb := fun W => mB_ok b C body W h4 n2
      exact ⟨_, (rd_try (tb := fun W => (hb W).choose) hl (fun W => (hb W).choose_spec.1) he).as fun _ => rfl, fun X c => s_try c h13 (of_decide_eq_true h14) h8 h6 hx F n1 h2 fun W X c => (hb W).choose_spec.2 X c⟩
    · cases h
  | .sa _ _ _ _, C, s, W, h, hn => by simp [mS] at h
theorem mB_ok : ∀ (b : SL) (C : MC) (xs : List Stmt) (W : WX), mB C b xs = true → NdsX T k (ndB b) → OkB T k C W b xs
  | .nil, C, [], W, h, hn => ⟨tNext, rd_next.as fun _ => rfl, fun X c => pss_nil⟩
  | .nil, C, _ :: _, W, h, hn => by simp [mB] at h
  | .cons _ _, C, [], W, h, hn => by simp [mB] at h
  | .cons s ss, C, x :: xs, W, h, hn => by
    simp only [mB] at h
    obtain ⟨h1, h2⟩ := ex_and h
    obtain ⟨n1, n2⟩ := NdsX.app (show NdsX T k (ndS s ++ ndB ss) from hn)
    obtain ⟨t, r, ps⟩ := mS_ok s C x W h1 n1
    obtain ⟨u, ru, pu⟩ := mB_ok ss C xs W h2 n2
    exact ⟨_, (rd_seq r ru).as fun _ => rfl, fun X c => pss_cons (ps X c) (pu X c)⟩
end
/-! ### a def -/
theorem start_env {K : PySem.W.Frag} {G : Hp} {μ : List Addr} {N : List Str} {ds : List D} {vs : List V} (r : RpL K G μ ds vs) {i : Nat} {d : D} (h : (ds.map some ++ List.replicate (N.length - ds.length) none)[i]? = some (some d)) : ∃ v, (L2.start N vs)[i]? = some (some v) ∧ Rp K G μ d v := by
  have hl := r.length
  unfold L2.start
  rcases Nat.lt_or_ge i ds.length with hi | hi
  · rw [List.getElem?_append_left (by simpa using hi), List.getElem?_map] at h
    cases e : ds[i]? with
    | none => rw [e] at h; cases h
    | some d' =>
      rw [e] at h
      cases h
      obtain ⟨v, h1, h2⟩ := r.get e
      exact ⟨v, by rw [List.getElem?_append_left (by rw [List.length_map]; omega), List.getElem?_map, h1]; rfl, h2⟩
  · rw [List.getElem?_append_right (by simpa using hi), List.getElem?_replicate] at h
    split at h <;> cases h
theorem mkF_ok {ar n : Nat} {b : SL} {ds : List D} {st : Sto} {kk : D → Sto → Prop} {x : Xc → Sto → Prop} (h : Res (mkF ar n b ds st) kk x) : ds.length = ar ∧ Res (bnd (evB b (ds.map some ++ List.replicate (n - ar) none)) (fun q => match q.1 with
    | .nx => ret .non
    | .rt d => ret d
    | _ => bad) st) kk x := by
  unfold mkF at h
  by_cases e : ds.length = ar
  · rw [if_pos e] at h
    exact ⟨e, h⟩
  · rw [if_neg e] at h
    exact h.elim
/-- a def of the text keeps its promise -/
theorem def_ok {f : Addr} {name qual : Str} {params : Arguments} {body : List Stmt} {scope : Scope} {dV kV doc pm cdv ct oc : Value} {an od : Option Addr} {osl : Array (Option Value)} {N ps : List Str} {mu : List Nat} {b : SL}
    (lk : T.K.lookup f = some ⟨oc, od, .func (PySem.W.fnOf name qual params body scope dV kV doc pm an cdv ct), osl⟩) (hcd : PySem.W.codeIn T.K cdv qual = true) (S : fsB N ps scope = true) (hmu : (mu.all fun i => decide (ps.length ≤ i)) = true)
    (hb : mB ⟨N, scope, fun _ => true, mu⟩ b body = true) (hn : NdsX T k (ndB b)) :
    FnOk T.P T.w T.K T.mg T.base (L2.CX T.P T.w) (k + 1) f (PySem.W.fnOf name qual params body scope dV kV doc pm an cdv ct) ps (spOf T (mkF ps.length N.length b)) := by
  have S' := fsB_ok S
  refine fn_of lk hcd S' (fun vs H Q E ⟨G, μ, st, ds, w, r, h⟩ => ?_) (fun A outer s H vs Q E hr ⟨G, μ, st, ds, w, r, h⟩ => ?_)
  · rw [← r.length]
    exact (mkF_ok h).1
  · obtain ⟨e, h⟩ := mkF_ok h
    obtain ⟨t, rt, pt⟩ := mB_ok (T := T) (k := k) b ⟨N, scope, fun _ => true, mu⟩ body (fun cls d _ H => E cls d H) hb hn
    refine ⟨t, pt _ ⟨⟨⟨rfl, rfl, rfl, rfl, rfl, rfl, S'.nd, rfl, rfl, hr, takes_of rfl rfl rfl rfl⟩, fun _ _ => rfl⟩, passes_of rfl, S'.kind, rfl, rfl⟩, ?_⟩
    have hpl : ps.length ≤ N.length := by have := congrArg List.length S'.pre; rw [List.length_take] at this; omega
    have er : Er T mu N.length ⟨G, H, μ⟩ (ds.map some ++ List.replicate (N.length - ps.length) none) (L2.start N vs) G H μ st := by
      have hpar : ∀ (i : Nat) (d : D), i ∈ mu → (ds.map some ++ List.replicate (N.length - ps.length) none)[i]? ≠ some (some d) := fun i d hi h => by
        have hge := of_decide_eq_true (List.all_eq_true.mp hmu i hi)
        rw [List.getElem?_append_right (by rw [List.length_map]; omega), List.getElem?_replicate] at h
        split at h <;> cases h
      refine ⟨w, Ev.refl _ _ _, ?_, ?_, fun i d _ h => ?_, fun i d hi h => absurd h (hpar i d hi), fun i j d e v hi _ _ _ _ h _ _ => absurd h (hpar i d hi)⟩
      · rw [List.length_append, List.length_map, List.length_replicate]
        omega
      · unfold L2.start
        rw [List.length_append, List.length_map, List.length_replicate, ← r.length]
        omega
      · exact start_env (N := N) r (by rw [e]; exact h)
    refine rt _ _ _ G H μ st _ er (h.bnd.mono (fun q s1 h1 => ?_) fun c s1 h1 => ?_)
    · obtain ⟨fl, ρ1⟩ := q
      cases fl with
      | nx => exact fun σ' G' H' μ' er' _ _ _ => h1 .non G' H' μ' er'.en er'.w rp_non
      | rt d => exact fun v G' H' μ' e w r => h1 v G' H' μ' e w r
      | bk => exact h1.elim
      | ct => exact h1.elim
    · exact fun σ' G' H' μ' _ e w => h1 G' H' μ' e w
end BX

set_option Elab.async false
set_option linter.all false
set_option maxRecDepth 100000
/-! BT7: defs of the text by name; the end. -/
namespace BX
open PySem PySem.Spec PyProof.Rows L2
/-- a def of the top, as the top has left it -/
structure DefK (K : PySem.W.Frag) (x : Str) (st : Stmt) (f : Addr) : Prop where
  ex : ∃ (oc : Value) (od : Option Addr) (kV doc pm : Value) (an : Option Addr) (cdv ct : Value) (osl : Array (Option Value)), K.lookup f = some ⟨oc, od, .func (PySem.W.fnOf x x (defArgs st) (defBody st) (defScope st) .none kV doc pm an cdv ct), osl⟩ ∧ PySem.W.codeIn K cdv x = true
  kp : PySem.W.keepIn K (.ref f) = true
  ns : PySem.W.nsIn K mainGlobals x = some (some (.ref f))
theorem defk {K : PySem.W.Frag} {x : Str} {st : Stmt} {f : Addr} {oc : Value} {od an : Option Addr} {osl : Array (Option Value)} {kV doc pm cdv ct : Value} (ns : PySem.W.nsIn K mainGlobals x = some (some (.ref f)))
    (l : K.lookup f = some ⟨oc, od, .func (PySem.W.fnOf x x (defArgs st) (defBody st) (defScope st) .none kV doc pm an cdv ct), osl⟩) (c : PySem.W.codeIn K cdv x = true) (k : PySem.W.keepIn K (.ref f) = true) : DefK K x st f := ⟨⟨oc, od, kV, doc, pm, an, cdv, ct, osl, l, c⟩, k, ns⟩
/-- the parameters are bound by place -/
def BindOk (x : Str) (st : Stmt) (ps : List Str) : Prop := ∀ (kV doc pm : Value) (an : Option Addr) (cdv ct : Value) (us : List Value), us.length = ps.length → bindArgs (PySem.W.fnOf x x (defArgs st) (defBody st) (defScope st) .none kV doc pm an cdv ct) ⟨us, []⟩ = pure (ps.zip us)
section
variable {T : Rt} {k : Nat}
theorem FnOk.imp {P : Program} {w : World} {K : PySem.W.Frag} {mg : Str → Option Value} {base : Heap} {CX : CXT} {k : Nat} {f : Addr} {fd : FuncData} {ps : List Str} {sp sp' : Sp} (h : FnOk P w K mg base CX k f fd ps sp) (i : ∀ vs H Q E, sp' vs H Q E → sp vs H Q E) : FnOk P w K mg base CX k f fd ps sp' :=
  ⟨fun vs H Q E z => h.len vs H Q E (i _ _ _ _ z), fun A outer s H args us vs Q E r e b v z => h.run A outer s H args us vs Q E r e b v (i _ _ _ _ z)⟩
theorem FnOk.up {P : Program} {w : World} {K : PySem.W.Frag} {mg : Str → Option Value} {base : Heap} {CX : CXT} {k j : Nat} {f : Addr} {fd : FuncData} {ps : List Str} {sp : Sp} (h : FnOk P w K mg base CX k f fd ps sp) (l : k ≤ j) : FnOk P w K mg base CX j f fd ps sp :=
  ⟨h.len, fun A outer s H args us vs Q E r e b v z => h.run A outer s H args us vs Q E (r.mono l) e b v z⟩
theorem FnIn.up {j : Nat} {x : Str} {F : List D → M D} (h : FnIn T k x F) (l : k ≤ j) : FnIn T j x F := by
  obtain ⟨f, fd, ps, h1, h2, h3, h4⟩ := h
  exact ⟨f, fd, ps, h1, h2, h3, FnOk.up h4 l⟩
/-- a def's text, matched -/
structure Mt1 (x : Str) (st : Stmt) (N ps : List Str) (mu : List Nat) (b : SL) : Prop where
  bd : BindOk x st ps
  sc : fsB N ps (defScope st) = true
  hmu : (mu.all fun i => decide (ps.length ≤ i)) = true
  tx : mB ⟨N, defScope st, fun _ => true, mu⟩ b (defBody st) = true
theorem fn_ok {x : Str} {st : Stmt} {f : Addr} {N ps : List Str} {mu : List Nat} {b : SL} (d : DefK T.K x st f) (m : Mt1 x st N ps mu b) (hn : NdsX T k (ndB b)) :
    ∃ fd, Binds T.K fd ps [] ∧ FnOk T.P T.w T.K T.mg T.base (L2.CX T.P T.w) (k + 1) f fd ps (spOf T (mkF ps.length N.length b)) := by
  obtain ⟨oc, od, kV, doc, pm, an, cdv, ct, osl, l, c⟩ := d.ex
  exact ⟨_, .all (m.bd kV doc pm an cdv ct), def_ok l c m.sc m.hmu m.tx hn⟩
theorem fn_in {x : Str} {st : Stmt} {N ps : List Str} {mu : List Nat} {b : SL} (hm : ∀ f, PySem.W.nsIn T.K mainGlobals x = some (some (.ref f)) → T.mg x = some (.ref f)) (d : ∃ f, DefK T.K x st f) (m : Mt1 x st N ps mu b) (hn : NdsX T k (ndB b)) : FnIn T (k + 1) x (mkF ps.length N.length b) := by
  obtain ⟨f, d⟩ := d
  obtain ⟨fd, h1, h2⟩ := fn_ok d m hn
  exact ⟨f, fd, ps, hm f d.ns, d.kp, h1, h2⟩
/-- the needs one by one -/
def NdL (T : Rt) (k : Nat) : List Nd → Prop
  | [] => True
  | q :: r => NdX T k q ∧ NdL T k r
theorem nds_of {l : List Nd} (h : NdL T k l) : NdsX T k l := by
  induction l with
  | nil => intro q hq; cases hq
  | cons q r ih =>
    intro p hp
    rcases List.mem_cons.mp hp with e | e
    · rw [e]; exact h.1
    · exact ih h.2 p e
/-- the law's promise -/
def spLaw (K : PySem.W.Frag) : Sp := fun vs H Q _ => ∃ (a : Addr) (ns : List Int), vs = [.ref a] ∧ SqL K H a (ns.map V.int) ∧ ns.length ≤ 63 ∧ Only H ∧ ∀ H', Q (.bl true) H'
theorem law_of {f : Addr} {fd : FuncData} {ps : List Str} {F : List D → M D} (hF : ∀ ns : List Int, ns.length ≤ 63 → ∃ s, F [.scr ns] [] = .ok (.bl true) s) (h : FnOk T.P T.w T.K T.mg T.base (L2.CX T.P T.w) k f fd ps (spOf T F)) :
    FnOk T.P T.w T.K T.mg T.base (L2.CX T.P T.w) k f fd ps (spLaw T.K) := by
  refine FnOk.imp h fun vs H Q E z => ?_
  obtain ⟨a, ns, rfl, hS, hl, hO, hq⟩ := z
  obtain ⟨s, e⟩ := hF ns hl
  refine ⟨H, [], [], [.scr ns], ⟨Sub.refl _, List.nodup_nil, rfl, fun n a ob h1 h2 => by simp at h1⟩, RpL.one (by simp only [Rp]; exact ⟨a, rfl, hS, Nat.le_trans hl (by decide)⟩), ?_⟩
  rw [e]
  intro v G' H' μ' _ _ r
  have r' : v = .bl true := by simpa only [Rp] using r
  subst r'
  exact hq H'
/-! ### exceptions -/
structure XcK (K : PySem.W.Frag) (x : Str) (C : Addr) : Prop where
  ns : PySem.W.nsIn K mainGlobals x = some (some (.ref C))
  ex : PySem.W.excIn K C [.type "ValueError", .type "Exception", .type "BaseException", .type "object"] "ValueError.__new__" = true
  kp : PySem.W.keepIn K (.ref C) = true
  sb : PySem.W.subIn K (.ref C) (.type "BaseException") = some true
  ty : PySem.W.typeIn K (.ref C) = some (.type "type")
theorem XcK.ok {x : Str} {c : Xc} (h : XcK T.K x (T.ca c)) : XcOk T c := ⟨⟨_, _, _, _, PySem.F.excBase_ValueError, h.ex⟩, h.kp, h.sb, h.ty⟩
/-- .. asked for by isinstance, by an except clause -/
structure XcI (K : PySem.W.Frag) (C : Addr) : Prop where
  e : ExcC K C
  ve : PySem.W.subIn K (.ref C) (.type "ValueError") = some true
theorem kit_ve {K : PySem.W.Frag} {C : Addr} (h : PySem.W.subIn K (.ref C) (.type "ValueError") = some true) : PySem.W.kitOne K (.ref C) (.type "ValueError") = some true := by
  unfold PySem.W.kitOne PySem.W.kitCls
  rw [if_neg (by simp)]
  show (if PySem.W.kitMeta "ValueError" = true then PySem.W.subIn K (.ref C) (.type "ValueError") else none) = some true
  rw [if_pos (by decide +kernel)]
  exact h
theorem kit_ref {K : PySem.W.Frag} {C D : Addr} {b : Bool} (hd : PySem.W.hasDictIn K D = true) (ht : PySem.W.typeIn K (.ref D) = some (.type "type")) (h : PySem.W.subIn K (.ref C) (.ref D) = some b) (hb : C = D → b = true) : PySem.W.kitOne K (.ref C) (.ref D) = some b := by
  obtain ⟨cd, hc, _⟩ := PySem.W.any_some hd
  unfold PySem.W.kitOne PySem.W.kitCls
  by_cases e : ((Value.ref C == Value.ref D) = true)
  · rw [if_pos e]
    have e' : C = D := Value.ref.inj (beq_iff_eq.mp e)
    rw [hb e']
  · rw [if_neg e]
    have e2 : ((PySem.W.clsIn K D).isSome && PySem.W.typeIn K (.ref D) == some (.type "type")) = true := by rw [hc, ht] <;> rfl
    show (if ((PySem.W.clsIn K D).isSome && PySem.W.typeIn K (.ref D) == some (.type "type")) = true then PySem.W.subIn K (.ref C) (.ref D) else none) = some b
    rw [if_pos e2]
    exact h
end
end BX

set_option Elab.async false
set_option linter.all false
set_option maxRecDepth 100000
/-! BT8: defs by recursion; the def that tells the refusal. -/
namespace BX
open PySem PySem.Spec PyProof.Rows L2
variable {T : Rt} {k : Nat}
theorem fn_bad {x : Str} {st : Stmt} {ps : List Str} (hm : ∀ f, PySem.W.nsIn T.K mainGlobals x = some (some (.ref f)) → T.mg x = some (.ref f)) (d : ∃ f, DefK T.K x st f) (bd : BindOk x st ps) : FnIn T k x (fun _ => bad) := by
  obtain ⟨f, d⟩ := d
  obtain ⟨oc, od, kV, doc, pm, an, cdv, ct, osl, l, c⟩ := d.ex
  refine ⟨f, _, ps, hm f d.ns, d.kp, .all (bd kV doc pm an cdv ct), ?_⟩
  have no : ∀ vs H Q E, ¬ spOf T (fun _ => bad) vs H Q E := fun vs H Q E z => by
    obtain ⟨_, _, _, _, _, _, z⟩ := z
    exact z
  exact ⟨fun vs H Q E h => absurd h (no vs H Q E), fun A outer s H args us vs Q E _ _ _ _ h => absurd h (no vs H Q E)⟩
theorem fx_in {x : Str} {st : Stmt} {N ps : List Str} {al : List Xc} {chs : List (List (Str × Xc))} (hm : ∀ f, PySem.W.nsIn T.K mainGlobals x = some (some (.ref f)) → T.mg x = some (.ref f)) (d : ∃ f, DefK T.K x st f) (bd : BindOk x st ps) (S : fsB N ps (defScope st) = true)
    (hl : ps.length = 1) (hN : 2 ≤ N.length) (F : XcF T al) (g : rfB N (defScope st) chs (defBody st) = true) (hn : ∀ ch ∈ chs, ∀ p ∈ ch, XcN T al p.1 p.2) (hc : chs.flatten.length ≤ LIM) : FxIn T al x (chs.flatten.map Prod.snd) := by
  obtain ⟨f, d⟩ := d
  obtain ⟨oc, od, kV, doc, pm, an, cdv, ct, osl, l, c⟩ := d.ex
  exact ⟨f, _, ps, hm f d.ns, d.kp, .all (bd kV doc pm an cdv ct), fnx_of l c S hl hN F g hn hc⟩
end BX

set_option Elab.async false
set_option linter.all false
set_option maxRecDepth 100000
/-! BT9: the classes of exceptions as the top has left them. -/
namespace BX
open PySem PySem.Spec PyProof.Rows L2
/-- a class of exceptions that isinstance is asked of -/
structure XcA (K : PySem.W.Frag) (C : Addr) : Prop where
  hg : PySem.W.findIn K (.ref C) "__getattribute__" = some (some (.builtin "BaseException.__getattribute__"))
  hk : PySem.W.findIn K (.ref C) "__getattr__" = some none
  hd : PySem.W.hasDictIn K C = true
  ha : PySem.W.findIn K (.ref C) "__class__" = some (some (.builtin "object.__class__"))
  hm : PySem.W.mroIn K C (.type "object") = some true
  ve : PySem.W.subIn K (.ref C) (.type "ValueError") = some true
structure XcG (K : PySem.W.Frag) : Prop where
  hn : PySem.W.specialIn K (.builtin "object.__class__") "__get__" = some (some (.builtin "getset_descriptor.__get__"))
  ht : PySem.W.takesIn K (.builtin "object.__class__") = some true
theorem exc_of {K : PySem.W.Frag} {x : Str} {C : Addr} (k : XcK K x C) (a : XcA K C) (g : XcG K) : ExcC K C := ⟨a.hg, a.hk, k.sb, a.hd, a.ha, g.hn, g.ht, a.hm⟩
def caOf (tap num book line loop pull count text step : Addr) : Xc → Addr
  | .tap => tap
  | .num => num
  | .book => book
  | .line => line
  | .loop => loop
  | .pull => pull
  | .count => count
  | .text => text
  | .step => step
theorem gl_int {K : PySem.W.Frag} {h : Heap} {mg : Str → Option Value} {x : Str} {i : Int} {t : Tok} (X : K.In h) (G : h.Ns mainGlobals mg) (e : PySem.W.nsIn K mainGlobals x = some (some (.int i t))) : ∃ u v, mg x = some u ∧ RelV v u ∧ ∀ G μ, Rp K G μ (.int i) v :=
  ⟨_, .int i, PySem.W.mg_of X G e, ⟨t, rfl⟩, fun _ _ => by simp only [Rp]⟩
theorem walk {l : PySem.W.OpenLaw} {q : Program} {loose : List Str} {XP : (Str → Option Value) → Heap → Prop} {YP : World → Heap → Prop} {d : DefRec} {K : Params → PySem.W.Frag} {x : Str} (k : Nat) (hn : l.most = some 63) (hdf : d.params.defaults = []) (hr : Room k callerA)
    (hY : ∀ (w : World) (h : Heap), YP w h → (K w.params).In h)
    (F : ∀ (w : World) (mg : Str → Option Value) (fa : Addr) (h : Heap), (K w.params).In h → h.Ns mainGlobals mg → mg d.name = some (.ref fa) →
      ∃ fd : FuncData, (∀ (s : Shared) (u : Value), BindsTo s fd ⟨[u], []⟩ [(x, u)]) ∧ ∀ base : Heap, (K w.params).In base → base.Ns mainGlobals mg → FnOk l.prog w (K w.params) mg base (L2.CX l.prog w) k fa fd [x] (spLaw (K w.params))) :
    PySem.W.WalkO q loose XP YP l.row.toRowW d [] (fun f vs => PySem.call f vs) :=
  L2.walk_of (n := 63) (k := k) (x := x) (CX := fun w => L2.CX l.prog w) (sp := fun w => spLaw (K w.params)) hn (by decide) hdf hr hY F (fun w H a ns hl hO hS => ⟨a, ns, rfl, hS, hl, hO, fun _ => rfl⟩) fun w H s e s' h => by
    obtain ⟨_, _, _, _, _, _, _, _, _, _, _, _, z⟩ := h
    exact z
theorem cx_nil {P : Program} (w : World) (H : Hp) (s : Shared) (e : Value) (s' : Shared) (h : L2.CX P w [] H s (fun _ _ _ => False) e s') : False := by
  obtain ⟨_, _, _, _, _, _, _, _, _, _, _, _, z⟩ := h
  exact z
end BX

set_option Elab.async false
set_option linter.all false
set_option maxRecDepth 100000
set_option maxHeartbeats 0
namespace BX
open PySem
def N_bits_of : List Str := ["number", "found", "digit"]
def B_bits_of : SL :=
      (.cons (.m 1 (.li .nil))
      (.cons (.fr (.one 2) (.e (.var 0)) (.cons (.ext 1 (.bin .mul (.bin .mul (.li (.cons (.cI 0) .nil)) (.bin .sub (.gl "DIGIT_REST" (.int 3)) (.cI 1))) (.b1 .int (.cmp .ne (.var 1) (.li .nil)))))
      (.cons (.ext 1 (.bin .mul (.li (.cons (.cI 1) (.cons (.cI 0) .nil))) (.var 2))) .nil)))
      (.cons (.rt (.bin .add (.var 1) (.bin .mul (.li (.cons (.cI 0) .nil)) (.bin .sub (.gl "ROUND_REST" (.int 7)) (.cI 1))))) .nil)))
def F_bits_of : List D → M D := mkF 1 3 B_bits_of
def N_is_count : List Str := ["thing", "low", "high"]
def B_is_count : SL :=
      (.cons (.rt (.an (.cons (.isi (.var 0) [.int]) (.cons (.no (.isi (.var 0) [.bool])) (.cons (.chn .le .le (.var 1) (.var 0) (.var 2)) .nil))))) .nil)
def F_is_count : List D → M D := mkF 3 3 B_is_count
def N_need_rounds : List Str := ["many"]
def B_need_rounds : SL :=
      (.cons (.iff (.no (.ca "is_count" F_is_count (.cons (.var 0) (.cons (.cI 1) (.cons (.gl "MOST_ROUNDS" (.int 4)) .nil))))) (.cons (.rs "NoCount" .count) .nil) .nil) .nil)
def F_need_rounds : List D → M D := mkF 1 1 B_need_rounds
def N_is_number : List Str := ["thing", "digit"]
def B_is_number : SL :=
      (.cons (.iff (.orr (.cons (.no (.isi (.var 0) [.tuple])) (.cons (.no (.chn .le .le (.cI 1) (.b1 .len (.var 0)) (.gl "MOST_DIGITS" (.int 3)))) .nil))) (.cons (.rt (.cB false)) .nil) .nil)
      (.cons (.rt (.b1 .all (.cp (.ca "is_count" F_is_count (.cons (.var 1) (.cons (.cI 1) (.cons (.gl "MOST_DIGIT" (.int 6)) .nil)))) (.one 1) (.e (.var 0)) .none [1]))) .nil))
def F_is_number : List D → M D := mkF 1 2 B_is_number
def N_need_number : List Str := ["number"]
def B_need_number : SL :=
      (.cons (.iff (.no (.ca "is_number" F_is_number (.cons (.var 0) .nil))) (.cons (.rs "NoNumber" .num) .nil) .nil) .nil)
def F_need_number : List D → M D := mkF 1 1 B_need_number
def N_taps : List Str := ["number", "many"]
def B_taps : SL :=
      (.cons (.e (.ca "need_number" F_need_number (.cons (.var 0) .nil)))
      (.cons (.e (.ca "need_rounds" F_need_rounds (.cons (.var 1) .nil)))
      (.cons (.rt (.bin .mul (.ca "bits_of" F_bits_of (.cons (.var 0) .nil)) (.var 1))) .nil)))
def F_taps : List D → M D := mkF 2 2 B_taps
def N_long_of : List Str := ["number", "many"]
def B_long_of : SL :=
      (.cons (.e (.ca "need_number" F_need_number (.cons (.var 0) .nil)))
      (.cons (.e (.ca "need_rounds" F_need_rounds (.cons (.var 1) .nil)))
      (.cons (.rt (.bin .mul (.b1 .len (.ca "bits_of" F_bits_of (.cons (.var 0) .nil))) (.var 1))) .nil)))
def F_long_of : List D → M D := mkF 2 2 B_long_of
def N_order : List Str := ["numbers", "number", "rows", "long"]
def B_order : SL :=
      (.cons (.iff (.no (.isi (.var 0) [.list, .tuple])) (.cons (.rs "NoNumber" .num) .nil) .nil)
      (.cons (.fr (.one 1) (.e (.var 0)) (.cons (.e (.ca "need_number" F_need_number (.cons (.var 1) .nil))) .nil))
      (.cons (.a (.one 2) (.b1 .sorted (.cp (.tu (.cons (.b1 .len (.ca "bits_of" F_bits_of (.cons (.var 1) .nil))) (.cons (.var 1) .nil))) (.one 1) (.e (.var 0)) .none [1])))
      (.cons (.rt (.cp (.var 1) (.many [3, 1]) (.e (.var 2)) .none [3, 1])) .nil))))
def F_order : List D → M D := mkF 1 4 B_order
def N_l_told : List Str := ["_law_way", "_law_thing", "_law_many", "_law_e"]
def B_l_told : SL :=
      (.cons (.tr (.cons (.iff (.cmp .eq (.var 0) (.cI 2)) (.cons (.rt (.ca "order" F_order (.cons (.var 1) .nil))) .nil) .nil)
      (.cons (.rt (.ife (.cmp .eq (.var 0) (.cI 0)) (.ca "taps" F_taps (.cons (.var 1) (.cons (.var 2) .nil))) (.ca "long_of" F_long_of (.cons (.var 1) (.cons (.var 2) .nil))))) .nil)) "TapError" .tap [.num, .book, .line, .loop, .pull, .count, .text] 3 (.ref "_law_refused" [.num, .book, .line, .loop, .pull, .count, .text])) .nil)
def F_l_told : List D → M D := mkF 3 4 B_l_told
def N_l_bits : List Str := ["_law_number_here", "_law_found", "_law_k", "_law_digit", "_law_turn"]
def B_l_bits : SL :=
      (.cons (.a (.one 1) (.li .nil))
      (.cons (.fr (.many [2, 3]) (.en (.var 0)) (.cons (.a (.one 1) (.bin .add (.bin .add (.var 1) (.bin .mul (.li (.cons (.cI 0) (.cons (.cI 0) (.cons (.cI 0) .nil)))) (.b1 .int (.cmp .gt (.var 2) (.cI 0))))) (.li (.cons (.cI 1) .nil))))
      (.cons (.fr (.one 4) (.r1 (.bin .sub (.var 3) (.cI 1))) (.cons (.a (.one 1) (.bin .add (.var 1) (.li (.cons (.cI 0) (.cons (.cI 1) .nil))))) .nil)) .nil)))
      (.cons (.rt (.bin .add (.var 1) (.li (.cons (.cI 0) (.cons (.cI 0) (.cons (.cI 0) (.cons (.cI 0) (.cons (.cI 0) (.cons (.cI 0) (.cons (.cI 0) .nil)))))))))) .nil)))
def F_l_bits : List D → M D := mkF 1 5 B_l_bits
def N_l_cell : List Str := ["_law_script", "_law_k"]
def B_l_cell : SL :=
      (.cons (.iff (.cmp .eq (.var 0) (.li .nil)) (.cons (.rt (.bin .mul (.cI 7) (.var 1))) .nil) .nil)
      (.cons (.rt (.bin .add (.ix (.var 0) (.bin .mod (.var 1) (.b1 .len (.var 0)))) (.bin .mul (.cI 6553) (.bin .fdiv (.var 1) (.b1 .len (.var 0)))))) .nil))
def F_l_cell : List D → M D := mkF 2 2 B_l_cell
def N_l_drawn : List Str := ["_law_script", "_law_k", "_law_many", "_law_cell_here"]
def B_l_drawn : SL :=
      (.cons (.a (.one 3) (.bin .mod (.bin .add (.bin .mul (.bin .mod (.ca "_law_cell" F_l_cell (.cons (.var 0) (.cons (.var 1) .nil))) (.cI 2147483563)) (.cI 69069)) (.bin .mul (.cI 104723) (.bin .add (.var 1) (.cI 1)))) (.cI 2147483563)))
      (.cons (.a (.one 3) (.bin .mod (.bin .add (.bin .mul (.var 3) (.var 3)) (.bin .fdiv (.var 3) (.cI 3))) (.cI 2147483399)))
      (.cons (.rt (.bin .mod (.bin .fdiv (.bin .mod (.bin .add (.bin .mul (.var 3) (.var 3)) (.bin .fdiv (.var 3) (.cI 7))) (.cI 2147483647)) (.cI 11)) (.var 2))) .nil)))
def F_l_drawn : List D → M D := mkF 3 4 B_l_drawn
def N_l_number : List Str := ["_law_script", "_law_at", "_law_many", "_law_k"]
def B_l_number : SL :=
      (.cons (.a (.one 2) (.bin .add (.cI 1) (.ca "_law_drawn" F_l_drawn (.cons (.var 0) (.cons (.var 1) (.cons (.cI 3) .nil))))))
      (.cons (.rt (.b1 .tuple (.cp (.bin .add (.cI 1) (.ca "_law_drawn" F_l_drawn (.cons (.var 0) (.cons (.bin .add (.bin .add (.var 1) (.cI 1)) (.var 3)) (.cons (.cI 3) .nil))))) (.one 3) (.r1 (.var 2)) .none [3]))) .nil))
def F_l_number : List D → M D := mkF 2 4 B_l_number
def N_l_each : List Str := ["_law_thing", "_law_found", "_law_place", "_law_part"]
def B_l_each (R : List D → M D) : SL :=
      (.cons (.iff (.isi (.var 0) [.int]) (.cons (.rt (.li (.cons .cN (.cons (.cB true) (.cons (.bin .sub (.var 0) (.cI 1)) (.cons (.bin .add (.var 0) (.cI 1)) (.cons (.cI 1000) .nil))))))) .nil) .nil)
      (.cons (.iff (.no (.isi (.var 0) [.tuple])) (.cons (.rt (.li (.cons .cN (.cons (.cS []) (.cons (.cS [65]) .nil))))) .nil) .nil)
      (.cons (.a (.one 1) (.li (.cons .cN (.cons (.b1 .list (.var 0)) (.cons (.bin .add (.var 0) (.sl (.var 0) (.some (.neg (.cI 1))) .none)) (.cons (.sl (.var 0) (.some (.cI 1)) .none) .nil))))))
      (.cons (.fr (.one 2) (.r1 (.b1 .len (.var 0))) (.cons (.a (.one 1) (.bin .add (.var 1) (.cp (.bin .add (.bin .add (.sl (.var 0) .none (.some (.var 2))) (.tu (.cons (.var 3) .nil))) (.sl (.var 0) (.some (.bin .add (.var 2) (.cI 1))) .none)) (.one 3) (.e (.ca "_law_each" R (.cons (.ix (.var 0) (.var 2)) .nil))) .none [3]))) .nil))
      (.cons (.rt (.var 1)) .nil)))))
def F_l_each : Nat → List D → M D
  | 0 => fun _ => bad
  | n + 1 => mkF 1 4 (B_l_each (F_l_each n))
def N_l_is_number : List Str := ["_law_thing", "_law_one"]
def B_l_is_number : SL :=
      (.cons (.iff (.orr (.cons (.no (.isi (.var 0) [.tuple])) (.cons (.no (.chn .le .le (.cI 1) (.b1 .len (.var 0)) (.cI 3))) .nil))) (.cons (.rt (.cB false)) .nil) .nil)
      (.cons (.rt (.cmp .eq (.cp (.var 1) (.one 1) (.e (.var 0)) (.some (.orr (.cons (.isi (.var 1) [.bool]) (.cons (.no (.isi (.var 1) [.int])) (.cons (.no (.chn .le .le (.cI 1) (.var 1) (.cI 6))) .nil))))) [1]) (.li .nil))) .nil))
def F_l_is_number : List D → M D := mkF 1 2 B_l_is_number
def N_law_k01 : List Str := ["_law_script", "_law_number_here", "_law_some", "_law_thing", "_law_due", "_law_many", "_law_answers", "_law_odd", "_law_rows", "_law_left", "_law_best", "_law_one", "_law_way", "_law_k", "_law_bad"]
def B_law_k01 : SL :=
      (.cons (.a (.one 1) (.ca "_law_number" F_l_number (.cons (.var 0) (.cons (.cI 0) .nil))))
      (.cons (.a (.one 2) (.li (.cons (.var 1) (.cons (.bin .mul (.var 1) (.cI 4)) (.cons (.tu (.cons (.cI 6) (.cons (.cI 6) (.cons (.cI 6) .nil)))) (.cons (.tu (.cons (.cI 1) .nil)) (.cons (.tu .nil) (.cons (.tu (.cons (.cI 7) .nil)) (.cons (.tu (.cons (.cI 0) .nil)) (.cons .cN (.cons (.li (.cons (.cI 1) .nil)) (.cons (.tu (.cons (.cB true) .nil)) (.cons (.tu (.cons (.cS [49]) .nil)) (.cons (.cI 3) (.cons (.tu (.cons (.cI 1) (.cons (.cI 2) (.cons (.cI 3) (.cons (.cI 4) .nil))))) .nil)))))))))))))))
      (.cons (.fr (.one 3) (.e (.bin .add (.var 2) (.ca "_law_each" (F_l_each 30) (.cons (.tu (.cons (.cI 6) (.cons (.cI 1) (.cons (.cI 3) .nil)))) .nil)))) (.cons (.m 4 (.ca "_law_is_number" F_l_is_number (.cons (.var 3) .nil)))
      (.cons (.iff (.orr (.cons (.cmp .ne (.ca "is_number" F_is_number (.cons (.var 3) .nil)) (.var 4)) (.cons (.no (.isi (.ca "is_number" F_is_number (.cons (.var 3) .nil)) [.bool])) .nil))) (.cons (.rt (.cB false)) .nil) .nil)
      (.cons (.fr (.one 5) (.e (.tu (.cons (.cI 1) (.cons (.cI 2) (.cons (.cI 4) .nil))))) (.cons (.a (.one 6) (.bin .mul (.li (.cons (.tu (.cons (.cS [114, 101, 102, 117, 115, 101, 100]) (.cons (.cI 0) .nil))) .nil)) (.cI 2)))
      (.cons (.iff (.var 4) (.cons (.a (.one 6) (.li (.cons (.bin .mul (.ca "_law_bits" F_l_bits (.cons (.var 3) .nil)) (.var 5)) (.cons (.bin .mul (.b1 .len (.ca "_law_bits" F_l_bits (.cons (.var 3) .nil))) (.var 5)) .nil)))) .nil) .nil)
      (.cons (.iff (.cmp .ne (.cp (.ca "_law_told" F_l_told (.cons (.var 12) (.cons (.var 3) (.cons (.var 5) .nil)))) (.one 12) (.r1 (.cI 2)) .none [12]) (.var 6)) (.cons (.rt (.cB false)) .nil) .nil) .nil)))) .nil))))
      (.cons (.fr (.one 7) (.e (.tu (.cons (.cI 0) (.cons (.cI 5) (.cons (.neg (.cI 1)) (.cons .cN (.cons (.cB true) (.cons (.cS [49]) .nil)))))))) (.cons (.iff (.cmp .ne (.cp (.ca "_law_told" F_l_told (.cons (.var 12) (.cons (.var 1) (.cons (.var 7) .nil)))) (.one 12) (.r1 (.cI 2)) .none [12]) (.bin .mul (.li (.cons (.tu (.cons (.cS [114, 101, 102, 117, 115, 101, 100]) (.cons (.cI 5) .nil))) .nil)) (.cI 2))) (.cons (.rt (.cB false)) .nil) .nil) .nil))
      (.cons (.iff (.cmp .ne (.cp (.ca "_law_told" F_l_told (.cons (.var 12) (.cons (.tu (.cons (.cI 9) .nil)) (.cons (.cI 0) .nil)))) (.one 12) (.r1 (.cI 2)) .none [12]) (.bin .mul (.li (.cons (.tu (.cons (.cS [114, 101, 102, 117, 115, 101, 100]) (.cons (.cI 0) .nil))) .nil)) (.cI 2))) (.cons (.rt (.cB false)) .nil) .nil)
      (.cons (.a (.one 8) (.cp (.ca "_law_number" F_l_number (.cons (.var 0) (.cons (.bin .add (.cI 10) (.bin .mul (.cI 5) (.var 13))) .nil))) (.one 13) (.r1 (.ca "_law_drawn" F_l_drawn (.cons (.var 0) (.cons (.cI 9) (.cons (.cI 6) .nil))))) .none [13]))
      (.cons (.a (.one 8) (.bin .add (.var 8) (.li (.cons (.tu (.cons (.cI 2) (.cons (.cI 1) .nil))) (.cons (.tu (.cons (.cI 1) (.cons (.cI 2) .nil))) (.cons (.tu (.cons (.cI 3) .nil)) (.cons (.tu (.cons (.cI 1) (.cons (.cI 1) .nil))) (.cons (.tu (.cons (.cI 2) (.cons (.cI 1) .nil))) .nil))))))))
      (.cons (.m 9 (.b1 .list (.var 8)))
      (.cons (.m 4 (.li .nil))
      (.cons (.wh (.cmp .ne (.var 9) (.li .nil)) (.cons (.a (.one 10) (.ix (.var 9) (.cI 0)))
      (.cons (.frm 9 (.one 11) (.cons (.iff (.cmp .lt (.tu (.cons (.b1 .len (.ca "_law_bits" F_l_bits (.cons (.var 11) .nil))) (.cons (.var 11) .nil))) (.tu (.cons (.b1 .len (.ca "_law_bits" F_l_bits (.cons (.var 10) .nil))) (.cons (.var 10) .nil)))) (.cons (.a (.one 10) (.var 11)) .nil) .nil) .nil))
      (.cons (.ap 4 (.var 10))
      (.cons (.rm 9 (.var 10)) .nil)))))
      (.cons (.iff (.orr (.cons (.cmp .ne (.ca "_law_told" F_l_told (.cons (.cI 2) (.cons (.var 8) (.cons .cN .nil)))) (.var 4)) (.cons (.cmp .ne (.ca "_law_told" F_l_told (.cons (.cI 2) (.cons (.b1 .tuple (.var 8)) (.cons .cN .nil)))) (.var 4)) (.cons (.cmp .ne (.ca "_law_told" F_l_told (.cons (.cI 2) (.cons (.tu .nil) (.cons .cN .nil)))) (.li .nil)) .nil)))) (.cons (.rt (.cB false)) .nil) .nil)
      (.cons (.rt (.cmp .eq (.cp (.ca "_law_told" F_l_told (.cons (.cI 2) (.cons (.var 14) (.cons .cN .nil)))) (.one 14) (.e (.tu (.cons .cN (.cons (.cI 5) (.cons (.li (.cons .cN .nil)) (.cons (.li (.cons (.tu (.cons (.cI 7) .nil)) .nil)) (.cons (.tu (.cons (.tu (.cons (.cI 1) .nil)) (.cons (.li (.cons (.cI 1) .nil)) .nil))) .nil))))))) .none [14]) (.bin .mul (.li (.cons (.tu (.cons (.cS [114, 101, 102, 117, 115, 101, 100]) (.cons (.cI 0) .nil))) .nil)) (.cI 5)))) .nil))))))))))))
def F_law_k01 : List D → M D := mkF 1 15 B_law_k01
def N_refused : List Str := ["_law_e", "_law_flags"]
def C_refused : List (List (Str × Xc)) := [[("NoNumber", .num), ("NoBook", .book), ("NoLine", .line), ("NoLoop", .loop)], [("NoPull", .pull), ("NoCount", .count), ("NoText", .text)]]
end BX

set_option Elab.async false
set_option linter.all false
set_option maxRecDepth 100000
namespace BX.Q
theorem cell_ok (ns : List Int) (k : Int) (hl : ns.length ≤ 63) : ∃ x, F_l_cell [.scr ns, .int k] = ret (.int x) := by
  by_cases h : ns = []
  · subst h
    exact ⟨7 * k, rfl⟩
  · have hz : (ns.length : Int) ≠ 0 := by
      intro e
      exact h (List.length_eq_zero_iff.mp (by omega))
    have hpos : (0 : Int) < ns.length := by omega
    have h1 : 0 ≤ k.fmod ns.length := Int.fmod_nonneg_of_pos _ hpos
    have h2 : k.fmod ns.length < ns.length := Int.fmod_lt_of_pos _ hpos
    obtain ⟨y, hy⟩ : ∃ y, atI ns (k.fmod ns.length) = some y := by
      unfold atI ixN
      rw [if_pos h1, if_pos h2]
      have : (k.fmod ns.length).toNat < ns.length := by omega
      exact ⟨ns[(k.fmod ns.length).toNat], by simp [this]⟩
    refine ⟨y + 6553 * k.fdiv ns.length, ?_⟩
    have b1 : b1D .len (.scr ns) = ret (.int ns.length) := rfl
    have hm : mulD (.int 6553) (.int (k.fdiv ns.length)) = ret (.int (6553 * k.fdiv ns.length)) := inb_c (by decide)
    have hq : eqM false (.scr ns) (.lst []) = ret (.bl false) := by rw [eqM_scr]; simp [h]
    have hx : ixD (.scr ns) (.int (k.fmod ns.length)) = ret (.int y) := by
      show ofO ((atI ns (k.fmod ns.length)).map D.int) = _
      rw [hy]; rfl
    have s1 : evS (.iff (.cmp .eq (.var 0) (.li .nil)) (.cons (.rt (.bin .mul (.cI 7) (.var 1))) .nil) .nil) [some (.scr ns), some (.int k)] = ret (.nx, [some (.scr ns), some (.int k)]) := by
      show bnd (bnd (eqM false (.scr ns) (.lst [])) asB) _ = _
      rw [hq]; rfl
    have s2 : evS (.rt (.bin .add (.ix (.var 0) (.bin .mod (.var 1) (.b1 .len (.var 0)))) (.bin .mul (.cI 6553) (.bin .fdiv (.var 1) (.b1 .len (.var 0)))))) [some (.scr ns), some (.int k)] = ret (.rt (.int (y + 6553 * k.fdiv ns.length)), [some (.scr ns), some (.int k)]) := by
      show bnd (bnd (bnd (modD (.int k) (.int ns.length)) fun b => ixD (.scr ns) b) fun x => bnd (bnd (fdivD (.int k) (.int ns.length)) fun y => mulD (.int 6553) y) fun y => addD x y) _ = _
      rw [modD_ok hz, fdivD_ok hz (by omega)]
      show bnd (bnd (ixD (.scr ns) (.int (k.fmod ns.length))) fun x => bnd (mulD (.int 6553) (.int (k.fdiv ns.length))) fun y => addD x y) _ = _
      rw [hx, hm]; rfl
    show bnd (bnd (evS _ [some (.scr ns), some (.int k)]) _) _ = _
    rw [s1]
    show bnd (bnd (evS _ [some (.scr ns), some (.int k)]) _) _ = _
    rw [s2]; rfl
theorem drawn_ok (ns : List Int) (k m : Int) (hl : ns.length ≤ 63) (hm : 0 < m) : ∃ r, F_l_drawn [.scr ns, .int k, .int m] = ret (.int r) ∧ 0 ≤ r ∧ r < m := by
  obtain ⟨x, hx⟩ := cell_ok ns k hl
  obtain ⟨c1, e1⟩ : ∃ c1, c1 = (x.fmod 2147483563 * 69069 + 104723 * (k + 1)).fmod 2147483563 := ⟨_, rfl⟩
  have h1 : 0 ≤ c1 := by rw [e1]; exact Int.fmod_nonneg_of_pos _ (by decide)
  have h2 : c1 < 2147483563 := by rw [e1]; exact Int.fmod_lt_of_pos _ (by decide)
  obtain ⟨c2, e2⟩ : ∃ c2, c2 = (c1 * c1 + c1.fdiv 3).fmod 2147483399 := ⟨_, rfl⟩
  have h3 : 0 ≤ c2 := by rw [e2]; exact Int.fmod_nonneg_of_pos _ (by decide)
  have h4 : c2 < 2147483399 := by rw [e2]; exact Int.fmod_lt_of_pos _ (by decide)
  refine ⟨(((c2 * c2 + c2.fdiv 7).fmod 2147483647).fdiv 11).fmod m, ?_, Int.fmod_nonneg_of_pos _ hm, Int.fmod_lt_of_pos _ hm⟩
  have m1 : mulD (.int (x.fmod 2147483563)) (.int 69069) = ret (.int (x.fmod 2147483563 * 69069)) := inb_r (by decide)
  have m2 : mulD (.int 104723) (.int (k + 1)) = ret (.int (104723 * (k + 1))) := inb_c (by decide)
  have m3 : mulD (.int c1) (.int c1) = ret (.int (c1 * c1)) := inb_c (by omega)
  have m4 : mulD (.int c2) (.int c2) = ret (.int (c2 * c2)) := inb_c (by omega)
  show bnd (bnd (bnd (bnd (bnd (bnd (bnd (F_l_cell [.scr ns, .int k]) fun a => modD a (.int 2147483563)) fun a => mulD a (.int 69069)) fun a => bnd (mulD (.int 104723) (.int (k + 1))) fun b => addD a b) fun a => modD a (.int 2147483563)) fun d => ret (Fl.nx, [some (.scr ns), some (.int k), some (.int m), some d])) _) _ = _
  rw [hx]
  show bnd (bnd (bnd (bnd (bnd (bnd (modD (.int x) (.int 2147483563)) fun a => mulD a (.int 69069)) fun a => bnd (mulD (.int 104723) (.int (k + 1))) fun b => addD a b) fun a => modD a (.int 2147483563)) fun d => ret (Fl.nx, [some (.scr ns), some (.int k), some (.int m), some d])) _) _ = _
  rw [modD_ok (by decide)]
  show bnd (bnd (bnd (bnd (bnd (mulD (.int (x.fmod 2147483563)) (.int 69069)) fun a => bnd (mulD (.int 104723) (.int (k + 1))) fun b => addD a b) fun a => modD a (.int 2147483563)) fun d => ret (Fl.nx, [some (.scr ns), some (.int k), some (.int m), some d])) _) _ = _
  rw [m1, m2]
  show bnd (bnd (bnd (modD (.int (x.fmod 2147483563 * 69069 + 104723 * (k + 1))) (.int 2147483563)) fun d => ret (Fl.nx, [some (.scr ns), some (.int k), some (.int m), some d])) _) _ = _
  rw [modD_ok (by decide), ← e1]
  show bnd (bnd (bnd (bnd (bnd (mulD (.int c1) (.int c1)) fun a => bnd (fdivD (.int c1) (.int 3)) fun b => addD a b) fun a => modD a (.int 2147483399)) fun d => ret (Fl.nx, [some (.scr ns), some (.int k), some (.int m), some d])) _) _ = _
  rw [m3, fdivD_ok (by decide) (by decide)]
  show bnd (bnd (bnd (modD (.int (c1 * c1 + c1.fdiv 3)) (.int 2147483399)) fun d => ret (Fl.nx, [some (.scr ns), some (.int k), some (.int m), some d])) _) _ = _
  rw [modD_ok (by decide), ← e2]
  show bnd (bnd (bnd (bnd (bnd (bnd (bnd (mulD (.int c2) (.int c2)) fun a => bnd (fdivD (.int c2) (.int 7)) fun b => addD a b) fun a => modD a (.int 2147483647)) fun a => fdivD a (.int 11)) fun a => modD a (.int m)) fun d => ret (Fl.rt d, [some (D.scr ns), some (D.int k), some (D.int m), some (D.int c2)])) _) _ = _
  rw [m4, fdivD_ok (by decide) (by decide)]
  show bnd (bnd (bnd (bnd (bnd (modD (.int (c2 * c2 + c2.fdiv 7)) (.int 2147483647)) fun a => fdivD a (.int 11)) fun a => modD a (.int m)) fun d => ret (Fl.rt d, [some (D.scr ns), some (D.int k), some (D.int m), some (D.int c2)])) _) _ = _
  rw [modD_ok (by decide)]
  show bnd (bnd (bnd (bnd (fdivD (.int ((c2 * c2 + c2.fdiv 7).fmod 2147483647)) (.int 11)) fun a => modD a (.int m)) fun d => ret (Fl.rt d, [some (D.scr ns), some (D.int k), some (D.int m), some (D.int c2)])) _) _ = _
  rw [fdivD_ok (by decide) (by decide)]
  show bnd (bnd (bnd (modD (.int (((c2 * c2 + c2.fdiv 7).fmod 2147483647).fdiv 11)) (.int m)) fun d => ret (Fl.rt d, [some (D.scr ns), some (D.int k), some (D.int m), some (D.int c2)])) _) _ = _
  rw [modD_ok (by omega)]
  rfl
def numE : P := (.bin .add (.cI 1) (.ca "_law_drawn" F_l_drawn (.cons (.var 0) (.cons (.bin .add (.bin .add (.var 1) (.cI 1)) (.var 3)) (.cons (.cI 3) .nil)))))
theorem number_ok (ns : List Int) (k : Int) (hl : ns.length ≤ 63) : ∃ l : List Int, F_l_number [.scr ns, .int k] = ret (.tup (l.map .int)) ∧ 1 ≤ l.length ∧ l.length ≤ 3 ∧ ∀ i ∈ l, 1 ≤ i ∧ i ≤ 3 := by
  obtain ⟨r, e, h1, h2⟩ := drawn_ok ns k 3 hl (by decide)
  obtain ⟨ys, g1, g2, g3⟩ := cpM_all (P := fun _ y => ∃ i, y = .int i ∧ 1 ≤ i ∧ i ≤ 3) (c := fun _ => ret true) (e := fun ρ1 => ev numE ρ1) (tg := .one 3)
    (ρ := [some (.scr ns), some (.int k), some (.int (1 + r)), none]) (rngI 0 1 (1 + r).toNat) fun d hd => by
      obtain ⟨j, rfl, _, _⟩ := rngI_mem _ _ _ hd
      obtain ⟨x, e2, h3, h4⟩ := drawn_ok ns (k + 1 + j) 3 hl (by decide)
      refine ⟨_, .int (1 + x), rfl, rfl, ?_, 1 + x, rfl, by omega, by omega⟩
      show bnd (F_l_drawn [.scr ns, .int (k + 1 + j), .int 3]) (fun y => addD (.int 1) y) = _
      rw [e2]; rfl
  rw [rngI_len] at g2
  obtain ⟨l, rfl, hL⟩ := ints_of (p := fun i => 1 ≤ i ∧ i ≤ 3) fun y hy => (g3 y hy).elim fun _ z => z.2
  rw [List.length_map] at g2
  refine ⟨l, ?_, by omega, by omega, hL⟩
  show bnd (bnd (bnd (bnd (F_l_drawn [.scr ns, .int k, .int 3]) (fun y => addD (.int 1) y)) fun d => ret (Fl.nx, [some (D.scr ns), some (D.int k), some d, none])) _) _ = _
  rw [e]
  show bnd (bnd (bnd (bnd (bnd (rngM 0 (1 + r)) fun ds => bnd (cpM (fun _ => ret true) (fun ρ1 => ev numE ρ1) (.one 3) [some (D.scr ns), some (D.int k), some (D.int (1 + r)), none] ds) mkL) tupD) fun d => ret (Fl.rt d, [some (D.scr ns), some (D.int k), some (D.int (1 + r)), none])) _) _ = _
  rw [rngM_ok (by decide) (by decide) (by omega) (by omega), show (1 + r - 0) = 1 + r by omega]
  show bnd (bnd (bnd (bnd (bnd (cpM (fun _ => ret true) (fun ρ1 => ev numE ρ1) (.one 3) [some (D.scr ns), some (D.int k), some (D.int (1 + r)), none] (rngI 0 1 (1 + r).toNat)) mkL) tupD) fun d => ret (Fl.rt d, [some (D.scr ns), some (D.int k), some (D.int (1 + r)), none])) _) _ = _
  rw [g1]
  show bnd (bnd (bnd (bnd (mkL (l.map D.int)) tupD) fun d => ret (Fl.rt d, [some (D.scr ns), some (D.int k), some (D.int (1 + r)), none])) _) _ = _
  unfold mkL
  rw [if_pos (by rw [List.length_map]; show _ ≤ 16777216; omega)]
  rfl
end BX.Q

set_option Elab.async false
set_option linter.all false
set_option maxRecDepth 100000
set_option maxHeartbeats 0
namespace BX.Q
open PySem
/-- the numbers that are drawn -/
def nums : List (List Int) := [[1], [2], [3], [1, 1], [1, 2], [1, 3], [2, 1], [2, 2], [2, 3], [3, 1], [3, 2], [3, 3],
  [1, 1, 1], [1, 1, 2], [1, 1, 3], [1, 2, 1], [1, 2, 2], [1, 2, 3], [1, 3, 1], [1, 3, 2], [1, 3, 3],
  [2, 1, 1], [2, 1, 2], [2, 1, 3], [2, 2, 1], [2, 2, 2], [2, 2, 3], [2, 3, 1], [2, 3, 2], [2, 3, 3],
  [3, 1, 1], [3, 1, 2], [3, 1, 3], [3, 2, 1], [3, 2, 2], [3, 2, 3], [3, 3, 1], [3, 3, 2], [3, 3, 3]]
theorem nums_all {l : List Int} (h1 : 1 ≤ l.length) (h2 : l.length ≤ 3) (h : ∀ i ∈ l, 1 ≤ i ∧ i ≤ 3) : l ∈ nums := by
  have key : ∀ i : Int, 1 ≤ i ∧ i ≤ 3 → i = 1 ∨ i = 2 ∨ i = 3 := fun i hi => by omega
  match l, h1, h2, h with
  | [a], _, _, h =>
    have ha := key a (h a (by simp))
    rcases ha with rfl | rfl | rfl <;> decide
  | [a, b], _, _, h =>
    have ha := key a (h a (by simp))
    have hb := key b (h b (by simp))
    rcases ha with rfl | rfl | rfl <;> rcases hb with rfl | rfl | rfl <;> decide
  | [a, b, c], _, _, h =>
    have ha := key a (h a (by simp))
    have hb := key b (h b (by simp))
    have hc := key c (h c (by simp))
    rcases ha with rfl | rfl | rfl <;> rcases hb with rfl | rfl | rfl <;> rcases hc with rfl | rfl | rfl <;> decide
def restA : SL := dropS 1 B_law_k01
def chkA (l : List Int) : Bool := match evB (takeS 4 restA) ((none : Option D) :: some (.tup (l.map .int)) :: List.replicate 13 none) [] with
  | .ok (.nx, ρ) [] => decide (ρ.length = 15)
  | _ => false
theorem tA : noB 0 (takeS 4 restA) = true := by decide +kernel
theorem cA0 : (nums.take 13).all chkA = true := by decide +kernel
theorem cA1 : ((nums.drop 13).take 13).all chkA = true := by decide +kernel
theorem cA2 : (nums.drop 26).all chkA = true := by decide +kernel
theorem cA {l : List Int} (h : l ∈ nums) : chkA l = true := by
  have e : nums = nums.take 13 ++ ((nums.drop 13).take 13 ++ nums.drop 26) := by decide +kernel
  rw [e] at h
  rcases List.mem_append.mp h with h | h
  · exact List.all_eq_true.mp cA0 l h
  · rcases List.mem_append.mp h with h | h
    · exact List.all_eq_true.mp cA1 l h
    · exact List.all_eq_true.mp cA2 l h
end BX.Q

set_option Elab.async false
set_option linter.all false
set_option maxRecDepth 100000
set_option maxHeartbeats 0
namespace BX.Q
open PySem
/-- the numbers by rank: how long their bits are, their digits -/
def ranked : List (Int × List Int) := [(8, [1]), (10, [2]), (12, [1, 1]), (12, [3]), (14, [1, 2]), (14, [2, 1]), (16, [1, 1, 1]), (16, [1, 3]), (16, [2, 2]), (16, [3, 1]), (18, [1, 1, 2]), (18, [1, 2, 1]), (18, [2, 1, 1]), (18, [2, 3]), (18, [3, 2]), (20, [1, 1, 3]), (20, [1, 2, 2]), (20, [1, 3, 1]), (20, [2, 1, 2]), (20, [2, 2, 1]), (20, [3, 1, 1]), (20, [3, 3]), (22, [1, 2, 3]), (22, [1, 3, 2]), (22, [2, 1, 3]), (22, [2, 2, 2]), (22, [2, 3, 1]), (22, [3, 1, 2]), (22, [3, 2, 1]), (24, [1, 3, 3]), (24, [2, 2, 3]), (24, [2, 3, 2]), (24, [3, 1, 3]), (24, [3, 2, 2]), (24, [3, 3, 1]), (26, [2, 3, 3]), (26, [3, 2, 3]), (26, [3, 3, 2]), (28, [3, 3, 3])]
def lenB (k : Nat) : Int := match ranked[k]? with
  | some p => p.1
  | none => 0
def num (k : Nat) : D := match ranked[k]? with
  | some p => .tup (p.2.map .int)
  | none => .non
def key (k : Nat) : D := .tup [.int (lenB k), num k]
def R39 : List Nat := List.range 39
def isLstN (r : R D) (n : Int) : Bool := match r with
  | .ok (.lst xs) [] => decide ((xs.length : Int) = n)
  | _ => false
theorem isLstN_eq {r : R D} {n : Int} (h : isLstN r n = true) : ∃ xs, r = .ok (.lst xs) [] ∧ (xs.length : Int) = n := by
  unfold isLstN at h
  split at h
  · exact ⟨_, rfl, of_decide_eq_true h⟩
  · cases h
def isNon0 (r : R D) : Bool := match r with
  | .ok .non [] => true
  | _ => false
theorem isNon0_eq {r : R D} (h : isNon0 r = true) : r = .ok .non [] := by
  unfold isNon0 at h
  split at h
  · rfl
  · cases h
theorem t_bits : (R39.all fun k => isLstN (F_l_bits [num k] []) (lenB k)) = true := by decide +kernel
theorem t_bits2 : (R39.all fun k => isLstN (F_bits_of [num k] []) (lenB k)) = true := by decide +kernel
theorem t_need : (R39.all fun k => isNon0 (F_need_number [num k] [])) = true := by decide +kernel
theorem t_lt : (R39.all fun i => R39.all fun j => (shL 60 [.int (lenB i), num i] && shL 60 [.int (lenB j), num j] && alL [.int (lenB i), num i] [.int (lenB j), num j]) && (ltL [.int (lenB i), num i] [.int (lenB j), num j] == decide (i < j)) && (eqD (num i) (num j) == decide (i = j)) && alD (key i) (key j)) = true := by decide +kernel
theorem t_sh : (R39.all fun i => sh 60 (num i) && sh 60 (key i) && isTupNE (key i)) = true := by decide +kernel
theorem r39 {k : Nat} (h : k < 39) : k ∈ R39 := List.mem_range.mpr h
theorem bits_ok {k : Nat} (h : k < 39) : ∃ xs, F_l_bits [num k] [] = .ok (.lst xs) [] ∧ (xs.length : Int) = lenB k := isLstN_eq (List.all_eq_true.mp t_bits k (r39 h))
theorem bits2_ok {k : Nat} (h : k < 39) : ∃ xs, F_bits_of [num k] [] = .ok (.lst xs) [] ∧ (xs.length : Int) = lenB k := isLstN_eq (List.all_eq_true.mp t_bits2 k (r39 h))
theorem need_ok {k : Nat} (h : k < 39) : F_need_number [num k] [] = .ok .non [] := isNon0_eq (List.all_eq_true.mp t_need k (r39 h))
theorem lt_ok {i j : Nat} (hi : i < 39) (hj : j < 39) : ltM (key i) (key j) = ret (.bl (decide (i < j))) ∧ ltD (key i) (key j) = decide (i < j) ∧ eqD (num i) (num j) = decide (i = j) ∧ alD (key i) (key j) = true := by
  have h := List.all_eq_true.mp (List.all_eq_true.mp t_lt i (r39 hi)) j (r39 hj)
  simp only [Bool.and_eq_true, beq_iff_eq] at h
  obtain ⟨⟨⟨h1, h2⟩, h3⟩, h4⟩ := h
  refine ⟨?_, h2, h3, h4⟩
  show (if (shL 60 [.int (lenB i), num i] && shL 60 [.int (lenB j), num j] && alL [.int (lenB i), num i] [.int (lenB j), num j]) = true then ret (D.bl (ltL [.int (lenB i), num i] [.int (lenB j), num j])) else bad) = _
  rw [if_pos (by simp only [Bool.and_eq_true]; exact h1), h2]
theorem num_of {l : List Int} (h : l ∈ nums) : ∃ k, k < 39 ∧ num k = .tup (l.map .int) := by
  have e : (nums.all fun l => R39.any fun k => decide ((ranked[k]?).map Prod.snd = some l)) = true := by decide +kernel
  have := List.all_eq_true.mp e l h
  obtain ⟨k, hk, hd⟩ := List.any_eq_true.mp this
  refine ⟨k, List.mem_range.mp hk, ?_⟩
  have hd := of_decide_eq_true hd
  unfold num
  cases q : ranked[k]? with
  | none => rw [q] at hd; cases hd
  | some p =>
    rw [q] at hd
    have : p.2 = l := by simpa using hd
    show D.tup (p.2.map .int) = _
    rw [this]
end BX.Q

set_option Elab.async false
set_option linter.all false
set_option maxRecDepth 100000
set_option maxHeartbeats 0
namespace BX.Q
open PySem
/-- (len(f(x)), x) -/
theorem key_at {x : Str} {F : List D → M D} {v k : Nat} {ρ : Env} (hF : ∃ xs, F [num k] [] = .ok (.lst xs) [] ∧ (xs.length : Int) = lenB k) (h : ρ[v]? = some (some (num k))) :
    ev (.tu (.cons (.b1 .len (.ca x F (.cons (.var v) .nil))) (.cons (.var v) .nil))) ρ [] = .ok (key k) [] := by
  obtain ⟨xs, e1, e2⟩ := hF
  have hv := getV_of h
  simp only [ev, evL, hv, ret_bnd]
  refine bnd_at (a := [.int (lenB k), num k]) (s' := []) ?_ rfl
  refine bnd_at (a := .int (lenB k)) (s' := []) ?_ rfl
  refine bnd_at e1 ?_
  show ret (D.int xs.length) [] = _
  rw [e2]; rfl
/-! ### order -/
theorem order_at {d : D} {ks : List Nat} (hk : ∀ k ∈ ks, k < 39) (hl : ks.length ≤ 1000) (hd : d = .lst (ks.map num) ∨ d = .tup (ks.map num)) : F_order [d] [] = .ok (.lst ((isortN ks).map num)) [] := by
  have hit : itsM d = ret (ks.map num) := by rcases hd with rfl | rfl <;> rfl
  have his : noObj d = true ∧ ([Ty.list, Ty.tuple].any fun t => isTy t d) = true := by rcases hd with rfl | rfl <;> exact ⟨rfl, rfl⟩
  have s1 : evS (.iff (.no (.isi (.var 0) [.list, .tuple])) (.cons (.rs "NoNumber" .num) .nil) .nil) [some d, none, none, none] [] = .ok (.nx, [some d, none, none, none]) [] := by
    show bnd (bnd (bnd (if noObj d = true then ret (D.bl ([Ty.list, Ty.tuple].any fun t => isTy t d)) else bad) asB) fun b => ret (!b)) _ [] = _
    rw [if_pos his.1, his.2]; rfl
  have s2 : ∃ ρ', evS (.fr (.one 1) (.e (.var 0)) (.cons (.e (.ca "need_number" F_need_number (.cons (.var 1) .nil))) .nil)) [some d, none, none, none] [] = .ok (.nx, ρ') [] ∧ (ρ'[0]? = some (some d) ∧ ρ'.length = 4) := by
    obtain ⟨ρ', h1, h2⟩ := forM_inv (s := []) (tg := .one 1) (b := fun ρ1 => evB (.cons (.e (.ca "need_number" F_need_number (.cons (.var 1) .nil))) .nil) ρ1) (P := fun ρ => ρ[0]? = some (some d) ∧ ρ.length = 4) (ks.map num) [some d, none, none, none] (fun d' hd' ρ hp => by
      obtain ⟨k, hk', rfl⟩ := List.mem_map.mp hd'
      have hg : (ρ.set 1 (some (num k)))[1]? = some (some (num k)) := List.getElem?_set_self (by omega)
      refine ⟨_, ρ.set 1 (some (num k)), rfl, ?_, by rw [List.getElem?_set_ne (by decide)]; exact hp.1, by rw [List.length_set]; exact hp.2⟩
      refine bnd_at (a := (.nx, ρ.set 1 (some (num k)))) (s' := []) ?_ rfl
      refine bnd_at (a := .non) (s' := []) ?_ rfl
      have hv := getV_of hg
      simp only [ev, evL, hv, ret_bnd]
      exact need_ok (hk k hk')) ⟨rfl, rfl⟩
    refine ⟨ρ', ?_, h2⟩
    show bnd (itsM d) _ [] = _
    rw [hit]
    exact h1
  obtain ⟨ρ2, s2, g0, gl⟩ := s2
  have hlim : ∀ f : Nat → D, mkL (ks.map f) = ret (.lst (ks.map f)) := fun f => by
    unfold mkL
    rw [if_pos (by rw [List.length_map]; show _ ≤ 16777216; omega)]
  have hso : okSort (ks.map key) = true := by
    unfold okSort
    simp only [Bool.and_eq_true, Bool.or_eq_true, List.all_eq_true, List.mem_map, forall_exists_index, and_imp]
    refine ⟨⟨fun x k hk' e => ?_, fun x k hk' e y j hj e' => ?_⟩, .inl fun x k hk' e => ?_⟩
    · subst e
      have := List.all_eq_true.mp t_sh k (r39 (hk k hk'))
      simp only [Bool.and_eq_true] at this
      exact this.1.2
    · subst e e'
      exact (lt_ok (hk k hk') (hk j hj)).2.2.2
    · subst e
      have := List.all_eq_true.mp t_sh k (r39 (hk k hk'))
      simp only [Bool.and_eq_true] at this
      exact this.2
  have s3 : evS (.a (.one 2) (.b1 .sorted (.cp (.tu (.cons (.b1 .len (.ca "bits_of" F_bits_of (.cons (.var 1) .nil))) (.cons (.var 1) .nil))) (.one 1) (.e (.var 0)) .none [1]))) ρ2 [] = .ok (.nx, ρ2.set 2 (some (.lst ((isortN ks).map key)))) [] := by
    refine bnd_at (a := .lst ((isortN ks).map key)) (s' := []) ?_ rfl
    refine bnd_at (a := .lst (ks.map key)) (s' := []) ?_ ?_
    · refine bnd_at (a := ks.map num) (s' := []) ?_ ?_
      · show bnd (getV 0 ρ2) itsM [] = _
        rw [getV_of g0]
        show itsM d [] = _
        rw [hit]; rfl
      · refine bnd_at (a := ks.map key) (s' := []) (cpM_map ks fun k hk' => ⟨_, rfl, rfl, ?_⟩) (by rw [hlim]; rfl)
        exact key_at (bits2_ok (hk k hk')) (List.getElem?_set_self (by simp [wipeE, gl]))
    · show sortD (.lst (ks.map key)) [] = _
      show (if okSort (ks.map key) = true then ret (D.lst (isortD (ks.map key))) else bad) [] = _
      rw [if_pos hso, isortD_map (B := 39) (fun i j hi hj => (lt_ok hi hj).2.1) ks hk]
      rfl
  have hk2 : ∀ k ∈ isortN ks, k < 39 := fun k h => hk k (isortN_mem h)
  refine mkF_run rfl ⟨ρ2.set 2 (some (.lst ((isortN ks).map key))), blk_nx s1 (blk_nx s2 (blk_nx s3 (blk_rt ?_)))⟩
  refine bnd_at (a := .lst ((isortN ks).map num)) (s' := []) ?_ rfl
  refine bnd_at (a := (isortN ks).map key) (s' := []) ?_ ?_
  · show bnd (getV 2 _) itsM [] = _
    rw [getV_of (List.getElem?_set_self (by omega))]
    rfl
  · refine bnd_at (a := (isortN ks).map num) (s' := []) (cpM_map _ fun k hk' => ⟨_, rfl, rfl, ?_⟩) ?_
    · show getV 1 _ [] = _
      rw [getV_of (d := num k) ?_]; rfl
      simp [wipeE, setAll, gl]
    · have hln := isortN_len ks
      show mkL _ [] = _
      unfold mkL
      rw [if_pos (by rw [List.length_map]; show _ ≤ 16777216; omega)]
      rfl
end BX.Q

set_option Elab.async false
set_option linter.all false
set_option maxRecDepth 100000
set_option maxHeartbeats 0
namespace BX.Q
open PySem
abbrev inB : SL := .cons (.iff (.cmp .lt (.tu (.cons (.b1 .len (.ca "_law_bits" F_l_bits (.cons (.var 11) .nil))) (.cons (.var 11) .nil))) (.tu (.cons (.b1 .len (.ca "_law_bits" F_l_bits (.cons (.var 10) .nil))) (.cons (.var 10) .nil)))) (.cons (.a (.one 10) (.var 11)) .nil) .nil) .nil
abbrev whB : SL := .cons (.a (.one 10) (.ix (.var 9) (.cI 0))) (.cons (.frm 9 (.one 11) inB) (.cons (.ap 4 (.var 10)) (.cons (.rm 9 (.var 10)) .nil)))
/-- the inner statement: the less of the two -/
theorem inB_at {i j : Nat} {ρ : Env} (hi : i < 39) (hj : j < 39) (h1 : ρ[11]? = some (some (num i))) (h2 : ρ[10]? = some (some (num j))) : ∃ ρ', evB inB ρ [] = .ok (.nx, ρ') [] ∧ Same [10, 11] ρ ρ' ∧ ρ'[10]? = some (some (num (if i < j then i else j))) := by
  have k1 := key_at (x := "_law_bits") (F := F_l_bits) (bits_ok hi) h1
  have k2 := key_at (x := "_law_bits") (F := F_l_bits) (bits_ok hj) h2
  have ht : evT (.cmp .lt (.tu (.cons (.b1 .len (.ca "_law_bits" F_l_bits (.cons (.var 11) .nil))) (.cons (.var 11) .nil))) (.tu (.cons (.b1 .len (.ca "_law_bits" F_l_bits (.cons (.var 10) .nil))) (.cons (.var 10) .nil)))) ρ [] = .ok (decide (i < j)) [] := by
    refine bnd_at (a := .bl (decide (i < j))) (s' := []) ?_ rfl
    refine bnd_at k1 (bnd_at k2 ?_)
    show ltM (key i) (key j) [] = _
    rw [(lt_ok hi hj).1]; rfl
  have hlen : 10 < ρ.length := (List.getElem?_eq_some_iff.mp h2).1
  by_cases c : i < j
  · refine ⟨ρ.set 10 (some (num i)), ?_, Same.set (by simp), by rw [if_pos c]; exact List.getElem?_set_self hlen⟩
    refine blk_nx (ρ1 := ρ.set 10 (some (num i))) (st1 := []) ?_ rfl
    refine bnd_at ht ?_
    rw [decide_eq_true c]
    show evB (.cons (.a (.one 10) (.var 11)) .nil) ρ [] = _
    refine blk_nx (ρ1 := ρ.set 10 (some (num i))) (st1 := []) ?_ rfl
    show bnd (getV 11 ρ) _ [] = _
    rw [getV_of h1]; rfl
  · refine ⟨ρ, ?_, Same.refl _ _, by rw [if_neg c]; exact h2⟩
    refine blk_nx (ρ1 := ρ) (st1 := []) ?_ rfl
    refine bnd_at ht ?_
    rw [decide_eq_false c]; rfl
theorem in_loop {ks : List Nat} (hk : ∀ k ∈ ks, k < 39) : ∀ (n j b f : Nat) (ρ : Env), ks.length - j = n → n < f → b < 39 → ρ.length = 15 → ρ[9]? = some (some (.lst (ks.map num))) → ρ[10]? = some (some (num b)) →
    ∃ ρ', forS 9 (.one 11) (fun ρ1 => evB inB ρ1) f j ρ [] = .ok (.nx, ρ') [] ∧ Same [10, 11] ρ ρ' ∧ ρ'[10]? = some (some (num (minN b (ks.drop j)))) := by
  intro n
  induction n with
  | zero =>
    intro j b f ρ hn hf hb hl h9 h10
    obtain ⟨f, rfl⟩ : ∃ f', f = f' + 1 := ⟨f - 1, by omega⟩
    refine ⟨ρ, ?_, Same.refl _ _, by rw [List.drop_eq_nil_of_le (by omega)]; exact h10⟩
    simp only [forS, h9]
    rw [List.getElem?_eq_none (by rw [List.length_map]; omega)]
    rfl
  | succ n ih =>
    intro j b f ρ hn hf hb hl h9 h10
    obtain ⟨f, rfl⟩ : ∃ f', f = f' + 1 := ⟨f - 1, by omega⟩
    have hj : j < ks.length := by omega
    have hkj := hk ks[j] (List.getElem_mem hj)
    obtain ⟨ρ2, e, s, g⟩ := inB_at (ρ := ρ.set 11 (some (num ks[j]))) hkj hb (List.getElem?_set_self (by omega)) (by rw [List.getElem?_set_ne (by decide)]; exact h10)
    have s' : Same [10, 11] ρ ρ2 := (Same.set (by simp)).trans s
    have hb' : (if ks[j] < b then ks[j] else b) < 39 := by split <;> omega
    obtain ⟨ρ3, e3, s3, g3⟩ := ih (j + 1) (if ks[j] < b then ks[j] else b) f ρ2 (by omega) (by omega) hb' (s'.1.trans hl) ((s'.2 9 (by simp)).trans h9) g
    refine ⟨ρ3, ?_, s'.trans s3, ?_⟩
    · simp only [forS, h9]
      rw [show (ks.map num)[j]? = some (num ks[j]) by rw [List.getElem?_map, List.getElem?_eq_getElem hj]; rfl]
      simp only [stT]
      exact bnd_at e e3
    · rw [List.drop_eq_getElem_cons hj]
      exact g3
theorem atI_head {α : Type} (x : α) (xs : List α) : atI (x :: xs) 0 = some x := by
  unfold atI ixN
  rw [if_pos (Int.le_refl 0), if_pos (by rw [List.length_cons]; omega)]
  rfl
/-- one turn of the while loop -/
theorem wh_turn {ks acc : List Nat} {ρ : Env} (hk : ∀ k ∈ ks, k < 39) (hne : ks ≠ []) (hlen : ks.length ≤ 1000) (hacc : acc.length ≤ 1000) (hl : ρ.length = 15) (h9 : ρ[9]? = some (some (.lst (ks.map num)))) (h4 : ρ[4]? = some (some (.lst (acc.map num)))) :
    ∃ m ρ', m ∈ ks ∧ (∀ x ∈ ks, m ≤ x) ∧ evB whB ρ [] = .ok (.nx, ρ') [] ∧ Same [4, 9, 10, 11] ρ ρ' ∧ ρ'[9]? = some (some (.lst ((ks.erase m).map num))) ∧ ρ'[4]? = some (some (.lst ((acc ++ [m]).map num))) := by
  obtain ⟨b, r, rfl⟩ : ∃ b r, ks = b :: r := List.exists_cons_of_ne_nil hne
  have hb : b < 39 := hk b List.mem_cons_self
  have e1 : evS (.a (.one 10) (.ix (.var 9) (.cI 0))) ρ [] = .ok (.nx, ρ.set 10 (some (num b))) [] := by
    show bnd (bnd (getV 9 ρ) _) _ [] = _
    rw [getV_of h9]
    show bnd (ofO (atI (num b :: r.map num) 0)) _ [] = _
    rw [atI_head]; rfl
  obtain ⟨ρ2, e2, s2, g2⟩ := in_loop hk (b :: r).length 0 b FUEL (ρ.set 10 (some (num b))) rfl (by show _ < 1000000; omega) hb (by rw [List.length_set]; exact hl) (by rw [List.getElem?_set_ne (by decide)]; exact h9) (List.getElem?_set_self (by omega))
  have s2' : Same [10, 11] ρ ρ2 := (Same.set (by simp)).trans s2
  obtain ⟨m, hm⟩ : ∃ m, m = minN b ((b :: r).drop 0) := ⟨_, rfl⟩
  rw [← hm] at g2
  obtain ⟨p1, p2, p3⟩ := minN_le (b :: r) b
  have hm' : m = minN b (b :: r) := hm
  rw [← hm'] at p1 p2 p3
  have hmem : m ∈ b :: r := by
    rcases p3 with p3 | p3
    · rw [p3]; exact List.mem_cons_self
    · exact p3
  have hm39 := hk m hmem
  have h4' : ρ2[4]? = some (some (.lst (acc.map num))) := (s2'.2 4 (by simp)).trans h4
  have h9' : ρ2[9]? = some (some (.lst ((b :: r).map num))) := (s2'.2 9 (by simp)).trans h9
  have hl2 : ρ2.length = 15 := s2'.1.trans hl
  have e3 : evS (.ap 4 (.var 10)) ρ2 [] = .ok (.nx, ρ2.set 4 (some (.lst ((acc ++ [m]).map num)))) [] := by
    show bnd (lsM 4 ρ2) _ [] = _
    refine bnd_at (a := ()) (s' := []) (by unfold lsM; rw [h4']; rfl) ?_
    show bnd (getV 10 ρ2) _ [] = _
    rw [getV_of g2]
    show BX.chg 4 (appD (num m)) ρ2 [] = _
    unfold BX.chg appD
    rw [h4']
    simp only
    rw [if_pos (by rw [List.length_map]; show _ < 16777216; omega), List.map_append]
    rfl
  have g10 : (ρ2.set 4 (some (.lst ((acc ++ [m]).map num))))[10]? = some (some (num m)) := by rw [List.getElem?_set_ne (by decide)]; exact g2
  have g9 : (ρ2.set 4 (some (.lst ((acc ++ [m]).map num))))[9]? = some (some (.lst ((b :: r).map num))) := by rw [List.getElem?_set_ne (by decide)]; exact h9'
  obtain ⟨j, f1, f2⟩ := fstIx_map (key := num) (B := 39) (fun i j hi hj => (lt_ok hi hj).2.2.1) hm39 (b :: r) 0 hk hmem
  rw [Nat.zero_add] at f1
  have shn : ∀ ks : List Nat, (∀ k ∈ ks, k < 39) → shL 60 (ks.map num) = true := by
    intro ks
    induction ks with
    | nil => intro _; rfl
    | cons x r ih =>
      intro h
      have := List.all_eq_true.mp t_sh x (r39 (h x List.mem_cons_self))
      simp only [Bool.and_eq_true] at this
      simp only [List.map_cons, shL, this.1.1, ih fun k hk => h k (List.mem_cons_of_mem _ hk), Bool.and_self]
  have shm : sh 60 (num m) = true := by
    have := List.all_eq_true.mp t_sh m (r39 hm39)
    simp only [Bool.and_eq_true] at this
    exact this.1.1
  have e4 : evS (.rm 9 (.var 10)) (ρ2.set 4 (some (.lst ((acc ++ [m]).map num)))) [] = .ok (.nx, (ρ2.set 4 (some (.lst ((acc ++ [m]).map num)))).set 9 (some (.lst (((b :: r).erase m).map num)))) [] := by
    show bnd (lsM 9 _) _ [] = _
    refine bnd_at (a := ()) (s' := []) (by unfold lsM; rw [g9]; rfl) ?_
    show bnd (getV 10 _) _ [] = _
    rw [getV_of g10]
    show BX.chg 9 (remD (num m)) _ [] = _
    unfold BX.chg remD
    rw [g9]
    simp only
    rw [if_pos (by rw [shm, shn _ hk]; rfl), f1]
    simp only [f2]
    rfl
  refine ⟨m, _, hmem, p2, blk_nx e1 (blk_nx e2 (blk_nx e3 (blk_nx e4 rfl))), ?_, List.getElem?_set_self (by rw [List.length_set]; omega), ?_⟩
  · exact (s2'.more (by simp)).trans ((Same.set (by simp)).trans (Same.set (by simp)))
  · rw [List.getElem?_set_ne (by decide)]
    exact List.getElem?_set_self (by omega)
theorem wh_loop : ∀ (n : Nat) (ks acc : List Nat) (ρ : Env) (f : Nat), ks.length = n → n < f → (∀ k ∈ ks, k < 39) → ks.length + acc.length ≤ 1000 → ρ.length = 15 → ρ[9]? = some (some (.lst (ks.map num))) → ρ[4]? = some (some (.lst (acc.map num))) →
    ∃ ρ', whM (fun ρ1 => evT (.cmp .ne (.var 9) (.li .nil)) ρ1) (fun ρ1 => evB whB ρ1) f ρ [] = .ok (.nx, ρ') [] ∧ Same [4, 9, 10, 11] ρ ρ' ∧ ρ'[4]? = some (some (.lst ((acc ++ isortN ks).map num))) := by
  intro n
  induction n with
  | zero =>
    intro ks acc ρ f hn hf hk hl hρ h9 h4
    obtain ⟨f, rfl⟩ : ∃ f', f = f' + 1 := ⟨f - 1, by omega⟩
    have : ks = [] := List.length_eq_zero_iff.mp hn
    subst this
    refine ⟨ρ, ?_, Same.refl _ _, by rw [show isortN [] = [] from rfl, List.append_nil]; exact h4⟩
    refine bnd_at (a := false) (s' := []) ?_ rfl
    show bnd (bnd (getV 9 ρ) _) _ [] = _
    rw [getV_of h9]; rfl
  | succ n ih =>
    intro ks acc ρ f hn hf hk hl hρ h9 h4
    obtain ⟨f, rfl⟩ : ∃ f', f = f' + 1 := ⟨f - 1, by omega⟩
    have hne : ks ≠ [] := fun z => by subst z; simp at hn
    obtain ⟨m, ρ1, hm, hmin, e1, s1, g9, g4⟩ := wh_turn hk hne (by omega) (by omega) hρ h9 h4
    obtain ⟨ρ2, e2, s2, g2⟩ := ih (ks.erase m) (acc ++ [m]) ρ1 f (by rw [List.length_erase_of_mem hm]; omega) (by omega) (fun k h => hk k (List.mem_of_mem_erase h)) (by rw [List.length_erase_of_mem hm, List.length_append, List.length_singleton]; omega) (s1.1.trans hρ) g9 g4
    refine ⟨ρ2, ?_, s1.trans s2, ?_⟩
    · refine bnd_at (a := true) (s' := []) ?_ (bnd_at e1 e2)
      have shn : ∀ ks : List Nat, (∀ k ∈ ks, k < 39) → shL 59 (ks.map num) = true := by
        have tt : (R39.all fun i => sh 59 (num i)) = true := by decide +kernel
        intro ks
        induction ks with
        | nil => intro _; rfl
        | cons x r ih =>
          intro h
          simp only [List.map_cons, shL, List.all_eq_true.mp tt x (r39 (h x List.mem_cons_self)), ih fun k hk => h k (List.mem_cons_of_mem _ hk), Bool.and_self]
      obtain ⟨b, r, rfl⟩ : ∃ b r, ks = b :: r := List.exists_cons_of_ne_nil hne
      show bnd (bnd (getV 9 ρ) _) _ [] = _
      rw [getV_of h9]
      show bnd (eqM true (.lst ((b :: r).map num)) (.lst [])) _ [] = _
      unfold eqM
      rw [if_pos (by show (shL 59 ((b :: r).map num) && true) = true; rw [shn _ hk]; rfl)]
      rfl
    · rw [isortN_min ks hm hmin]
      rw [List.append_assoc] at g2
      exact g2
end BX.Q

set_option Elab.async false
set_option linter.all false
set_option maxRecDepth 100000
set_option maxHeartbeats 0
namespace BX.Q
open PySem
theorem told_at {d : D} {ks : List Nat} (hk : ∀ k ∈ ks, k < 39) (hl : ks.length ≤ 1000) (hd : d = .lst (ks.map num) ∨ d = .tup (ks.map num)) : F_l_told [.int 2, d, .non] [] = .ok (.lst ((isortN ks).map num)) [] := by
  have h := order_at hk hl hd
  refine mkF_run rfl ⟨[some (.int 2), some d, some .non, none], ?_⟩
  refine blk_rt ?_
  show tryM _ _ _ [] = _
  have hb : evB (.cons (.iff (.cmp .eq (.var 0) (.cI 2)) (.cons (.rt (.ca "order" F_order (.cons (.var 1) .nil))) .nil) .nil)
      (.cons (.rt (.ife (.cmp .eq (.var 0) (.cI 0)) (.ca "taps" F_taps (.cons (.var 1) (.cons (.var 2) .nil))) (.ca "long_of" F_long_of (.cons (.var 1) (.cons (.var 2) .nil))))) .nil)) [some (.int 2), some d, some .non, none] [] = .ok (.rt (.lst ((isortN ks).map num)), [some (.int 2), some d, some .non, none]) [] := by
    refine blk_rt ?_
    show evB (.cons (.rt (.ca "order" F_order (.cons (.var 1) .nil))) .nil) _ [] = _
    refine blk_rt ?_
    exact bnd_at (show ev (.ca "order" F_order (.cons (.var 1) .nil)) [some (.int 2), some d, some .non, none] [] = _ from h) rfl
  unfold tryM
  simp only [List.map_cons, List.map_nil, List.cons_append, List.nil_append]
  rw [show (List.replicate (4 - 3) (none : Option D)) = [none] from rfl, hb]
theorem eqL_num : ∀ (ks : List Nat), (∀ k ∈ ks, k < 39) → eqL (ks.map num) (ks.map num) = true ∧ shL 59 (ks.map num) = true
  | [], _ => ⟨rfl, rfl⟩
  | x :: r, h => by
    have tt : (R39.all fun i => sh 59 (num i)) = true := by decide +kernel
    obtain ⟨h1, h2⟩ := eqL_num r fun k hk => h k (List.mem_cons_of_mem _ hk)
    have hx := h x List.mem_cons_self
    have e := (lt_ok hx hx).2.2.1
    simp only [List.map_cons, eqL, shL, h1, h2, List.all_eq_true.mp tt x (r39 hx), Bool.and_true, and_true]
    rw [e]; simp
theorem neM_num {ks : List Nat} (h : ∀ k ∈ ks, k < 39) : eqM true (.lst (ks.map num)) (.lst (ks.map num)) = ret (.bl false) := by
  obtain ⟨h1, h2⟩ := eqL_num ks h
  unfold eqM
  rw [if_pos (by show (shL 59 (ks.map num) && shL 59 (ks.map num)) = true; rw [h2]; rfl)]
  show ret (D.bl (xor true (eqL (ks.map num) (ks.map num)))) = _
  rw [h1]; rfl
theorem nums_of : ∀ {ys : List D}, (∀ y ∈ ys, ∃ k, k < 39 ∧ y = num k) → ∃ ks : List Nat, ys = ks.map num ∧ ∀ k ∈ ks, k < 39
  | [], _ => ⟨[], rfl, fun _ h => by cases h⟩
  | y :: ys, h => by
    obtain ⟨i, hi, rfl⟩ := h y List.mem_cons_self
    obtain ⟨l, rfl, hl⟩ := nums_of fun y' hy' => h y' (List.mem_cons_of_mem _ hy')
    exact ⟨i :: l, rfl, fun j hj => by
      rcases List.mem_cons.mp hj with rfl | hj
      · exact hi
      · exact hl j hj⟩
def bads : List D := [.non, .int 5, .lst [.non], .lst [.tup [.int 7]], .tup [.tup [.int 1], .lst [.int 1]]]
def refD0 : D := .tup [.str REF, .int 0]
def isRef0 (r : R D) : Bool := match r with
  | .ok d [] => (match d with
    | .tup [.str s, .int i] => decide (s = REF) && decide (i = 0)
    | _ => false)
  | _ => false
theorem isRef0_eq {r : R D} (h : isRef0 r = true) : r = .ok refD0 [] := by
  unfold isRef0 at h
  split at h
  · split at h
    · rw [Bool.and_eq_true] at h
      rw [of_decide_eq_true h.1, of_decide_eq_true h.2]; rfl
    · cases h
  · cases h
theorem t_bads : (bads.all fun d => isRef0 (F_l_told [.int 2, d, .non] [])) = true := by decide +kernel
/-- behind the numbers' part -/
theorem tail_at (ns : List Int) (hl : ns.length ≤ 63) (ρ : Env) (h15 : ρ.length = 15) (h0 : ρ[0]? = some (some (.scr ns))) : ∃ ρ', evB (dropS 4 restA) ρ [] = .ok (.rt (.bl true), ρ') [] := by
  obtain ⟨r, er, hr1, hr2⟩ := drawn_ok ns 9 6 hl (by decide)
  -- the rows drawn
  obtain ⟨ys, g1, g2, g3⟩ := cpM_all (P := fun _ y => ∃ k, k < 39 ∧ y = num k) (c := fun _ => ret true) (e := fun ρ1 => ev (.ca "_law_number" F_l_number (.cons (.var 0) (.cons (.bin .add (.cI 10) (.bin .mul (.cI 5) (.var 13))) .nil))) ρ1) (tg := .one 13) (ρ := ρ.set 13 none) (rngI 0 1 r.toNat) fun d hd => by
    obtain ⟨j, rfl, _, _⟩ := rngI_mem _ _ _ hd
    obtain ⟨l, el, l1, l2, l3⟩ := number_ok ns (10 + 5 * j) hl
    obtain ⟨k, hk, ek⟩ := num_of (nums_all l1 l2 l3)
    refine ⟨_, num k, rfl, rfl, ?_, k, hk, rfl⟩
    have q0 : ((ρ.set 13 none).set 13 (some (.int j)))[0]? = some (some (.scr ns)) := by rw [List.getElem?_set_ne (by decide), List.getElem?_set_ne (by decide)]; exact h0
    have q13 : ((ρ.set 13 none).set 13 (some (.int j)))[13]? = some (some (.int j)) := List.getElem?_set_self (by rw [List.length_set]; omega)
    simp only [ev, evL, getV_of q0, getV_of q13, ret_bnd]
    rw [show opD BO.mul (.int 5) (.int j) = ret (.int (5 * j)) from (inb_c (by decide) : mulD (.int 5) (.int j) = _)]
    simp only [ret_bnd]
    rw [show opD BO.add (.int 10) (.int (5 * j)) = ret (.int (10 + 5 * j)) from rfl]
    simp only [ret_bnd]
    rw [el, ek]
  rw [rngI_len] at g2
  obtain ⟨ks, rfl, hks⟩ := nums_of fun y hy => (g3 y hy).elim fun _ z => z.2
  rw [List.length_map] at g2
  have mk : ∀ zs : List D, zs.length ≤ 1000 → mkL zs = ret (.lst zs) := fun zs hz => by
    unfold mkL
    rw [if_pos (by show _ ≤ 16777216; omega)]
  have s6 : evS (.a (.one 8) (.cp (.ca "_law_number" F_l_number (.cons (.var 0) (.cons (.bin .add (.cI 10) (.bin .mul (.cI 5) (.var 13))) .nil))) (.one 13) (.r1 (.ca "_law_drawn" F_l_drawn (.cons (.var 0) (.cons (.cI 9) (.cons (.cI 6) .nil))))) .none [13])) ρ [] = .ok (.nx, ρ.set 8 (some (.lst (ks.map num)))) [] := by
    refine bnd_at (a := .lst (ks.map num)) (s' := []) ?_ rfl
    refine bnd_at (a := rngI 0 1 r.toNat) (s' := []) ?_ ?_
    · show bnd (bnd (bnd (getV 0 ρ) _) F_l_drawn) _ [] = _
      rw [getV_of h0]
      show bnd (F_l_drawn [.scr ns, .int 9, .int 6]) _ [] = _
      rw [er]
      show rngM 0 r [] = _
      rw [rngM_ok (by decide) (by decide) (by omega) hr1, show r - 0 = r by omega]; rfl
    · show bnd (cpM (fun _ => ret true) (fun ρ1 => ev (.ca "_law_number" F_l_number (.cons (.var 0) (.cons (.bin .add (.cI 10) (.bin .mul (.cI 5) (.var 13))) .nil))) ρ1) (.one 13) (ρ.set 13 none) (rngI 0 1 r.toNat)) mkL [] = _
      rw [g1]
      show mkL _ [] = _
      rw [mk _ (by rw [List.length_map]; omega)]; rfl
  obtain ⟨kz, hkz⟩ : ∃ kz, kz = ks ++ [5, 4, 3, 2, 5] := ⟨_, rfl⟩
  have hz : ∀ k ∈ kz, k < 39 := fun k hk => by
    rw [hkz] at hk
    rcases List.mem_append.mp hk with hk | hk
    · exact hks k hk
    · simp only [List.mem_cons, List.not_mem_nil, or_false] at hk
      omega
  have hzl : kz.length ≤ 100 := by rw [hkz, List.length_append]; show _ + 5 ≤ _; omega
  have s7 : evS (.a (.one 8) (.bin .add (.var 8) (.li (.cons (.tu (.cons (.cI 2) (.cons (.cI 1) .nil))) (.cons (.tu (.cons (.cI 1) (.cons (.cI 2) .nil))) (.cons (.tu (.cons (.cI 3) .nil)) (.cons (.tu (.cons (.cI 1) (.cons (.cI 1) .nil))) (.cons (.tu (.cons (.cI 2) (.cons (.cI 1) .nil))) .nil)))))))) (ρ.set 8 (some (.lst (ks.map num)))) [] = .ok (.nx, (ρ.set 8 (some (.lst (ks.map num)))).set 8 (some (.lst (kz.map num)))) [] := by
    show bnd (bnd (getV 8 _) _) _ [] = _
    rw [getV_of (List.getElem?_set_self (by omega))]
    show bnd (mkL (ks.map num ++ [5, 4, 3, 2, 5].map num)) _ [] = _
    rw [← List.map_append, ← hkz, mk _ (by rw [List.length_map]; omega)]; rfl
  obtain ⟨ρ8, e8⟩ : ∃ ρ8, ρ8 = (ρ.set 8 (some (.lst (ks.map num)))).set 8 (some (.lst (kz.map num))) := ⟨_, rfl⟩
  have l8 : ρ8.length = 15 := by rw [e8, List.length_set, List.length_set]; exact h15
  have g8 : ρ8[8]? = some (some (.lst (kz.map num))) := by rw [e8]; exact List.getElem?_set_self (by rw [List.length_set]; omega)
  rw [← e8] at s7
  have s8 : evS (.m 9 (.b1 .list (.var 8))) ρ8 [] = .ok (.nx, ρ8.set 9 (some (.lst (kz.map num)))) [] := by
    show bnd (bnd (getV 8 ρ8) _) _ [] = _
    rw [getV_of g8]; rfl
  have s9 : evS (.m 4 (.li .nil)) (ρ8.set 9 (some (.lst (kz.map num)))) [] = .ok (.nx, (ρ8.set 9 (some (.lst (kz.map num)))).set 4 (some (.lst []))) [] := rfl
  obtain ⟨ρ9, e9⟩ : ∃ ρ9, ρ9 = (ρ8.set 9 (some (.lst (kz.map num)))).set 4 (some (.lst [])) := ⟨_, rfl⟩
  rw [← e9] at s9
  have l9 : ρ9.length = 15 := by rw [e9, List.length_set, List.length_set]; exact l8
  obtain ⟨ρ10, w1, w2, w3⟩ := wh_loop kz.length kz [] ρ9 FUEL rfl (by show _ < 1000000; omega) hz (by simp; omega) l9 (by rw [e9, List.getElem?_set_ne (by decide)]; exact List.getElem?_set_self (by omega)) (by rw [e9]; exact List.getElem?_set_self (by rw [List.length_set]; omega))
  rw [List.nil_append] at w3
  have g10 : ρ10[8]? = some (some (.lst (kz.map num))) := by
    rw [w2.2 8 (by simp), e9, List.getElem?_set_ne (by decide), List.getElem?_set_ne (by decide)]; exact g8
  have s10 : evS (.wh (.cmp .ne (.var 9) (.li .nil)) whB) ρ9 [] = .ok (.nx, ρ10) [] := w1
  have hsz : ∀ k ∈ isortN kz, k < 39 := fun k h => hz k (isortN_mem h)
  have s11 : evS (.iff (.orr (.cons (.cmp .ne (.ca "_law_told" F_l_told (.cons (.cI 2) (.cons (.var 8) (.cons .cN .nil)))) (.var 4)) (.cons (.cmp .ne (.ca "_law_told" F_l_told (.cons (.cI 2) (.cons (.b1 .tuple (.var 8)) (.cons .cN .nil)))) (.var 4)) (.cons (.cmp .ne (.ca "_law_told" F_l_told (.cons (.cI 2) (.cons (.tu .nil) (.cons .cN .nil)))) (.li .nil)) .nil)))) (.cons (.rt (.cB false)) .nil) .nil) ρ10 [] = .ok (.nx, ρ10) [] := by
    refine bnd_at (a := false) (s' := []) ?_ rfl
    refine bnd_at (a := false) (s' := []) ?_ ?_
    · refine bnd_at (a := .bl false) (s' := []) ?_ rfl
      refine bnd_at (a := .lst ((isortN kz).map num)) (s' := []) ?_ ?_
      · simp only [ev, evL, getV_of g10, ret_bnd]
        exact told_at hz (by omega) (.inl rfl)
      · show bnd (getV 4 ρ10) _ [] = _
        rw [getV_of w3]
        show eqM true _ _ [] = _
        rw [neM_num hsz]; rfl
    refine bnd_at (a := false) (s' := []) ?_ ?_
    · refine bnd_at (a := .bl false) (s' := []) ?_ rfl
      refine bnd_at (a := .lst ((isortN kz).map num)) (s' := []) ?_ ?_
      · simp only [ev, evL, getV_of g10, ret_bnd]
        exact told_at hz (by omega) (.inr rfl)
      · show bnd (getV 4 ρ10) _ [] = _
        rw [getV_of w3]
        show eqM true _ _ [] = _
        rw [neM_num hsz]; rfl
    rw [if_neg (by decide)]
    refine bnd_at (a := false) (s' := []) ?_ rfl
    refine bnd_at (a := .bl false) (s' := []) ?_ rfl
    exact bnd_at (told_at (ks := []) (d := .tup []) (fun _ h => by cases h) (by decide) (.inr rfl)) rfl
  have l10 : ρ10.length = 15 := w2.1.trans l9
  have s12 : evS (.rt (.cmp .eq (.cp (.ca "_law_told" F_l_told (.cons (.cI 2) (.cons (.var 14) (.cons .cN .nil)))) (.one 14) (.e (.tu (.cons .cN (.cons (.cI 5) (.cons (.li (.cons .cN .nil)) (.cons (.li (.cons (.tu (.cons (.cI 7) .nil)) .nil)) (.cons (.tu (.cons (.tu (.cons (.cI 1) .nil)) (.cons (.li (.cons (.cI 1) .nil)) .nil))) .nil))))))) .none [14]) (.bin .mul (.li (.cons (.tu (.cons (.cS [114, 101, 102, 117, 115, 101, 100]) (.cons (.cI 0) .nil))) .nil)) (.cI 5)))) ρ10 [] = .ok (.rt (.bl true), ρ10) [] := by
    refine bnd_at (a := .bl true) (s' := []) ?_ rfl
    refine bnd_at (a := .lst (bads.map fun _ => refD0)) (s' := []) ?_ rfl
    refine bnd_at (a := bads) (s' := []) rfl ?_
    refine bnd_at (a := bads.map fun _ => refD0) (s' := []) ?_ rfl
    have := cpM_run (c := fun _ => ret true) (e := fun ρ1 => ev (.ca "_law_told" F_l_told (.cons (.cI 2) (.cons (.var 14) (.cons .cN .nil)))) ρ1) (tg := .one 14) (ρ := ρ10.set 14 none) (s := []) (f := fun _ => refD0) bads fun d hd => ⟨_, rfl, rfl, by
      have q : ((ρ10.set 14 none).set 14 (some d))[14]? = some (some d) := List.getElem?_set_self (by rw [List.length_set]; omega)
      simp only [ev, evL, getV_of q, ret_bnd]
      exact isRef0_eq (List.all_eq_true.mp t_bads d hd)⟩
    exact this
  exact ⟨ρ10, blk_nx s6 (blk_nx s7 (blk_nx s8 (blk_nx s9 (blk_nx s10 (blk_nx s11 (blk_rt s12))))))⟩
theorem plain : ∀ ns : List Int, ns.length ≤ 63 → ∃ s, F_law_k01 [.scr ns] [] = .ok (.bl true) s := by
  intro ns hl
  obtain ⟨l, el, l1, l2, l3⟩ := number_ok ns 0 hl
  have hl' := nums_all l1 l2 l3
  have hc := cA hl'
  unfold chkA at hc
  split at hc
  · rename_i ρ e
    have h15 := of_decide_eq_true hc
    obtain ⟨ρ', e'⟩ := tail_at ns hl (ρ.set 0 (some (.scr ns))) (by rw [List.length_set]; exact h15) (List.getElem?_set_self (by omega))
    refine ⟨[], mkF_run rfl ⟨ρ', ?_⟩⟩
    have s1 : evS (.a (.one 1) (.ca "_law_number" F_l_number (.cons (.var 0) (.cons (.cI 0) .nil)))) (some (.scr ns) :: List.replicate 14 none) [] = .ok (.nx, ((none : Option D) :: some (.tup (l.map .int)) :: List.replicate 13 none).set 0 (some (.scr ns))) [] := by
      show bnd (F_l_number [.scr ns, .int 0]) _ [] = _
      rw [el]; rfl
    refine blk_nx (ss := restA) s1 ?_
    rw [evB_split 4 restA, evB_set _ _ tA, bnd_shf]
    refine bnd_at e ?_
    exact e'
  · cases hc
end BX.Q

set_option Elab.async false
set_option linter.all false
set_option maxRecDepth 100000
set_option maxHeartbeats 0
namespace BX
open PySem PySem.Spec PyProof.Rows L2
def top (i : Nat) : Stmt := PySem.Challenge.pw_boxtaps_k01_numbers.main.body.getD i (.Pass ⟨0, 0, 0, 0⟩)
theorem mt_bits_of : Mt1 "bits_of" (top 19) N_bits_of ["number"] [1] B_bits_of := ⟨fun _ _ _ _ _ _ us hl => match us, hl with | [_], _ => rfl, by decide +kernel, by decide +kernel, by decide +kernel⟩
theorem mt_is_count : Mt1 "is_count" (top 15) N_is_count ["thing", "low", "high"] [] B_is_count := ⟨fun _ _ _ _ _ _ us hl => match us, hl with | [_, _, _], _ => rfl, by decide +kernel, by decide +kernel, by decide +kernel⟩
theorem mt_need_rounds : Mt1 "need_rounds" (top 18) N_need_rounds ["many"] [] B_need_rounds := ⟨fun _ _ _ _ _ _ us hl => match us, hl with | [_], _ => rfl, by decide +kernel, by decide +kernel, by decide +kernel⟩
theorem mt_is_number : Mt1 "is_number" (top 16) N_is_number ["thing"] [] B_is_number := ⟨fun _ _ _ _ _ _ us hl => match us, hl with | [_], _ => rfl, by decide +kernel, by decide +kernel, by decide +kernel⟩
theorem mt_need_number : Mt1 "need_number" (top 17) N_need_number ["number"] [] B_need_number := ⟨fun _ _ _ _ _ _ us hl => match us, hl with | [_], _ => rfl, by decide +kernel, by decide +kernel, by decide +kernel⟩
theorem mt_taps : Mt1 "taps" (top 20) N_taps ["number", "many"] [] B_taps := ⟨fun _ _ _ _ _ _ us hl => match us, hl with | [_, _], _ => rfl, by decide +kernel, by decide +kernel, by decide +kernel⟩
theorem mt_long_of : Mt1 "long_of" (top 21) N_long_of ["number", "many"] [] B_long_of := ⟨fun _ _ _ _ _ _ us hl => match us, hl with | [_, _], _ => rfl, by decide +kernel, by decide +kernel, by decide +kernel⟩
theorem mt_order : Mt1 "order" (top 22) N_order ["numbers"] [] B_order := ⟨fun _ _ _ _ _ _ us hl => match us, hl with | [_], _ => rfl, by decide +kernel, by decide +kernel, by decide +kernel⟩
theorem mt_l_told : Mt1 "_law_told" (top 32) N_l_told ["_law_way", "_law_thing", "_law_many"] [] B_l_told := ⟨fun _ _ _ _ _ _ us hl => match us, hl with | [_, _, _], _ => rfl, by decide +kernel, by decide +kernel, by decide +kernel⟩
theorem mt_l_bits : Mt1 "_law_bits" (top 28) N_l_bits ["_law_number_here"] [] B_l_bits := ⟨fun _ _ _ _ _ _ us hl => match us, hl with | [_], _ => rfl, by decide +kernel, by decide +kernel, by decide +kernel⟩
theorem mt_l_cell : Mt1 "_law_cell" (top 24) N_l_cell ["_law_script", "_law_k"] [] B_l_cell := ⟨fun _ _ _ _ _ _ us hl => match us, hl with | [_, _], _ => rfl, by decide +kernel, by decide +kernel, by decide +kernel⟩
theorem mt_l_drawn : Mt1 "_law_drawn" (top 25) N_l_drawn ["_law_script", "_law_k", "_law_many"] [] B_l_drawn := ⟨fun _ _ _ _ _ _ us hl => match us, hl with | [_, _, _], _ => rfl, by decide +kernel, by decide +kernel, by decide +kernel⟩
theorem mt_l_number : Mt1 "_law_number" (top 26) N_l_number ["_law_script", "_law_at"] [] B_l_number := ⟨fun _ _ _ _ _ _ us hl => match us, hl with | [_, _], _ => rfl, by decide +kernel, by decide +kernel, by decide +kernel⟩
theorem mt_l_each (R : List D → M D) : Mt1 "_law_each" (top 30) N_l_each ["_law_thing"] [] (B_l_each R) := ⟨fun _ _ _ _ _ _ us hl => match us, hl with | [_], _ => rfl, by decide +kernel, by decide +kernel, rfl⟩
theorem mt_l_is_number : Mt1 "_law_is_number" (top 31) N_l_is_number ["_law_thing"] [] B_l_is_number := ⟨fun _ _ _ _ _ _ us hl => match us, hl with | [_], _ => rfl, by decide +kernel, by decide +kernel, by decide +kernel⟩
theorem mt_law_k01 : Mt1 "law" (top 33) N_law_k01 ["_law_script"] [4, 9] B_law_k01 := ⟨fun _ _ _ _ _ _ us hl => match us, hl with | [_], _ => rfl, by decide +kernel, by decide +kernel, by decide +kernel⟩
theorem bd_refused : BindOk "_law_refused" (top 29) ["_law_e"] := fun _ _ _ _ _ _ us hl => match us, hl with | [_], _ => rfl
theorem chain {T : Rt} (hm : ∀ (x : Str) (f : Addr), PySem.W.nsIn T.K mainGlobals x = some (some (.ref f)) → T.mg x = some (.ref f))
    (d_bits_of : ∃ f, DefK T.K "bits_of" (top 19) f)
    (d_is_count : ∃ f, DefK T.K "is_count" (top 15) f)
    (d_need_rounds : ∃ f, DefK T.K "need_rounds" (top 18) f)
    (d_is_number : ∃ f, DefK T.K "is_number" (top 16) f)
    (d_need_number : ∃ f, DefK T.K "need_number" (top 17) f)
    (d_taps : ∃ f, DefK T.K "taps" (top 20) f)
    (d_long_of : ∃ f, DefK T.K "long_of" (top 21) f)
    (d_order : ∃ f, DefK T.K "order" (top 22) f)
    (d_l_told : ∃ f, DefK T.K "_law_told" (top 32) f)
    (d_l_bits : ∃ f, DefK T.K "_law_bits" (top 28) f)
    (d_l_cell : ∃ f, DefK T.K "_law_cell" (top 24) f)
    (d_l_drawn : ∃ f, DefK T.K "_law_drawn" (top 25) f)
    (d_l_number : ∃ f, DefK T.K "_law_number" (top 26) f)
    (d_l_each : ∃ f, DefK T.K "_law_each" (top 30) f)
    (d_l_is_number : ∃ f, DefK T.K "_law_is_number" (top 31) f)
    (d_refused : ∃ f, DefK T.K "_law_refused" (top 29) f)
    (b_int : T.mg "int" = none)
    (b_isinstance : T.mg "isinstance" = none)
    (b_bool : T.mg "bool" = none)
    (b_tuple : T.mg "tuple" = none)
    (b_len : T.mg "len" = none)
    (b_all : T.mg "all" = none)
    (b_list : T.mg "list" = none)
    (b_sorted : T.mg "sorted" = none)
    (b_enumerate : T.mg "enumerate" = none)
    (b_range : T.mg "range" = none)
    (b_ValueError : T.mg "ValueError" = none)
    (g_DIGIT_REST : ∃ u v, T.mg "DIGIT_REST" = some u ∧ RelV v u ∧ ∀ G μ, Rp T.K G μ (.int 3) v)
    (g_ROUND_REST : ∃ u v, T.mg "ROUND_REST" = some u ∧ RelV v u ∧ ∀ G μ, Rp T.K G μ (.int 7) v)
    (g_MOST_ROUNDS : ∃ u v, T.mg "MOST_ROUNDS" = some u ∧ RelV v u ∧ ∀ G μ, Rp T.K G μ (.int 4) v)
    (g_MOST_DIGITS : ∃ u v, T.mg "MOST_DIGITS" = some u ∧ RelV v u ∧ ∀ G μ, Rp T.K G μ (.int 3) v)
    (g_MOST_DIGIT : ∃ u v, T.mg "MOST_DIGIT" = some u ∧ RelV v u ∧ ∀ G μ, Rp T.K G μ (.int 6) v)
    (x_NoCount : T.mg "NoCount" = some (.ref (T.ca .count)) ∧ XcOk T .count)
    (x_NoNumber : T.mg "NoNumber" = some (.ref (T.ca .num)) ∧ XcOk T .num)
    (xF : XcF T [.num, .book, .line, .loop, .pull, .count, .text])
    (e_TapError : T.mg "TapError" = some (.ref (T.ca .tap)) ∧ ∀ c ∈ ([.num, .book, .line, .loop, .pull, .count, .text] : List Xc), PySem.W.exmOne T.K (.ref (T.ca c)) (.ref (T.ca .tap)) = some (isX c .tap))
    (n_NoNumber : XcN T [.num, .book, .line, .loop, .pull, .count, .text] "NoNumber" .num)
    (n_NoBook : XcN T [.num, .book, .line, .loop, .pull, .count, .text] "NoBook" .book)
    (n_NoLine : XcN T [.num, .book, .line, .loop, .pull, .count, .text] "NoLine" .line)
    (n_NoLoop : XcN T [.num, .book, .line, .loop, .pull, .count, .text] "NoLoop" .loop)
    (n_NoPull : XcN T [.num, .book, .line, .loop, .pull, .count, .text] "NoPull" .pull)
    (n_NoCount : XcN T [.num, .book, .line, .loop, .pull, .count, .text] "NoCount" .count)
    (n_NoText : XcN T [.num, .book, .line, .loop, .pull, .count, .text] "NoText" .text) : NdsX T 32 (ndB B_law_k01) := by
  have xc_TapError := And.intro xF e_TapError
  have hn : ∀ ch ∈ C_refused, ∀ p ∈ ch, XcN T [.num, .book, .line, .loop, .pull, .count, .text] p.1 p.2 := fun ch hch p hp => by
    simp only [C_refused, List.mem_cons, List.not_mem_nil, or_false] at hch
    rcases hch with rfl | rfl
    · simp only [List.mem_cons, List.not_mem_nil, or_false] at hp
      rcases hp with rfl | rfl | rfl | rfl
      · exact n_NoNumber
      · exact n_NoBook
      · exact n_NoLine
      · exact n_NoLoop
    · simp only [List.mem_cons, List.not_mem_nil, or_false] at hp
      rcases hp with rfl | rfl | rfl
      · exact n_NoPull
      · exact n_NoCount
      · exact n_NoText
  have xf_refused := fx_in (N := N_refused) (chs := C_refused) (hm _) d_refused bd_refused (by decide +kernel) rfl (by decide) xF (by decide +kernel) hn (by decide)
  have f_bits_of : FnIn T 2 "bits_of" F_bits_of := fn_in (k := 1) (hm _) d_bits_of mt_bits_of (nds_of (And.intro g_DIGIT_REST (And.intro b_int (And.intro g_ROUND_REST True.intro))))
  have f_is_count : FnIn T 2 "is_count" F_is_count := fn_in (k := 1) (hm _) d_is_count mt_is_count (nds_of (And.intro b_isinstance (And.intro b_int (And.intro b_isinstance (And.intro b_bool True.intro)))))
  have f_need_rounds : FnIn T 3 "need_rounds" F_need_rounds := fn_in (k := 2) (hm _) d_need_rounds mt_need_rounds (nds_of (And.intro (f_is_count.up (by omega)) (And.intro g_MOST_ROUNDS (And.intro x_NoCount True.intro))))
  have f_is_number : FnIn T 3 "is_number" F_is_number := fn_in (k := 2) (hm _) d_is_number mt_is_number (nds_of (And.intro b_isinstance (And.intro b_tuple (And.intro b_len (And.intro g_MOST_DIGITS (And.intro b_all (And.intro (f_is_count.up (by omega)) (And.intro g_MOST_DIGIT True.intro))))))))
  have f_need_number : FnIn T 4 "need_number" F_need_number := fn_in (k := 3) (hm _) d_need_number mt_need_number (nds_of (And.intro (f_is_number.up (by omega)) (And.intro x_NoNumber True.intro)))
  have f_taps : FnIn T 5 "taps" F_taps := fn_in (k := 4) (hm _) d_taps mt_taps (nds_of (And.intro (f_need_number.up (by omega)) (And.intro (f_need_rounds.up (by omega)) (And.intro (f_bits_of.up (by omega)) True.intro))))
  have f_long_of : FnIn T 5 "long_of" F_long_of := fn_in (k := 4) (hm _) d_long_of mt_long_of (nds_of (And.intro (f_need_number.up (by omega)) (And.intro (f_need_rounds.up (by omega)) (And.intro b_len (And.intro (f_bits_of.up (by omega)) True.intro)))))
  have f_order : FnIn T 5 "order" F_order := fn_in (k := 4) (hm _) d_order mt_order (nds_of (And.intro b_isinstance (And.intro b_list (And.intro b_tuple (And.intro x_NoNumber (And.intro (f_need_number.up (by omega)) (And.intro b_sorted (And.intro b_len (And.intro (f_bits_of.up (by omega)) True.intro)))))))))
  have f_l_told : FnIn T 6 "_law_told" F_l_told := fn_in (k := 5) (hm _) d_l_told mt_l_told (nds_of (And.intro xc_TapError (And.intro ⟨xf_refused, by omega⟩ (And.intro (f_order.up (by omega)) (And.intro (f_taps.up (by omega)) (And.intro (f_long_of.up (by omega)) True.intro))))))
  have f_l_bits : FnIn T 2 "_law_bits" F_l_bits := fn_in (k := 1) (hm _) d_l_bits mt_l_bits (nds_of (And.intro b_enumerate (And.intro b_int (And.intro b_range True.intro))))
  have f_l_cell : FnIn T 2 "_law_cell" F_l_cell := fn_in (k := 1) (hm _) d_l_cell mt_l_cell (nds_of (And.intro b_len (And.intro b_len True.intro)))
  have f_l_drawn : FnIn T 3 "_law_drawn" F_l_drawn := fn_in (k := 2) (hm _) d_l_drawn mt_l_drawn (nds_of (And.intro (f_l_cell.up (by omega)) True.intro))
  have f_l_number : FnIn T 4 "_law_number" F_l_number := fn_in (k := 3) (hm _) d_l_number mt_l_number (nds_of (And.intro (f_l_drawn.up (by omega)) (And.intro b_tuple (And.intro (f_l_drawn.up (by omega)) (And.intro b_range True.intro)))))
  have r_l_each : ∀ n, FnIn T (1 + n) "_law_each" (F_l_each n) := by
    intro n
    induction n with
    | zero => exact fn_bad (hm _) d_l_each (mt_l_each fun _ => bad).bd
    | succ n ih => exact fn_in (k := 1 + n) (hm _) d_l_each (mt_l_each (F_l_each n)) (nds_of (And.intro b_isinstance (And.intro b_int (And.intro b_isinstance (And.intro b_tuple (And.intro b_list (And.intro b_range (And.intro b_len (And.intro ih True.intro)))))))))
  have f_l_each := r_l_each 30
  have f_l_is_number : FnIn T 2 "_law_is_number" F_l_is_number := fn_in (k := 1) (hm _) d_l_is_number mt_l_is_number (nds_of (And.intro b_isinstance (And.intro b_tuple (And.intro b_len (And.intro b_isinstance (And.intro b_bool (And.intro b_isinstance (And.intro b_int True.intro))))))))
  exact nds_of (And.intro (f_l_number.up (by omega)) (And.intro (f_l_each.up (by omega)) (And.intro (f_l_is_number.up (by omega)) (And.intro (f_is_number.up (by omega)) (And.intro b_isinstance (And.intro b_bool (And.intro (f_is_number.up (by omega)) (And.intro (f_l_bits.up (by omega)) (And.intro b_len (And.intro (f_l_bits.up (by omega)) (And.intro (f_l_told.up (by omega)) (And.intro b_range (And.intro (f_l_told.up (by omega)) (And.intro b_range (And.intro (f_l_told.up (by omega)) (And.intro b_range (And.intro (f_l_number.up (by omega)) (And.intro b_range (And.intro (f_l_drawn.up (by omega)) (And.intro b_list (And.intro b_len (And.intro (f_l_bits.up (by omega)) (And.intro b_len (And.intro (f_l_bits.up (by omega)) (And.intro (f_l_told.up (by omega)) (And.intro (f_l_told.up (by omega)) (And.intro b_tuple (And.intro (f_l_told.up (by omega)) (And.intro (f_l_told.up (by omega)) True.intro)))))))))))))))))))))))))))))
theorem law_fn {P : Program} {w : World} {K : PySem.W.Frag} {h : Heap} {mg : Str → Option Value} {fa : Addr} {t_DIGIT_REST : Tok} {t_ROUND_REST : Tok} {t_MOST_ROUNDS : Tok} {t_MOST_DIGITS : Tok} {t_MOST_DIGIT : Tok} {C_TapError : Addr} {C_NoNumber : Addr} {C_NoBook : Addr} {C_NoLine : Addr} {C_NoLoop : Addr} {C_NoPull : Addr} {C_NoCount : Addr} {C_NoText : Addr} (X : K.In h) (G : h.Ns mainGlobals mg) (hfa : mg "law" = some (.ref fa))
    (d_bits_of : ∃ f, DefK K "bits_of" (top 19) f)
    (d_is_count : ∃ f, DefK K "is_count" (top 15) f)
    (d_need_rounds : ∃ f, DefK K "need_rounds" (top 18) f)
    (d_is_number : ∃ f, DefK K "is_number" (top 16) f)
    (d_need_number : ∃ f, DefK K "need_number" (top 17) f)
    (d_taps : ∃ f, DefK K "taps" (top 20) f)
    (d_long_of : ∃ f, DefK K "long_of" (top 21) f)
    (d_order : ∃ f, DefK K "order" (top 22) f)
    (d_l_told : ∃ f, DefK K "_law_told" (top 32) f)
    (d_l_bits : ∃ f, DefK K "_law_bits" (top 28) f)
    (d_l_cell : ∃ f, DefK K "_law_cell" (top 24) f)
    (d_l_drawn : ∃ f, DefK K "_law_drawn" (top 25) f)
    (d_l_number : ∃ f, DefK K "_law_number" (top 26) f)
    (d_l_each : ∃ f, DefK K "_law_each" (top 30) f)
    (d_l_is_number : ∃ f, DefK K "_law_is_number" (top 31) f)
    (d_law_k01 : ∃ f, DefK K "law" (top 33) f)
    (d_refused : ∃ f, DefK K "_law_refused" (top 29) f)
    (z_int : PySem.W.nsIn K mainGlobals "int" = some none)
    (z_isinstance : PySem.W.nsIn K mainGlobals "isinstance" = some none)
    (z_bool : PySem.W.nsIn K mainGlobals "bool" = some none)
    (z_tuple : PySem.W.nsIn K mainGlobals "tuple" = some none)
    (z_len : PySem.W.nsIn K mainGlobals "len" = some none)
    (z_all : PySem.W.nsIn K mainGlobals "all" = some none)
    (z_list : PySem.W.nsIn K mainGlobals "list" = some none)
    (z_sorted : PySem.W.nsIn K mainGlobals "sorted" = some none)
    (z_enumerate : PySem.W.nsIn K mainGlobals "enumerate" = some none)
    (z_range : PySem.W.nsIn K mainGlobals "range" = some none)
    (z_ValueError : PySem.W.nsIn K mainGlobals "ValueError" = some none)
    (c_DIGIT_REST : PySem.W.nsIn K mainGlobals "DIGIT_REST" = some (some (.int 3 t_DIGIT_REST)))
    (c_ROUND_REST : PySem.W.nsIn K mainGlobals "ROUND_REST" = some (some (.int 7 t_ROUND_REST)))
    (c_MOST_ROUNDS : PySem.W.nsIn K mainGlobals "MOST_ROUNDS" = some (some (.int 4 t_MOST_ROUNDS)))
    (c_MOST_DIGITS : PySem.W.nsIn K mainGlobals "MOST_DIGITS" = some (some (.int 3 t_MOST_DIGITS)))
    (c_MOST_DIGIT : PySem.W.nsIn K mainGlobals "MOST_DIGIT" = some (some (.int 6 t_MOST_DIGIT)))
    (n_TapError : PySem.W.nsIn K mainGlobals "TapError" = some (some (.ref C_TapError)))
    (k_TapError : PySem.W.nsIn K mainGlobals "TapError" = some (some (.ref C_TapError)) → XcK K "TapError" C_TapError)
    (n_NoNumber : PySem.W.nsIn K mainGlobals "NoNumber" = some (some (.ref C_NoNumber)))
    (k_NoNumber : PySem.W.nsIn K mainGlobals "NoNumber" = some (some (.ref C_NoNumber)) → XcK K "NoNumber" C_NoNumber)
    (n_NoBook : PySem.W.nsIn K mainGlobals "NoBook" = some (some (.ref C_NoBook)))
    (k_NoBook : PySem.W.nsIn K mainGlobals "NoBook" = some (some (.ref C_NoBook)) → XcK K "NoBook" C_NoBook)
    (n_NoLine : PySem.W.nsIn K mainGlobals "NoLine" = some (some (.ref C_NoLine)))
    (k_NoLine : PySem.W.nsIn K mainGlobals "NoLine" = some (some (.ref C_NoLine)) → XcK K "NoLine" C_NoLine)
    (n_NoLoop : PySem.W.nsIn K mainGlobals "NoLoop" = some (some (.ref C_NoLoop)))
    (k_NoLoop : PySem.W.nsIn K mainGlobals "NoLoop" = some (some (.ref C_NoLoop)) → XcK K "NoLoop" C_NoLoop)
    (n_NoPull : PySem.W.nsIn K mainGlobals "NoPull" = some (some (.ref C_NoPull)))
    (k_NoPull : PySem.W.nsIn K mainGlobals "NoPull" = some (some (.ref C_NoPull)) → XcK K "NoPull" C_NoPull)
    (n_NoCount : PySem.W.nsIn K mainGlobals "NoCount" = some (some (.ref C_NoCount)))
    (k_NoCount : PySem.W.nsIn K mainGlobals "NoCount" = some (some (.ref C_NoCount)) → XcK K "NoCount" C_NoCount)
    (n_NoText : PySem.W.nsIn K mainGlobals "NoText" = some (some (.ref C_NoText)))
    (k_NoText : PySem.W.nsIn K mainGlobals "NoText" = some (some (.ref C_NoText)) → XcK K "NoText" C_NoText)
    (xg : XcG K)
    (a_TapError : XcA K C_TapError)
    (a_NoNumber : XcA K C_NoNumber)
    (a_NoBook : XcA K C_NoBook)
    (a_NoLine : XcA K C_NoLine)
    (a_NoLoop : XcA K C_NoLoop)
    (a_NoPull : XcA K C_NoPull)
    (a_NoCount : XcA K C_NoCount)
    (a_NoText : XcA K C_NoText)
    (s_NoNumber_TapError : PySem.W.subIn K (.ref C_NoNumber) (.ref C_TapError) = some true)
    (s_NoNumber_NoNumber : PySem.W.subIn K (.ref C_NoNumber) (.ref C_NoNumber) = some true)
    (s_NoNumber_NoBook : PySem.W.subIn K (.ref C_NoNumber) (.ref C_NoBook) = some false)
    (s_NoNumber_NoLine : PySem.W.subIn K (.ref C_NoNumber) (.ref C_NoLine) = some false)
    (s_NoNumber_NoLoop : PySem.W.subIn K (.ref C_NoNumber) (.ref C_NoLoop) = some false)
    (s_NoNumber_NoPull : PySem.W.subIn K (.ref C_NoNumber) (.ref C_NoPull) = some false)
    (s_NoNumber_NoCount : PySem.W.subIn K (.ref C_NoNumber) (.ref C_NoCount) = some false)
    (s_NoNumber_NoText : PySem.W.subIn K (.ref C_NoNumber) (.ref C_NoText) = some false)
    (s_NoBook_TapError : PySem.W.subIn K (.ref C_NoBook) (.ref C_TapError) = some true)
    (s_NoBook_NoNumber : PySem.W.subIn K (.ref C_NoBook) (.ref C_NoNumber) = some false)
    (s_NoBook_NoBook : PySem.W.subIn K (.ref C_NoBook) (.ref C_NoBook) = some true)
    (s_NoBook_NoLine : PySem.W.subIn K (.ref C_NoBook) (.ref C_NoLine) = some false)
    (s_NoBook_NoLoop : PySem.W.subIn K (.ref C_NoBook) (.ref C_NoLoop) = some false)
    (s_NoBook_NoPull : PySem.W.subIn K (.ref C_NoBook) (.ref C_NoPull) = some false)
    (s_NoBook_NoCount : PySem.W.subIn K (.ref C_NoBook) (.ref C_NoCount) = some false)
    (s_NoBook_NoText : PySem.W.subIn K (.ref C_NoBook) (.ref C_NoText) = some false)
    (s_NoLine_TapError : PySem.W.subIn K (.ref C_NoLine) (.ref C_TapError) = some true)
    (s_NoLine_NoNumber : PySem.W.subIn K (.ref C_NoLine) (.ref C_NoNumber) = some false)
    (s_NoLine_NoBook : PySem.W.subIn K (.ref C_NoLine) (.ref C_NoBook) = some false)
    (s_NoLine_NoLine : PySem.W.subIn K (.ref C_NoLine) (.ref C_NoLine) = some true)
    (s_NoLine_NoLoop : PySem.W.subIn K (.ref C_NoLine) (.ref C_NoLoop) = some false)
    (s_NoLine_NoPull : PySem.W.subIn K (.ref C_NoLine) (.ref C_NoPull) = some false)
    (s_NoLine_NoCount : PySem.W.subIn K (.ref C_NoLine) (.ref C_NoCount) = some false)
    (s_NoLine_NoText : PySem.W.subIn K (.ref C_NoLine) (.ref C_NoText) = some false)
    (s_NoLoop_TapError : PySem.W.subIn K (.ref C_NoLoop) (.ref C_TapError) = some true)
    (s_NoLoop_NoNumber : PySem.W.subIn K (.ref C_NoLoop) (.ref C_NoNumber) = some false)
    (s_NoLoop_NoBook : PySem.W.subIn K (.ref C_NoLoop) (.ref C_NoBook) = some false)
    (s_NoLoop_NoLine : PySem.W.subIn K (.ref C_NoLoop) (.ref C_NoLine) = some false)
    (s_NoLoop_NoLoop : PySem.W.subIn K (.ref C_NoLoop) (.ref C_NoLoop) = some true)
    (s_NoLoop_NoPull : PySem.W.subIn K (.ref C_NoLoop) (.ref C_NoPull) = some false)
    (s_NoLoop_NoCount : PySem.W.subIn K (.ref C_NoLoop) (.ref C_NoCount) = some false)
    (s_NoLoop_NoText : PySem.W.subIn K (.ref C_NoLoop) (.ref C_NoText) = some false)
    (s_NoPull_TapError : PySem.W.subIn K (.ref C_NoPull) (.ref C_TapError) = some true)
    (s_NoPull_NoNumber : PySem.W.subIn K (.ref C_NoPull) (.ref C_NoNumber) = some false)
    (s_NoPull_NoBook : PySem.W.subIn K (.ref C_NoPull) (.ref C_NoBook) = some false)
    (s_NoPull_NoLine : PySem.W.subIn K (.ref C_NoPull) (.ref C_NoLine) = some false)
    (s_NoPull_NoLoop : PySem.W.subIn K (.ref C_NoPull) (.ref C_NoLoop) = some false)
    (s_NoPull_NoPull : PySem.W.subIn K (.ref C_NoPull) (.ref C_NoPull) = some true)
    (s_NoPull_NoCount : PySem.W.subIn K (.ref C_NoPull) (.ref C_NoCount) = some false)
    (s_NoPull_NoText : PySem.W.subIn K (.ref C_NoPull) (.ref C_NoText) = some false)
    (s_NoCount_TapError : PySem.W.subIn K (.ref C_NoCount) (.ref C_TapError) = some true)
    (s_NoCount_NoNumber : PySem.W.subIn K (.ref C_NoCount) (.ref C_NoNumber) = some false)
    (s_NoCount_NoBook : PySem.W.subIn K (.ref C_NoCount) (.ref C_NoBook) = some false)
    (s_NoCount_NoLine : PySem.W.subIn K (.ref C_NoCount) (.ref C_NoLine) = some false)
    (s_NoCount_NoLoop : PySem.W.subIn K (.ref C_NoCount) (.ref C_NoLoop) = some false)
    (s_NoCount_NoPull : PySem.W.subIn K (.ref C_NoCount) (.ref C_NoPull) = some false)
    (s_NoCount_NoCount : PySem.W.subIn K (.ref C_NoCount) (.ref C_NoCount) = some true)
    (s_NoCount_NoText : PySem.W.subIn K (.ref C_NoCount) (.ref C_NoText) = some false)
    (s_NoText_TapError : PySem.W.subIn K (.ref C_NoText) (.ref C_TapError) = some true)
    (s_NoText_NoNumber : PySem.W.subIn K (.ref C_NoText) (.ref C_NoNumber) = some false)
    (s_NoText_NoBook : PySem.W.subIn K (.ref C_NoText) (.ref C_NoBook) = some false)
    (s_NoText_NoLine : PySem.W.subIn K (.ref C_NoText) (.ref C_NoLine) = some false)
    (s_NoText_NoLoop : PySem.W.subIn K (.ref C_NoText) (.ref C_NoLoop) = some false)
    (s_NoText_NoPull : PySem.W.subIn K (.ref C_NoText) (.ref C_NoPull) = some false)
    (s_NoText_NoCount : PySem.W.subIn K (.ref C_NoText) (.ref C_NoCount) = some false)
    (s_NoText_NoText : PySem.W.subIn K (.ref C_NoText) (.ref C_NoText) = some true)
    (hF : ∀ ns : List Int, ns.length ≤ 63 → ∃ s, F_law_k01 [.scr ns] [] = .ok (.bl true) s) :
    ∃ fd : FuncData, (∀ (s : Shared) (u : Value), BindsTo s fd ⟨[u], []⟩ [("_law_script", u)]) ∧ ∀ base : Heap, K.In base → base.Ns mainGlobals mg → FnOk P w K mg base (L2.CX P w) 33 fa fd ["_law_script"] (spLaw K) := by
  obtain ⟨f0, d0⟩ := d_law_k01
  have e := hfa.symm.trans (PySem.W.mg_of X G d0.ns)
  cases e
  obtain ⟨oc, od, kV, doc, pm, an, cdv, ct, osl, l, c⟩ := d0.ex
  refine ⟨_, fun s u => .of_eq ((mt_law_k01).bd kV doc pm an cdv ct [u] rfl), fun base _ _ => ?_⟩
  have xF : XcF (⟨P, w, K, mg, base, caOf C_TapError C_NoNumber C_NoBook C_NoLine C_NoLoop C_NoPull C_NoCount C_NoText 0, fun _ => 0⟩ : Rt) [.num, .book, .line, .loop, .pull, .count, .text] := by
    refine ⟨fun c hc => ?_, fun c hc => ?_, PySem.W.mg_none_of X G z_isinstance, PySem.W.mg_none_of X G z_ValueError⟩
    · simp only [List.mem_cons, List.not_mem_nil, or_false] at hc
      rcases hc with rfl | rfl | rfl | rfl | rfl | rfl | rfl
      · exact exc_of (k_NoNumber n_NoNumber) a_NoNumber xg
      · exact exc_of (k_NoBook n_NoBook) a_NoBook xg
      · exact exc_of (k_NoLine n_NoLine) a_NoLine xg
      · exact exc_of (k_NoLoop n_NoLoop) a_NoLoop xg
      · exact exc_of (k_NoPull n_NoPull) a_NoPull xg
      · exact exc_of (k_NoCount n_NoCount) a_NoCount xg
      · exact exc_of (k_NoText n_NoText) a_NoText xg
    · simp only [List.mem_cons, List.not_mem_nil, or_false] at hc
      rcases hc with rfl | rfl | rfl | rfl | rfl | rfl | rfl
      · exact kit_ve a_NoNumber.ve
      · exact kit_ve a_NoBook.ve
      · exact kit_ve a_NoLine.ve
      · exact kit_ve a_NoLoop.ve
      · exact kit_ve a_NoPull.ve
      · exact kit_ve a_NoCount.ve
      · exact kit_ve a_NoText.ve
  have e_TapError : ∀ c ∈ ([.num, .book, .line, .loop, .pull, .count, .text] : List Xc), PySem.W.exmOne K (.ref (caOf C_TapError C_NoNumber C_NoBook C_NoLine C_NoLoop C_NoPull C_NoCount C_NoText 0 c)) (.ref C_TapError) = some (isX c .tap) := fun c hc => by
    simp only [List.mem_cons, List.not_mem_nil, or_false] at hc
    rcases hc with rfl | rfl | rfl | rfl | rfl | rfl | rfl
    · exact PySem.W.exm_ref (k_TapError n_TapError).sb a_TapError.hd (k_TapError n_TapError).ty s_NoNumber_TapError
    · exact PySem.W.exm_ref (k_TapError n_TapError).sb a_TapError.hd (k_TapError n_TapError).ty s_NoBook_TapError
    · exact PySem.W.exm_ref (k_TapError n_TapError).sb a_TapError.hd (k_TapError n_TapError).ty s_NoLine_TapError
    · exact PySem.W.exm_ref (k_TapError n_TapError).sb a_TapError.hd (k_TapError n_TapError).ty s_NoLoop_TapError
    · exact PySem.W.exm_ref (k_TapError n_TapError).sb a_TapError.hd (k_TapError n_TapError).ty s_NoPull_TapError
    · exact PySem.W.exm_ref (k_TapError n_TapError).sb a_TapError.hd (k_TapError n_TapError).ty s_NoCount_TapError
    · exact PySem.W.exm_ref (k_TapError n_TapError).sb a_TapError.hd (k_TapError n_TapError).ty s_NoText_TapError
  have q_NoNumber : ∀ c ∈ ([.num, .book, .line, .loop, .pull, .count, .text] : List Xc), PySem.W.kitOne K (.ref (caOf C_TapError C_NoNumber C_NoBook C_NoLine C_NoLoop C_NoPull C_NoCount C_NoText 0 c)) (.ref C_NoNumber) = some (isX c .num) := fun c hc => by
    simp only [List.mem_cons, List.not_mem_nil, or_false] at hc
    rcases hc with rfl | rfl | rfl | rfl | rfl | rfl | rfl
    · exact kit_ref a_NoNumber.hd (k_NoNumber n_NoNumber).ty s_NoNumber_NoNumber (fun _ => rfl)
    · exact kit_ref a_NoNumber.hd (k_NoNumber n_NoNumber).ty s_NoBook_NoNumber (fun e => by have z1 := s_NoNumber_NoNumber; have z2 := s_NoBook_NoNumber; rw [show C_NoBook = C_NoNumber from e, z1] at z2; exact absurd z2 (by simp))
    · exact kit_ref a_NoNumber.hd (k_NoNumber n_NoNumber).ty s_NoLine_NoNumber (fun e => by have z1 := s_NoNumber_NoNumber; have z2 := s_NoLine_NoNumber; rw [show C_NoLine = C_NoNumber from e, z1] at z2; exact absurd z2 (by simp))
    · exact kit_ref a_NoNumber.hd (k_NoNumber n_NoNumber).ty s_NoLoop_NoNumber (fun e => by have z1 := s_NoNumber_NoNumber; have z2 := s_NoLoop_NoNumber; rw [show C_NoLoop = C_NoNumber from e, z1] at z2; exact absurd z2 (by simp))
    · exact kit_ref a_NoNumber.hd (k_NoNumber n_NoNumber).ty s_NoPull_NoNumber (fun e => by have z1 := s_NoNumber_NoNumber; have z2 := s_NoPull_NoNumber; rw [show C_NoPull = C_NoNumber from e, z1] at z2; exact absurd z2 (by simp))
    · exact kit_ref a_NoNumber.hd (k_NoNumber n_NoNumber).ty s_NoCount_NoNumber (fun e => by have z1 := s_NoNumber_NoNumber; have z2 := s_NoCount_NoNumber; rw [show C_NoCount = C_NoNumber from e, z1] at z2; exact absurd z2 (by simp))
    · exact kit_ref a_NoNumber.hd (k_NoNumber n_NoNumber).ty s_NoText_NoNumber (fun e => by have z1 := s_NoNumber_NoNumber; have z2 := s_NoText_NoNumber; rw [show C_NoText = C_NoNumber from e, z1] at z2; exact absurd z2 (by simp))
  have q_NoBook : ∀ c ∈ ([.num, .book, .line, .loop, .pull, .count, .text] : List Xc), PySem.W.kitOne K (.ref (caOf C_TapError C_NoNumber C_NoBook C_NoLine C_NoLoop C_NoPull C_NoCount C_NoText 0 c)) (.ref C_NoBook) = some (isX c .book) := fun c hc => by
    simp only [List.mem_cons, List.not_mem_nil, or_false] at hc
    rcases hc with rfl | rfl | rfl | rfl | rfl | rfl | rfl
    · exact kit_ref a_NoBook.hd (k_NoBook n_NoBook).ty s_NoNumber_NoBook (fun e => by have z1 := s_NoBook_NoBook; have z2 := s_NoNumber_NoBook; rw [show C_NoNumber = C_NoBook from e, z1] at z2; exact absurd z2 (by simp))
    · exact kit_ref a_NoBook.hd (k_NoBook n_NoBook).ty s_NoBook_NoBook (fun _ => rfl)
    · exact kit_ref a_NoBook.hd (k_NoBook n_NoBook).ty s_NoLine_NoBook (fun e => by have z1 := s_NoBook_NoBook; have z2 := s_NoLine_NoBook; rw [show C_NoLine = C_NoBook from e, z1] at z2; exact absurd z2 (by simp))
    · exact kit_ref a_NoBook.hd (k_NoBook n_NoBook).ty s_NoLoop_NoBook (fun e => by have z1 := s_NoBook_NoBook; have z2 := s_NoLoop_NoBook; rw [show C_NoLoop = C_NoBook from e, z1] at z2; exact absurd z2 (by simp))
    · exact kit_ref a_NoBook.hd (k_NoBook n_NoBook).ty s_NoPull_NoBook (fun e => by have z1 := s_NoBook_NoBook; have z2 := s_NoPull_NoBook; rw [show C_NoPull = C_NoBook from e, z1] at z2; exact absurd z2 (by simp))
    · exact kit_ref a_NoBook.hd (k_NoBook n_NoBook).ty s_NoCount_NoBook (fun e => by have z1 := s_NoBook_NoBook; have z2 := s_NoCount_NoBook; rw [show C_NoCount = C_NoBook from e, z1] at z2; exact absurd z2 (by simp))
    · exact kit_ref a_NoBook.hd (k_NoBook n_NoBook).ty s_NoText_NoBook (fun e => by have z1 := s_NoBook_NoBook; have z2 := s_NoText_NoBook; rw [show C_NoText = C_NoBook from e, z1] at z2; exact absurd z2 (by simp))
  have q_NoLine : ∀ c ∈ ([.num, .book, .line, .loop, .pull, .count, .text] : List Xc), PySem.W.kitOne K (.ref (caOf C_TapError C_NoNumber C_NoBook C_NoLine C_NoLoop C_NoPull C_NoCount C_NoText 0 c)) (.ref C_NoLine) = some (isX c .line) := fun c hc => by
    simp only [List.mem_cons, List.not_mem_nil, or_false] at hc
    rcases hc with rfl | rfl | rfl | rfl | rfl | rfl | rfl
    · exact kit_ref a_NoLine.hd (k_NoLine n_NoLine).ty s_NoNumber_NoLine (fun e => by have z1 := s_NoLine_NoLine; have z2 := s_NoNumber_NoLine; rw [show C_NoNumber = C_NoLine from e, z1] at z2; exact absurd z2 (by simp))
    · exact kit_ref a_NoLine.hd (k_NoLine n_NoLine).ty s_NoBook_NoLine (fun e => by have z1 := s_NoLine_NoLine; have z2 := s_NoBook_NoLine; rw [show C_NoBook = C_NoLine from e, z1] at z2; exact absurd z2 (by simp))
    · exact kit_ref a_NoLine.hd (k_NoLine n_NoLine).ty s_NoLine_NoLine (fun _ => rfl)
    · exact kit_ref a_NoLine.hd (k_NoLine n_NoLine).ty s_NoLoop_NoLine (fun e => by have z1 := s_NoLine_NoLine; have z2 := s_NoLoop_NoLine; rw [show C_NoLoop = C_NoLine from e, z1] at z2; exact absurd z2 (by simp))
    · exact kit_ref a_NoLine.hd (k_NoLine n_NoLine).ty s_NoPull_NoLine (fun e => by have z1 := s_NoLine_NoLine; have z2 := s_NoPull_NoLine; rw [show C_NoPull = C_NoLine from e, z1] at z2; exact absurd z2 (by simp))
    · exact kit_ref a_NoLine.hd (k_NoLine n_NoLine).ty s_NoCount_NoLine (fun e => by have z1 := s_NoLine_NoLine; have z2 := s_NoCount_NoLine; rw [show C_NoCount = C_NoLine from e, z1] at z2; exact absurd z2 (by simp))
    · exact kit_ref a_NoLine.hd (k_NoLine n_NoLine).ty s_NoText_NoLine (fun e => by have z1 := s_NoLine_NoLine; have z2 := s_NoText_NoLine; rw [show C_NoText = C_NoLine from e, z1] at z2; exact absurd z2 (by simp))
  have q_NoLoop : ∀ c ∈ ([.num, .book, .line, .loop, .pull, .count, .text] : List Xc), PySem.W.kitOne K (.ref (caOf C_TapError C_NoNumber C_NoBook C_NoLine C_NoLoop C_NoPull C_NoCount C_NoText 0 c)) (.ref C_NoLoop) = some (isX c .loop) := fun c hc => by
    simp only [List.mem_cons, List.not_mem_nil, or_false] at hc
    rcases hc with rfl | rfl | rfl | rfl | rfl | rfl | rfl
    · exact kit_ref a_NoLoop.hd (k_NoLoop n_NoLoop).ty s_NoNumber_NoLoop (fun e => by have z1 := s_NoLoop_NoLoop; have z2 := s_NoNumber_NoLoop; rw [show C_NoNumber = C_NoLoop from e, z1] at z2; exact absurd z2 (by simp))
    · exact kit_ref a_NoLoop.hd (k_NoLoop n_NoLoop).ty s_NoBook_NoLoop (fun e => by have z1 := s_NoLoop_NoLoop; have z2 := s_NoBook_NoLoop; rw [show C_NoBook = C_NoLoop from e, z1] at z2; exact absurd z2 (by simp))
    · exact kit_ref a_NoLoop.hd (k_NoLoop n_NoLoop).ty s_NoLine_NoLoop (fun e => by have z1 := s_NoLoop_NoLoop; have z2 := s_NoLine_NoLoop; rw [show C_NoLine = C_NoLoop from e, z1] at z2; exact absurd z2 (by simp))
    · exact kit_ref a_NoLoop.hd (k_NoLoop n_NoLoop).ty s_NoLoop_NoLoop (fun _ => rfl)
    · exact kit_ref a_NoLoop.hd (k_NoLoop n_NoLoop).ty s_NoPull_NoLoop (fun e => by have z1 := s_NoLoop_NoLoop; have z2 := s_NoPull_NoLoop; rw [show C_NoPull = C_NoLoop from e, z1] at z2; exact absurd z2 (by simp))
    · exact kit_ref a_NoLoop.hd (k_NoLoop n_NoLoop).ty s_NoCount_NoLoop (fun e => by have z1 := s_NoLoop_NoLoop; have z2 := s_NoCount_NoLoop; rw [show C_NoCount = C_NoLoop from e, z1] at z2; exact absurd z2 (by simp))
    · exact kit_ref a_NoLoop.hd (k_NoLoop n_NoLoop).ty s_NoText_NoLoop (fun e => by have z1 := s_NoLoop_NoLoop; have z2 := s_NoText_NoLoop; rw [show C_NoText = C_NoLoop from e, z1] at z2; exact absurd z2 (by simp))
  have q_NoPull : ∀ c ∈ ([.num, .book, .line, .loop, .pull, .count, .text] : List Xc), PySem.W.kitOne K (.ref (caOf C_TapError C_NoNumber C_NoBook C_NoLine C_NoLoop C_NoPull C_NoCount C_NoText 0 c)) (.ref C_NoPull) = some (isX c .pull) := fun c hc => by
    simp only [List.mem_cons, List.not_mem_nil, or_false] at hc
    rcases hc with rfl | rfl | rfl | rfl | rfl | rfl | rfl
    · exact kit_ref a_NoPull.hd (k_NoPull n_NoPull).ty s_NoNumber_NoPull (fun e => by have z1 := s_NoPull_NoPull; have z2 := s_NoNumber_NoPull; rw [show C_NoNumber = C_NoPull from e, z1] at z2; exact absurd z2 (by simp))
    · exact kit_ref a_NoPull.hd (k_NoPull n_NoPull).ty s_NoBook_NoPull (fun e => by have z1 := s_NoPull_NoPull; have z2 := s_NoBook_NoPull; rw [show C_NoBook = C_NoPull from e, z1] at z2; exact absurd z2 (by simp))
    · exact kit_ref a_NoPull.hd (k_NoPull n_NoPull).ty s_NoLine_NoPull (fun e => by have z1 := s_NoPull_NoPull; have z2 := s_NoLine_NoPull; rw [show C_NoLine = C_NoPull from e, z1] at z2; exact absurd z2 (by simp))
    · exact kit_ref a_NoPull.hd (k_NoPull n_NoPull).ty s_NoLoop_NoPull (fun e => by have z1 := s_NoPull_NoPull; have z2 := s_NoLoop_NoPull; rw [show C_NoLoop = C_NoPull from e, z1] at z2; exact absurd z2 (by simp))
    · exact kit_ref a_NoPull.hd (k_NoPull n_NoPull).ty s_NoPull_NoPull (fun _ => rfl)
    · exact kit_ref a_NoPull.hd (k_NoPull n_NoPull).ty s_NoCount_NoPull (fun e => by have z1 := s_NoPull_NoPull; have z2 := s_NoCount_NoPull; rw [show C_NoCount = C_NoPull from e, z1] at z2; exact absurd z2 (by simp))
    · exact kit_ref a_NoPull.hd (k_NoPull n_NoPull).ty s_NoText_NoPull (fun e => by have z1 := s_NoPull_NoPull; have z2 := s_NoText_NoPull; rw [show C_NoText = C_NoPull from e, z1] at z2; exact absurd z2 (by simp))
  have q_NoCount : ∀ c ∈ ([.num, .book, .line, .loop, .pull, .count, .text] : List Xc), PySem.W.kitOne K (.ref (caOf C_TapError C_NoNumber C_NoBook C_NoLine C_NoLoop C_NoPull C_NoCount C_NoText 0 c)) (.ref C_NoCount) = some (isX c .count) := fun c hc => by
    simp only [List.mem_cons, List.not_mem_nil, or_false] at hc
    rcases hc with rfl | rfl | rfl | rfl | rfl | rfl | rfl
    · exact kit_ref a_NoCount.hd (k_NoCount n_NoCount).ty s_NoNumber_NoCount (fun e => by have z1 := s_NoCount_NoCount; have z2 := s_NoNumber_NoCount; rw [show C_NoNumber = C_NoCount from e, z1] at z2; exact absurd z2 (by simp))
    · exact kit_ref a_NoCount.hd (k_NoCount n_NoCount).ty s_NoBook_NoCount (fun e => by have z1 := s_NoCount_NoCount; have z2 := s_NoBook_NoCount; rw [show C_NoBook = C_NoCount from e, z1] at z2; exact absurd z2 (by simp))
    · exact kit_ref a_NoCount.hd (k_NoCount n_NoCount).ty s_NoLine_NoCount (fun e => by have z1 := s_NoCount_NoCount; have z2 := s_NoLine_NoCount; rw [show C_NoLine = C_NoCount from e, z1] at z2; exact absurd z2 (by simp))
    · exact kit_ref a_NoCount.hd (k_NoCount n_NoCount).ty s_NoLoop_NoCount (fun e => by have z1 := s_NoCount_NoCount; have z2 := s_NoLoop_NoCount; rw [show C_NoLoop = C_NoCount from e, z1] at z2; exact absurd z2 (by simp))
    · exact kit_ref a_NoCount.hd (k_NoCount n_NoCount).ty s_NoPull_NoCount (fun e => by have z1 := s_NoCount_NoCount; have z2 := s_NoPull_NoCount; rw [show C_NoPull = C_NoCount from e, z1] at z2; exact absurd z2 (by simp))
    · exact kit_ref a_NoCount.hd (k_NoCount n_NoCount).ty s_NoCount_NoCount (fun _ => rfl)
    · exact kit_ref a_NoCount.hd (k_NoCount n_NoCount).ty s_NoText_NoCount (fun e => by have z1 := s_NoCount_NoCount; have z2 := s_NoText_NoCount; rw [show C_NoText = C_NoCount from e, z1] at z2; exact absurd z2 (by simp))
  have q_NoText : ∀ c ∈ ([.num, .book, .line, .loop, .pull, .count, .text] : List Xc), PySem.W.kitOne K (.ref (caOf C_TapError C_NoNumber C_NoBook C_NoLine C_NoLoop C_NoPull C_NoCount C_NoText 0 c)) (.ref C_NoText) = some (isX c .text) := fun c hc => by
    simp only [List.mem_cons, List.not_mem_nil, or_false] at hc
    rcases hc with rfl | rfl | rfl | rfl | rfl | rfl | rfl
    · exact kit_ref a_NoText.hd (k_NoText n_NoText).ty s_NoNumber_NoText (fun e => by have z1 := s_NoText_NoText; have z2 := s_NoNumber_NoText; rw [show C_NoNumber = C_NoText from e, z1] at z2; exact absurd z2 (by simp))
    · exact kit_ref a_NoText.hd (k_NoText n_NoText).ty s_NoBook_NoText (fun e => by have z1 := s_NoText_NoText; have z2 := s_NoBook_NoText; rw [show C_NoBook = C_NoText from e, z1] at z2; exact absurd z2 (by simp))
    · exact kit_ref a_NoText.hd (k_NoText n_NoText).ty s_NoLine_NoText (fun e => by have z1 := s_NoText_NoText; have z2 := s_NoLine_NoText; rw [show C_NoLine = C_NoText from e, z1] at z2; exact absurd z2 (by simp))
    · exact kit_ref a_NoText.hd (k_NoText n_NoText).ty s_NoLoop_NoText (fun e => by have z1 := s_NoText_NoText; have z2 := s_NoLoop_NoText; rw [show C_NoLoop = C_NoText from e, z1] at z2; exact absurd z2 (by simp))
    · exact kit_ref a_NoText.hd (k_NoText n_NoText).ty s_NoPull_NoText (fun e => by have z1 := s_NoText_NoText; have z2 := s_NoPull_NoText; rw [show C_NoPull = C_NoText from e, z1] at z2; exact absurd z2 (by simp))
    · exact kit_ref a_NoText.hd (k_NoText n_NoText).ty s_NoCount_NoText (fun e => by have z1 := s_NoText_NoText; have z2 := s_NoCount_NoText; rw [show C_NoCount = C_NoText from e, z1] at z2; exact absurd z2 (by simp))
    · exact kit_ref a_NoText.hd (k_NoText n_NoText).ty s_NoText_NoText (fun _ => rfl)
  have H := chain (T := ⟨P, w, K, mg, base, caOf C_TapError C_NoNumber C_NoBook C_NoLine C_NoLoop C_NoPull C_NoCount C_NoText 0, fun _ => 0⟩) (fun x f e => PySem.W.mg_of X G e) d_bits_of d_is_count d_need_rounds d_is_number d_need_number d_taps d_long_of d_order d_l_told d_l_bits d_l_cell d_l_drawn d_l_number d_l_each d_l_is_number d_refused (PySem.W.mg_none_of X G z_int) (PySem.W.mg_none_of X G z_isinstance) (PySem.W.mg_none_of X G z_bool) (PySem.W.mg_none_of X G z_tuple) (PySem.W.mg_none_of X G z_len) (PySem.W.mg_none_of X G z_all) (PySem.W.mg_none_of X G z_list) (PySem.W.mg_none_of X G z_sorted) (PySem.W.mg_none_of X G z_enumerate) (PySem.W.mg_none_of X G z_range) (PySem.W.mg_none_of X G z_ValueError) (gl_int X G c_DIGIT_REST) (gl_int X G c_ROUND_REST) (gl_int X G c_MOST_ROUNDS) (gl_int X G c_MOST_DIGITS) (gl_int X G c_MOST_DIGIT) ⟨PySem.W.mg_of X G n_NoCount, XcK.ok (c := .count) (k_NoCount n_NoCount)⟩ ⟨PySem.W.mg_of X G n_NoNumber, XcK.ok (c := .num) (k_NoNumber n_NoNumber)⟩ xF ⟨PySem.W.mg_of X G n_TapError, e_TapError⟩ ⟨PySem.W.mg_of X G n_NoNumber, q_NoNumber⟩ ⟨PySem.W.mg_of X G n_NoBook, q_NoBook⟩ ⟨PySem.W.mg_of X G n_NoLine, q_NoLine⟩ ⟨PySem.W.mg_of X G n_NoLoop, q_NoLoop⟩ ⟨PySem.W.mg_of X G n_NoPull, q_NoPull⟩ ⟨PySem.W.mg_of X G n_NoCount, q_NoCount⟩ ⟨PySem.W.mg_of X G n_NoText, q_NoText⟩
  exact law_of hF (def_ok (T := ⟨P, w, K, mg, base, caOf C_TapError C_NoNumber C_NoBook C_NoLine C_NoLoop C_NoPull C_NoCount C_NoText 0, fun _ => 0⟩) l c (mt_law_k01).sc (mt_law_k01).hmu (mt_law_k01).tx H)
end BX

set_option Elab.async false
set_option linter.all false
set_option maxRecDepth 100000
set_option maxHeartbeats 0
open PySem PySem.W PyProof.Rows
theorem PySem.Challenge.cw_boxtaps_k01_numbers_holds : PySem.Challenge.rw_boxtaps_k01_numbers.Holds := by
  w_on; o_law; k_head; (case hw => w_witness2)
  k_fill
  refine BX.walk (l := PySem.Challenge.rw_boxtaps_k01_numbers) (x := "_law_script") 33 rfl rfl ⟨rfl, by decide, by decide⟩ (fun w h Y => PySem.W.kIn_of Y) ?F
  case F =>
    intro w mg fa h KX G hmg
    refine' BX.law_fn KX G hmg ?d_bits_of ?d_is_count ?d_need_rounds ?d_is_number ?d_need_number ?d_taps ?d_long_of ?d_order ?d_l_told ?d_l_bits ?d_l_cell ?d_l_drawn ?d_l_number ?d_l_each ?d_l_is_number ?d_law_k01 ?d_refused ?z_int ?z_isinstance ?z_bool ?z_tuple ?z_len ?z_all ?z_list ?z_sorted ?z_enumerate ?z_range ?z_ValueError ?c_DIGIT_REST ?c_ROUND_REST ?c_MOST_ROUNDS ?c_MOST_DIGITS ?c_MOST_DIGIT ?n_TapError ?k_TapError ?n_NoNumber ?k_NoNumber ?n_NoBook ?k_NoBook ?n_NoLine ?k_NoLine ?n_NoLoop ?k_NoLoop ?n_NoPull ?k_NoPull ?n_NoCount ?k_NoCount ?n_NoText ?k_NoText ?xg ?a_TapError ?a_NoNumber ?a_NoBook ?a_NoLine ?a_NoLoop ?a_NoPull ?a_NoCount ?a_NoText ?s_NoNumber_TapError ?s_NoNumber_NoNumber ?s_NoNumber_NoBook ?s_NoNumber_NoLine ?s_NoNumber_NoLoop ?s_NoNumber_NoPull ?s_NoNumber_NoCount ?s_NoNumber_NoText ?s_NoBook_TapError ?s_NoBook_NoNumber ?s_NoBook_NoBook ?s_NoBook_NoLine ?s_NoBook_NoLoop ?s_NoBook_NoPull ?s_NoBook_NoCount ?s_NoBook_NoText ?s_NoLine_TapError ?s_NoLine_NoNumber ?s_NoLine_NoBook ?s_NoLine_NoLine ?s_NoLine_NoLoop ?s_NoLine_NoPull ?s_NoLine_NoCount ?s_NoLine_NoText ?s_NoLoop_TapError ?s_NoLoop_NoNumber ?s_NoLoop_NoBook ?s_NoLoop_NoLine ?s_NoLoop_NoLoop ?s_NoLoop_NoPull ?s_NoLoop_NoCount ?s_NoLoop_NoText ?s_NoPull_TapError ?s_NoPull_NoNumber ?s_NoPull_NoBook ?s_NoPull_NoLine ?s_NoPull_NoLoop ?s_NoPull_NoPull ?s_NoPull_NoCount ?s_NoPull_NoText ?s_NoCount_TapError ?s_NoCount_NoNumber ?s_NoCount_NoBook ?s_NoCount_NoLine ?s_NoCount_NoLoop ?s_NoCount_NoPull ?s_NoCount_NoCount ?s_NoCount_NoText ?s_NoText_TapError ?s_NoText_NoNumber ?s_NoText_NoBook ?s_NoText_NoLine ?s_NoText_NoLoop ?s_NoText_NoPull ?s_NoText_NoCount ?s_NoText_NoText BX.Q.plain
    (case d_bits_of => refine' ⟨_, BX.defk ?a ?l ?c ?k⟩; (case a => k_is); (case l => k_is); (case c => k_is); (case k => k_is))
    (case d_is_count => refine' ⟨_, BX.defk ?a ?l ?c ?k⟩; (case a => k_is); (case l => k_is); (case c => k_is); (case k => k_is))
    (case d_need_rounds => refine' ⟨_, BX.defk ?a ?l ?c ?k⟩; (case a => k_is); (case l => k_is); (case c => k_is); (case k => k_is))
    (case d_is_number => refine' ⟨_, BX.defk ?a ?l ?c ?k⟩; (case a => k_is); (case l => k_is); (case c => k_is); (case k => k_is))
    (case d_need_number => refine' ⟨_, BX.defk ?a ?l ?c ?k⟩; (case a => k_is); (case l => k_is); (case c => k_is); (case k => k_is))
    (case d_taps => refine' ⟨_, BX.defk ?a ?l ?c ?k⟩; (case a => k_is); (case l => k_is); (case c => k_is); (case k => k_is))
    (case d_long_of => refine' ⟨_, BX.defk ?a ?l ?c ?k⟩; (case a => k_is); (case l => k_is); (case c => k_is); (case k => k_is))
    (case d_order => refine' ⟨_, BX.defk ?a ?l ?c ?k⟩; (case a => k_is); (case l => k_is); (case c => k_is); (case k => k_is))
    (case d_l_told => refine' ⟨_, BX.defk ?a ?l ?c ?k⟩; (case a => k_is); (case l => k_is); (case c => k_is); (case k => k_is))
    (case d_l_bits => refine' ⟨_, BX.defk ?a ?l ?c ?k⟩; (case a => k_is); (case l => k_is); (case c => k_is); (case k => k_is))
    (case d_l_cell => refine' ⟨_, BX.defk ?a ?l ?c ?k⟩; (case a => k_is); (case l => k_is); (case c => k_is); (case k => k_is))
    (case d_l_drawn => refine' ⟨_, BX.defk ?a ?l ?c ?k⟩; (case a => k_is); (case l => k_is); (case c => k_is); (case k => k_is))
    (case d_l_number => refine' ⟨_, BX.defk ?a ?l ?c ?k⟩; (case a => k_is); (case l => k_is); (case c => k_is); (case k => k_is))
    (case d_l_each => refine' ⟨_, BX.defk ?a ?l ?c ?k⟩; (case a => k_is); (case l => k_is); (case c => k_is); (case k => k_is))
    (case d_l_is_number => refine' ⟨_, BX.defk ?a ?l ?c ?k⟩; (case a => k_is); (case l => k_is); (case c => k_is); (case k => k_is))
    (case d_law_k01 => refine' ⟨_, BX.defk ?a ?l ?c ?k⟩; (case a => k_is); (case l => k_is); (case c => k_is); (case k => k_is))
    (case d_refused => refine' ⟨_, BX.defk ?a ?l ?c ?k⟩; (case a => k_is); (case l => k_is); (case c => k_is); (case k => k_is))
    (case z_int => k_is)
    (case z_isinstance => k_is)
    (case z_bool => k_is)
    (case z_tuple => k_is)
    (case z_len => k_is)
    (case z_all => k_is)
    (case z_list => k_is)
    (case z_sorted => k_is)
    (case z_enumerate => k_is)
    (case z_range => k_is)
    (case z_ValueError => k_is)
    (case c_DIGIT_REST => k_is)
    (case c_ROUND_REST => k_is)
    (case c_MOST_ROUNDS => k_is)
    (case c_MOST_DIGITS => k_is)
    (case c_MOST_DIGIT => k_is)
    (case n_TapError => k_is)
    (case k_TapError => intro e; refine' ⟨e, ?a, ?b, ?c, ?d⟩; (case a => k_exc); (case b => k_is); (case c => k_is); (case d => k_is))
    (case n_NoNumber => k_is)
    (case k_NoNumber => intro e; refine' ⟨e, ?a, ?b, ?c, ?d⟩; (case a => k_exc); (case b => k_is); (case c => k_is); (case d => k_is))
    (case n_NoBook => k_is)
    (case k_NoBook => intro e; refine' ⟨e, ?a, ?b, ?c, ?d⟩; (case a => k_exc); (case b => k_is); (case c => k_is); (case d => k_is))
    (case n_NoLine => k_is)
    (case k_NoLine => intro e; refine' ⟨e, ?a, ?b, ?c, ?d⟩; (case a => k_exc); (case b => k_is); (case c => k_is); (case d => k_is))
    (case n_NoLoop => k_is)
    (case k_NoLoop => intro e; refine' ⟨e, ?a, ?b, ?c, ?d⟩; (case a => k_exc); (case b => k_is); (case c => k_is); (case d => k_is))
    (case n_NoPull => k_is)
    (case k_NoPull => intro e; refine' ⟨e, ?a, ?b, ?c, ?d⟩; (case a => k_exc); (case b => k_is); (case c => k_is); (case d => k_is))
    (case n_NoCount => k_is)
    (case k_NoCount => intro e; refine' ⟨e, ?a, ?b, ?c, ?d⟩; (case a => k_exc); (case b => k_is); (case c => k_is); (case d => k_is))
    (case n_NoText => k_is)
    (case k_NoText => intro e; refine' ⟨e, ?a, ?b, ?c, ?d⟩; (case a => k_exc); (case b => k_is); (case c => k_is); (case d => k_is))
    (case xg => refine' ⟨?a, ?b⟩; (case a => k_is); (case b => k_is))
    (case a_TapError => refine' ⟨?a, ?b, ?c, ?d, ?e, ?f⟩; (case a => k_is); (case b => k_is); (case c => k_is); (case d => k_is); (case e => k_is); (case f => k_is))
    (case a_NoNumber => refine' ⟨?a, ?b, ?c, ?d, ?e, ?f⟩; (case a => k_is); (case b => k_is); (case c => k_is); (case d => k_is); (case e => k_is); (case f => k_is))
    (case a_NoBook => refine' ⟨?a, ?b, ?c, ?d, ?e, ?f⟩; (case a => k_is); (case b => k_is); (case c => k_is); (case d => k_is); (case e => k_is); (case f => k_is))
    (case a_NoLine => refine' ⟨?a, ?b, ?c, ?d, ?e, ?f⟩; (case a => k_is); (case b => k_is); (case c => k_is); (case d => k_is); (case e => k_is); (case f => k_is))
    (case a_NoLoop => refine' ⟨?a, ?b, ?c, ?d, ?e, ?f⟩; (case a => k_is); (case b => k_is); (case c => k_is); (case d => k_is); (case e => k_is); (case f => k_is))
    (case a_NoPull => refine' ⟨?a, ?b, ?c, ?d, ?e, ?f⟩; (case a => k_is); (case b => k_is); (case c => k_is); (case d => k_is); (case e => k_is); (case f => k_is))
    (case a_NoCount => refine' ⟨?a, ?b, ?c, ?d, ?e, ?f⟩; (case a => k_is); (case b => k_is); (case c => k_is); (case d => k_is); (case e => k_is); (case f => k_is))
    (case a_NoText => refine' ⟨?a, ?b, ?c, ?d, ?e, ?f⟩; (case a => k_is); (case b => k_is); (case c => k_is); (case d => k_is); (case e => k_is); (case f => k_is))
    (case s_NoNumber_TapError => k_is)
    (case s_NoNumber_NoNumber => k_is)
    (case s_NoNumber_NoBook => k_is)
    (case s_NoNumber_NoLine => k_is)
    (case s_NoNumber_NoLoop => k_is)
    (case s_NoNumber_NoPull => k_is)
    (case s_NoNumber_NoCount => k_is)
    (case s_NoNumber_NoText => k_is)
    (case s_NoBook_TapError => k_is)
    (case s_NoBook_NoNumber => k_is)
    (case s_NoBook_NoBook => k_is)
    (case s_NoBook_NoLine => k_is)
    (case s_NoBook_NoLoop => k_is)
    (case s_NoBook_NoPull => k_is)
    (case s_NoBook_NoCount => k_is)
    (case s_NoBook_NoText => k_is)
    (case s_NoLine_TapError => k_is)
    (case s_NoLine_NoNumber => k_is)
    (case s_NoLine_NoBook => k_is)
    (case s_NoLine_NoLine => k_is)
    (case s_NoLine_NoLoop => k_is)
    (case s_NoLine_NoPull => k_is)
    (case s_NoLine_NoCount => k_is)
    (case s_NoLine_NoText => k_is)
    (case s_NoLoop_TapError => k_is)
    (case s_NoLoop_NoNumber => k_is)
    (case s_NoLoop_NoBook => k_is)
    (case s_NoLoop_NoLine => k_is)
    (case s_NoLoop_NoLoop => k_is)
    (case s_NoLoop_NoPull => k_is)
    (case s_NoLoop_NoCount => k_is)
    (case s_NoLoop_NoText => k_is)
    (case s_NoPull_TapError => k_is)
    (case s_NoPull_NoNumber => k_is)
    (case s_NoPull_NoBook => k_is)
    (case s_NoPull_NoLine => k_is)
    (case s_NoPull_NoLoop => k_is)
    (case s_NoPull_NoPull => k_is)
    (case s_NoPull_NoCount => k_is)
    (case s_NoPull_NoText => k_is)
    (case s_NoCount_TapError => k_is)
    (case s_NoCount_NoNumber => k_is)
    (case s_NoCount_NoBook => k_is)
    (case s_NoCount_NoLine => k_is)
    (case s_NoCount_NoLoop => k_is)
    (case s_NoCount_NoPull => k_is)
    (case s_NoCount_NoCount => k_is)
    (case s_NoCount_NoText => k_is)
    (case s_NoText_TapError => k_is)
    (case s_NoText_NoNumber => k_is)
    (case s_NoText_NoBook => k_is)
    (case s_NoText_NoLine => k_is)
    (case s_NoText_NoLoop => k_is)
    (case s_NoText_NoPull => k_is)
    (case s_NoText_NoCount => k_is)
    (case s_NoText_NoText => k_is)
