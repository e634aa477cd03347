import PyProof.Rows.All
import Wide.All
import OpenK.AllK
import Wide.FinOn
import PySem.Syntax
import HandS.ForMost
import HandS.ForExc
import HandS.CallSlots
import HandS.TupAny
import HandS.TupMul
import HandS.Walk
import HandS.Deep
import HandS.Style
import HandS.Conv
import HandS.IsInst
import HandS.Steps
import KE.DataCmp
import KE.SortData
import HandS.Text
import HandS.Rev
import HandS.ExcOwn
import KE.GoesMore
import HandS.Zip
import HandS.TupSets
import HandS.Set
import KE.KTupSum
import HandS.SortKw
import KE.DataMinMax
import HandS.HotCalls
import HandS.ExcIs
import KE.DataFind
import HandS.Strs
import PySem.Challenge.RW_boxtaps_k20_loops
set_option Elab.async false
set_option linter.all false
set_option maxRecDepth 100000
/-! BP: plain data, the evaluator. No program in sight. -/
namespace BX
open PySem

abbrev LIM : Nat := 16777216
/-- the program's own exceptions -/
inductive Xc where
  | tap | num | book | line | loop | pull | count | text | step
  deriving DecidableEq, Repr, Inhabited
/-- data: lists by value; the script; an object by its place in the store -/
inductive D where
  | non | bl (b : Bool) | int (i : Int) | str (s : List Nat) | tup (xs : List D) | lst (xs : List D) | scr (ns : List Int) | obj (n : Nat)
  deriving Repr, Inhabited
structure Ob where
  cls : Nat
  fs : List (Nat × D)
  deriving Repr, Inhabited
abbrev Sto := List Ob
inductive R (α : Type) where
  | ok (a : α) (s : Sto) | ex (c : Xc) (s : Sto) | bad
  deriving Repr, Inhabited
def M (α : Type) := Sto → R α
def ret {α : Type} (a : α) : M α := fun s => .ok a s
def bnd {α β : Type} (m : M α) (k : α → M β) : M β := fun s => match m s with
  | .ok a s' => k a s'
  | .ex c s' => .ex c s'
  | .bad => .bad
def bad {α : Type} : M α := fun _ => .bad
def exc {α : Type} (c : Xc) : M α := fun s => .ex c s
/-- where no exception may leave -/
def nox {α : Type} (m : M α) : M α := fun s => match m s with
  | .ex _ _ => .bad
  | r => r
@[simp] theorem ret_bnd {α β : Type} (a : α) (k : α → M β) : bnd (ret a) k = k a := rfl
@[simp] theorem bad_bnd {α β : Type} (k : α → M β) : bnd bad k = bad := rfl
@[simp] theorem exc_bnd {α β : Type} (c : Xc) (k : α → M β) : bnd (exc c) k = exc c := rfl
@[simp] theorem nox_ret {α : Type} (a : α) : nox (ret a) = ret a := rfl
@[simp] theorem bnd_ret {α : Type} (m : M α) : bnd m ret = m := by
  funext s
  unfold bnd
  cases m s <;> rfl
theorem bnd_assoc {α β γ : Type} (m : M α) (k : α → M β) (l : β → M γ) : bnd (bnd m k) l = bnd m fun a => bnd (k a) l := by
  funext s
  unfold bnd
  cases m s <;> rfl

/-! ### what data are worth -/
abbrev Env := List (Option D)
inductive Fl where
  | nx | rt (d : D) | bk | ct
  deriving Repr, Inhabited
def asB : D → M Bool
  | .bl b => ret b
  | _ => bad
def asI : D → M Int
  | .int i => ret i
  | _ => bad
def mkL (xs : List D) : M D := if xs.length ≤ LIM then ret (.lst xs) else bad
def mkT (xs : List D) : M D := if xs.length ≤ LIM then ret (.tup xs) else bad
def mkS (s : List Nat) : M D := if s.length ≤ LIM then ret (.str s) else bad
mutual
/-- no objects within, at most so deep -/
def sh : Nat → D → Bool
  | _, .non => true
  | _, .bl _ => true
  | _, .int _ => true
  | _, .str _ => true
  | n + 1, .tup xs => shL n xs
  | n + 1, .lst xs => shL n xs
  | _, _ => false
def shL : Nat → List D → Bool
  | _, [] => true
  | n, x :: xs => sh n x && shL n xs
end
mutual
/-- == -/
def eqD : D → D → Bool
  | .non, .non => true
  | .bl a, .bl b => a == b
  | .bl a, .int j => (if a then 1 else 0) == j
  | .int i, .bl b => i == (if b then 1 else 0)
  | .int i, .int j => i == j
  | .str a, .str b => a == b
  | .tup a, .tup b => eqL a b
  | .lst a, .lst b => eqL a b
  | _, _ => false
def eqL : List D → List D → Bool
  | [], [] => true
  | x :: xs, y :: ys => eqD x y && eqL xs ys
  | _, _ => false
end
/-- the script as a list -/
def nrm : D → D
  | .scr ns => .lst (ns.map .int)
  | d => d
mutual
/-- can be compared by < -/
def alD : D → D → Bool
  | .non, .non => true
  | .bl _, .bl _ => true
  | .int _, .int _ => true
  | .str _, .str _ => true
  | .tup a, .tup b => alL a b
  | .lst a, .lst b => alL a b
  | _, _ => false
def alL : List D → List D → Bool
  | x :: xs, y :: ys => alD x y && alL xs ys
  | _, _ => true
end
def ltN : List Nat → List Nat → Bool
  | [], [] => false
  | [], _ :: _ => true
  | _ :: _, [] => false
  | x :: xs, y :: ys => if x == y then ltN xs ys else decide (x < y)
mutual
/-- < of data that can be compared -/
def ltD : D → D → Bool
  | .bl a, .bl b => !a && b
  | .int i, .int j => decide (i < j)
  | .str a, .str b => ltN a b
  | .tup a, .tup b => ltL a b
  | .lst a, .lst b => ltL a b
  | _, _ => false
def ltL : List D → List D → Bool
  | [], [] => false
  | [], _ :: _ => true
  | _ :: _, [] => false
  | x :: xs, y :: ys => if eqD x y then ltL xs ys else ltD x y
end
def insD (x : D) : List D → List D
  | [] => [x]
  | y :: ys => if ltD y x then y :: insD x ys else x :: y :: ys
def isortD : List D → List D
  | [] => []
  | x :: xs => insD x (isortD xs)
def isTupNE : D → Bool
  | .tup (_ :: _) => true
  | _ => false
def isAtomS : D → Bool
  | .int _ => true
  | .str _ => true
  | .bl _ => true
  | .lst _ => true
  | _ => false
/-- a list that may be sorted -/
def okSort (ds : List D) : Bool := ds.all (sh 60) && ds.all (fun d => ds.all (alD d)) && (ds.all isTupNE || ds.all isAtomS)
/-- each once, the first of equal ones left out -/
def nubD : List D → List D
  | [] => []
  | x :: xs => if xs.any (eqD x) then nubD xs else x :: nubD xs
def isInt : D → Bool
  | .int _ => true
  | _ => false
def isIntTup : D → Bool
  | .tup xs => xs.all isInt && !xs.isEmpty
  | _ => false
/-- what may go into a set here -/
def okSet (ds : List D) : Bool := decide ((nubD ds).length < 63) && ds.all isIntTup

/-! ### operators -/
inductive BO where
  | add | sub | mul | mod | fdiv
  deriving DecidableEq, Repr
inductive CO where
  | eq | ne | lt | le | gt | ge | isin | notin | is_ | isnot
  deriving DecidableEq, Repr
def inb (i : Int) : Bool := decide (-(2 ^ 64) < i) && decide (i < 2 ^ 64)
def rep {α : Type} (k : Nat) (xs : List α) : List α := (List.replicate k xs).flatten
def okRep (n : Nat) (k : Int) : Bool := decide (-(2 ^ 63) ≤ k) && decide (k < 2 ^ 63) && decide (n * k.toNat ≤ LIM)
def addD : D → D → M D
  | .int a, .int b => ret (.int (a + b))
  | .lst a, .lst b => mkL (a ++ b)
  | .tup a, .tup b => mkT (a ++ b)
  | .str a, .str b => mkS (a ++ b)
  | _, _ => bad
def subD : D → D → M D
  | .int a, .int b => ret (.int (a - b))
  | _, _ => bad
def mulD : D → D → M D
  | .int a, .int b => if inb a || inb b then ret (.int (a * b)) else bad
  | .lst a, .int k => if okRep a.length k then ret (.lst (rep k.toNat a)) else bad
  | .tup a, .int k => if okRep a.length k then ret (.tup (rep k.toNat a)) else bad
  | _, _ => bad
def modD : D → D → M D
  | .int a, .int b => if b != 0 then ret (.int (a.fmod b)) else bad
  | _, _ => bad
def fdivD : D → D → M D
  | .int a, .int b => if b != 0 && decide (b.natAbs < 1073741824) then ret (.int (a.fdiv b)) else bad
  | _, _ => bad
def opD : BO → D → D → M D
  | .add => addD
  | .sub => subD
  | .mul => mulD
  | .mod => modD
  | .fdiv => fdivD
def eqM (neg : Bool) (d e : D) : M D := if sh 60 (nrm d) && sh 60 (nrm e) then ret (.bl (xor neg (eqD (nrm d) (nrm e)))) else bad
def inM (neg : Bool) (d e : D) : M D := match e with
  | .lst ds => if sh 60 d && shL 60 ds then ret (.bl (xor neg (ds.any fun z => eqD z d))) else bad
  | .tup ds => if sh 60 d && shL 60 ds then ret (.bl (xor neg (ds.any fun z => eqD z d))) else bad
  | .str y => (match d with
      | .str [c] => ret (.bl (xor neg (decide (c ∈ y))))
      | _ => bad)
  | _ => bad
def ltM : D → D → M D
  | .int a, .int b => ret (.bl (decide (a < b)))
  | .tup a, .tup b => if shL 60 a && shL 60 b && alL a b then ret (.bl (ltL a b)) else bad
  | _, _ => bad
def leM : D → D → M D
  | .int a, .int b => ret (.bl (decide (a ≤ b)))
  | _, _ => bad
def gtM : D → D → M D
  | .int a, .int b => ret (.bl (decide (b < a)))
  | .tup a, .tup b => if shL 60 a && shL 60 b && alL a b && alL b a then ret (.bl (ltL b a)) else bad
  | _, _ => bad
def geM : D → D → M D
  | .int a, .int b => ret (.bl (decide (b ≤ a)))
  | _, _ => bad
def isNon : D → Bool
  | .non => true
  | _ => false
def isM (neg : Bool) : D → D → M D
  | d, .non => ret (.bl (xor neg (isNon d)))
  | .int _, .bl _ => ret (.bl neg)
  | .bl a, .bl b => ret (.bl (xor neg (a == b)))
  | _, _ => bad
def cmpD : CO → D → D → M D
  | .eq => eqM false
  | .ne => eqM true
  | .isin => inM false
  | .notin => inM true
  | .lt => ltM
  | .le => leM
  | .gt => gtM
  | .ge => geM
  | .is_ => isM false
  | .isnot => isM true
def ixN (n : Nat) (i : Int) : Option Nat := if 0 ≤ i then (if i < n then some i.toNat else none) else if -(n : Int) ≤ i then some (i + n).toNat else none
def atI {α : Type} (xs : List α) (i : Int) : Option α := (ixN xs.length i).bind fun j => xs[j]?
def ofO {α : Type} : Option α → M α
  | some d => ret d
  | none => bad
def ixD : D → D → M D
  | .lst xs, .int i => ofO (atI xs i)
  | .tup xs, .int i => ofO (atI xs i)
  | .scr ns, .int i => ofO ((atI ns i).map .int)
  | .str s, .int i => ofO ((atI s i).map fun c => .str [c])
  | _, _ => bad
/-- a bound of a slice over n items, d where it is left out -/
def bnN (n d : Nat) : Option Int → Nat
  | none => d
  | some i => if i < 0 then (i + n).toNat else min i.toNat n
def cut {α : Type} (xs : List α) (lo hi : Option Int) : List α := (xs.drop (bnN xs.length 0 lo)).take (bnN xs.length xs.length hi - bnN xs.length 0 lo)
def slD : D → Option Int → Option Int → M D
  | .lst xs, lo, hi => ret (.lst (cut xs lo hi))
  | .tup xs, lo, hi => ret (.tup (cut xs lo hi))
  | .str s, lo, hi => ret (.str (cut s lo hi))
  | _, _, _ => bad
def rvD : D → M D
  | .lst xs => ret (.lst xs.reverse)
  | .tup xs => ret (.tup xs.reverse)
  | _ => bad
/-- each second item, from place k on -/
def alt {α : Type} : Nat → List α → List α
  | _, [] => []
  | 0, x :: xs => x :: alt 1 xs
  | k + 1, _ :: xs => alt k xs

/-! ### built-ins -/
inductive B1 where
  | len | int | str | tuple | list | sorted | sortedSet | lenSet | max | min | sum | all
  deriving DecidableEq, Repr
inductive B2 where
  | max | min | maxD | minD
  deriving DecidableEq, Repr
inductive Ty where
  | int | bool | str | tuple | list
  deriving DecidableEq, Repr
def isTy : Ty → D → Bool
  | .int, .int _ => true
  | .int, .bl _ => true
  | .bool, .bl _ => true
  | .str, .str _ => true
  | .tuple, .tup _ => true
  | .list, .lst _ => true
  | .list, .scr _ => true
  | _, _ => false
def noObj : D → Bool
  | .obj _ => false
  | _ => true
def items : D → Option (List D)
  | .lst xs => some xs
  | .tup xs => some xs
  | _ => none
def intsO : List D → Option (List Int)
  | [] => some []
  | .int i :: r => (intsO r).map (i :: ·)
  | _ => none
def boolsO : List D → Option (List Bool)
  | [] => some []
  | .bl i :: r => (boolsO r).map (i :: ·)
  | _ => none
def maxI : Int → List Int → Int
  | m, [] => m
  | m, x :: xs => maxI (if m < x then x else m) xs
def minI : Int → List Int → Int
  | m, [] => m
  | m, x :: xs => minI (if x < m then x else m) xs
def minL : D → List D → D
  | m, [] => m
  | m, x :: xs => minL (if ltD x m then x else m) xs
/-- the signs of a number -/
def digN : Nat → Nat → List Nat → List Nat
  | 0, _, acc => acc
  | f + 1, n, acc => if n < 10 then (48 + n) :: acc else digN f (n / 10) ((48 + n % 10) :: acc)
def numS (n : Nat) : List Nat := digN (n + 1) n []
def lenD : D → M D
  | .lst xs => ret (.int xs.length)
  | .tup xs => ret (.int xs.length)
  | .str xs => ret (.int xs.length)
  | .scr xs => ret (.int xs.length)
  | _ => bad
def intD : D → M D
  | .int i => ret (.int i)
  | .bl b => ret (.int (if b then 1 else 0))
  | _ => bad
def strD : D → M D
  | .int i => if decide (0 ≤ i) && decide (i < 10 ^ 9) then ret (.str (numS i.toNat)) else bad
  | _ => bad
def tupD : D → M D
  | .lst xs => ret (.tup xs)
  | .tup xs => ret (.tup xs)
  | _ => bad
def lstD : D → M D
  | .lst xs => ret (.lst xs)
  | .tup xs => ret (.lst xs)
  | _ => bad
def sortD (d : D) : M D := match items d with
  | some xs => if okSort xs then ret (.lst (isortD xs)) else bad
  | none => bad
def sortSetD (d : D) : M D := match items d with
  | some xs => if okSet xs then ret (.lst (isortD (nubD xs))) else bad
  | none => bad
def lenSetD (d : D) : M D := match items d with
  | some xs => if okSet xs then ret (.int (nubD xs).length) else bad
  | none => bad
def maxD : D → M D
  | .lst xs => (match intsO xs with
      | some (m :: r) => ret (.int (maxI m r))
      | _ => bad)
  | _ => bad
def minD : D → M D
  | .lst (m :: r) => if okSort (m :: r) then ret (minL m r) else bad
  | _ => bad
def sumD (d : D) : M D := match (items d).bind intsO with
  | some l => ret (.int l.sum)
  | none => bad
def allD : D → M D
  | .lst xs => (match boolsO xs with
      | some l => ret (.bl (l.all id))
      | none => bad)
  | _ => bad
def b1D : B1 → D → M D
  | .len => lenD
  | .int => intD
  | .str => strD
  | .tuple => tupD
  | .list => lstD
  | .sorted => sortD
  | .sortedSet => sortSetD
  | .lenSet => lenSetD
  | .max => maxD
  | .min => minD
  | .sum => sumD
  | .all => allD
def max2D : D → D → M D
  | .int a, .int b => ret (.int (if a < b then b else a))
  | _, _ => bad
def min2D : D → D → M D
  | .int a, .int b => ret (.int (if b < a then b else a))
  | _, _ => bad
def okDf : D → Bool
  | .non => true
  | .int _ => true
  | .bl _ => true
  | _ => false
def maxDD : D → D → M D
  | .lst xs, e => (match intsO xs with
      | some [] => if okDf e then ret e else bad
      | some (m :: r) => ret (.int (maxI m r))
      | none => bad)
  | _, _ => bad
def minDD : D → D → M D
  | .lst xs, e => (match intsO xs with
      | some [] => if okDf e then ret e else bad
      | some (m :: r) => ret (.int (minI m r))
      | none => bad)
  | _, _ => bad
def b2D : B2 → D → D → M D
  | .max => max2D
  | .min => min2D
  | .maxD => maxDD
  | .minD => minDD
/-- methods of lists, tuples, texts that change nothing -/
inductive Mt where
  | index | count | join | split
  deriving DecidableEq, Repr
def fstIx (d : D) : List D → Nat → Option Nat
  | [], _ => none
  | x :: xs, i => if eqD x d then some i else fstIx d xs (i + 1)
def strsO : List D → Option (List (List Nat))
  | [] => some []
  | .str s :: r => (strsO r).map (s :: ·)
  | _ => none
def joinN (y : List Nat) : List (List Nat) → List Nat
  | [] => []
  | [x] => x
  | x :: r => x ++ y ++ joinN y r
/-- split by one sign -/
def splN (c : Nat) : List Nat → List Nat → List (List Nat)
  | acc, [] => [acc]
  | acc, x :: r => if x == c then acc :: splN c [] r else splN c (acc ++ [x]) r
def indexD (o d : D) : M D := match items o with
  | some xs => if sh 60 d && shL 60 xs then (match fstIx d xs 0 with
      | some j => ret (.int j)
      | none => bad) else bad
  | none => bad
def countD (o d : D) : M D := match items o with
  | some xs => if sh 60 d && shL 60 xs then ret (.int (xs.countP fun x => eqD x d)) else bad
  | none => bad
def joinD : D → D → M D
  | .str y, .lst xs => (match strsO xs with
      | some ss => mkS (joinN y ss)
      | none => bad)
  | _, _ => bad
def splitD : D → D → M D
  | .str s, .str [c] => if c < 128 && decide (s.length + 2 ≤ LIM) then ret (.lst ((splN c [] s).map .str)) else bad
  | _, _ => bad
def mtO : Mt → D → M Unit
  | .count, .lst _ => ret ()
  | .count, .tup _ => ret ()
  | .index, .lst _ => ret ()
  | .index, .tup _ => ret ()
  | .join, .str _ => ret ()
  | .split, .str _ => ret ()
  | _, _ => bad
def mtD : Mt → D → D → M D
  | .index => indexD
  | .count => countD
  | .join => joinD
  | .split => splitD

/-! ### slots -/
inductive Tg where
  | one (i : Nat) | many (is : List Nat)
  deriving Repr
def setAll : List Nat → List D → Env → Env
  | i :: is, d :: ds, ρ => setAll is ds (ρ.set i (some d))
  | _, _, ρ => ρ
def stT : Tg → D → Env → Option Env
  | .one i, d, ρ => some (ρ.set i (some d))
  | .many is, .tup ds, ρ => if ds.length = is.length then some (setAll is ds ρ) else none
  | _, _, _ => none
def wipeE : List Nat → Env → Env
  | [], ρ => ρ
  | v :: vs, ρ => (wipeE vs ρ).set v none
def getV (i : Nat) (ρ : Env) : M D := match ρ[i]? with
  | some (some d) => ret d
  | _ => bad

/-! ### the text, without its places -/
mutual
inductive P where
  | var (i : Nat) | cI (i : Int) | cB (b : Bool) | cN | cS (s : List Nat) | gl (x : Str) (d : D)
  | bin (o : BO) (a b : P) | neg (a : P) | no (a : P) | an (ps : PL) | orr (ps : PL)
  | cmp (o : CO) (a b : P) | chn (o1 o2 : CO) (a b c : P) | ife (t a b : P)
  | ix (a b : P) | sl (a : P) (lo hi : PQ) | rv (a : P) | st2 (a : P) (k : Nat)
  | li (ps : PL) | tu (ps : PL) | cp (e : P) (tg : Tg) (it : I) (c : PQ) (own : List Nat)
  | ca (x : Str) (F : List D → M D) (ps : PL)
  | pk (fs : List (Str × (List D → M D))) (i : P) (ps : PL)
  | b1 (f : B1) (a : P) | b2 (f : B2) (a b : P) | isi (a : P) (ts : List Ty)
  | mt (f : Mt) (o a : P) | lr (tp : Bool) (a b : P) | dic (ks : List (List Nat × List Nat)) (a b : P) | dix (ks : List (List Nat × List Nat)) (a : P)
  | at (o : P) (x : Str) (k : Nat)
  | me (o : P) (c : Nat) (x : Str) (F : List D → M D) (ps : PL)
  | mk (x : Str) (c : Nat) (F : List D → M D) (ps : PL)
inductive PL where
  | nil | cons (p : P) (ps : PL)
inductive PQ where
  | none | some (p : P)
inductive I where
  | e (p : P) | r1 (a : P) | r2 (a b : P) | r3 (a b c : P) | en (a : P) | zp (a b : P) | zp3 (a b c : P)
end
/-- the numbers from a on, n of them -/
def rngI (a c : Int) : Nat → List D
  | 0 => []
  | n + 1 => .int a :: rngI (a + c) c n
def rngM (a b : Int) : M (List D) := if decide (-(2 ^ 62) ≤ a) && decide (a < 2 ^ 62) && decide (-(2 ^ 62) ≤ b) && decide (b < 2 ^ 62) && decide ((b - a).toNat ≤ LIM) then ret (rngI a 1 (b - a).toNat) else bad
def enumL : Nat → List D → List D
  | _, [] => []
  | i, x :: xs => .tup [.int i, x] :: enumL (i + 1) xs
def zipL : List D → List D → List D
  | x :: xs, y :: ys => .tup [x, y] :: zipL xs ys
  | _, _ => []
def zipL3 : List D → List D → List D → List D
  | x :: xs, y :: ys, z :: zs => .tup [x, y, z] :: zipL3 xs ys zs
  | _, _, _ => []
def itsM : D → M (List D)
  | .lst xs => ret xs
  | .tup xs => ret xs
  | .str s => ret (s.map fun c => .str [c])
  | _ => bad
def seqM (d : D) : M (List D) := ofO (items d)
/-- two lists, or two tuples, side by side -/
def seq2M : D → D → M (List D)
  | .lst xs, .lst ys => ret (zipL xs ys)
  | .tup xs, .tup ys => ret (zipL xs ys)
  | _, _ => bad
/-- a comprehension's turns -/
def cpM (c : Env → M Bool) (e : Env → M D) (tg : Tg) (ρ : Env) : List D → M (List D)
  | [] => ret []
  | d :: r => match stT tg d ρ with
    | none => bad
    | some ρ1 => bnd (nox (c ρ1)) fun b => if b then bnd (nox (e ρ1)) fun y => bnd (cpM c e tg ρ r) fun ys => ret (y :: ys) else cpM c e tg ρ r
def lookF (k : Nat) : List (Nat × D) → Option D
  | [] => none
  | (j, d) :: r => if j == k then some d else lookF k r
def putFd (k : Nat) (d : D) : List (Nat × D) → List (Nat × D)
  | [] => [(k, d)]
  | (j, e) :: r => if j == k then (j, d) :: r else (j, e) :: putFd k d r
def getF (k : Nat) : D → M D
  | .obj n => fun s => (match s[n]? with
      | some o => (match lookF k o.fs with
          | some d => .ok d s
          | none => .bad)
      | none => .bad)
  | _ => bad
def setF (k : Nat) (d : D) : D → M Unit
  | .obj n => fun s => (match s[n]? with
      | some o => .ok () (s.set n { o with fs := putFd k d o.fs })
      | none => .bad)
  | _ => bad
def chkC (c : Nat) (o : D) : M Unit := match o with
  | .obj n => fun s => (match s[n]? with
      | some ob => if ob.cls == c then .ok () s else .bad
      | none => .bad)
  | _ => bad
def mkM (c : Nat) (F : List D → M D) (ds : List D) : M D := fun s => bnd (F (.obj s.length :: ds)) (fun d => match d with
  | .non => ret (.obj s.length)
  | _ => bad) (s ++ [⟨c, []⟩])
def dicLook (x : List Nat) : List (List Nat × List Nat) → Option (List Nat)
  | [] => none
  | (a, b) :: r => if x == a then some b else dicLook x r
mutual
def ev : P → Env → M D
  | .var i, ρ => getV i ρ
  | .cI i, _ => ret (.int i)
  | .cB b, _ => ret (.bl b)
  | .cN, _ => ret .non
  | .cS s, _ => ret (.str s)
  | .gl _ d, _ => ret d
  | .bin o a b, ρ => bnd (ev a ρ) fun x => bnd (ev b ρ) fun y => opD o x y
  | .neg a, ρ => bnd (ev a ρ) fun x => bnd (asI x) fun i => ret (.int (-i))
  | .no a, ρ => bnd (bnd (ev a ρ) asB) fun b => ret (.bl (!b))
  | .an ps, ρ => evAn ps ρ
  | .orr ps, ρ => evOr ps ρ
  | .cmp o a b, ρ => bnd (ev a ρ) fun x => bnd (ev b ρ) fun y => cmpD o x y
  | .chn o1 o2 a b c, ρ => bnd (ev a ρ) fun x => bnd (ev b ρ) fun y => bnd (bnd (cmpD o1 x y) asB) fun k => if k then bnd (ev c ρ) fun z => cmpD o2 y z else ret (.bl false)
  | .ife t a b, ρ => bnd (evT t ρ) fun k => if k then ev a ρ else ev b ρ
  | .ix a b, ρ => bnd (ev a ρ) fun x => bnd (ev b ρ) fun y => ixD x y
  | .sl a lo hi, ρ => bnd (ev a ρ) fun x => bnd (evPQ lo ρ) fun l => bnd (evPQ hi ρ) fun h => slD x l h
  | .rv a, ρ => bnd (ev a ρ) rvD
  | .st2 a k, ρ => bnd (ev a ρ) fun x => match x with
      | .lst xs => ret (.lst (alt k xs))
      | .tup xs => ret (.tup (alt k xs))
      | .str xs => ret (.str (alt k xs))
      | _ => bad
  | .li ps, ρ => bnd (evL ps ρ) mkL
  | .tu ps, ρ => bnd (evL ps ρ) mkT
  | .cp e tg it c own, ρ => bnd (evI it ρ) fun ds => bnd (cpM (fun ρ1 => evC c ρ1) (fun ρ1 => ev e ρ1) tg (wipeE own ρ) ds) mkL
  | .ca _ F ps, ρ => bnd (evL ps ρ) F
  | .pk fs i ps, ρ => bnd (ev i ρ) fun x => bnd (asI x) fun j => bnd (ofO (atI fs j)) fun f => bnd (evL ps ρ) f.2
  | .b1 f a, ρ => bnd (ev a ρ) (b1D f)
  | .b2 f a b, ρ => bnd (ev a ρ) fun x => bnd (ev b ρ) fun y => b2D f x y
  | .isi a ts, ρ => bnd (ev a ρ) fun x => if noObj x then ret (.bl (ts.any fun t => isTy t x)) else bad
  | .mt f o a, ρ => bnd (ev o ρ) fun x => bnd (mtO f x) fun _ => bnd (ev a ρ) fun y => mtD f x y
  | .lr tp a b, ρ => bnd (ev a ρ) fun x => bnd (ev b ρ) fun y => bnd (asI x) fun i => bnd (asI y) fun j => bnd (rngM i j) fun ds => ret (if tp then .tup ds else .lst ds)
  | .dix ks a, ρ => bnd (ev a ρ) fun x => match x with
      | .str s => ofO ((dicLook s ks).map .str)
      | _ => bad
  | .dic ks a b, ρ => bnd (ev a ρ) fun x => bnd (ev b ρ) fun y => match x with
      | .str s => ret (match dicLook s ks with
          | some z => .str z
          | none => y)
      | _ => bad
  | .at o _ k, ρ => bnd (ev o ρ) (getF k)
  | .me o c _ F ps, ρ => bnd (ev o ρ) fun x => bnd (chkC c x) fun _ => bnd (evL ps ρ) fun ds => F (x :: ds)
  | .mk _ c F ps, ρ => bnd (evL ps ρ) (mkM c F)
def evT : P → Env → M Bool
  | .an ps, ρ => evTAn ps ρ
  | .orr ps, ρ => evTOr ps ρ
  | .no a, ρ => bnd (evT a ρ) fun b => ret (!b)
  | .cmp o a b, ρ => bnd (bnd (ev a ρ) fun x => bnd (ev b ρ) fun y => cmpD o x y) asB
  | .chn o1 o2 a b c, ρ => bnd (bnd (ev a ρ) fun x => bnd (ev b ρ) fun y => bnd (bnd (cmpD o1 x y) asB) fun k => if k then bnd (ev c ρ) fun z => cmpD o2 y z else ret (.bl false)) asB
  | .var i, ρ => bnd (getV i ρ) asB
  | .cB b, _ => ret b
  | .ca _ F ps, ρ => bnd (bnd (evL ps ρ) F) asB
  | .b1 f a, ρ => bnd (bnd (ev a ρ) (b1D f)) asB
  | .isi a ts, ρ => bnd (bnd (ev a ρ) fun x => if noObj x then ret (.bl (ts.any fun t => isTy t x)) else bad) asB
  | .ix a b, ρ => bnd (bnd (ev a ρ) fun x => bnd (ev b ρ) fun y => ixD x y) asB
  | .me o c _ F ps, ρ => bnd (bnd (ev o ρ) fun x => bnd (chkC c x) fun _ => bnd (evL ps ρ) fun ds => F (x :: ds)) asB
  | _, _ => bad
def evTAn : PL → Env → M Bool
  | .nil, _ => ret true
  | .cons p ps, ρ => bnd (evT p ρ) fun b => if b then evTAn ps ρ else ret false
def evTOr : PL → Env → M Bool
  | .nil, _ => ret false
  | .cons p ps, ρ => bnd (evT p ρ) fun b => if b then ret true else evTOr ps ρ
def evAn : PL → Env → M D
  | .nil, _ => bad
  | .cons p .nil, ρ => ev p ρ
  | .cons p ps, ρ => bnd (bnd (ev p ρ) asB) fun b => if b then evAn ps ρ else ret (.bl false)
def evOr : PL → Env → M D
  | .nil, _ => bad
  | .cons p .nil, ρ => ev p ρ
  | .cons p ps, ρ => bnd (bnd (ev p ρ) asB) fun b => if b then ret (.bl true) else evOr ps ρ
def evL : PL → Env → M (List D)
  | .nil, _ => ret []
  | .cons p ps, ρ => bnd (ev p ρ) fun d => bnd (evL ps ρ) fun ds => ret (d :: ds)
def evPQ : PQ → Env → M (Option Int)
  | .none, _ => ret none
  | .some p, ρ => bnd (ev p ρ) fun d => bnd (asI d) fun i => ret (some i)
def evC : PQ → Env → M Bool
  | .none, _ => ret true
  | .some p, ρ => evT p ρ
def evI : I → Env → M (List D)
  | .e p, ρ => bnd (ev p ρ) itsM
  | .r1 a, ρ => bnd (ev a ρ) fun x => bnd (asI x) fun i => rngM 0 i
  | .r2 a b, ρ => bnd (ev a ρ) fun x => bnd (ev b ρ) fun y => bnd (asI x) fun i => bnd (asI y) fun j => rngM i j
  | .r3 a b c, ρ => bnd (ev a ρ) fun x => bnd (ev b ρ) fun y => bnd (ev c ρ) fun z => bnd (asI x) fun i => bnd (asI y) fun j => bnd (asI z) fun k =>
      if k == -1 && decide (-(2 ^ 62) ≤ i) && decide (i < 2 ^ 62) && decide (-(2 ^ 62) ≤ j) && decide (j < 2 ^ 62) && decide ((i - j).toNat ≤ LIM) then ret (rngI i (-1) (i - j).toNat) else bad
  | .en a, ρ => bnd (ev a ρ) fun x => bnd (seqM x) fun xs => ret (enumL 0 xs)
  | .zp a b, ρ => bnd (ev a ρ) fun x => bnd (ev b ρ) fun y => seq2M x y
  | .zp3 a b c, ρ => bnd (ev a ρ) fun x => bnd (ev b ρ) fun y => bnd (ev c ρ) fun z => bnd (seqM x) fun xs => bnd (seqM y) fun ys => bnd (seqM z) fun zs => ret (zipL3 xs ys zs)
end
/-- what an except suite does -/
inductive Hd where
  | ref (x : Str) (fl : List Xc) | yes | two (x : Str) (c : Xc) (a b : List Nat)
/-- isinstance of the program's exceptions -/
def isX (c : Xc) (C : Xc) : Bool := C == .tap || c == C
def flD (c : Xc) (fl : List Xc) : List D := fl.map fun C => .bl (isX c C)
def REF : List Nat := [114, 101, 102, 117, 115, 101, 100]
def refD (c : Xc) (fl : List Xc) : Option D := if (flD c fl).countP (fun x => eqD x (.bl true)) = 1 then (fstIx (.bl true) (flD c fl) 0).map fun j => .tup [.str REF, .int j] else some (.tup [.str REF, .int (-1)])
def hdD (c : Xc) : Hd → Option D
  | .ref _ fl => refD c fl
  | .yes => some (.bl true)
  | .two _ C a b => some (.str (if isX c C then a else b))
def hsM (al : List Xc) (cl : Xc) (hd : Hd) (c : Xc) : Option D := if al.contains c && isX c cl then hdD c hd else none
mutual
inductive S where
  | a (tg : Tg) (p : P)
  | m (i : Nat) (p : P)
  | mv (i j : Nat)
  | ap (i : Nat) (p : P) | ext (i : Nat) (p : P) | rm (i : Nat) (p : P) | ixs (i : Nat) (k p : P)
  | e (p : P)
  | iff (t : P) (b c : SL)
  | fr (tg : Tg) (it : I) (b : SL)
  | frm (i : Nat) (tg : Tg) (b : SL)
  | wh (t : P) (b : SL)
  | rt (p : P) | rn | ps
  | rs (x : Str) (c : Xc)
  | tr (b : SL) (cx : Str) (cl : Xc) (al : List Xc) (h : Nat) (hd : Hd)
  | sa (o : P) (x : Str) (k : Nat) (p : P)
inductive SL where
  | nil | cons (s : S) (ss : SL)
end
/-- what a text leans on: built-ins, defs, constants, exceptions -/
inductive Nd where
  | bi (x : Str) | fn (x : Str) (F : List D → M D) | gl (x : Str) (d : D) | rs (x : Str) (c : Xc)
  | at (x : Str) (k : Nat) | me (c : Nat) (x : Str) (F : List D → M D) | mk (x : Str) (c : Nat) (F : List D → M D) | no
  | xc (al : List Xc) (x : Str) (cl : Xc) | xf (al : List Xc) (x : Str) (fl : List Xc) | xt (al : List Xc) (x : Str) (C : Xc)
abbrev MF := M (Fl × Env)
def forM (tg : Tg) (b : Env → MF) : List D → Env → MF
  | [], ρ => ret (.nx, ρ)
  | d :: r, ρ => match stT tg d ρ with
    | none => bad
    | some ρ1 => bnd (b ρ1) fun q => match q.1 with
      | .nx => forM tg b r q.2
      | .ct => forM tg b r q.2
      | .bk => ret (.nx, q.2)
      | .rt x => ret (.rt x, q.2)
def whM (t : Env → M Bool) (b : Env → MF) : Nat → Env → MF
  | 0, _ => bad
  | n + 1, ρ => bnd (t ρ) fun k => if k then bnd (b ρ) fun q => match q.1 with
      | .nx => whM t b n q.2
      | .ct => whM t b n q.2
      | .bk => ret (.nx, q.2)
      | .rt x => ret (.rt x, q.2)
    else ret (.nx, ρ)
/-- a walk over a slot's own list, as it stands at each turn -/
def forS (i : Nat) (tg : Tg) (b : Env → MF) : Nat → Nat → Env → MF
  | 0, _, _ => bad
  | f + 1, j, ρ => match ρ[i]? with
    | some (some (.lst ds)) => (match ds[j]? with
      | none => ret (.nx, ρ)
      | some d => (match stT tg d ρ with
        | none => bad
        | some ρ1 => bnd (b ρ1) fun q => match q.1 with
          | .nx => forS i tg b f (j + 1) q.2
          | .ct => forS i tg b f (j + 1) q.2
          | .bk => ret (.nx, q.2)
          | .rt x => ret (.rt x, q.2)))
    | _ => bad
def FUEL : Nat := 1000000
/-- the list in slot i changed -/
def chg (i : Nat) (f : List D → Option (List D)) (ρ : Env) : MF := match ρ[i]? with
  | some (some (.lst xs)) => (match f xs with
      | some ys => ret (.nx, ρ.set i (some (.lst ys)))
      | none => bad)
  | _ => bad
def lsM (i : Nat) (ρ : Env) : M Unit := match ρ[i]? with
  | some (some (.lst _)) => ret ()
  | _ => bad
def isLst : D → Bool
  | .lst _ => true
  | _ => false
def appD (d : D) (xs : List D) : Option (List D) := if xs.length < LIM then some (xs ++ [d]) else none
def extD : D → List D → Option (List D)
  | .lst ys, xs => if xs.length + ys.length ≤ LIM then some (xs ++ ys) else none
  | _, _ => none
def remD (d : D) (xs : List D) : Option (List D) := if sh 60 d && shL 60 xs then (match fstIx d xs 0 with
      | some j => some (xs.eraseIdx j)
      | none => none) else none
def setD (n : Int) (d : D) (xs : List D) : Option (List D) := (ixN xs.length n).map fun j => xs.set j d
/-- what makes a new list -/
def fresh : P → Bool
  | .li _ => true
  | .cp _ _ _ _ _ => true
  | .bin .. => true
  | .sl .. => true
  | .b1 .. => true
  | .lr .. => true
  | _ => false
def tryM (b : Env → MF) (hs : Xc → Option D) (ρ : Env) : MF := fun s => match b ρ s with
  | .ex c s' => (match hs c with
      | some d => .ok (.rt d, ρ) s'
      | none => .bad)
  | r => r
mutual
def evS : S → Env → MF
  | .a tg p, ρ => bnd (ev p ρ) fun d => bnd (ofO (stT tg d ρ)) fun ρ1 => ret (.nx, ρ1)
  | .m i p, ρ => bnd (ev p ρ) fun d => if fresh p || !isLst d then ret (.nx, ρ.set i (some d)) else bad
  | .mv i j, ρ => bnd (getV j ρ) fun d => ret (.nx, (ρ.set j none).set i (some d))
  | .ap i p, ρ => bnd (lsM i ρ) fun _ => bnd (ev p ρ) fun d => chg i (appD d) ρ
  | .ext i p, ρ => bnd (lsM i ρ) fun _ => bnd (ev p ρ) fun d => chg i (extD d) ρ
  | .rm i p, ρ => bnd (lsM i ρ) fun _ => bnd (ev p ρ) fun d => chg i (remD d) ρ
  | .ixs i k p, ρ => bnd (ev p ρ) fun d => bnd (lsM i ρ) fun _ => bnd (ev k ρ) fun z => bnd (asI z) fun n => chg i (setD n d) ρ
  | .e p, ρ => bnd (ev p ρ) fun _ => ret (.nx, ρ)
  | .iff t b c, ρ => bnd (evT t ρ) fun k => if k then evB b ρ else evB c ρ
  | .fr tg it b, ρ => bnd (evI it ρ) fun ds => forM tg (fun ρ1 => evB b ρ1) ds ρ
  | .frm i tg b, ρ => forS i tg (fun ρ1 => evB b ρ1) FUEL 0 ρ
  | .wh t b, ρ => whM (fun ρ1 => evT t ρ1) (fun ρ1 => evB b ρ1) FUEL ρ
  | .rt p, ρ => bnd (ev p ρ) fun d => ret (.rt d, ρ)
  | .rn, ρ => ret (.rt .non, ρ)
  | .ps, ρ => ret (.nx, ρ)
  | .rs _ c, _ => exc c
  | .tr b _ cl al _ hd, ρ => tryM (fun ρ1 => evB b ρ1) (hsM al cl hd) ρ
  | .sa o _ k p, ρ => bnd (ev p ρ) fun d => bnd (ev o ρ) fun x => bnd (setF k d x) fun _ => ret (.nx, ρ)
def evB : SL → Env → MF
  | .nil, ρ => ret (.nx, ρ)
  | .cons s ss, ρ => bnd (evS s ρ) fun q => match q.1 with
    | .nx => evB ss q.2
    | f => ret (f, q.2)
end
/-- a def: so many parameters, so many slots -/
def mkF (ar n : Nat) (b : SL) (ds : List D) : M D := if ds.length = ar then bnd (evB b (ds.map some ++ List.replicate (n - ar) none)) fun q => match q.1 with
    | .nx => ret .non
    | .rt d => ret d
    | _ => bad
  else bad
theorem ev_struct (ρ : Env) : ev (.cB true) ρ = ret (.bl true) := rfl
theorem evS_struct (ρ : Env) : evS .ps ρ = ret (.nx, ρ) := rfl
end BX

set_option Elab.async false
set_option linter.all false
set_option maxRecDepth 100000
/-! BQ1: a statement that does not name slot z leaves it alone. -/
namespace BX.Q
def noT (z : Nat) : Tg → Bool
  | .one i => i != z
  | .many is => !(is.contains z)
mutual
def noP (z : Nat) : P → Bool
  | .var i => i != z
  | .bin _ a b => noP z a && noP z b
  | .neg a => noP z a
  | .no a => noP z a
  | .an ps => noL z ps
  | .orr ps => noL z ps
  | .cmp _ a b => noP z a && noP z b
  | .chn _ _ a b c => noP z a && noP z b && noP z c
  | .ife t a b => noP z t && noP z a && noP z b
  | .ix a b => noP z a && noP z b
  | .sl a lo hi => noP z a && noQ z lo && noQ z hi
  | .rv a => noP z a
  | .st2 a _ => noP z a
  | .li ps => noL z ps
  | .tu ps => noL z ps
  | .cp e tg it c own => noP z e && noT z tg && noI z it && noQ z c && !(own.contains z)
  | .ca _ _ ps => noL z ps
  | .pk _ i ps => noP z i && noL z ps
  | .b1 _ a => noP z a
  | .b2 _ a b => noP z a && noP z b
  | .isi a _ => noP z a
  | .mt _ o a => noP z o && noP z a
  | .lr _ a b => noP z a && noP z b
  | .dic _ a b => noP z a && noP z b
  | .dix _ a => noP z a
  | .at o _ _ => noP z o
  | .me o _ _ _ ps => noP z o && noL z ps
  | .mk _ _ _ ps => noL z ps
  | _ => true
def noL (z : Nat) : PL → Bool
  | .nil => true
  | .cons p ps => noP z p && noL z ps
def noQ (z : Nat) : PQ → Bool
  | .none => true
  | .some p => noP z p
def noI (z : Nat) : I → Bool
  | .e p => noP z p
  | .r1 a => noP z a
  | .r2 a b => noP z a && noP z b
  | .r3 a b c => noP z a && noP z b && noP z c
  | .en a => noP z a
  | .zp a b => noP z a && noP z b
  | .zp3 a b c => noP z a && noP z b && noP z c
end
variable {z : Nat} {v : Option D}
theorem setAll_set : ∀ (is : List Nat) (ds : List D) (ρ : Env), is.contains z = false → setAll is ds (ρ.set z v) = (setAll is ds ρ).set z v
  | [], _, _, _ => by simp [setAll]
  | _ :: _, [], _, _ => by simp [setAll]
  | i :: is, d :: ds, ρ, h => by
    simp only [List.contains_cons, Bool.or_eq_false_iff, beq_eq_false_iff_ne] at h
    simp only [setAll]
    rw [List.set_comm _ _ h.1, setAll_set is ds _ h.2]
theorem stT_set (tg : Tg) (d : D) (ρ : Env) (h : noT z tg = true) : stT tg d (ρ.set z v) = (stT tg d ρ).map (·.set z v) := by
  cases tg with
  | one i =>
    simp only [noT, bne_iff_ne] at h
    simp only [stT, Option.map_some]
    rw [List.set_comm _ _ fun e => h e.symm]
  | many is =>
    simp only [noT, Bool.not_eq_true'] at h
    cases d with
    | tup ds =>
      simp only [stT]
      split
      · rw [setAll_set is ds ρ h]; rfl
      · rfl
    | _ => rfl
theorem wipe_set : ∀ (own : List Nat) (ρ : Env), own.contains z = false → wipeE own (ρ.set z v) = (wipeE own ρ).set z v
  | [], _, _ => rfl
  | i :: is, ρ, h => by
    simp only [List.contains_cons, Bool.or_eq_false_iff, beq_eq_false_iff_ne] at h
    simp only [wipeE]
    rw [wipe_set is ρ h.2, List.set_comm _ _ h.1]
theorem getV_set {i : Nat} {ρ : Env} (h : (i != z) = true) : getV i (ρ.set z v) = getV i ρ := by
  have h' : i ≠ z := by simpa using h
  unfold getV
  rw [List.getElem?_set_ne fun e => h' e.symm]
theorem cp_set {c : Env → M Bool} {e : Env → M D} {tg : Tg} (hc : ∀ ρ, c (ρ.set z v) = c ρ) (he : ∀ ρ, e (ρ.set z v) = e ρ) (ht : noT z tg = true) : ∀ (ds : List D) (ρ : Env), cpM c e tg (ρ.set z v) ds = cpM c e tg ρ ds
  | [], _ => rfl
  | d :: r, ρ => by
    simp only [cpM]
    rw [stT_set tg d ρ ht]
    cases stT tg d ρ with
    | none => rfl
    | some ρ1 =>
      simp only [Option.map_some]
      rw [hc, he, cp_set hc he ht r ρ]
mutual
theorem ev_set : ∀ (p : P) (ρ : Env), noP z p = true → ev p (ρ.set z v) = ev p ρ
  | .var i, ρ, h => by simp only [ev]; exact getV_set (by simpa only [noP] using h)
  | .cI _, _, _ => rfl
  | .cB _, _, _ => rfl
  | .cN, _, _ => rfl
  | .cS _, _, _ => rfl
  | .gl _ _, _, _ => rfl
  | .bin o a b, ρ, h => by simp only [noP, Bool.and_eq_true] at h; simp only [ev, ev_set a ρ h.1, ev_set b ρ h.2]
  | .neg a, ρ, h => by simp only [noP] at h; simp only [ev, ev_set a ρ h]
  | .no a, ρ, h => by simp only [noP] at h; simp only [ev, ev_set a ρ h]
  | .an ps, ρ, h => by simp only [noP] at h; simp only [ev, evAn_set ps ρ h]
  | .orr ps, ρ, h => by simp only [noP] at h; simp only [ev, evOr_set ps ρ h]
  | .cmp o a b, ρ, h => by simp only [noP, Bool.and_eq_true] at h; simp only [ev, ev_set a ρ h.1, ev_set b ρ h.2]
  | .chn _ _ a b c, ρ, h => by simp only [noP, Bool.and_eq_true] at h; simp only [ev, ev_set a ρ h.1.1, ev_set b ρ h.1.2, ev_set c ρ h.2]
  | .ife t a b, ρ, h => by simp only [noP, Bool.and_eq_true] at h; simp only [ev, evT_set t ρ h.1.1, ev_set a ρ h.1.2, ev_set b ρ h.2]
  | .ix a b, ρ, h => by simp only [noP, Bool.and_eq_true] at h; simp only [ev, ev_set a ρ h.1, ev_set b ρ h.2]
  | .sl a lo hi, ρ, h => by simp only [noP, Bool.and_eq_true] at h; simp only [ev, ev_set a ρ h.1.1, evPQ_set lo ρ h.1.2, evPQ_set hi ρ h.2]
  | .rv a, ρ, h => by simp only [noP] at h; simp only [ev, ev_set a ρ h]
  | .st2 a _, ρ, h => by simp only [noP] at h; simp only [ev, ev_set a ρ h]
  | .li ps, ρ, h => by simp only [noP] at h; simp only [ev, evL_set ps ρ h]
  | .tu ps, ρ, h => by simp only [noP] at h; simp only [ev, evL_set ps ρ h]
  | .cp e tg it c own, ρ, h => by
    simp only [noP, Bool.and_eq_true, Bool.not_eq_true'] at h
    simp only [ev, evI_set it ρ h.1.1.2, wipe_set own ρ h.2]
    congr 1
    funext ds
    rw [cp_set (fun ρ1 => evC_set c ρ1 h.1.2) (fun ρ1 => ev_set e ρ1 h.1.1.1.1) h.1.1.1.2]
  | .ca _ _ ps, ρ, h => by simp only [noP] at h; simp only [ev, evL_set ps ρ h]
  | .pk _ i ps, ρ, h => by simp only [noP, Bool.and_eq_true] at h; simp only [ev, ev_set i ρ h.1, evL_set ps ρ h.2]
  | .b1 _ a, ρ, h => by simp only [noP] at h; simp only [ev, ev_set a ρ h]
  | .b2 _ a b, ρ, h => by simp only [noP, Bool.and_eq_true] at h; simp only [ev, ev_set a ρ h.1, ev_set b ρ h.2]
  | .isi a _, ρ, h => by simp only [noP] at h; simp only [ev, ev_set a ρ h]
  | .mt _ o a, ρ, h => by simp only [noP, Bool.and_eq_true] at h; simp only [ev, ev_set o ρ h.1, ev_set a ρ h.2]
  | .lr _ a b, ρ, h => by simp only [noP, Bool.and_eq_true] at h; simp only [ev, ev_set a ρ h.1, ev_set b ρ h.2]
  | .dic _ a b, ρ, h => by simp only [noP, Bool.and_eq_true] at h; simp only [ev, ev_set a ρ h.1, ev_set b ρ h.2]
  | .dix _ a, ρ, h => by simp only [noP] at h; simp only [ev, ev_set a ρ h]
  | .at o _ _, ρ, h => by simp only [noP] at h; simp only [ev, ev_set o ρ h]
  | .me o _ _ _ ps, ρ, h => by simp only [noP, Bool.and_eq_true] at h; simp only [ev, ev_set o ρ h.1, evL_set ps ρ h.2]
  | .mk _ _ _ ps, ρ, h => by simp only [noP] at h; simp only [ev, evL_set ps ρ h]
theorem evT_set : ∀ (p : P) (ρ : Env), noP z p = true → evT p (ρ.set z v) = evT p ρ
  | .an ps, ρ, h => by simp only [noP] at h; simp only [evT, evTAn_set ps ρ h]
  | .orr ps, ρ, h => by simp only [noP] at h; simp only [evT, evTOr_set ps ρ h]
  | .no a, ρ, h => by simp only [noP] at h; simp only [evT, evT_set a ρ h]
  | .cmp o a b, ρ, h => by simp only [noP, Bool.and_eq_true] at h; simp only [evT, ev_set a ρ h.1, ev_set b ρ h.2]
  | .chn _ _ a b c, ρ, h => by simp only [noP, Bool.and_eq_true] at h; simp only [evT, ev_set a ρ h.1.1, ev_set b ρ h.1.2, ev_set c ρ h.2]
  | .var i, ρ, h => by simp only [evT]; rw [getV_set (by simpa only [noP] using h)]
  | .cB _, _, _ => rfl
  | .ca _ _ ps, ρ, h => by simp only [noP] at h; simp only [evT, evL_set ps ρ h]
  | .b1 _ a, ρ, h => by simp only [noP] at h; simp only [evT, ev_set a ρ h]
  | .isi a _, ρ, h => by simp only [noP] at h; simp only [evT, ev_set a ρ h]
  | .me o _ _ _ ps, ρ, h => by simp only [noP, Bool.and_eq_true] at h; simp only [evT, ev_set o ρ h.1, evL_set ps ρ h.2]
  | .cI _, _, _ => rfl
  | .cN, _, _ => rfl
  | .cS _, _, _ => rfl
  | .gl _ _, _, _ => rfl
  | .bin _ _ _, _, _ => rfl
  | .neg _, _, _ => rfl
  | .ife _ _ _, _, _ => rfl
  | .ix a b, ρ, h => by simp only [noP, Bool.and_eq_true] at h; simp only [evT, ev_set a ρ h.1, ev_set b ρ h.2]
  | .sl _ _ _, _, _ => rfl
  | .rv _, _, _ => rfl
  | .st2 _ _, _, _ => rfl
  | .li _, _, _ => rfl
  | .tu _, _, _ => rfl
  | .cp _ _ _ _ _, _, _ => rfl
  | .pk _ _ _, _, _ => rfl
  | .b2 _ _ _, _, _ => rfl
  | .mt _ _ _, _, _ => rfl
  | .lr _ _ _, _, _ => rfl
  | .dic _ _ _, _, _ => rfl
  | .dix _ _, _, _ => rfl
  | .at _ _ _, _, _ => rfl
  | .mk _ _ _ _, _, _ => rfl
theorem evTAn_set : ∀ (ps : PL) (ρ : Env), noL z ps = true → evTAn ps (ρ.set z v) = evTAn ps ρ
  | .nil, _, _ => rfl
  | .cons p ps, ρ, h => by simp only [noL, Bool.and_eq_true] at h; simp only [evTAn, evT_set p ρ h.1, evTAn_set ps ρ h.2]
theorem evTOr_set : ∀ (ps : PL) (ρ : Env), noL z ps = true → evTOr ps (ρ.set z v) = evTOr ps ρ
  | .nil, _, _ => rfl
  | .cons p ps, ρ, h => by simp only [noL, Bool.and_eq_true] at h; simp only [evTOr, evT_set p ρ h.1, evTOr_set ps ρ h.2]
theorem evAn_set : ∀ (ps : PL) (ρ : Env), noL z ps = true → evAn ps (ρ.set z v) = evAn ps ρ
  | .nil, _, _ => rfl
  | .cons p .nil, ρ, h => by simp only [noL, Bool.and_eq_true] at h; simp only [evAn, ev_set p ρ h.1]
  | .cons p (.cons q ps), ρ, h => by
    have h' : noP z p = true ∧ noL z (.cons q ps) = true := by simpa only [noL, Bool.and_eq_true] using h
    simp only [evAn, ev_set p ρ h'.1, evAn_set (.cons q ps) ρ h'.2]
theorem evOr_set : ∀ (ps : PL) (ρ : Env), noL z ps = true → evOr ps (ρ.set z v) = evOr ps ρ
  | .nil, _, _ => rfl
  | .cons p .nil, ρ, h => by simp only [noL, Bool.and_eq_true] at h; simp only [evOr, ev_set p ρ h.1]
  | .cons p (.cons q ps), ρ, h => by
    have h' : noP z p = true ∧ noL z (.cons q ps) = true := by simpa only [noL, Bool.and_eq_true] using h
    simp only [evOr, ev_set p ρ h'.1, evOr_set (.cons q ps) ρ h'.2]
theorem evL_set : ∀ (ps : PL) (ρ : Env), noL z ps = true → evL ps (ρ.set z v) = evL ps ρ
  | .nil, _, _ => rfl
  | .cons p ps, ρ, h => by simp only [noL, Bool.and_eq_true] at h; simp only [evL, ev_set p ρ h.1, evL_set ps ρ h.2]
theorem evPQ_set : ∀ (p : PQ) (ρ : Env), noQ z p = true → evPQ p (ρ.set z v) = evPQ p ρ
  | .none, _, _ => rfl
  | .some p, ρ, h => by simp only [noQ] at h; simp only [evPQ, ev_set p ρ h]
theorem evC_set : ∀ (p : PQ) (ρ : Env), noQ z p = true → evC p (ρ.set z v) = evC p ρ
  | .none, _, _ => rfl
  | .some p, ρ, h => by simp only [noQ] at h; simp only [evC, evT_set p ρ h]
theorem evI_set : ∀ (i : I) (ρ : Env), noI z i = true → evI i (ρ.set z v) = evI i ρ
  | .e p, ρ, h => by simp only [noI] at h; simp only [evI, ev_set p ρ h]
  | .r1 a, ρ, h => by simp only [noI] at h; simp only [evI, ev_set a ρ h]
  | .r2 a b, ρ, h => by simp only [noI, Bool.and_eq_true] at h; simp only [evI, ev_set a ρ h.1, ev_set b ρ h.2]
  | .r3 a b c, ρ, h => by simp only [noI, Bool.and_eq_true] at h; simp only [evI, ev_set a ρ h.1.1, ev_set b ρ h.1.2, ev_set c ρ h.2]
  | .en a, ρ, h => by simp only [noI] at h; simp only [evI, ev_set a ρ h]
  | .zp a b, ρ, h => by simp only [noI, Bool.and_eq_true] at h; simp only [evI, ev_set a ρ h.1, ev_set b ρ h.2]
  | .zp3 a b c, ρ, h => by simp only [noI, Bool.and_eq_true] at h; simp only [evI, ev_set a ρ h.1.1, ev_set b ρ h.1.2, ev_set c ρ h.2]
end
end BX.Q

set_option Elab.async false
set_option linter.all false
set_option maxRecDepth 100000
/-! BQ2: the same of statements. -/
namespace BX.Q
mutual
def noS (z : Nat) : S → Bool
  | .a tg p => noT z tg && noP z p
  | .m i p => i != z && noP z p
  | .mv i j => i != z && j != z
  | .ap i p => i != z && noP z p
  | .ext i p => i != z && noP z p
  | .rm i p => i != z && noP z p
  | .ixs i k p => i != z && noP z k && noP z p
  | .e p => noP z p
  | .iff t b c => noP z t && noB z b && noB z c
  | .fr tg it b => noT z tg && noI z it && noB z b
  | .frm i tg b => i != z && noT z tg && noB z b
  | .wh t b => noP z t && noB z b
  | .rt p => noP z p
  | .rn => true
  | .ps => true
  | .rs _ _ => true
  | .tr b _ _ _ _ _ => noB z b
  | .sa o _ _ p => noP z o && noP z p
def noB (z : Nat) : SL → Bool
  | .nil => true
  | .cons s ss => noS z s && noB z ss
end
variable {z : Nat} {v : Option D}
/-- the outcome with slot z set -/
def shf (z : Nat) (v : Option D) (m : MF) : MF := bnd m fun q => ret (q.1, q.2.set z v)
theorem shf_bnd {α : Type} (m : M α) (k : α → MF) : shf z v (bnd m k) = bnd m fun a => shf z v (k a) := by
  unfold shf
  rw [bnd_assoc]
theorem bnd_shf {β : Type} (m : MF) (k : Fl × Env → M β) : bnd (shf z v m) k = bnd m fun q => k (q.1, q.2.set z v) := by
  unfold shf
  rw [bnd_assoc]
  rfl
theorem bnd_congr {α β : Type} {m : M α} {k k' : α → M β} (h : ∀ a, k a = k' a) : bnd m k = bnd m k' := by rw [show k = k' from funext h]
theorem ofO_map {α β : Type} (o : Option α) (f : α → β) {γ : Type} (k : β → M γ) : bnd (ofO (o.map f)) k = bnd (ofO o) fun a => k (f a) := by
  cases o <;> rfl
theorem get_ne {i : Nat} {ρ : Env} (h : (i != z) = true) : (ρ.set z v)[i]? = ρ[i]? := by
  have h' : i ≠ z := by simpa using h
  rw [List.getElem?_set_ne fun e => h' e.symm]
theorem set_ne {i : Nat} {ρ : Env} {d : Option D} (h : (i != z) = true) : (ρ.set z v).set i d = (ρ.set i d).set z v := by
  have h' : i ≠ z := by simpa using h
  rw [List.set_comm _ _ fun e => h' e.symm]
theorem chg_set {i : Nat} {f : List D → Option (List D)} {ρ : Env} (h : (i != z) = true) : chg i f (ρ.set z v) = shf z v (chg i f ρ) := by
  unfold chg
  rw [get_ne h]
  split
  · split
    · rw [set_ne h]; rfl
    · rfl
  · rfl
theorem lsM_set {i : Nat} {ρ : Env} (h : (i != z) = true) : lsM i (ρ.set z v) = lsM i ρ := by
  unfold lsM
  rw [get_ne h]
theorem forM_set {tg : Tg} {b : Env → MF} (ht : noT z tg = true) (hb : ∀ ρ, b (ρ.set z v) = shf z v (b ρ)) : ∀ (ds : List D) (ρ : Env), forM tg b ds (ρ.set z v) = shf z v (forM tg b ds ρ)
  | [], _ => rfl
  | d :: r, ρ => by
    simp only [forM]
    rw [stT_set tg d ρ ht]
    cases stT tg d ρ with
    | none => rfl
    | some ρ1 =>
      simp only [Option.map_some]
      rw [hb, bnd_shf, shf_bnd]
      refine bnd_congr fun q => ?_
      obtain ⟨fl, ρ2⟩ := q
      cases fl with
      | nx => exact forM_set ht hb r ρ2
      | ct => exact forM_set ht hb r ρ2
      | bk => rfl
      | rt x => rfl
theorem whM_set {t : Env → M Bool} {b : Env → MF} (ht : ∀ ρ, t (ρ.set z v) = t ρ) (hb : ∀ ρ, b (ρ.set z v) = shf z v (b ρ)) : ∀ (n : Nat) (ρ : Env), whM t b n (ρ.set z v) = shf z v (whM t b n ρ)
  | 0, _ => rfl
  | n + 1, ρ => by
    simp only [whM]
    rw [ht, shf_bnd]
    refine bnd_congr fun k => ?_
    cases k with
    | false => rfl
    | true =>
      simp only [if_true]
      rw [hb, bnd_shf, shf_bnd]
      refine bnd_congr fun q => ?_
      obtain ⟨fl, ρ2⟩ := q
      cases fl with
      | nx => exact whM_set ht hb n ρ2
      | ct => exact whM_set ht hb n ρ2
      | bk => rfl
      | rt x => rfl
theorem forS_set {i : Nat} {tg : Tg} {b : Env → MF} (hi : (i != z) = true) (ht : noT z tg = true) (hb : ∀ ρ, b (ρ.set z v) = shf z v (b ρ)) : ∀ (f j : Nat) (ρ : Env), forS i tg b f j (ρ.set z v) = shf z v (forS i tg b f j ρ)
  | 0, _, _ => rfl
  | f + 1, j, ρ => by
    simp only [forS]
    rw [get_ne hi]
    split
    · split
      · rfl
      · rename_i d _
        rw [stT_set tg d ρ ht]
        cases stT tg d ρ with
        | none => rfl
        | some ρ1 =>
          simp only [Option.map_some]
          rw [hb, bnd_shf, shf_bnd]
          refine bnd_congr fun q => ?_
          obtain ⟨fl, ρ2⟩ := q
          cases fl with
          | nx => exact forS_set hi ht hb f (j + 1) ρ2
          | ct => exact forS_set hi ht hb f (j + 1) ρ2
          | bk => rfl
          | rt x => rfl
    · rfl
theorem try_set {b : Env → MF} {hs : Xc → Option D} {ρ : Env} (hb : b (ρ.set z v) = shf z v (b ρ)) : tryM b hs (ρ.set z v) = shf z v (tryM b hs ρ) := by
  funext s
  simp only [tryM, hb, shf, bnd]
  cases e : b ρ s with
  | ok q s' => rfl
  | bad => rfl
  | ex c s' =>
    simp only []
    cases hs c <;> rfl
mutual
theorem evS_set : ∀ (s : S) (ρ : Env), noS z s = true → evS s (ρ.set z v) = shf z v (evS s ρ)
  | .a tg p, ρ, h => by
    simp only [noS, Bool.and_eq_true] at h
    simp only [evS, ev_set p ρ h.2]
    rw [shf_bnd]
    refine bnd_congr fun d => ?_
    rw [stT_set tg d ρ h.1, ofO_map, shf_bnd]
    rfl
  | .m i p, ρ, h => by
    simp only [noS, Bool.and_eq_true] at h
    simp only [evS, ev_set p ρ h.2]
    rw [shf_bnd]
    refine bnd_congr fun d => ?_
    split
    · rw [set_ne h.1]; rfl
    · rfl
  | .mv i j, ρ, h => by
    simp only [noS, Bool.and_eq_true] at h
    simp only [evS]
    rw [getV_set h.2, shf_bnd]
    refine bnd_congr fun d => ?_
    rw [set_ne h.2, set_ne h.1]
    rfl
  | .ap i p, ρ, h => by
    simp only [noS, Bool.and_eq_true] at h
    simp only [evS, ev_set p ρ h.2, lsM_set h.1]
    rw [shf_bnd]
    refine bnd_congr fun _ => ?_
    rw [shf_bnd]
    exact bnd_congr fun d => chg_set h.1
  | .ext i p, ρ, h => by
    simp only [noS, Bool.and_eq_true] at h
    simp only [evS, ev_set p ρ h.2, lsM_set h.1]
    rw [shf_bnd]
    refine bnd_congr fun _ => ?_
    rw [shf_bnd]
    exact bnd_congr fun d => chg_set h.1
  | .rm i p, ρ, h => by
    simp only [noS, Bool.and_eq_true] at h
    simp only [evS, ev_set p ρ h.2, lsM_set h.1]
    rw [shf_bnd]
    refine bnd_congr fun _ => ?_
    rw [shf_bnd]
    exact bnd_congr fun d => chg_set h.1
  | .ixs i k p, ρ, h => by
    simp only [noS, Bool.and_eq_true] at h
    simp only [evS, ev_set p ρ h.2, ev_set k ρ h.1.2, lsM_set h.1.1]
    rw [shf_bnd]
    refine bnd_congr fun d => ?_
    rw [shf_bnd]
    refine bnd_congr fun _ => ?_
    rw [shf_bnd]
    refine bnd_congr fun x => ?_
    rw [shf_bnd]
    exact bnd_congr fun n => chg_set h.1.1
  | .e p, ρ, h => by
    simp only [noS] at h
    simp only [evS, ev_set p ρ h]
    rw [shf_bnd]
    rfl
  | .iff t b c, ρ, h => by
    simp only [noS, Bool.and_eq_true] at h
    simp only [evS, evT_set t ρ h.1.1]
    rw [shf_bnd]
    refine bnd_congr fun k => ?_
    cases k with
    | true => exact evB_set b ρ h.1.2
    | false => exact evB_set c ρ h.2
  | .fr tg it b, ρ, h => by
    simp only [noS, Bool.and_eq_true] at h
    simp only [evS, evI_set it ρ h.1.2]
    rw [shf_bnd]
    exact bnd_congr fun ds => forM_set h.1.1 (fun ρ1 => evB_set b ρ1 h.2) ds ρ
  | .frm i tg b, ρ, h => by
    simp only [noS, Bool.and_eq_true] at h
    simp only [evS]
    exact forS_set h.1.1 h.1.2 (fun ρ1 => evB_set b ρ1 h.2) _ _ ρ
  | .wh t b, ρ, h => by
    simp only [noS, Bool.and_eq_true] at h
    simp only [evS]
    exact whM_set (fun ρ1 => evT_set t ρ1 h.1) (fun ρ1 => evB_set b ρ1 h.2) _ ρ
  | .rt p, ρ, h => by
    simp only [noS] at h
    simp only [evS, ev_set p ρ h]
    rw [shf_bnd]
    rfl
  | .rn, ρ, h => rfl
  | .ps, ρ, h => rfl
  | .rs _ _, ρ, h => rfl
  | .tr b _ cl al _ hd, ρ, h => by
    simp only [noS] at h
    simp only [evS]
    exact try_set (evB_set b ρ h)
  | .sa o _ k p, ρ, h => by
    simp only [noS, Bool.and_eq_true] at h
    simp only [evS, ev_set p ρ h.2, ev_set o ρ h.1]
    rw [shf_bnd]
    refine bnd_congr fun d => ?_
    rw [shf_bnd]
    refine bnd_congr fun x => ?_
    rw [shf_bnd]
    rfl
theorem evB_set : ∀ (b : SL) (ρ : Env), noB z b = true → evB b (ρ.set z v) = shf z v (evB b ρ)
  | .nil, ρ, h => rfl
  | .cons s ss, ρ, h => by
    simp only [noB, Bool.and_eq_true] at h
    simp only [evB, evS_set s ρ h.1]
    rw [bnd_shf, shf_bnd]
    refine bnd_congr fun q => ?_
    obtain ⟨fl, ρ2⟩ := q
    cases fl with
    | nx => exact evB_set ss ρ2 h.2
    | rt d => rfl
    | bk => rfl
    | ct => rfl
end
end BX.Q

set_option Elab.async false
set_option linter.all false
set_option maxRecDepth 100000
/-! BQ3: plain laws' own tools. -/
namespace BX.Q
theorem inb_c {a b : Int} (h : -(2 ^ 64) < a ∧ a < 2 ^ 64) : mulD (.int a) (.int b) = ret (.int (a * b)) := by
  show (if (inb a || inb b) = true then ret (D.int (a * b)) else bad) = _
  have e : inb a = true := by unfold inb; rw [decide_eq_true h.1, decide_eq_true h.2]; rfl
  rw [if_pos (by rw [e]; rfl)]
theorem inb_r {a b : Int} (h : -(2 ^ 64) < b ∧ b < 2 ^ 64) : mulD (.int a) (.int b) = ret (.int (a * b)) := by
  show (if (inb a || inb b) = true then ret (D.int (a * b)) else bad) = _
  have e : inb b = true := by unfold inb; rw [decide_eq_true h.1, decide_eq_true h.2]; rfl
  rw [if_pos (by rw [e]; exact Bool.or_true _)]
theorem modD_ok {a b : Int} (h : b ≠ 0) : modD (.int a) (.int b) = ret (.int (a.fmod b)) := by simp [modD, h]
theorem fdivD_ok {a b : Int} (h : b ≠ 0) (h2 : b.natAbs < 1073741824) : fdivD (.int a) (.int b) = ret (.int (a.fdiv b)) := by simp [fdivD, h, h2]
theorem shL_ints (n : Nat) : ∀ ns : List Int, shL n (ns.map .int) = true
  | [] => by simp [shL]
  | i :: r => by simp [shL, sh, shL_ints n r]
theorem eqM_scr (ns : List Int) : eqM false (.scr ns) (.lst []) = ret (.bl (decide (ns = []))) := by
  cases ns with
  | nil => rfl
  | cons i r =>
    unfold eqM
    rw [if_pos (by simp [nrm, sh, shL_ints, shL])]
    rfl
theorem cpM_all {P : D → D → Prop} {c : Env → M Bool} {e : Env → M D} {tg : Tg} {ρ : Env} : ∀ (ds : List D), (∀ d ∈ ds, ∃ ρ1 y, stT tg d ρ = some ρ1 ∧ c ρ1 = ret true ∧ e ρ1 = ret y ∧ P d y) → ∃ ys, cpM c e tg ρ ds = ret ys ∧ ys.length = ds.length ∧ ∀ y ∈ ys, ∃ d ∈ ds, P d y
  | [], _ => ⟨[], rfl, rfl, fun _ h => by cases h⟩
  | d :: r, h => by
    obtain ⟨ρ1, y, h1, h2, h3, h4⟩ := h d List.mem_cons_self
    obtain ⟨ys, g1, g2, g3⟩ := cpM_all r fun d' hd' => h d' (List.mem_cons_of_mem _ hd')
    refine ⟨y :: ys, ?_, by rw [List.length_cons, List.length_cons, g2], fun z hz => ?_⟩
    · simp only [cpM, h1, h2, nox_ret, ret_bnd, if_true, h3, g1]
    · rcases List.mem_cons.mp hz with rfl | hz
      · exact ⟨d, List.mem_cons_self, h4⟩
      · obtain ⟨d', k1, k2⟩ := g3 z hz
        exact ⟨d', List.mem_cons_of_mem _ k1, k2⟩
theorem ints_of : ∀ {ys : List D} {p : Int → Prop}, (∀ y ∈ ys, ∃ i, y = .int i ∧ p i) → ∃ l : List Int, ys = l.map .int ∧ ∀ i ∈ l, p i
  | [], _, _ => ⟨[], rfl, fun _ h => by cases h⟩
  | y :: ys, p, h => by
    obtain ⟨i, rfl, hi⟩ := h y List.mem_cons_self
    obtain ⟨l, rfl, hl⟩ := ints_of fun y' hy' => h y' (List.mem_cons_of_mem _ hy')
    exact ⟨i :: l, rfl, fun j hj => by
      rcases List.mem_cons.mp hj with rfl | hj
      · exact hi
      · exact hl j hj⟩
theorem rngI_mem : ∀ (n : Nat) (a : Int) (d : D), d ∈ rngI a 1 n → ∃ k, d = .int k ∧ a ≤ k ∧ k < a + n
  | 0, _, _, h => by simp [rngI] at h
  | n + 1, a, d, h => by
    simp only [rngI] at h
    rcases List.mem_cons.mp h with rfl | h
    · exact ⟨a, rfl, Int.le_refl _, by omega⟩
    · obtain ⟨k, e, h1, h2⟩ := rngI_mem n (a + 1) d h
      exact ⟨k, e, by omega, by omega⟩
theorem rngI_len : ∀ (n : Nat) (a c : Int), (rngI a c n).length = n
  | 0, _, _ => rfl
  | n + 1, a, c => by simp [rngI, rngI_len n]
theorem rngM_ok {a b : Int} (h1 : 0 ≤ a) (h2 : a ≤ 1000) (h3 : b ≤ 1000) (h4 : 0 ≤ b) : rngM a b = ret (rngI a 1 (b - a).toNat) := by
  unfold rngM
  rw [if_pos]
  simp only [Bool.and_eq_true, decide_eq_true_eq]
  refine ⟨⟨⟨⟨by omega, by omega⟩, by omega⟩, by omega⟩, ?_⟩
  show _ ≤ 16777216
  omega
end BX.Q

set_option Elab.async false
set_option linter.all false
set_option maxRecDepth 100000
/-! BQ4: a block in two parts. -/
namespace BX.Q
def takeS : Nat → SL → SL
  | 0, _ => .nil
  | _ + 1, .nil => .nil
  | n + 1, .cons s ss => .cons s (takeS n ss)
def dropS : Nat → SL → SL
  | 0, b => b
  | _ + 1, .nil => .nil
  | n + 1, .cons _ ss => dropS n ss
/-- what follows a block's part -/
def thenB (b : SL) (q : Fl × Env) : MF := match q.1 with
  | .nx => evB b q.2
  | f => ret (f, q.2)
theorem evB_cons (s : S) (ss : SL) (ρ : Env) : evB (.cons s ss) ρ = bnd (evS s ρ) (thenB ss) := rfl
theorem evB_split : ∀ (n : Nat) (b : SL) (ρ : Env), evB b ρ = bnd (evB (takeS n b) ρ) (thenB (dropS n b))
  | 0, b, ρ => rfl
  | n + 1, .nil, ρ => rfl
  | n + 1, .cons s ss, ρ => by
    show bnd (evS s ρ) (thenB ss) = bnd (bnd (evS s ρ) (thenB (takeS n ss))) (thenB (dropS n ss))
    rw [bnd_assoc]
    refine bnd_congr fun q => ?_
    obtain ⟨fl, ρ1⟩ := q
    cases fl with
    | nx => exact evB_split n ss ρ1
    | _ => rfl
theorem bnd_ok {α β : Type} {m : M α} {k : α → M β} {s s' : Sto} {a : α} (h : m s = .ok a s') : bnd m k s = k a s' := by
  unfold bnd
  rw [h]
end BX.Q

set_option Elab.async false
set_option linter.all false
set_option maxRecDepth 100000
/-! BQ5: sorting by rank. -/
namespace BX.Q
def insN (x : Nat) : List Nat → List Nat
  | [] => [x]
  | y :: ys => if y < x then y :: insN x ys else x :: y :: ys
def isortN : List Nat → List Nat
  | [] => []
  | x :: xs => insN x (isortN xs)
theorem insN_mem {x z : Nat} : ∀ {ys : List Nat}, z ∈ insN x ys → z = x ∨ z ∈ ys
  | [], h => by simpa [insN] using h
  | y :: ys, h => by
    unfold insN at h
    split at h
    · rcases List.mem_cons.mp h with rfl | h
      · exact .inr List.mem_cons_self
      · rcases insN_mem h with e | e
        · exact .inl e
        · exact .inr (List.mem_cons_of_mem _ e)
    · rcases List.mem_cons.mp h with rfl | h
      · exact .inl rfl
      · exact .inr h
theorem isortN_mem {z : Nat} : ∀ {xs : List Nat}, z ∈ isortN xs → z ∈ xs
  | [], h => h
  | x :: xs, h => by
    rcases insN_mem h with rfl | h
    · exact List.mem_cons_self
    · exact List.mem_cons_of_mem _ (isortN_mem h)
theorem insN_len (x : Nat) : ∀ ys : List Nat, (insN x ys).length = ys.length + 1
  | [] => rfl
  | y :: ys => by
    unfold insN
    split
    · rw [List.length_cons, insN_len x ys, List.length_cons]
    · rfl
theorem isortN_len : ∀ xs : List Nat, (isortN xs).length = xs.length
  | [] => rfl
  | x :: xs => by
    show (insN x (isortN xs)).length = _
    rw [insN_len, isortN_len xs]
    rfl
theorem insN_low {x : Nat} : ∀ {ys : List Nat}, (∀ y ∈ ys, x ≤ y) → insN x ys = x :: ys
  | [], _ => rfl
  | y :: ys, h => by
    have := h y List.mem_cons_self
    unfold insN
    rw [if_neg (by omega)]
/-- the least one stands first, the others behind it in their order -/
theorem isortN_min {m : Nat} : ∀ (xs : List Nat), m ∈ xs → (∀ x ∈ xs, m ≤ x) → isortN xs = m :: isortN (xs.erase m)
  | [], h, _ => by cases h
  | x :: r, h, hm => by
    by_cases e : x = m
    · subst e
      rw [List.erase_cons_head]
      exact insN_low fun y hy => hm y (List.mem_cons_of_mem _ (isortN_mem hy))
    · have hr : m ∈ r := by
        rcases List.mem_cons.mp h with z | z
        · exact absurd z.symm e
        · exact z
      rw [List.erase_cons_tail (by simpa using e)]
      show insN x (isortN r) = m :: insN x (isortN (r.erase m))
      rw [isortN_min r hr fun y hy => hm y (List.mem_cons_of_mem _ hy)]
      have := hm x List.mem_cons_self
      show (if m < x then m :: insN x (isortN (r.erase m)) else _) = _
      rw [if_pos (by omega)]
/-- data sorted by their ranks -/
theorem isortD_map {key : Nat → D} {B : Nat} (hk : ∀ i j, i < B → j < B → ltD (key i) (key j) = decide (i < j)) : ∀ (ks : List Nat), (∀ k ∈ ks, k < B) → isortD (ks.map key) = (isortN ks).map key
  | [], _ => rfl
  | x :: xs, h => by
    have ih := isortD_map hk xs fun k hk' => h k (List.mem_cons_of_mem _ hk')
    have ins : ∀ ys : List Nat, (∀ k ∈ ys, k < B) → insD (key x) (ys.map key) = (insN x ys).map key := by
      intro ys
      induction ys with
      | nil => intro _; rfl
      | cons y ys ih2 =>
        intro hy
        show (if ltD (key y) (key x) then key y :: insD (key x) (ys.map key) else key x :: key y :: ys.map key) = (insN x (y :: ys)).map key
        rw [hk y x (hy y List.mem_cons_self) (h x List.mem_cons_self), ih2 fun k hk' => hy k (List.mem_cons_of_mem _ hk')]
        by_cases c : y < x
        · rw [decide_eq_true c, if_pos rfl, show insN x (y :: ys) = y :: insN x ys from if_pos c]; rfl
        · rw [decide_eq_false c, if_neg Bool.false_ne_true, show insN x (y :: ys) = x :: y :: ys from if_neg c]; rfl
    show insD (key x) (isortD (xs.map key)) = _
    rw [ih]
    exact ins (isortN xs) fun k hk' => h k (List.mem_cons_of_mem _ (isortN_mem hk'))
/-- the first of the least -/
def minN (b : Nat) (xs : List Nat) : Nat := xs.foldl (fun b x => if x < b then x else b) b
theorem minN_le : ∀ (xs : List Nat) (b : Nat), minN b xs ≤ b ∧ (∀ x ∈ xs, minN b xs ≤ x) ∧ (minN b xs = b ∨ minN b xs ∈ xs)
  | [], b => ⟨Nat.le_refl _, fun _ h => (by cases h), .inl rfl⟩
  | x :: xs, b => by
    obtain ⟨h1, h2, h3⟩ := minN_le xs (if x < b then x else b)
    have e : minN b (x :: xs) = minN (if x < b then x else b) xs := rfl
    rw [e]
    by_cases c : x < b
    · rw [if_pos c] at h1 h2 h3 ⊢
      refine ⟨by omega, fun y hy => ?_, ?_⟩
      · rcases List.mem_cons.mp hy with rfl | hy
        · exact h1
        · exact h2 y hy
      · rcases h3 with h3 | h3
        · exact .inr (by rw [h3]; exact List.mem_cons_self)
        · exact .inr (List.mem_cons_of_mem _ h3)
    · rw [if_neg c] at h1 h2 h3 ⊢
      refine ⟨h1, fun y hy => ?_, ?_⟩
      · rcases List.mem_cons.mp hy with rfl | hy
        · omega
        · exact h2 y hy
      · rcases h3 with h3 | h3
        · exact .inl h3
        · exact .inr (List.mem_cons_of_mem _ h3)
theorem fstIx_map {key : Nat → D} {B : Nat} (hk : ∀ i j, i < B → j < B → eqD (key i) (key j) = decide (i = j)) {m : Nat} (hm : m < B) : ∀ (ks : List Nat) (p : Nat), (∀ k ∈ ks, k < B) → m ∈ ks → ∃ j, fstIx (key m) (ks.map key) p = some (p + j) ∧ (ks.map key).eraseIdx j = (ks.erase m).map key
  | [], _, _, h => by cases h
  | x :: r, p, hb, h => by
    have hx := hk x m (hb x List.mem_cons_self) hm
    by_cases e : x = m
    · subst e
      refine ⟨0, ?_, by rw [List.erase_cons_head]; rfl⟩
      show (if eqD (key x) (key x) then some p else _) = _
      rw [hx]
      simp
    · have hr : m ∈ r := by
        rcases List.mem_cons.mp h with z | z
        · exact absurd z.symm e
        · exact z
      obtain ⟨j, h1, h2⟩ := fstIx_map hk hm r (p + 1) (fun k hk' => hb k (List.mem_cons_of_mem _ hk')) hr
      refine ⟨j + 1, ?_, ?_⟩
      · show (if eqD (key x) (key m) then some p else fstIx (key m) (r.map key) (p + 1)) = _
        rw [hx, h1]
        simp only [e, decide_false, Bool.false_eq_true, if_false]
        congr 1
        omega
      · rw [List.erase_cons_tail (by simpa using e)]
        show key x :: (r.map key).eraseIdx j = key x :: (r.erase m).map key
        rw [h2]
end BX.Q

set_option Elab.async false
set_option linter.all false
set_option maxRecDepth 100000
/-! BQ6: runs at one store. -/
namespace BX.Q
theorem bnd_at {α β : Type} {m : M α} {k : α → M β} {s s' : Sto} {a : α} {r : R β} (h : m s = .ok a s') (h' : k a s' = r) : bnd m k s = r := by rw [bnd_ok h, h']
theorem cpM_run {c : Env → M Bool} {e : Env → M D} {tg : Tg} {ρ : Env} {s : Sto} {f : D → D} : ∀ (ds : List D), (∀ d ∈ ds, ∃ ρ1, stT tg d ρ = some ρ1 ∧ c ρ1 s = .ok true s ∧ e ρ1 s = .ok (f d) s) → cpM c e tg ρ ds s = .ok (ds.map f) s
  | [], _ => rfl
  | d :: r, h => by
    obtain ⟨ρ1, h1, h2, h3⟩ := h d List.mem_cons_self
    simp only [cpM, h1]
    refine bnd_at (a := true) (s' := s) (by unfold nox; rw [h2]) ?_
    simp only [if_true]
    refine bnd_at (a := f d) (s' := s) (by unfold nox; rw [h3]) ?_
    refine bnd_at (cpM_run r fun d' hd' => h d' (List.mem_cons_of_mem _ hd')) rfl
theorem forM_inv {b : Env → MF} {tg : Tg} {s : Sto} {P : Env → Prop} : ∀ (ds : List D) (ρ : Env), (∀ d ∈ ds, ∀ ρ, P ρ → ∃ ρ1 ρ2, stT tg d ρ = some ρ1 ∧ b ρ1 s = .ok (.nx, ρ2) s ∧ P ρ2) → P ρ → ∃ ρ', forM tg b ds ρ s = .ok (.nx, ρ') s ∧ P ρ'
  | [], ρ, _, hp => ⟨ρ, rfl, hp⟩
  | d :: r, ρ, h, hp => by
    obtain ⟨ρ1, ρ2, h1, h2, h3⟩ := h d List.mem_cons_self ρ hp
    obtain ⟨ρ', g1, g2⟩ := forM_inv r ρ2 (fun d' hd' => h d' (List.mem_cons_of_mem _ hd')) h3
    refine ⟨ρ', ?_, g2⟩
    simp only [forM, h1]
    exact bnd_at h2 g1
/-- environments alike but for some slots -/
def Same (is : List Nat) (ρ ρ' : Env) : Prop := ρ'.length = ρ.length ∧ ∀ j, j ∉ is → ρ'[j]? = ρ[j]?
theorem Same.refl (is : List Nat) (ρ : Env) : Same is ρ ρ := ⟨rfl, fun _ _ => rfl⟩
theorem Same.trans {is : List Nat} {a b c : Env} (h : Same is a b) (h' : Same is b c) : Same is a c := ⟨h'.1.trans h.1, fun j hj => (h'.2 j hj).trans (h.2 j hj)⟩
theorem Same.set {is : List Nat} {ρ : Env} {i : Nat} {d : Option D} (h : i ∈ is) : Same is ρ (ρ.set i d) := ⟨List.length_set, fun j hj => List.getElem?_set_ne fun (e : i = j) => hj (by rw [← e]; exact h)⟩
theorem Same.more {is js : List Nat} {a b : Env} (h : Same is a b) (hs : ∀ i ∈ is, i ∈ js) : Same js a b := ⟨h.1, fun j hj => h.2 j fun z => hj (hs j z)⟩
theorem getV_of {i : Nat} {ρ : Env} {d : D} (h : ρ[i]? = some (some d)) : getV i ρ = ret d := by
  unfold getV
  rw [h]
theorem cpM_map {α : Type} {c : Env → M Bool} {e : Env → M D} {tg : Tg} {ρ : Env} {s : Sto} {g f : α → D} : ∀ (ks : List α), (∀ k ∈ ks, ∃ ρ1, stT tg (g k) ρ = some ρ1 ∧ c ρ1 s = .ok true s ∧ e ρ1 s = .ok (f k) s) → cpM c e tg ρ (ks.map g) s = .ok (ks.map f) s
  | [], _ => rfl
  | d :: r, h => by
    obtain ⟨ρ1, h1, h2, h3⟩ := h d List.mem_cons_self
    simp only [List.map_cons, cpM, h1]
    refine bnd_at (a := true) (s' := s) (by unfold nox; rw [h2]) ?_
    simp only [if_true]
    refine bnd_at (a := f d) (s' := s) (by unfold nox; rw [h3]) ?_
    refine bnd_at (cpM_map r fun d' hd' => h d' (List.mem_cons_of_mem _ hd')) rfl
theorem blk_nx {s : S} {ss : SL} {ρ ρ1 : Env} {st st1 : Sto} {r : R (Fl × Env)} (h : evS s ρ st = .ok (.nx, ρ1) st1) (h' : evB ss ρ1 st1 = r) : evB (.cons s ss) ρ st = r := bnd_at h h'
theorem blk_rt {s : S} {ss : SL} {ρ ρ1 : Env} {st st1 : Sto} {d : D} (h : evS s ρ st = .ok (.rt d, ρ1) st1) : evB (.cons s ss) ρ st = .ok (.rt d, ρ1) st1 := bnd_at h rfl
theorem mkF_run {ar n : Nat} {b : SL} {ds : List D} {s s' : Sto} {r : D} (hl : ds.length = ar) (h : ∃ ρ', evB b (ds.map some ++ List.replicate (n - ar) none) s = .ok (.rt r, ρ') s') : mkF ar n b ds s = .ok r s' := by
  obtain ⟨ρ', h⟩ := h
  unfold mkF
  rw [if_pos hl]
  exact bnd_at h rfl
end BX.Q

set_option Elab.async false
set_option linter.all false
set_option maxRecDepth 100000
/-! BQ7: environments that know less; what they tell stands. -/
namespace BX.Q
def leE : Env → Env → Prop
  | [], [] => True
  | x :: r, y :: r' => (x = none ∨ x = y) ∧ leE r r'
  | _, _ => False
theorem leE.rfl : ∀ {ρ : Env}, leE ρ ρ
  | [] => trivial
  | _ :: r => ⟨.inr (Eq.refl _), leE.rfl (ρ := r)⟩
theorem leE.trans : ∀ {a b c : Env}, leE a b → leE b c → leE a c
  | [], [], [], _, _ => trivial
  | x :: a, y :: b, z :: c, h, h' => by
    refine ⟨?_, leE.trans h.2 h'.2⟩
    rcases h.1 with e | e
    · exact .inl e
    · rw [e]; exact h'.1
  | [], _ :: _, _, h, _ => h.elim
  | _ :: _, [], _, h, _ => h.elim
  | [], [], _ :: _, _, h => h.elim
  | _ :: _, _ :: _, [], _, h => h.elim
theorem leE.len : ∀ {a b : Env}, leE a b → a.length = b.length
  | [], [], _ => Eq.refl _
  | x :: a, y :: b, h => by rw [List.length_cons, List.length_cons, leE.len h.2]
  | [], _ :: _, h => h.elim
  | _ :: _, [], h => h.elim
theorem leE.get : ∀ {a b : Env} {i : Nat} {d : D}, leE a b → a[i]? = some (some d) → b[i]? = some (some d)
  | [], [], _, _, _, e => by simp at e
  | x :: a, y :: b, 0, d, h, e => by
    simp only [List.getElem?_cons_zero, Option.some.injEq] at e ⊢
    rcases h.1 with z | z
    · rw [z] at e; cases e
    · rw [← z]; exact e
  | x :: a, y :: b, i + 1, d, h, e => by
    simp only [List.getElem?_cons_succ] at e ⊢
    exact leE.get h.2 e
  | [], _ :: _, _, _, h, _ => h.elim
  | _ :: _, [], _, _, h, _ => h.elim
theorem leE.set : ∀ {a b : Env} (i : Nat) (v : Option D), leE a b → leE (a.set i v) (b.set i v)
  | [], [], _, _, _ => trivial
  | x :: a, y :: b, 0, v, h => ⟨.inr (Eq.refl _), h.2⟩
  | x :: a, y :: b, i + 1, v, h => ⟨h.1, leE.set i v h.2⟩
  | [], _ :: _, _, _, h => h.elim
  | _ :: _, [], _, _, h => h.elim
theorem leE.setNone : ∀ (a : Env) (i : Nat), leE (a.set i none) a
  | [], _ => trivial
  | x :: a, 0 => ⟨.inl (Eq.refl _), leE.rfl⟩
  | x :: a, i + 1 => ⟨.inr (Eq.refl _), leE.setNone a i⟩
theorem leE.wipe : ∀ (vs : List Nat) {a b : Env}, leE a b → leE (wipeE vs a) (wipeE vs b)
  | [], _, _, h => h
  | v :: vs, _, _, h => leE.set v none (leE.wipe vs h)
theorem leE.setAll : ∀ (is : List Nat) (ds : List D) {a b : Env}, leE a b → leE (setAll is ds a) (setAll is ds b)
  | [], _, _, _, h => by simpa [BX.setAll] using h
  | _ :: _, [], _, _, h => by simpa [BX.setAll] using h
  | i :: is, d :: ds, _, _, h => by simp only [BX.setAll]; exact leE.setAll is ds (leE.set i _ h)
theorem leE.stT (tg : Tg) (d : D) {a b a' : Env} (h : leE a b) (e : stT tg d a = some a') : ∃ b', BX.stT tg d b = some b' ∧ leE a' b' := by
  cases tg with
  | one i =>
    simp only [BX.stT, Option.some.injEq] at e ⊢
    subst e
    exact ⟨_, Eq.refl _, leE.set i _ h⟩
  | many is =>
    cases d with
    | tup ds =>
      simp only [BX.stT] at e ⊢
      split at e
      · rename_i hl
        simp only [Option.some.injEq] at e
        subst e
        rw [if_pos hl]
        exact ⟨_, Eq.refl _, leE.setAll is ds h⟩
      · cases e
    | _ => cases e
/-- a run that tells the same, or more -/
def LeR {α β : Type} (R : α → β → Prop) (m : M α) (m' : M β) : Prop := ∀ s, match m s with
  | .bad => True
  | .ex c s1 => m' s = .ex c s1
  | .ok a s1 => ∃ b, m' s = .ok b s1 ∧ R a b
theorem LeR.rfl {α : Type} {m : M α} : LeR Eq m m := fun s => by
  cases e : m s with
  | ok a s1 => exact ⟨a, Eq.refl _, Eq.refl _⟩
  | ex c s1 => exact Eq.refl _
  | bad => trivial
theorem LeR.of_eq {α : Type} {m m' : M α} (h : m = m') : LeR Eq m m' := by subst h; exact LeR.rfl
theorem LeR.bad {α β : Type} {R : α → β → Prop} {m' : M β} : LeR R (bad : M α) m' := fun _ => trivial
theorem LeR.ret {α β : Type} {R : α → β → Prop} {a : α} {b : β} (h : R a b) : LeR R (ret a) (ret b) := fun _ => ⟨b, Eq.refl _, h⟩
theorem LeR.bnd {α β α' β' : Type} {R : α → β → Prop} {S : α' → β' → Prop} {m : M α} {m' : M β} {k : α → M α'} {k' : β → M β'} (h : LeR R m m') (hk : ∀ a b, R a b → LeR S (k a) (k' b)) : LeR S (bnd m k) (bnd m' k') := fun s => by
  have := h s
  unfold BX.bnd
  cases e : m s with
  | ok a s1 =>
    rw [e] at this
    obtain ⟨b, e', r⟩ := this
    rw [e']
    exact hk a b r s1
  | ex c s1 => rw [e] at this; rw [this]
  | bad => trivial
theorem LeR.bq {α α' β' : Type} {S : α' → β' → Prop} {m m' : M α} {k : α → M α'} {k' : α → M β'} (h : LeR Eq m m') (hk : ∀ a, LeR S (k a) (k' a)) : LeR S (BX.bnd m k) (BX.bnd m' k') := h.bnd fun a b e => by subst e; exact hk a
theorem LeR.bq1 {α α' : Type} {m m' : M α} {k : α → M α'} (h : LeR Eq m m') : LeR Eq (BX.bnd m k) (BX.bnd m' k) := h.bq fun _ => LeR.rfl
theorem LeR.nox {α β : Type} {R : α → β → Prop} {m : M α} {m' : M β} (h : LeR R m m') : LeR R (nox m) (nox m') := fun s => by
  have := h s
  unfold BX.nox
  cases e : m s with
  | ok a s1 =>
    rw [e] at this
    obtain ⟨b, e', r⟩ := this
    rw [e']
    exact ⟨b, Eq.refl _, r⟩
  | ex c s1 => trivial
  | bad => trivial
theorem LeR.ite {α β : Type} {R : α → β → Prop} {c : Prop} [Decidable c] {m n : M α} {m' n' : M β} (h : LeR R m m') (h' : LeR R n n') : LeR R (if c then m else n) (if c then m' else n') := by
  split
  · exact h
  · exact h'
theorem getV_le {i : Nat} {a b : Env} (h : leE a b) : LeR Eq (getV i a) (getV i b) := by
  unfold getV
  cases e : a[i]? with
  | none => exact LeR.bad
  | some x =>
    cases x with
    | none => exact LeR.bad
    | some d => rw [leE.get h e]; exact LeR.rfl
theorem cpM_le {c : Env → M Bool} {e : Env → M D} {tg : Tg} (hc : ∀ a b, leE a b → LeR Eq (c a) (c b)) (he : ∀ a b, leE a b → LeR Eq (e a) (e b)) {a b : Env} (h : leE a b) : ∀ ds : List D, LeR Eq (cpM c e tg a ds) (cpM c e tg b ds)
  | [] => LeR.rfl
  | d :: r => by
    simp only [cpM]
    cases q : stT tg d a with
    | none => exact LeR.bad
    | some a' =>
      obtain ⟨b', q', h'⟩ := leE.stT tg d h q
      rw [q']
      refine (LeR.nox (hc _ _ h')).bq fun k => ?_
      refine LeR.ite ?_ (cpM_le hc he h r)
      refine (LeR.nox (he _ _ h')).bq fun y => ?_
      exact (cpM_le hc he h r).bq1
mutual
theorem ev_le : ∀ (p : P) {a b : Env}, leE a b → LeR Eq (ev p a) (ev p b)
  | .var i, _, _, h => by simp only [ev]; exact getV_le h
  | .cI _, _, _, _ => LeR.rfl
  | .cB _, _, _, _ => LeR.rfl
  | .cN, _, _, _ => LeR.rfl
  | .cS _, _, _, _ => LeR.rfl
  | .gl _ _, _, _, _ => LeR.rfl
  | .bin o a b, _, _, h => by simp only [ev]; exact (ev_le a h).bq fun _ => (ev_le b h).bq1
  | .neg a, _, _, h => by simp only [ev]; exact (ev_le a h).bq1
  | .no a, _, _, h => by simp only [ev]; exact ((ev_le a h).bq1).bq1
  | .an ps, _, _, h => by simp only [ev]; exact evAn_le ps h
  | .orr ps, _, _, h => by simp only [ev]; exact evOr_le ps h
  | .cmp o a b, _, _, h => by simp only [ev]; exact (ev_le a h).bq fun _ => (ev_le b h).bq1
  | .chn _ _ a b c, _, _, h => by
    simp only [ev]
    exact (ev_le a h).bq fun _ => (ev_le b h).bq fun _ => LeR.rfl.bq fun _ => LeR.ite (ev_le c h).bq1 LeR.rfl
  | .ife t a b, _, _, h => by simp only [ev]; exact (evT_le t h).bq fun _ => LeR.ite (ev_le a h) (ev_le b h)
  | .ix a b, _, _, h => by simp only [ev]; exact (ev_le a h).bq fun _ => (ev_le b h).bq1
  | .sl a lo hi, _, _, h => by simp only [ev]; exact (ev_le a h).bq fun _ => (evPQ_le lo h).bq fun _ => (evPQ_le hi h).bq1
  | .rv a, _, _, h => by simp only [ev]; exact (ev_le a h).bq1
  | .st2 a _, _, _, h => by simp only [ev]; exact (ev_le a h).bq1
  | .li ps, _, _, h => by simp only [ev]; exact (evL_le ps h).bq1
  | .tu ps, _, _, h => by simp only [ev]; exact (evL_le ps h).bq1
  | .cp e tg it c own, _, _, h => by
    simp only [ev]
    exact (evI_le it h).bq fun ds => (cpM_le (fun _ _ g => evC_le c g) (fun _ _ g => ev_le e g) (leE.wipe own h) ds).bq1
  | .ca _ _ ps, _, _, h => by simp only [ev]; exact (evL_le ps h).bq1
  | .pk _ i ps, _, _, h => by simp only [ev]; exact (ev_le i h).bq fun _ => LeR.rfl.bq fun _ => LeR.rfl.bq fun _ => (evL_le ps h).bq1
  | .b1 _ a, _, _, h => by simp only [ev]; exact (ev_le a h).bq1
  | .b2 _ a b, _, _, h => by simp only [ev]; exact (ev_le a h).bq fun _ => (ev_le b h).bq1
  | .isi a _, _, _, h => by simp only [ev]; exact (ev_le a h).bq1
  | .mt _ o a, _, _, h => by simp only [ev]; exact (ev_le o h).bq fun _ => LeR.rfl.bq fun _ => (ev_le a h).bq1
  | .lr _ a b, _, _, h => by simp only [ev]; exact (ev_le a h).bq fun _ => (ev_le b h).bq1
  | .dic _ a b, _, _, h => by simp only [ev]; exact (ev_le a h).bq fun _ => (ev_le b h).bq1
  | .dix _ a, _, _, h => by simp only [ev]; exact (ev_le a h).bq1
  | .at o _ _, _, _, h => by simp only [ev]; exact (ev_le o h).bq1
  | .me o _ _ _ ps, _, _, h => by simp only [ev]; exact (ev_le o h).bq fun _ => LeR.rfl.bq fun _ => (evL_le ps h).bq1
  | .mk _ _ _ ps, _, _, h => by simp only [ev]; exact (evL_le ps h).bq1
theorem evT_le : ∀ (p : P) {a b : Env}, leE a b → LeR Eq (evT p a) (evT p b)
  | .an ps, _, _, h => by simp only [evT]; exact evTAn_le ps h
  | .orr ps, _, _, h => by simp only [evT]; exact evTOr_le ps h
  | .no a, _, _, h => by simp only [evT]; exact (evT_le a h).bq1
  | .cmp o a b, _, _, h => by simp only [evT]; exact ((ev_le a h).bq fun _ => (ev_le b h).bq1).bq1
  | .chn _ _ a b c, _, _, h => by
    simp only [evT]
    exact ((ev_le a h).bq fun _ => (ev_le b h).bq fun _ => LeR.rfl.bq fun _ => LeR.ite (ev_le c h).bq1 LeR.rfl).bq1
  | .var i, _, _, h => by simp only [evT]; exact (getV_le h).bq1
  | .cB _, _, _, _ => LeR.rfl
  | .ca _ _ ps, _, _, h => by simp only [evT]; exact ((evL_le ps h).bq1).bq1
  | .b1 _ a, _, _, h => by simp only [evT]; exact ((ev_le a h).bq1).bq1
  | .isi a _, _, _, h => by simp only [evT]; exact ((ev_le a h).bq1).bq1
  | .me o _ _ _ ps, _, _, h => by simp only [evT]; exact ((ev_le o h).bq fun _ => LeR.rfl.bq fun _ => (evL_le ps h).bq1).bq1
  | .cI _, _, _, _ => LeR.rfl
  | .cN, _, _, _ => LeR.rfl
  | .cS _, _, _, _ => LeR.rfl
  | .gl _ _, _, _, _ => LeR.rfl
  | .bin _ _ _, _, _, _ => LeR.rfl
  | .neg _, _, _, _ => LeR.rfl
  | .ife _ _ _, _, _, _ => LeR.rfl
  | .ix a b, _, _, h => by simp only [evT]; exact ((ev_le a h).bq fun _ => (ev_le b h).bq1).bq1
  | .sl _ _ _, _, _, _ => LeR.rfl
  | .rv _, _, _, _ => LeR.rfl
  | .st2 _ _, _, _, _ => LeR.rfl
  | .li _, _, _, _ => LeR.rfl
  | .tu _, _, _, _ => LeR.rfl
  | .cp _ _ _ _ _, _, _, _ => LeR.rfl
  | .pk _ _ _, _, _, _ => LeR.rfl
  | .b2 _ _ _, _, _, _ => LeR.rfl
  | .mt _ _ _, _, _, _ => LeR.rfl
  | .lr _ _ _, _, _, _ => LeR.rfl
  | .dic _ _ _, _, _, _ => LeR.rfl
  | .dix _ _, _, _, _ => LeR.rfl
  | .at _ _ _, _, _, _ => LeR.rfl
  | .mk _ _ _ _, _, _, _ => LeR.rfl
theorem evTAn_le : ∀ (ps : PL) {a b : Env}, leE a b → LeR Eq (evTAn ps a) (evTAn ps b)
  | .nil, _, _, _ => LeR.rfl
  | .cons p ps, _, _, h => by simp only [evTAn]; exact (evT_le p h).bq fun _ => LeR.ite (evTAn_le ps h) LeR.rfl
theorem evTOr_le : ∀ (ps : PL) {a b : Env}, leE a b → LeR Eq (evTOr ps a) (evTOr ps b)
  | .nil, _, _, _ => LeR.rfl
  | .cons p ps, _, _, h => by simp only [evTOr]; exact (evT_le p h).bq fun _ => LeR.ite LeR.rfl (evTOr_le ps h)
theorem evAn_le : ∀ (ps : PL) {a b : Env}, leE a b → LeR Eq (evAn ps a) (evAn ps b)
  | .nil, _, _, _ => LeR.rfl
  | .cons p .nil, _, _, h => by simp only [evAn]; exact ev_le p h
  | .cons p (.cons q ps), _, _, h => by simp only [evAn]; exact ((ev_le p h).bq1).bq fun _ => LeR.ite (evAn_le (.cons q ps) h) LeR.rfl
theorem evOr_le : ∀ (ps : PL) {a b : Env}, leE a b → LeR Eq (evOr ps a) (evOr ps b)
  | .nil, _, _, _ => LeR.rfl
  | .cons p .nil, _, _, h => by simp only [evOr]; exact ev_le p h
  | .cons p (.cons q ps), _, _, h => by simp only [evOr]; exact ((ev_le p h).bq1).bq fun _ => LeR.ite LeR.rfl (evOr_le (.cons q ps) h)
theorem evL_le : ∀ (ps : PL) {a b : Env}, leE a b → LeR Eq (evL ps a) (evL ps b)
  | .nil, _, _, _ => LeR.rfl
  | .cons p ps, _, _, h => by simp only [evL]; exact (ev_le p h).bq fun _ => (evL_le ps h).bq1
theorem evPQ_le : ∀ (p : PQ) {a b : Env}, leE a b → LeR Eq (evPQ p a) (evPQ p b)
  | .none, _, _, _ => LeR.rfl
  | .some p, _, _, h => by simp only [evPQ]; exact (ev_le p h).bq1
theorem evC_le : ∀ (p : PQ) {a b : Env}, leE a b → LeR Eq (evC p a) (evC p b)
  | .none, _, _, _ => LeR.rfl
  | .some p, _, _, h => by simp only [evC]; exact evT_le p h
theorem evI_le : ∀ (i : I) {a b : Env}, leE a b → LeR Eq (evI i a) (evI i b)
  | .e p, _, _, h => by simp only [evI]; exact (ev_le p h).bq1
  | .r1 a, _, _, h => by simp only [evI]; exact (ev_le a h).bq1
  | .r2 a b, _, _, h => by simp only [evI]; exact (ev_le a h).bq fun _ => (ev_le b h).bq1
  | .r3 a b c, _, _, h => by simp only [evI]; exact (ev_le a h).bq fun _ => (ev_le b h).bq fun _ => (ev_le c h).bq1
  | .en a, _, _, h => by simp only [evI]; exact (ev_le a h).bq1
  | .zp a b, _, _, h => by simp only [evI]; exact (ev_le a h).bq fun _ => (ev_le b h).bq1
  | .zp3 a b c, _, _, h => by simp only [evI]; exact (ev_le a h).bq fun _ => (ev_le b h).bq fun _ => (ev_le c h).bq1
end
/-! ### statements -/
def LeQ (q q' : Fl × Env) : Prop := q.1 = q'.1 ∧ leE q.2 q'.2
theorem LeR.q {fl : Fl} {a b : Env} (h : leE a b) : LeR LeQ (BX.ret (fl, a)) (BX.ret (fl, b)) := LeR.ret ⟨Eq.refl _, h⟩
theorem chg_le {i : Nat} {f : List D → Option (List D)} {a b : Env} (h : leE a b) : LeR LeQ (chg i f a) (chg i f b) := by
  unfold chg
  cases e : a[i]? with
  | none => exact LeR.bad
  | some x =>
    cases x with
    | none => exact LeR.bad
    | some d =>
      rw [leE.get h e]
      cases d with
      | lst xs =>
        simp only []
        cases f xs with
        | none => exact LeR.bad
        | some ys => exact LeR.q (leE.set i _ h)
      | _ => exact LeR.bad
theorem lsM_le {i : Nat} {a b : Env} (h : leE a b) : LeR Eq (lsM i a) (lsM i b) := by
  unfold lsM
  cases e : a[i]? with
  | none => exact LeR.bad
  | some x =>
    cases x with
    | none => exact LeR.bad
    | some d =>
      rw [leE.get h e]
      exact LeR.rfl
theorem fl_le {k k' : Env → MF} {fl : Fl} {a b : Env} (h : leE a b) (hk : LeR LeQ (k a) (k' b)) : LeR LeQ (match fl with
      | .nx => k a
      | .ct => k a
      | .bk => BX.ret (.nx, a)
      | .rt x => BX.ret (.rt x, a)) (match fl with
      | .nx => k' b
      | .ct => k' b
      | .bk => BX.ret (.nx, b)
      | .rt x => BX.ret (.rt x, b)) := by
  cases fl with
  | nx => exact hk
  | ct => exact hk
  | bk => exact LeR.q h
  | rt x => exact LeR.q h
theorem forM_le {tg : Tg} {f : Env → MF} (hf : ∀ a b, leE a b → LeR LeQ (f a) (f b)) : ∀ (ds : List D) {a b : Env}, leE a b → LeR LeQ (forM tg f ds a) (forM tg f ds b)
  | [], _, _, h => LeR.q h
  | d :: r, a, b, h => by
    simp only [forM]
    cases q : stT tg d a with
    | none => exact LeR.bad
    | some a' =>
      obtain ⟨b', q', h'⟩ := leE.stT tg d h q
      rw [q']
      refine (hf _ _ h').bnd fun x y e => ?_
      obtain ⟨fl, x⟩ := x
      obtain ⟨fl', y⟩ := y
      obtain ⟨rfl, e⟩ := e
      exact fl_le e (forM_le hf r e)
theorem whM_le {t : Env → M Bool} {f : Env → MF} (ht : ∀ a b, leE a b → LeR Eq (t a) (t b)) (hf : ∀ a b, leE a b → LeR LeQ (f a) (f b)) : ∀ (n : Nat) {a b : Env}, leE a b → LeR LeQ (whM t f n a) (whM t f n b)
  | 0, _, _, h => LeR.bad
  | n + 1, a, b, h => by
    simp only [whM]
    refine (ht _ _ h).bq fun k => LeR.ite ?_ (LeR.q h)
    refine (hf _ _ h).bnd fun x y e => ?_
    obtain ⟨fl, x⟩ := x
    obtain ⟨fl', y⟩ := y
    obtain ⟨rfl, e⟩ := e
    exact fl_le e (whM_le ht hf n e)
theorem forS_le {i : Nat} {tg : Tg} {f : Env → MF} (hf : ∀ a b, leE a b → LeR LeQ (f a) (f b)) : ∀ (n j : Nat) {a b : Env}, leE a b → LeR LeQ (forS i tg f n j a) (forS i tg f n j b)
  | 0, _, _, _, h => LeR.bad
  | n + 1, j, a, b, h => by
    simp only [forS]
    cases e : a[i]? with
    | none => exact LeR.bad
    | some x =>
      cases x with
      | none => exact LeR.bad
      | some d =>
        rw [leE.get h e]
        cases d with
        | lst ds =>
          simp only []
          cases ds[j]? with
          | none => exact LeR.q h
          | some d =>
            simp only []
            cases q : stT tg d a with
            | none => exact LeR.bad
            | some a' =>
              obtain ⟨b', q', h'⟩ := leE.stT tg d h q
              rw [q']
              refine (hf _ _ h').bnd fun x y e => ?_
              obtain ⟨fl, x⟩ := x
              obtain ⟨fl', y⟩ := y
              obtain ⟨rfl, e⟩ := e
              exact fl_le e (forS_le hf n (j + 1) e)
        | _ => exact LeR.bad
theorem tryM_le {f : Env → MF} {hs : Xc → Option D} {a b : Env} (h : leE a b) (hf : LeR LeQ (f a) (f b)) : LeR LeQ (tryM f hs a) (tryM f hs b) := fun s => by
  have := hf s
  unfold tryM
  cases e : f a s with
  | ok q s1 =>
    rw [e] at this
    obtain ⟨q', e', r⟩ := this
    rw [e']
    exact ⟨q', Eq.refl _, r⟩
  | bad => trivial
  | ex c s1 =>
    rw [e] at this
    simp only [] at this
    rw [this]
    simp only []
    cases hs c with
    | none => trivial
    | some d => exact ⟨_, Eq.refl _, Eq.refl _, h⟩
mutual
theorem evS_le : ∀ (s : S) {a b : Env}, leE a b → LeR LeQ (evS s a) (evS s b)
  | .a tg p, a, b, h => by
    simp only [evS]
    refine (ev_le p h).bq fun d => ?_
    cases q : stT tg d a with
    | none => exact LeR.bad
    | some a' =>
      obtain ⟨b', q', h'⟩ := leE.stT tg d h q
      rw [q']
      exact LeR.q h'
  | .m i p, _, _, h => by
    simp only [evS]
    exact (ev_le p h).bq fun d => LeR.ite (LeR.q (leE.set i _ h)) LeR.bad
  | .mv i j, _, _, h => by
    simp only [evS]
    exact (getV_le h).bq fun d => LeR.q (leE.set i _ (leE.set j _ h))
  | .ap i p, _, _, h => by
    simp only [evS]
    exact (lsM_le h).bq fun _ => (ev_le p h).bq fun _ => chg_le h
  | .ext i p, _, _, h => by
    simp only [evS]
    exact (lsM_le h).bq fun _ => (ev_le p h).bq fun _ => chg_le h
  | .rm i p, _, _, h => by
    simp only [evS]
    exact (lsM_le h).bq fun _ => (ev_le p h).bq fun _ => chg_le h
  | .ixs i k p, _, _, h => by
    simp only [evS]
    exact (ev_le p h).bq fun _ => (lsM_le h).bq fun _ => (ev_le k h).bq fun _ => LeR.rfl.bq fun _ => chg_le h
  | .e p, _, _, h => by
    simp only [evS]
    exact (ev_le p h).bq fun _ => LeR.q h
  | .iff t b c, _, _, h => by
    simp only [evS]
    exact (evT_le t h).bq fun _ => LeR.ite (evB_le b h) (evB_le c h)
  | .fr tg it b, _, _, h => by
    simp only [evS]
    exact (evI_le it h).bq fun ds => forM_le (fun _ _ g => evB_le b g) ds h
  | .frm i tg b, _, _, h => by
    simp only [evS]
    exact forS_le (fun _ _ g => evB_le b g) _ _ h
  | .wh t b, _, _, h => by
    simp only [evS]
    exact whM_le (fun _ _ g => evT_le t g) (fun _ _ g => evB_le b g) _ h
  | .rt p, _, _, h => by
    simp only [evS]
    exact (ev_le p h).bq fun _ => LeR.q h
  | .rn, _, _, h => LeR.q h
  | .ps, _, _, h => LeR.q h
  | .rs _ _, _, _, h => fun _ => Eq.refl _
  | .tr b _ cl al _ hd, _, _, h => by
    simp only [evS]
    exact tryM_le h (evB_le b h)
  | .sa o _ k p, _, _, h => by
    simp only [evS]
    exact (ev_le p h).bq fun _ => (ev_le o h).bq fun _ => LeR.rfl.bq fun _ => LeR.q h
theorem evB_le : ∀ (b : SL) {a b' : Env}, leE a b' → LeR LeQ (evB b a) (evB b b')
  | .nil, _, _, h => LeR.q h
  | .cons s ss, _, _, h => by
    simp only [evB]
    refine (evS_le s h).bnd fun x y e => ?_
    obtain ⟨fl, x⟩ := x
    obtain ⟨fl', y⟩ := y
    obtain ⟨rfl, e⟩ := e
    cases fl with
    | nx => exact evB_le ss e
    | rt d => exact LeR.q e
    | bk => exact LeR.q e
    | ct => exact LeR.q e
end
end BX.Q

set_option Elab.async false
set_option linter.all false
set_option maxRecDepth 100000
/-! BQ8: running by rewriting, store by store; loops by their states. -/
namespace BX.Q
def Rb {α β : Type} (r : R α) (k : α → M β) : R β := match r with
  | .ok a s => k a s
  | .ex c s => .ex c s
  | .bad => .bad
theorem Rb_congr {α β : Type} {r r' : R α} (k : α → M β) (h : r = r') : Rb r k = Rb r' k := by rw [h]
theorem bnd_s {α β : Type} (m : M α) (k : α → M β) (s : Sto) : bnd m k s = Rb (m s) k := by
  unfold bnd Rb
  cases m s <;> rfl
theorem Rb_ok {α β : Type} (a : α) (s : Sto) (k : α → M β) : Rb (.ok a s) k = k a s := rfl
theorem Rb_ex {α β : Type} (c : Xc) (s : Sto) (k : α → M β) : Rb (.ex c s) k = .ex c s := rfl
theorem ret_s {α : Type} (a : α) (s : Sto) : ret a s = .ok a s := rfl
theorem exc_s {α : Type} (c : Xc) (s : Sto) : (exc c : M α) s = .ex c s := rfl
def Rn {α : Type} (r : R α) : R α := match r with
  | .ex _ _ => .bad
  | r => r
theorem nox_s {α : Type} (m : M α) (s : Sto) : nox m s = Rn (m s) := rfl
theorem Rn_ok {α : Type} (a : α) (s : Sto) : Rn (.ok a s) = .ok a s := rfl
theorem ite_s {α : Type} (c : Prop) [Decidable c] (m n : M α) (s : Sto) : (if c then m else n) s = if c then m s else n s := by split <;> rfl
theorem iteB_s {α : Type} (c : Bool) (m n : M α) (s : Sto) : (bif c then m else n) s = bif c then m s else n s := by cases c <;> rfl
theorem evB_nil (ρ : Env) : evB .nil ρ = ret (.nx, ρ) := rfl
theorem thenB_nx (b : SL) (ρ : Env) : thenB b (.nx, ρ) = evB b ρ := rfl
theorem thenB_rt (b : SL) (ρ : Env) (d : D) : thenB b (.rt d, ρ) = ret (.rt d, ρ) := rfl
theorem thenB_ct (b : SL) (ρ : Env) : thenB b (.ct, ρ) = ret (.ct, ρ) := rfl
theorem getV_s (i : Nat) (ρ : Env) (s : Sto) (d : D) (h : ρ[i]? = some (some d)) : getV i ρ s = .ok d s := by
  rw [getV_of h]; rfl
theorem ofO_some {α : Type} (a : α) (s : Sto) : ofO (some a) s = .ok a s := rfl
theorem mkL_s {xs : List D} (s : Sto) (h : xs.length ≤ 16777216) : mkL xs s = .ok (.lst xs) s := by
  unfold mkL
  rw [if_pos (show xs.length ≤ LIM from h)]; rfl
theorem mkT_s {xs : List D} (s : Sto) (h : xs.length ≤ 16777216) : mkT xs s = .ok (.tup xs) s := by
  unfold mkT
  rw [if_pos (show xs.length ≤ LIM from h)]; rfl
theorem mkS_s {xs : List Nat} (s : Sto) (h : xs.length ≤ 16777216) : mkS xs s = .ok (.str xs) s := by
  unfold mkS
  rw [if_pos (show xs.length ≤ LIM from h)]; rfl
theorem asB_s (b : Bool) (s : Sto) : asB (.bl b) s = .ok b s := rfl
theorem asI_s (b : Int) (s : Sto) : asI (.int b) s = .ok b s := rfl
theorem addI_s (a b : Int) (s : Sto) : opD .add (.int a) (.int b) s = .ok (.int (a + b)) s := rfl
theorem subI_s (a b : Int) (s : Sto) : opD .sub (.int a) (.int b) s = .ok (.int (a - b)) s := rfl
theorem addL_s (a b : List D) (s : Sto) (h : (a ++ b).length ≤ 16777216) : opD .add (.lst a) (.lst b) s = .ok (.lst (a ++ b)) s := mkL_s s h
theorem addT_s (a b : List D) (s : Sto) (h : (a ++ b).length ≤ 16777216) : opD .add (.tup a) (.tup b) s = .ok (.tup (a ++ b)) s := mkT_s s h
theorem addS_s (a b : List Nat) (s : Sto) (h : (a ++ b).length ≤ 16777216) : opD .add (.str a) (.str b) s = .ok (.str (a ++ b)) s := mkS_s s h
theorem inb_of {a : Int} (h : -(2 ^ 64) < a ∧ a < 2 ^ 64) : inb a = true := by unfold inb; rw [decide_eq_true h.1, decide_eq_true h.2]; rfl
theorem mulI_s (a b : Int) (s : Sto) (h : -18446744073709551616 < b ∧ b < 18446744073709551616) : opD .mul (.int a) (.int b) s = .ok (.int (a * b)) s := by
  exact congrFun (inb_r (a := a) (b := b) (by omega)) s
theorem mulI_s' (a b : Int) (s : Sto) (h : -18446744073709551616 < a ∧ a < 18446744073709551616) : opD .mul (.int a) (.int b) s = .ok (.int (a * b)) s := by
  exact congrFun (inb_c (a := a) (b := b) (by omega)) s
theorem mulL_s (a : List D) (k : Int) (s : Sto) (h : -9223372036854775808 ≤ k ∧ k < 9223372036854775808 ∧ a.length * k.toNat ≤ 16777216) : opD .mul (.lst a) (.int k) s = .ok (.lst (rep k.toNat a)) s := by
  show (if okRep a.length k = true then ret (D.lst (rep k.toNat a)) else bad) s = _
  rw [if_pos (by unfold okRep; simp only [Bool.and_eq_true, decide_eq_true_eq]; exact ⟨⟨by omega, by omega⟩, h.2.2⟩)]; rfl
theorem mulT_s (a : List D) (k : Int) (s : Sto) (h : -9223372036854775808 ≤ k ∧ k < 9223372036854775808 ∧ a.length * k.toNat ≤ 16777216) : opD .mul (.tup a) (.int k) s = .ok (.tup (rep k.toNat a)) s := by
  show (if okRep a.length k = true then ret (D.tup (rep k.toNat a)) else bad) s = _
  rw [if_pos (by unfold okRep; simp only [Bool.and_eq_true, decide_eq_true_eq]; exact ⟨⟨by omega, by omega⟩, h.2.2⟩)]; rfl
theorem modI_s (a b : Int) (s : Sto) (h : b ≠ 0) : opD .mod (.int a) (.int b) s = .ok (.int (a.fmod b)) s := by
  exact congrFun (modD_ok (a := a) h) s
theorem fdivI_s (a b : Int) (s : Sto) (h : b ≠ 0) (h2 : b.natAbs < 1073741824) : opD .fdiv (.int a) (.int b) s = .ok (.int (a.fdiv b)) s := by
  exact congrFun (fdivD_ok (a := a) h h2) s
theorem ltI_s (a b : Int) (s : Sto) : cmpD .lt (.int a) (.int b) s = .ok (.bl (decide (a < b))) s := rfl
theorem leI_s (a b : Int) (s : Sto) : cmpD .le (.int a) (.int b) s = .ok (.bl (decide (a ≤ b))) s := rfl
theorem gtI_s (a b : Int) (s : Sto) : cmpD .gt (.int a) (.int b) s = .ok (.bl (decide (b < a))) s := rfl
theorem geI_s (a b : Int) (s : Sto) : cmpD .ge (.int a) (.int b) s = .ok (.bl (decide (b ≤ a))) s := rfl
theorem eqI_s (a b : Int) (s : Sto) : cmpD .eq (.int a) (.int b) s = .ok (.bl (decide (a = b))) s := by
  show R.ok (D.bl (xor false (a == b))) s = _
  rw [Bool.false_xor]; rfl
theorem neI_s (a b : Int) (s : Sto) : cmpD .ne (.int a) (.int b) s = .ok (.bl (!decide (a = b))) s := by
  show R.ok (D.bl (xor true (a == b))) s = _
  rw [Bool.true_xor]; rfl
theorem isN_s (d : D) (s : Sto) : cmpD .is_ d .non s = .ok (.bl (isNon d)) s := by
  show R.ok (D.bl (xor false (isNon d))) s = _
  rw [Bool.false_xor]
theorem nisN_s (d : D) (s : Sto) : cmpD .isnot d .non s = .ok (.bl (!isNon d)) s := by
  show R.ok (D.bl (xor true (isNon d))) s = _
  rw [Bool.true_xor]
/-! ### typed data -/
/-- e tells unlike things apart; so deep -/
structure GE {α : Type} [DecidableEq α] (n : Nat) (e : α → D) : Prop where
  eq : ∀ a b, eqD (e a) (e b) = decide (a = b)
  dep : ∀ a, sh n (e a) = true
mutual
theorem sh_mono : ∀ {n m : Nat} (d : D), n ≤ m → sh n d = true → sh m d = true
  | _, _, .non, _, _ => by simp [sh]
  | _, _, .bl _, _, _ => by simp [sh]
  | _, _, .int _, _, _ => by simp [sh]
  | _, _, .str _, _, _ => by simp [sh]
  | n + 1, m + 1, .tup xs, h, e => by simp only [sh] at e ⊢; exact shL_mono xs (by omega) e
  | n + 1, m + 1, .lst xs, h, e => by simp only [sh] at e ⊢; exact shL_mono xs (by omega) e
  | 0, _, .tup xs, h, e => by simp [sh] at e
  | 0, _, .lst xs, h, e => by simp [sh] at e
  | n + 1, 0, .tup xs, h, e => by omega
  | n + 1, 0, .lst xs, h, e => by omega
  | _, _, .scr _, h, e => by simp [sh] at e
  | _, _, .obj _, h, e => by simp [sh] at e
theorem shL_mono : ∀ {n m : Nat} (xs : List D), n ≤ m → shL n xs = true → shL m xs = true
  | _, _, [], _, _ => by simp [shL]
  | _, _, x :: xs, h, e => by
    simp only [shL, Bool.and_eq_true] at e ⊢
    exact ⟨sh_mono x h e.1, shL_mono xs h e.2⟩
end
section
variable {α β γ : Type} [DecidableEq α] [DecidableEq β] [DecidableEq γ] {n : Nat}
theorem GE.int : GE 0 D.int := ⟨fun a b => by simp only [eqD]; rfl, fun _ => by simp [sh]⟩
theorem GE.bl : GE 0 D.bl := ⟨fun a b => by simp only [eqD]; cases a <;> cases b <;> rfl, fun _ => by simp [sh]⟩
theorem GE.str : GE 0 D.str := ⟨fun a b => by simp only [eqD]; by_cases h : a = b <;> simp [h], fun _ => by simp [sh]⟩
theorem GE.up {m : Nat} {e : α → D} (h : GE n e) (hm : n ≤ m) : GE m e := ⟨h.eq, fun a => sh_mono _ hm (h.dep a)⟩
theorem GE.eqL {e : α → D} (h : GE n e) : ∀ xs ys : List α, BX.eqL (xs.map e) (ys.map e) = decide (xs = ys)
  | [], [] => by simp [BX.eqL]
  | [], _ :: _ => by simp [BX.eqL]
  | _ :: _, [] => by simp [BX.eqL]
  | x :: xs, y :: ys => by
    simp only [List.map_cons, BX.eqL, h.eq, GE.eqL h xs ys, List.cons.injEq]
    by_cases a : x = y <;> by_cases b : xs = ys <;> simp [a, b]
theorem GE.shL {e : α → D} (h : GE n e) : ∀ xs : List α, BX.shL n (xs.map e) = true
  | [] => by simp [BX.shL]
  | x :: xs => by simp only [List.map_cons, BX.shL, h.dep, GE.shL h xs]; rfl
theorem GE.lst {e : α → D} (h : GE n e) : GE (n + 1) (fun xs : List α => D.lst (xs.map e)) := ⟨fun a b => by simp only [eqD]; exact h.eqL a b, fun a => by simp only [sh]; exact h.shL a⟩
theorem GE.tup {e : α → D} (h : GE n e) : GE (n + 1) (fun xs : List α => D.tup (xs.map e)) := ⟨fun a b => by simp only [eqD]; exact h.eqL a b, fun a => by simp only [sh]; exact h.shL a⟩
theorem GE.pair {e : α → D} {f : β → D} (h : GE n e) (h' : GE n f) : GE (n + 1) (fun p : α × β => D.tup [e p.1, f p.2]) := ⟨fun a b => by
    simp only [eqD, BX.eqL, h.eq, h'.eq, Prod.ext_iff]
    by_cases x : a.1 = b.1 <;> by_cases y : a.2 = b.2 <;> simp [x, y], fun a => by simp only [sh, BX.shL, h.dep, h'.dep]; rfl⟩
theorem GE.trip {e : α → D} {f : β → D} {g : γ → D} (h : GE n e) (h' : GE n f) (h'' : GE n g) : GE (n + 1) (fun p : α × β × γ => D.tup [e p.1, f p.2.1, g p.2.2]) := ⟨fun a b => by
    simp only [eqD, BX.eqL, h.eq, h'.eq, h''.eq, Prod.ext_iff]
    by_cases x : a.1 = b.1 <;> by_cases y : a.2.1 = b.2.1 <;> by_cases z : a.2.2 = b.2.2 <;> simp [x, y, z], fun a => by simp only [sh, BX.shL, h.dep, h'.dep, h''.dep]; rfl⟩
theorem eqM_e {e : α → D} (h : GE 60 e) (neg : Bool) (a b : α) (s : Sto) (hn : ∀ a, nrm (e a) = e a) : eqM neg (e a) (e b) s = .ok (.bl (xor neg (decide (a = b)))) s := by
  unfold eqM
  rw [hn, hn, h.dep, h.dep, h.eq]
  rfl
theorem eqL_s {e : α → D} (h : GE 50 e) (a b : List α) (s : Sto) : cmpD .eq (.lst (a.map e)) (.lst (b.map e)) s = .ok (.bl (decide (a = b))) s := by
  have := eqM_e (e := fun xs : List α => D.lst (xs.map e)) (h.lst.up (by omega)) false a b s (fun _ => rfl)
  rwa [Bool.false_xor] at this
theorem neL_s {e : α → D} (h : GE 50 e) (a b : List α) (s : Sto) : cmpD .ne (.lst (a.map e)) (.lst (b.map e)) s = .ok (.bl (!decide (a = b))) s := by
  have := eqM_e (e := fun xs : List α => D.lst (xs.map e)) (h.lst.up (by omega)) true a b s (fun _ => rfl)
  rwa [Bool.true_xor] at this
theorem eqT_s {e : α → D} (h : GE 50 e) (a b : List α) (s : Sto) : cmpD .eq (.tup (a.map e)) (.tup (b.map e)) s = .ok (.bl (decide (a = b))) s := by
  have := eqM_e (e := fun xs : List α => D.tup (xs.map e)) (h.tup.up (by omega)) false a b s (fun _ => rfl)
  rwa [Bool.false_xor] at this
theorem neT_s {e : α → D} (h : GE 50 e) (a b : List α) (s : Sto) : cmpD .ne (.tup (a.map e)) (.tup (b.map e)) s = .ok (.bl (!decide (a = b))) s := by
  have := eqM_e (e := fun xs : List α => D.tup (xs.map e)) (h.tup.up (by omega)) true a b s (fun _ => rfl)
  rwa [Bool.true_xor] at this
theorem eqLnil_s {e : α → D} (h : ∀ a, sh 50 (e a) = true) (a : List α) (s : Sto) : cmpD .eq (.lst (a.map e)) (.lst []) s = .ok (.bl a.isEmpty) s := by
  show eqM false _ _ s = _
  unfold eqM
  have : BX.shL 59 (a.map e) = true := by
    induction a with
    | nil => simp [BX.shL]
    | cons x r ih => simp only [List.map_cons, BX.shL, ih, sh_mono (m := 59) _ (by omega) (h x)]; rfl
  rw [if_pos (by simp only [nrm, sh, this, BX.shL]; rfl)]
  cases a <;> rfl
theorem neLnil_s {e : α → D} (h : ∀ a, sh 50 (e a) = true) (a : List α) (s : Sto) : cmpD .ne (.lst (a.map e)) (.lst []) s = .ok (.bl (!a.isEmpty)) s := by
  show eqM true _ _ s = _
  unfold eqM
  have : BX.shL 59 (a.map e) = true := by
    induction a with
    | nil => simp [BX.shL]
    | cons x r ih => simp only [List.map_cons, BX.shL, ih, sh_mono (m := 59) _ (by omega) (h x)]; rfl
  rw [if_pos (by simp only [nrm, sh, this, BX.shL]; rfl)]
  cases a <;> rfl
theorem anyE {e : α → D} (h : GE n e) (x : α) : ∀ xs : List α, ((xs.map e).any fun z => eqD z (e x)) = decide (x ∈ xs)
  | [] => by simp
  | y :: ys => by
    have := anyE h x ys
    simp only [List.map_cons, List.any_cons, h.eq, this, List.mem_cons]
    by_cases a : y = x
    · subst a; simp
    · have a' : ¬ x = y := fun z => a z.symm
      simp [a, a']
theorem inL_s {e : α → D} (h : GE 50 e) (x : α) (xs : List α) (s : Sto) : cmpD .isin (e x) (.lst (xs.map e)) s = .ok (.bl (decide (x ∈ xs))) s := by
  show (if (sh 60 (e x) && BX.shL 60 (xs.map e)) = true then ret (D.bl (xor false ((xs.map e).any fun z => eqD z (e x)))) else bad) s = _
  rw [if_pos (by rw [(h.up (by omega : 50 ≤ 60)).dep, (h.up (by omega : 50 ≤ 60)).shL]; rfl), anyE h, Bool.false_xor]; rfl
theorem ninL_s {e : α → D} (h : GE 50 e) (x : α) (xs : List α) (s : Sto) : cmpD .notin (e x) (.lst (xs.map e)) s = .ok (.bl (!decide (x ∈ xs))) s := by
  show (if (sh 60 (e x) && BX.shL 60 (xs.map e)) = true then ret (D.bl (xor true ((xs.map e).any fun z => eqD z (e x)))) else bad) s = _
  rw [if_pos (by rw [(h.up (by omega : 50 ≤ 60)).dep, (h.up (by omega : 50 ≤ 60)).shL]; rfl), anyE h, Bool.true_xor]; rfl
theorem inT_s {e : α → D} (h : GE 50 e) (x : α) (xs : List α) (s : Sto) : cmpD .isin (e x) (.tup (xs.map e)) s = .ok (.bl (decide (x ∈ xs))) s := by
  show (if (sh 60 (e x) && BX.shL 60 (xs.map e)) = true then ret (D.bl (xor false ((xs.map e).any fun z => eqD z (e x)))) else bad) s = _
  rw [if_pos (by rw [(h.up (by omega : 50 ≤ 60)).dep, (h.up (by omega : 50 ≤ 60)).shL]; rfl), anyE h, Bool.false_xor]; rfl
theorem ninT_s {e : α → D} (h : GE 50 e) (x : α) (xs : List α) (s : Sto) : cmpD .notin (e x) (.tup (xs.map e)) s = .ok (.bl (!decide (x ∈ xs))) s := by
  show (if (sh 60 (e x) && BX.shL 60 (xs.map e)) = true then ret (D.bl (xor true ((xs.map e).any fun z => eqD z (e x)))) else bad) s = _
  rw [if_pos (by rw [(h.up (by omega : 50 ≤ 60)).dep, (h.up (by omega : 50 ≤ 60)).shL]; rfl), anyE h, Bool.true_xor]; rfl
end
/-! ### what a block is to end in -/
inductive Tgt where
  | val (d : D) (s : Sto) | env (ρ : Env) (s : Sto) | exc (c : Xc) (s : Sto)
def Meets (r : R (Fl × Env)) : Tgt → Prop
  | .val d s => (∃ ρ, r = .ok (.rt d, ρ) s) ∨ (d = .non ∧ ∃ ρ, r = .ok (.nx, ρ) s)
  | .env ρ s => ∃ ρ1, (r = .ok (.nx, ρ1) s ∨ r = .ok (.ct, ρ1) s) ∧ leE ρ ρ1
  | .exc c s => r = .ex c s
theorem Meets.up {b : SL} {ρ ρ' : Env} {s : Sto} {t : Tgt} (h : leE ρ ρ') (m : Meets (evB b ρ s) t) : Meets (evB b ρ' s) t := by
  have z := evB_le b h s
  cases t with
  | val d s1 =>
    rcases m with ⟨ρ1, e⟩ | ⟨hd, ρ1, e⟩
    · rw [e] at z
      obtain ⟨⟨fl, ρ2⟩, e', h1, h2⟩ := z
      simp only at h1
      subst h1
      exact .inl ⟨ρ2, e'⟩
    · rw [e] at z
      obtain ⟨⟨fl, ρ2⟩, e', h1, h2⟩ := z
      simp only at h1
      subst h1
      exact .inr ⟨hd, ρ2, e'⟩
  | env ρc s1 =>
    obtain ⟨ρ1, e | e, hl⟩ := m
    · rw [e] at z
      obtain ⟨⟨fl, ρ2⟩, e', h1, h2⟩ := z
      simp only at h1
      subst h1
      exact ⟨ρ2, .inl e', hl.trans h2⟩
    · rw [e] at z
      obtain ⟨⟨fl, ρ2⟩, e', h1, h2⟩ := z
      simp only at h1
      subst h1
      exact ⟨ρ2, .inr e', hl.trans h2⟩
  | exc c s1 =>
    have m' : evB b ρ s = .ex c s1 := m
    rw [m'] at z
    exact z
theorem Meets.val {d : D} {ρ : Env} {s : Sto} : Meets (.ok (.rt d, ρ) s) (.val d s) := .inl ⟨ρ, rfl⟩
theorem Meets.non {ρ : Env} {s : Sto} : Meets (.ok (.nx, ρ) s) (.val .non s) := .inr ⟨rfl, ρ, rfl⟩
theorem Meets.env {ρ ρc : Env} {s : Sto} (h : leE ρc ρ) : Meets (.ok (.nx, ρ) s) (.env ρc s) := ⟨ρ, .inl rfl, h⟩
theorem Meets.ct {ρ ρc : Env} {s : Sto} (h : leE ρc ρ) : Meets (.ok (.ct, ρ) s) (.env ρc s) := ⟨ρ, .inr rfl, h⟩
theorem Meets.exc {c : Xc} {s : Sto} : Meets (.ex c s) (.exc c s) := rfl
/-- a def -/
theorem mkF_val {ar n : Nat} {b : SL} {ds : List D} {s s' : Sto} {d : D} (hl : ds.length = ar) (h : Meets (evB b (ds.map some ++ List.replicate (n - ar) none) s) (.val d s')) : mkF ar n b ds s = .ok d s' := by
  unfold mkF
  rw [if_pos hl, bnd_s]
  rcases h with ⟨ρ, e⟩ | ⟨hd, ρ, e⟩
  · rw [e]; rfl
  · rw [e, hd]; rfl
theorem mkF_exc {ar n : Nat} {b : SL} {ds : List D} {s s' : Sto} {c : Xc} (hl : ds.length = ar) (h : Meets (evB b (ds.map some ++ List.replicate (n - ar) none) s) (.exc c s')) : mkF ar n b ds s = .ex c s' := by
  unfold mkF
  have h' : evB b (ds.map some ++ List.replicate (n - ar) none) s = .ex c s' := h
  rw [if_pos hl, bnd_s, h']; rfl
/-! ### loops -/
theorem then_env {r : R (Fl × Env)} {ss : SL} {ρc : Env} {s : Sto} {t : Tgt} (h : ∃ ρ1, r = .ok (.nx, ρ1) s ∧ leE ρc ρ1) (m : Meets (evB ss ρc s) t) : Meets (Rb r (thenB ss)) t := by
  obtain ⟨ρ1, e, h⟩ := h
  rw [e]
  exact m.up h
theorem forM_fold {α σ : Type} (E : σ → Env) (S : σ → Sto) (f : σ → α → σ) (g : α → D) {body : SL} {tg : Tg} : ∀ (as : List α) (st : σ) (ρ : Env), leE (E st) ρ →
    (∀ pre a post, as = pre ++ a :: post → ∃ ρ1, stT tg (g a) (E (pre.foldl f st)) = some ρ1 ∧ Meets (evB body ρ1 (S (pre.foldl f st))) (.env (E (f (pre.foldl f st) a)) (S (f (pre.foldl f st) a)))) →
    ∃ ρ', forM tg (evB body) (as.map g) ρ (S st) = .ok (.nx, ρ') (S (as.foldl f st)) ∧ leE (E (as.foldl f st)) ρ'
  | [], st, ρ, h, _ => ⟨ρ, rfl, h⟩
  | a :: r, st, ρ, h, hb => by
    obtain ⟨ρ1, h1, h2⟩ := hb [] a r rfl
    obtain ⟨ρ1', h1', h3⟩ := leE.stT tg (g a) h h1
    have m := h2.up h3
    simp only [List.foldl_nil] at m
    obtain ⟨ρ2, e, h4⟩ := m
    obtain ⟨ρ', g1, g2⟩ := forM_fold E S f g r (f st a) ρ2 h4 fun pre a' post he => by
      have := hb (a :: pre) a' post (by rw [he]; rfl)
      exact this
    refine ⟨ρ', ?_, g2⟩
    simp only [List.map_cons, forM, h1', bnd_s]
    rcases e with e | e <;> rw [e, Rb_ok] <;> exact g1
/-- for a in as -/
theorem for_fold {α σ : Type} (E : σ → Env) (S : σ → Sto) (f : σ → α → σ) (st : σ) {g : α → D} {body ss : SL} {tg : Tg} {as : List α} {ρ : Env} {t : Tgt} (h : leE (E st) ρ)
    (hb : ∀ pre a post, as = pre ++ a :: post → ∃ ρ1, stT tg (g a) (E (pre.foldl f st)) = some ρ1 ∧ Meets (evB body ρ1 (S (pre.foldl f st))) (.env (E (f (pre.foldl f st) a)) (S (f (pre.foldl f st) a))))
    (m : Meets (evB ss (E (as.foldl f st)) (S (as.foldl f st))) t) : Meets (Rb (forM tg (evB body) (as.map g) ρ (S st)) (thenB ss)) t := then_env (forM_fold E S f g as st ρ h hb) m
/-- the same, no store -/
theorem for_pure {α σ : Type} (E : σ → Env) (f : σ → α → σ) (st : σ) {g : α → D} {body ss : SL} {tg : Tg} {as : List α} {ρ : Env} {t : Tgt} {s : Sto} (h : leE (E st) ρ)
    (hb : ∀ pre a post, as = pre ++ a :: post → ∃ ρ1, stT tg (g a) (E (pre.foldl f st)) = some ρ1 ∧ Meets (evB body ρ1 s) (.env (E (f (pre.foldl f st) a)) s))
    (m : Meets (evB ss (E (as.foldl f st)) s) t) : Meets (Rb (forM tg (evB body) (as.map g) ρ s) (thenB ss)) t := then_env (forM_fold E (fun _ => s) f g as st ρ h hb) m
/-- each turn leaves what is known as it is -/
theorem for_each {α : Type} (E : Env) {g : α → D} {body ss : SL} {tg : Tg} {as : List α} {ρ : Env} {t : Tgt} {s : Sto} (h : leE E ρ)
    (hb : ∀ a ∈ as, ∃ ρ1, stT tg (g a) E = some ρ1 ∧ Meets (evB body ρ1 s) (.env E s))
    (m : Meets (evB ss E s) t) : Meets (Rb (forM tg (evB body) (as.map g) ρ s) (thenB ss)) t :=
  for_pure (fun _ : Unit => E) (fun _ _ => ()) () h (fun pre a post e => hb a (by rw [e]; simp)) m
/-- a search -/
theorem for_find {α : Type} (E : Env) (p : α → Bool) (v : α → D) {g : α → D} {body ss : SL} {tg : Tg} {t : Tgt} {s : Sto} : ∀ {as : List α} {ρ : Env}, leE E ρ →
    (∀ a ∈ as, ∃ ρ1, stT tg (g a) E = some ρ1 ∧ if p a then ∃ ρ2, evB body ρ1 s = .ok (.rt (v a), ρ2) s else Meets (evB body ρ1 s) (.env E s)) →
    (match as.find? p with
      | none => Meets (evB ss E s) t
      | some a => t = .val (v a) s) → Meets (Rb (forM tg (evB body) (as.map g) ρ s) (thenB ss)) t
  | [], ρ, h, _, m => Meets.up h m
  | a :: r, ρ, h, hb, m => by
    obtain ⟨ρ1, h1, h2⟩ := hb a List.mem_cons_self
    obtain ⟨ρ1', h1', h3⟩ := leE.stT tg (g a) h h1
    simp only [List.map_cons, forM, h1', bnd_s]
    by_cases c : p a = true
    · rw [if_pos c] at h2
      obtain ⟨ρ2, e⟩ := h2
      have z := evB_le body h3 s
      rw [e] at z
      obtain ⟨⟨fl, ρ3⟩, e', q1, q2⟩ := z
      simp only at q1
      subst q1
      rw [e', Rb_ok]
      simp only [List.find?_cons, c] at m
      rw [m]
      exact Meets.val
    · rw [if_neg c] at h2
      obtain ⟨ρ2, e, h4⟩ := h2.up h3
      simp only [List.find?_cons, c] at m
      have := for_find E p v (as := r) (ρ := ρ2) h4 (fun a' ha' => hb a' (List.mem_cons_of_mem _ ha')) m
      rcases e with e | e <;> rw [e, Rb_ok] <;> exact this
/-- a comprehension -/
theorem cpM_s {α : Type} (p : α → Bool) (f : α → D) {c : Env → M Bool} {e : Env → M D} {tg : Tg} {g : α → D} {ρ : Env} {s : Sto} : ∀ {as : List α},
    (∀ a ∈ as, ∃ ρ1, stT tg (g a) ρ = some ρ1 ∧ c ρ1 s = .ok (p a) s ∧ (p a = true → e ρ1 s = .ok (f a) s)) → cpM c e tg ρ (as.map g) s = .ok ((as.filter p).map f) s
  | [], _ => rfl
  | a :: r, h => by
    obtain ⟨ρ1, h1, h2, h3⟩ := h a List.mem_cons_self
    have ih := cpM_s p f (as := r) fun a' ha' => h a' (List.mem_cons_of_mem _ ha')
    simp only [List.map_cons, cpM, h1, bnd_s, nox_s, h2, Rn_ok, Rb_ok]
    by_cases k : p a = true
    · simp only [k, if_true, bnd_s, nox_s, h3 k, Rn_ok, Rb_ok, ih, ret_s, List.filter_cons_of_pos k, List.map_cons]
    · rw [if_neg k, ih, List.filter_cons_of_neg k]
theorem cpM_e {α : Type} (f : α → D) {e : Env → M D} {tg : Tg} {g : α → D} {ρ : Env} {s : Sto} {as : List α}
    (h : ∀ a ∈ as, ∃ ρ1, stT tg (g a) ρ = some ρ1 ∧ e ρ1 s = .ok (f a) s) : cpM (evC .none) e tg ρ (as.map g) s = .ok (as.map f) s := by
  have := cpM_s (c := evC .none) (e := e) (tg := tg) (ρ := ρ) (s := s) (fun _ => true) f (g := g) (as := as) fun a ha => by
    obtain ⟨ρ1, h1, h2⟩ := h a ha
    exact ⟨ρ1, h1, rfl, fun _ => h2⟩
  rw [this, List.filter_eq_self.mpr fun _ _ => rfl]
/-- while -/
theorem wh_run {σ : Type} (E : σ → Env) (c : σ → Bool) (f : σ → σ) {t : P} {body ss : SL} {s : Sto} {tt : Tgt} : ∀ (n : Nat) (st : σ) (m : Nat) {ρ : Env}, n < m → leE (E st) ρ →
    (∀ k ≤ n, evT t (E (Nat.repeat f k st)) s = .ok (decide (k < n)) s) → (∀ k < n, Meets (evB body (E (Nat.repeat f k st)) s) (.env (E (Nat.repeat f (k + 1) st)) s)) →
    Meets (evB ss (E (Nat.repeat f n st)) s) tt → Meets (Rb (whM (evT t) (evB body) m ρ s) (thenB ss)) tt := by
  intro n
  induction n with
  | zero =>
    intro st m ρ hm h ht hb me
    obtain ⟨m, rfl⟩ : ∃ m', m = m' + 1 := ⟨m - 1, by omega⟩
    have := ht 0 (Nat.le_refl _)
    have z := evT_le t h s
    simp only [Nat.repeat] at this z
    rw [this] at z
    obtain ⟨b, e, rfl⟩ := z
    simp only [whM, bnd_s, e, Rb_ok]
    exact Meets.up h me
  | succ n ih =>
    intro st m ρ hm h ht hb me
    obtain ⟨m, rfl⟩ : ∃ m', m = m' + 1 := ⟨m - 1, by omega⟩
    have := ht 0 (by omega)
    have z := evT_le t h s
    simp only [Nat.repeat] at this z
    rw [this] at z
    obtain ⟨b, e, rfl⟩ := z
    have m0 := hb 0 (by omega)
    simp only [Nat.repeat] at m0
    obtain ⟨ρ2, e2, h2⟩ := m0.up h
    have comm : ∀ k, Nat.repeat f k (f st) = Nat.repeat f (k + 1) st := fun k => by
      induction k with
      | zero => rfl
      | succ k ihk => show f (Nat.repeat f k (f st)) = f (Nat.repeat f (k + 1) st); rw [ihk]
    have := ih (f st) m (ρ := ρ2) (by omega) h2 (fun k hk => by
        rw [comm, ht (k + 1) (by omega)]
        congr 1
        exact decide_eq_decide.mpr (by omega)) (fun k hk => by rw [comm, comm]; exact hb (k + 1) (by omega)) (by rw [comm]; exact me)
    simp only [whM, bnd_s, e, Rb_ok]
    rw [show decide (0 < n + 1) = true from decide_eq_true (by omega)]
    simp only [if_true, bnd_s]
    rcases e2 with e2 | e2 <;> rw [e2, Rb_ok] <;> exact this
/-! ### lists of a range, places -/
theorem rngI_map (a : Int) : ∀ (n : Nat), rngI a 1 n = (List.range n).map fun (k : Nat) => D.int (a + k) := by
  intro n
  induction n generalizing a with
  | zero => rfl
  | succ n ih =>
    rw [rngI, ih, List.range_succ_eq_map, List.map_cons, List.map_map]
    congr 1
    · simp
    · apply List.map_congr_left
      intro k _
      simp only [Function.comp]
      congr 1
      omega
theorem rngM_s {a b : Int} (s : Sto) (h : 0 ≤ a ∧ a ≤ 1000000 ∧ -1000000 ≤ b ∧ b ≤ 1000000) : rngM a b s = .ok ((List.range (b - a).toNat).map fun (k : Nat) => D.int (a + k)) s := by
  unfold rngM
  rw [if_pos (by simp only [Bool.and_eq_true, decide_eq_true_eq]; exact ⟨⟨⟨⟨by omega, by omega⟩, by omega⟩, by omega⟩, (show _ ≤ 16777216 by omega)⟩), rngI_map]; rfl
theorem enumL_map {α : Type} (e : α → D) : ∀ (n : Nat) (xs : List α), enumL n (xs.map e) = (xs.zipIdx n).map fun p => D.tup [.int (p.2 : Nat), e p.1]
  | _, [] => rfl
  | n, x :: xs => by
    simp only [List.map_cons, enumL, List.zipIdx_cons, enumL_map e (n + 1) xs]
theorem zipL_map {α β : Type} (e : α → D) (f : β → D) : ∀ (xs : List α) (ys : List β), zipL (xs.map e) (ys.map f) = (xs.zip ys).map fun p => D.tup [e p.1, f p.2]
  | [], _ => rfl
  | _ :: _, [] => rfl
  | x :: xs, y :: ys => by simp only [List.map_cons, zipL, List.zip_cons_cons, zipL_map e f xs ys]
theorem ixL_s {xs : List D} {i : Int} {d : D} (s : Sto) (h : atI xs i = some d) : ixD (.lst xs) (.int i) s = .ok d s := by
  show ofO (atI xs i) s = _
  rw [h]; rfl
theorem ixT_s {xs : List D} {i : Int} {d : D} (s : Sto) (h : atI xs i = some d) : ixD (.tup xs) (.int i) s = .ok d s := by
  show ofO (atI xs i) s = _
  rw [h]; rfl
theorem atI_map {α : Type} (e : α → D) (xs : List α) (i : Int) : atI (xs.map e) i = (atI xs i).map e := by
  unfold atI
  rw [List.length_map]
  cases ixN xs.length i with
  | none => rfl
  | some j => simp
theorem atI_nat {α : Type} {xs : List α} {i : Nat} (h : i < xs.length) : atI xs (i : Int) = some xs[i] := by
  unfold atI ixN
  rw [if_pos (by omega), if_pos (by omega)]
  simp [h]
theorem atI_last {α : Type} (xs : List α) (x : α) : atI (xs ++ [x]) (-1) = some x := by
  unfold atI ixN
  rw [if_neg (by decide), if_pos (by rw [List.length_append]; simp only [List.length_singleton]; omega)]
  rw [show ((-1 : Int) + ((xs ++ [x]).length : Int)).toNat = xs.length by rw [List.length_append, List.length_singleton]; omega]
  simp
theorem rep_map {α β : Type} (e : α → β) (k : Nat) (xs : List α) : rep k (xs.map e) = (rep k xs).map e := by
  unfold rep
  rw [List.map_flatten, List.map_replicate]
theorem rep_len {α : Type} (k : Nat) (xs : List α) : (rep k xs).length = k * xs.length := by
  unfold rep
  rw [List.length_flatten, List.map_replicate, List.sum_replicate_nat]
theorem rep_one {α : Type} (k : Nat) (x : α) : rep k [x] = List.replicate k x := by
  unfold rep
  induction k with
  | zero => rfl
  | succ k ih => rw [List.replicate_succ, List.flatten_cons, ih, List.replicate_succ]; rfl
theorem cut_map {α β : Type} (e : α → β) (xs : List α) (lo hi : Option Int) : cut (xs.map e) lo hi = (cut xs lo hi).map e := by
  unfold cut
  rw [List.length_map, ← List.map_drop, ← List.map_take]
end BX.Q

set_option Elab.async false
set_option linter.all false
set_option maxRecDepth 100000
/-! BQ9: what a block writes; running a part in a small environment; sameness of data, decided. -/
namespace BX.Q
def wrT : Tg → List Nat
  | .one i => [i]
  | .many is => is
mutual
def wrS : S → List Nat
  | .a tg _ => wrT tg
  | .m i _ => [i]
  | .mv i j => [i, j]
  | .ap i _ => [i]
  | .ext i _ => [i]
  | .rm i _ => [i]
  | .ixs i _ _ => [i]
  | .e _ => []
  | .iff _ b c => wrB b ++ wrB c
  | .fr tg _ b => wrT tg ++ wrB b
  | .frm _ tg b => wrT tg ++ wrB b
  | .wh _ b => wrB b
  | .rt _ => []
  | .rn => []
  | .ps => []
  | .rs _ _ => []
  | .tr b _ _ _ _ _ => wrB b
  | .sa _ _ _ _ => []
def wrB : SL → List Nat
  | .nil => []
  | .cons s ss => wrS s ++ wrB ss
end
/-- alike but for slots in ws -/
def Al (ws : List Nat) (ρ ρ' : Env) : Prop := ρ'.length = ρ.length ∧ ∀ j, j ∉ ws → ρ'[j]? = ρ[j]?
theorem Al.rfl {ws : List Nat} {ρ : Env} : Al ws ρ ρ := ⟨Eq.refl _, fun _ _ => Eq.refl _⟩
theorem Al.trans {ws : List Nat} {a b c : Env} (h : Al ws a b) (h' : Al ws b c) : Al ws a c := ⟨h'.1.trans h.1, fun j hj => (h'.2 j hj).trans (h.2 j hj)⟩
theorem Al.set {ws : List Nat} {ρ : Env} {i : Nat} {d : Option D} (h : i ∈ ws) : Al ws ρ (ρ.set i d) := ⟨List.length_set, fun j hj => List.getElem?_set_ne fun (e : i = j) => hj (e ▸ h)⟩
theorem Al.more {ws ws' : List Nat} {a b : Env} (h : Al ws a b) (hs : ∀ i ∈ ws, i ∈ ws') : Al ws' a b := ⟨h.1, fun j hj => h.2 j fun z => hj (hs j z)⟩
theorem Al.setAll {ws : List Nat} : ∀ (is : List Nat) (ds : List D) (ρ : Env), (∀ i ∈ is, i ∈ ws) → Al ws ρ (setAll is ds ρ)
  | [], _, _, _ => by simp only [BX.setAll]; exact Al.rfl
  | _ :: _, [], _, _ => by simp only [BX.setAll]; exact Al.rfl
  | i :: is, d :: ds, ρ, h => by
    simp only [BX.setAll]
    exact (Al.set (h i List.mem_cons_self)).trans (Al.setAll is ds _ fun j hj => h j (List.mem_cons_of_mem _ hj))
theorem Al.stT {tg : Tg} {d : D} {a b : Env} (e : stT tg d a = some b) : Al (wrT tg) a b := by
  cases tg with
  | one i =>
    simp only [BX.stT, Option.some.injEq] at e
    subst e
    exact Al.set (by simp [wrT])
  | many is =>
    cases d with
    | tup ds =>
      simp only [BX.stT] at e
      split at e
      · simp only [Option.some.injEq] at e
        subst e
        exact Al.setAll is ds a fun _ h => h
      · cases e
    | _ => cases e
/-- all that comes out is alike -/
def AlR (ws : List Nat) (ρ : Env) (m : MF) : Prop := ∀ s q s', m s = .ok q s' → Al ws ρ q.2
theorem AlR.bnd {α : Type} {ws : List Nat} {ρ : Env} {m : M α} {k : α → MF} (h : ∀ a, AlR ws ρ (k a)) : AlR ws ρ (BX.bnd m k) := fun s q s' e => by
  unfold BX.bnd at e
  cases z : m s with
  | ok a s1 => rw [z] at e; exact h a s1 q s' e
  | ex c s1 => rw [z] at e; cases e
  | bad => rw [z] at e; cases e
theorem AlR.then {ws : List Nat} {ρ : Env} {m : MF} {k : Fl × Env → MF} (h : AlR ws ρ m) (hk : ∀ q, Al ws ρ q.2 → AlR ws ρ (k q)) : AlR ws ρ (BX.bnd m k) := fun s q s' e => by
  unfold BX.bnd at e
  cases z : m s with
  | ok a s1 => rw [z] at e; exact hk a (h s a s1 z) s1 q s' e
  | ex c s1 => rw [z] at e; cases e
  | bad => rw [z] at e; cases e
theorem AlR.ret {ws : List Nat} {ρ ρ' : Env} {fl : Fl} (h : Al ws ρ ρ') : AlR ws ρ (BX.ret (fl, ρ')) := fun s q s' e => by cases e; exact h
theorem AlR.bad {ws : List Nat} {ρ : Env} : AlR ws ρ BX.bad := fun s q s' e => by cases e
theorem AlR.ite {ws : List Nat} {ρ : Env} {c : Prop} [Decidable c] {m n : MF} (h : AlR ws ρ m) (h' : AlR ws ρ n) : AlR ws ρ (if c then m else n) := by
  split
  · exact h
  · exact h'
theorem chg_al {i : Nat} {f : List D → Option (List D)} {ρ : Env} {ws : List Nat} (hi : i ∈ ws) : AlR ws ρ (chg i f ρ) := by
  unfold chg
  split
  · split
    · exact AlR.ret (Al.set hi)
    · exact AlR.bad
  · exact AlR.bad
theorem fl_al {ws : List Nat} {ρ ρ' : Env} {fl : Fl} {m : MF} (h : Al ws ρ ρ') (hm : AlR ws ρ m) : AlR ws ρ (match fl with
      | .nx => m
      | .ct => m
      | .bk => BX.ret (.nx, ρ')
      | .rt x => BX.ret (.rt x, ρ')) := by
  cases fl with
  | nx => exact hm
  | ct => exact hm
  | bk => exact AlR.ret h
  | rt x => exact AlR.ret h
theorem AlR.from {ws : List Nat} {a b : Env} {m : MF} (h : Al ws a b) (hm : AlR ws b m) : AlR ws a m := fun s q s' e => h.trans (hm s q s' e)
theorem forM_al {tg : Tg} {f : Env → MF} {ws : List Nat} (ht : ∀ i ∈ wrT tg, i ∈ ws) (hf : ∀ ρ, AlR ws ρ (f ρ)) : ∀ (ds : List D) (ρ : Env), AlR ws ρ (forM tg f ds ρ)
  | [], ρ => AlR.ret Al.rfl
  | d :: r, ρ => by
    simp only [forM]
    cases q : stT tg d ρ with
    | none => exact AlR.bad
    | some ρ1 =>
      have a1 : Al ws ρ ρ1 := (Al.stT q).more ht
      exact AlR.then (AlR.from a1 (hf ρ1)) fun q hq => fl_al hq (AlR.from hq (forM_al ht hf r q.2))
theorem whM_al {t : Env → M Bool} {f : Env → MF} {ws : List Nat} (hf : ∀ ρ, AlR ws ρ (f ρ)) : ∀ (n : Nat) (ρ : Env), AlR ws ρ (whM t f n ρ)
  | 0, ρ => AlR.bad
  | n + 1, ρ => by
    simp only [whM]
    exact AlR.bnd fun k => AlR.ite (AlR.then (hf ρ) fun q hq => fl_al hq (AlR.from hq (whM_al hf n q.2))) (AlR.ret Al.rfl)
theorem forS_al {i : Nat} {tg : Tg} {f : Env → MF} {ws : List Nat} (ht : ∀ i ∈ wrT tg, i ∈ ws) (hf : ∀ ρ, AlR ws ρ (f ρ)) : ∀ (n j : Nat) (ρ : Env), AlR ws ρ (forS i tg f n j ρ)
  | 0, _, ρ => AlR.bad
  | n + 1, j, ρ => by
    simp only [forS]
    split
    · split
      · exact AlR.ret Al.rfl
      · split
        · exact AlR.bad
        · rename_i d _ ρ1 q
          have a1 : Al ws ρ ρ1 := (Al.stT q).more ht
          exact AlR.then (AlR.from a1 (hf ρ1)) fun q hq => fl_al hq (AlR.from hq (forS_al ht hf n (j + 1) q.2))
    · exact AlR.bad
theorem tryM_al {f : Env → MF} {hs : Xc → Option D} {ws : List Nat} {ρ : Env} (hf : AlR ws ρ (f ρ)) : AlR ws ρ (tryM f hs ρ) := fun s q s' e => by
  unfold tryM at e
  cases z : f ρ s with
  | ok a s1 => rw [z] at e; cases e; exact hf s q s' z
  | ex c s1 =>
    rw [z] at e
    simp only [] at e
    cases w : hs c with
    | none => rw [w] at e; cases e
    | some d => rw [w] at e; cases e; exact Al.rfl
  | bad => rw [z] at e; cases e
mutual
theorem evS_al : ∀ (s : S) (ws : List Nat) (ρ : Env), (∀ i ∈ wrS s, i ∈ ws) → AlR ws ρ (evS s ρ)
  | .a tg p, ws, ρ, h => by
    simp only [evS]
    refine AlR.bnd fun d => ?_
    cases q : stT tg d ρ with
    | none => exact AlR.bad
    | some ρ1 => exact AlR.ret ((Al.stT q).more h)
  | .m i p, ws, ρ, h => by
    simp only [evS]
    exact AlR.bnd fun d => AlR.ite (AlR.ret (Al.set (h i (by simp [wrS])))) AlR.bad
  | .mv i j, ws, ρ, h => by
    simp only [evS]
    exact AlR.bnd fun d => AlR.ret ((Al.set (h j (by simp [wrS]))).trans (Al.set (h i (by simp [wrS]))))
  | .ap i p, ws, ρ, h => by
    simp only [evS]
    exact AlR.bnd fun _ => AlR.bnd fun _ => chg_al (h i (by simp [wrS]))
  | .ext i p, ws, ρ, h => by
    simp only [evS]
    exact AlR.bnd fun _ => AlR.bnd fun _ => chg_al (h i (by simp [wrS]))
  | .rm i p, ws, ρ, h => by
    simp only [evS]
    exact AlR.bnd fun _ => AlR.bnd fun _ => chg_al (h i (by simp [wrS]))
  | .ixs i k p, ws, ρ, h => by
    simp only [evS]
    exact AlR.bnd fun _ => AlR.bnd fun _ => AlR.bnd fun _ => AlR.bnd fun _ => chg_al (h i (by simp [wrS]))
  | .e p, ws, ρ, h => by
    simp only [evS]
    exact AlR.bnd fun _ => AlR.ret Al.rfl
  | .iff t b c, ws, ρ, h => by
    simp only [evS]
    simp only [wrS, List.mem_append] at h
    exact AlR.bnd fun _ => AlR.ite (evB_al b ws ρ fun i hi => h i (.inl hi)) (evB_al c ws ρ fun i hi => h i (.inr hi))
  | .fr tg it b, ws, ρ, h => by
    simp only [evS]
    simp only [wrS, List.mem_append] at h
    exact AlR.bnd fun ds => forM_al (fun i hi => h i (.inl hi)) (fun ρ1 => evB_al b ws ρ1 fun i hi => h i (.inr hi)) ds ρ
  | .frm i tg b, ws, ρ, h => by
    simp only [evS]
    simp only [wrS, List.mem_append] at h
    exact forS_al (fun i hi => h i (.inl hi)) (fun ρ1 => evB_al b ws ρ1 fun i hi => h i (.inr hi)) _ _ ρ
  | .wh t b, ws, ρ, h => by
    simp only [evS]
    simp only [wrS] at h
    exact whM_al (fun ρ1 => evB_al b ws ρ1 h) _ ρ
  | .rt p, ws, ρ, h => by
    simp only [evS]
    exact AlR.bnd fun _ => AlR.ret Al.rfl
  | .rn, ws, ρ, h => AlR.ret Al.rfl
  | .ps, ws, ρ, h => AlR.ret Al.rfl
  | .rs _ _, ws, ρ, h => fun s q s' e => by cases e
  | .tr b _ _ _ _ _, ws, ρ, h => by
    simp only [evS]
    simp only [wrS] at h
    exact tryM_al (evB_al b ws ρ h)
  | .sa _ _ _ _, ws, ρ, h => by
    simp only [evS]
    exact AlR.bnd fun _ => AlR.bnd fun _ => AlR.bnd fun _ => AlR.ret Al.rfl
theorem evB_al : ∀ (b : SL) (ws : List Nat) (ρ : Env), (∀ i ∈ wrB b, i ∈ ws) → AlR ws ρ (evB b ρ)
  | .nil, ws, ρ, h => AlR.ret Al.rfl
  | .cons s ss, ws, ρ, h => by
    simp only [evB]
    simp only [wrB, List.mem_append] at h
    refine AlR.then (evS_al s ws ρ fun i hi => h i (.inl hi)) fun q hq => ?_
    obtain ⟨fl, ρ1⟩ := q
    cases fl with
    | nx => exact AlR.from hq (evB_al ss ws ρ1 fun i hi => h i (.inr hi))
    | rt d => exact AlR.ret hq
    | bk => exact AlR.ret hq
    | ct => exact AlR.ret hq
end
/-! ### a part of a block in a small environment -/
/-- what stands in slots not written -/
def maskE (ws : List Nat) : Nat → Env → Env
  | _, [] => []
  | i, x :: r => (if ws.contains i then none else x) :: maskE ws (i + 1) r
def joinE : Env → Env → Env
  | x :: r, y :: r' => (match x with
    | some d => some d
    | none => y) :: joinE r r'
  | _, r => r
theorem joinE_le : ∀ {a b ρ : Env}, leE a ρ → leE b ρ → leE (joinE a b) ρ
  | [], _, _, _, h => by simpa only [joinE] using h
  | x :: a, [], ρ, h, h' => by simpa only [joinE] using h'
  | x :: a, y :: b, z :: ρ, h, h' => by
    refine ⟨?_, joinE_le h.2 h'.2⟩
    cases x with
    | none => exact h'.1
    | some d => exact h.1
  | _ :: _, _ :: _, [], h, _ => h.elim
theorem maskE_le (ws : List Nat) : ∀ (i : Nat) {a b ρ : Env}, leE a b → b.length = ρ.length → (∀ j, (i + j) ∉ ws → ρ[j]? = b[j]?) → leE (maskE ws i a) ρ
  | _, [], [], [], _, _, _ => trivial
  | i, x :: a, y :: b, z :: ρ, h, hl, hj => by
    refine ⟨?_, maskE_le ws (i + 1) h.2 (by simpa using hl) fun j hw => ?_⟩
    · by_cases c : ws.contains i = true
      · rw [if_pos c]; exact .inl rfl
      · rw [if_neg c]
        have := hj 0 (by simpa using c)
        simp only [List.getElem?_cons_zero, Option.some.injEq] at this
        rw [this]
        exact h.1
    · have := hj (j + 1) (by rw [show i + (j + 1) = i + 1 + j by omega]; exact hw)
      simpa using this
  | _, [], _ :: _, _, h, _, _ => h.elim
  | _, _ :: _, [], _, h, _, _ => h.elim
  | _, [], [], _ :: _, _, hl, _ => by simp at hl
  | _, _ :: _, _ :: _, [], _, hl, _ => by simp at hl
theorem run_small (b : SL) {E E' ρ : Env} {s s' : Sto} {fl : Fl} (h : evB b E s = .ok (fl, E') s') (hl : leE E ρ) : ∃ ρ', evB b ρ s = .ok (fl, ρ') s' ∧ leE (joinE E' (maskE (wrB b) 0 ρ)) ρ' := by
  have z := evB_le b hl s
  rw [h] at z
  obtain ⟨⟨fl', ρ'⟩, e, h1, h2⟩ := z
  simp only at h1
  subst h1
  have a := evB_al b (wrB b) ρ (fun _ h => h) s _ s' e
  exact ⟨ρ', e, joinE_le h2 (maskE_le (wrB b) 0 leE.rfl a.1.symm fun j hj => a.2 j (by simpa using hj))⟩
/-- a part of a block, run in an environment that knows less -/
theorem step_small (n : Nat) {b : SL} {E E' ρ : Env} {s s' : Sto} {t : Tgt} (h : evB (takeS n b) E s = .ok (.nx, E') s') (hl : leE E ρ) (m : Meets (evB (dropS n b) (joinE E' (maskE (wrB (takeS n b)) 0 ρ)) s') t) : Meets (evB b ρ s) t := by
  obtain ⟨ρ', e, h'⟩ := run_small (takeS n b) h hl
  rw [evB_split n b ρ, bnd_s, e, Rb_ok]
  exact Meets.up h' m
/-! ### sameness, decided -/
mutual
def sameD : D → D → Bool
  | .non, .non => true
  | .bl a, .bl b => a == b
  | .int a, .int b => a == b
  | .str a, .str b => a == b
  | .tup a, .tup b => sameL a b
  | .lst a, .lst b => sameL a b
  | _, _ => false
def sameL : List D → List D → Bool
  | [], [] => true
  | x :: xs, y :: ys => sameD x y && sameL xs ys
  | _, _ => false
end
mutual
theorem sameD_eq : ∀ (a b : D), sameD a b = true → a = b
  | .non, b, h => by cases b <;> simp_all [sameD]
  | .bl a, b, h => by cases b <;> simp_all [sameD]
  | .int a, b, h => by cases b <;> simp_all [sameD]
  | .str a, b, h => by cases b <;> simp_all [sameD]
  | .tup a, b, h => by
    cases b with
    | tup b => simp only [sameD] at h; rw [sameL_eq a b h]
    | _ => simp [sameD] at h
  | .lst a, b, h => by
    cases b with
    | lst b => simp only [sameD] at h; rw [sameL_eq a b h]
    | _ => simp [sameD] at h
  | .scr a, b, h => by simp [sameD] at h
  | .obj a, b, h => by simp [sameD] at h
theorem sameL_eq : ∀ (a b : List D), sameL a b = true → a = b
  | [], [], _ => rfl
  | x :: xs, y :: ys, h => by
    simp only [sameL, Bool.and_eq_true] at h
    rw [sameD_eq x y h.1, sameL_eq xs ys h.2]
  | [], _ :: _, h => by simp [sameL] at h
  | _ :: _, [], h => by simp [sameL] at h
end
def sameO : Option D → Option D → Bool
  | none, none => true
  | some a, some b => sameD a b
  | _, _ => false
theorem sameO_eq {a b : Option D} (h : sameO a b = true) : a = b := by
  cases a <;> cases b <;> simp only [sameO] at h <;> first | rfl | (cases h; done) | rw [sameD_eq _ _ h]
def sameE : Env → Env → Bool
  | [], [] => true
  | x :: xs, y :: ys => sameO x y && sameE xs ys
  | _, _ => false
theorem sameE_eq : ∀ {a b : Env}, sameE a b = true → a = b
  | [], [], _ => rfl
  | x :: xs, y :: ys, h => by
    simp only [sameE, Bool.and_eq_true] at h
    rw [sameO_eq h.1, sameE_eq h.2]
  | [], _ :: _, h => by simp [sameE] at h
  | _ :: _, [], h => by simp [sameE] at h
/-- a block goes on, with this environment -/
def isNx (r : R (Fl × Env)) (E : Env) : Bool := match r with
  | .ok (.nx, ρ) [] => sameE ρ E
  | _ => false
theorem isNx_eq {r : R (Fl × Env)} {E : Env} (h : isNx r E = true) : r = .ok (.nx, E) [] := by
  unfold isNx at h
  split at h
  · rw [sameE_eq h]
  · cases h
/-- a value, nothing stored -/
def isV (r : R D) (d : D) : Bool := match r with
  | .ok e [] => sameD e d
  | _ => false
theorem isV_eq {r : R D} {d : D} (h : isV r d = true) : r = .ok d [] := by
  unfold isV at h
  split at h
  · rw [sameD_eq _ _ h]
  · cases h
def isB (r : R Bool) (d : Bool) : Bool := match r with
  | .ok e [] => e == d
  | _ => false
theorem isB_eq {r : R Bool} {d : Bool} (h : isB r d = true) : r = .ok d [] := by
  unfold isB at h
  split at h
  · rw [beq_iff_eq.mp h]
  · cases h
/-- what a value is worth, for tables -/
def vOf (r : R D) : D := match r with
  | .ok d _ => d
  | _ => .non
end BX.Q

set_option Elab.async false
set_option linter.all false
set_option maxRecDepth 100000
/-! BR1: the runner's rules. -/
namespace BX.Q
def gO (o : Option (Option D)) (s : Sto) : R D := match o with
  | some (some d) => .ok d s
  | _ => .bad
theorem getV_e (i : Nat) (ρ : Env) (s : Sto) : getV i ρ s = gO ρ[i]? s := by
  unfold getV gO
  rcases ρ[i]? with _ | _ | d <;> rfl
theorem gO_s (d : D) (s : Sto) : gO (some (some d)) s = .ok d s := rfl
def lO (o : Option (Option D)) (s : Sto) : R Unit := match o with
  | some (some (.lst _)) => .ok () s
  | _ => .bad
theorem lsM_e (i : Nat) (ρ : Env) (s : Sto) : lsM i ρ s = lO ρ[i]? s := by
  unfold lsM lO
  rcases ρ[i]? with _ | _ | d
  · rfl
  · rfl
  · cases d <;> rfl
theorem lO_s (xs : List D) (s : Sto) : lO (some (some (.lst xs))) s = .ok () s := rfl
def cO (o : Option (Option D)) (f : List D → Option (List D)) (i : Nat) (ρ : Env) (s : Sto) : R (Fl × Env) := match o with
  | some (some (.lst xs)) => (match f xs with
      | some ys => .ok (.nx, ρ.set i (some (.lst ys))) s
      | none => .bad)
  | _ => .bad
theorem chg_e (i : Nat) (f : List D → Option (List D)) (ρ : Env) (s : Sto) : chg i f ρ s = cO ρ[i]? f i ρ s := by
  unfold chg cO
  rcases ρ[i]? with _ | _ | d
  · rfl
  · rfl
  · cases d with
    | lst xs =>
      simp only []
      cases f xs <;> rfl
    | _ => rfl
theorem cO_s (xs ys : List D) (f : List D → Option (List D)) (i : Nat) (ρ : Env) (s : Sto) (h : f xs = some ys) : cO (some (some (.lst xs))) f i ρ s = .ok (.nx, ρ.set i (some (.lst ys))) s := by
  unfold cO
  simp only [h]
def sO (o : Option (List D)) (i : Nat) (ρ : Env) (s : Sto) : R (Fl × Env) := match o with
  | some ys => .ok (.nx, ρ.set i (some (.lst ys))) s
  | none => .bad
theorem cO_e (xs : List D) (f : List D → Option (List D)) (i : Nat) (ρ : Env) (s : Sto) : cO (some (some (.lst xs))) f i ρ s = sO (f xs) i ρ s := by
  show (match f xs with
      | some ys => R.ok (Fl.nx, ρ.set i (some (D.lst ys))) s
      | none => R.bad) = _
  unfold sO
  cases f xs <;> rfl
theorem sO_s (ys : List D) (i : Nat) (ρ : Env) (s : Sto) : sO (some ys) i ρ s = .ok (.nx, ρ.set i (some (.lst ys))) s := rfl
theorem appD_s (d : D) (xs : List D) (h : xs.length < 16777216) : appD d xs = some (xs ++ [d]) := by
  unfold appD
  rw [if_pos (show xs.length < LIM from h)]
theorem extD_s (ys xs : List D) (h : xs.length + ys.length ≤ 16777216) : extD (.lst ys) xs = some (xs ++ ys) := by
  show (if xs.length + ys.length ≤ LIM then some (xs ++ ys) else none) = _
  rw [if_pos (show xs.length + ys.length ≤ LIM from h)]
theorem fr_s0 (tg : Tg) (it : I) (b : SL) (ρ : Env) : evS (.fr tg it b) ρ = bnd (evI it ρ) fun ds => forM tg (fun ρ1 => evB b ρ1) ds ρ := by simp only [evS]
/-- an exception caught -/
def Rt (r : R (Fl × Env)) (hs : Xc → Option D) (ρ : Env) : R (Fl × Env) := match r with
  | .ex c s' => (match hs c with
      | some d => .ok (.rt d, ρ) s'
      | none => .bad)
  | r => r
theorem tryM_s (b : Env → MF) (hs : Xc → Option D) (ρ : Env) (s : Sto) : tryM b hs ρ s = Rt (b ρ s) hs ρ := by
  unfold tryM Rt
  cases b ρ s <;> rfl
theorem Rt_ok (q : Fl × Env) (s : Sto) (hs : Xc → Option D) (ρ : Env) : Rt (.ok q s) hs ρ = .ok q s := rfl
def hO (o : Option D) (ρ : Env) (s : Sto) : R (Fl × Env) := match o with
  | some d => .ok (.rt d, ρ) s
  | none => .bad
theorem hO_s (d : D) (ρ : Env) (s : Sto) : hO (some d) ρ s = .ok (.rt d, ρ) s := rfl
theorem Rt_ex (c : Xc) (s : Sto) (hs : Xc → Option D) (ρ : Env) : Rt (.ex c s) hs ρ = hO (hs c) ρ s := by
  show (match hs c with
      | some d => R.ok (Fl.rt d, ρ) s
      | none => R.bad) = _
  unfold hO
  cases hs c <;> rfl
theorem lenL_s (xs : List D) (s : Sto) : b1D .len (.lst xs) s = .ok (.int xs.length) s := rfl
theorem lenT_s (xs : List D) (s : Sto) : b1D .len (.tup xs) s = .ok (.int xs.length) s := rfl
theorem lenS_s (xs : List Nat) (s : Sto) : b1D .len (.str xs) s = .ok (.int xs.length) s := rfl
theorem intB_s (b : Bool) (s : Sto) : b1D .int (.bl b) s = .ok (.int (if b then 1 else 0)) s := rfl
theorem tupL_s (xs : List D) (s : Sto) : b1D .tuple (.lst xs) s = .ok (.tup xs) s := rfl
theorem tupT_s (xs : List D) (s : Sto) : b1D .tuple (.tup xs) s = .ok (.tup xs) s := rfl
theorem lstL_s (xs : List D) (s : Sto) : b1D .list (.lst xs) s = .ok (.lst xs) s := rfl
theorem lstT_s (xs : List D) (s : Sto) : b1D .list (.tup xs) s = .ok (.lst xs) s := rfl
theorem intsO_int : ∀ ks : List Int, intsO (ks.map .int) = some ks
  | [] => rfl
  | k :: ks => by simp only [List.map_cons, intsO, intsO_int ks]; rfl
theorem boolsO_bl : ∀ ks : List Bool, boolsO (ks.map .bl) = some ks
  | [] => rfl
  | k :: ks => by simp only [List.map_cons, boolsO, boolsO_bl ks]; rfl
theorem sumL_s (ks : List Int) (s : Sto) : b1D .sum (.lst (ks.map .int)) s = .ok (.int ks.sum) s := by
  simp only [b1D, sumD, items, Option.bind_some, intsO_int]
  rfl
theorem sumT_s (ks : List Int) (s : Sto) : b1D .sum (.tup (ks.map .int)) s = .ok (.int ks.sum) s := by
  simp only [b1D, sumD, items, Option.bind_some, intsO_int]
  rfl
theorem allL_s (ks : List Bool) (s : Sto) : b1D .all (.lst (ks.map .bl)) s = .ok (.bl (ks.all id)) s := by
  simp only [b1D, allD, boolsO_bl]
  rfl
theorem max2_s (a b : Int) (s : Sto) : b2D .max (.int a) (.int b) s = .ok (.int (if a < b then b else a)) s := rfl
theorem min2_s (a b : Int) (s : Sto) : b2D .min (.int a) (.int b) s = .ok (.int (if b < a then b else a)) s := rfl
theorem slL_s (xs : List D) (lo hi : Option Int) (s : Sto) : slD (.lst xs) lo hi s = .ok (.lst (cut xs lo hi)) s := rfl
theorem slT_s (xs : List D) (lo hi : Option Int) (s : Sto) : slD (.tup xs) lo hi s = .ok (.tup (cut xs lo hi)) s := rfl
theorem slS_s (xs : List Nat) (lo hi : Option Int) (s : Sto) : slD (.str xs) lo hi s = .ok (.str (cut xs lo hi)) s := rfl
theorem rvL_s (xs : List D) (s : Sto) : rvD (.lst xs) s = .ok (.lst xs.reverse) s := rfl
theorem rvT_s (xs : List D) (s : Sto) : rvD (.tup xs) s = .ok (.tup xs.reverse) s := rfl
theorem ixL_e (xs : List D) (i : Int) (s : Sto) : ixD (.lst xs) (.int i) s = ofO (atI xs i) s := rfl
theorem ixT_e (xs : List D) (i : Int) (s : Sto) : ixD (.tup xs) (.int i) s = ofO (atI xs i) s := rfl
theorem itsL_s (xs : List D) (s : Sto) : itsM (.lst xs) s = .ok xs s := rfl
theorem itsT_s (xs : List D) (s : Sto) : itsM (.tup xs) s = .ok xs s := rfl
theorem seqL_s (xs : List D) (s : Sto) : seqM (.lst xs) s = .ok xs s := rfl
theorem seqT_s (xs : List D) (s : Sto) : seqM (.tup xs) s = .ok xs s := rfl
theorem seq2L_s (xs ys : List D) (s : Sto) : seq2M (.lst xs) (.lst ys) s = .ok (zipL xs ys) s := rfl
theorem seq2T_s (xs ys : List D) (s : Sto) : seq2M (.tup xs) (.tup ys) s = .ok (zipL xs ys) s := rfl
theorem isNon_non : isNon .non = true := rfl
theorem isNon_int (i : Int) : isNon (.int i) = false := rfl
theorem isNon_tup (i : List D) : isNon (.tup i) = false := rfl
theorem noObj_tup (i : List D) : noObj (.tup i) = true := rfl
theorem noObj_int (i : Int) : noObj (.int i) = true := rfl
theorem noObj_lst (i : List D) : noObj (.lst i) = true := rfl
theorem isTy_tt (i : List D) : isTy .tuple (.tup i) = true := rfl
theorem isTy_ii (i : Int) : isTy .int (.int i) = true := rfl
theorem isTy_bi (i : Int) : isTy .bool (.int i) = false := rfl
theorem isTy_lt (i : List D) : isTy .list (.tup i) = false := rfl
theorem isTy_ll (i : List D) : isTy .list (.lst i) = true := rfl
theorem isTy_tl (i : List D) : isTy .tuple (.lst i) = false := rfl
/-- a branch, by a truth that is told -/
def Rif {α : Type} (r : R Bool) (m n : M α) : R α := match r with
  | .ok true s => m s
  | .ok false s => n s
  | .ex c s => .ex c s
  | .bad => .bad
theorem Rif_t {α : Type} (m n : M α) (s : Sto) : Rif (.ok true s) m n = m s := rfl
theorem Rif_f {α : Type} (m n : M α) (s : Sto) : Rif (.ok false s) m n = n s := rfl
theorem Rif_x {α : Type} (m n : M α) (c : Xc) (s : Sto) : Rif (.ex c s) m n = .ex c s := rfl
theorem Rif_d {α : Type} (b : Bool) (m n : M α) (s : Sto) : Rif (.ok b s) m n = if b = true then m s else n s := by cases b <;> rfl
theorem bnd_if {α : Type} (m : M Bool) (a b : M α) (s : Sto) : bnd m (fun k => if k = true then a else b) s = Rif (m s) a b := by
  unfold bnd Rif
  cases m s with
  | ok k s' => cases k <;> rfl
  | ex c s' => rfl
  | bad => rfl
/-! ### what goes on, by name -/
def k2 {α : Type} (g : D → D → M α) (b : P) (ρ : Env) (x : D) : M α := bnd (ev b ρ) (g x)
def negM (d : D) : M D := bnd (asI d) fun i => ret (.int (-i))
def notM (b : Bool) : M D := ret (.bl (!b))
def notB (b : Bool) : M Bool := ret (!b)
def chM (o1 o2 : CO) (c : P) (ρ : Env) (x y : D) : M D := fun s => Rif (Rb (cmpD o1 x y s) asB) (k2 (cmpD o2) c ρ y) (ret (.bl false))
def kSl2 (hi : PQ) (ρ : Env) (x : D) (l : Option Int) : M D := bnd (evPQ hi ρ) (slD x l)
def kSl (lo hi : PQ) (ρ : Env) (x : D) : M D := bnd (evPQ lo ρ) (kSl2 hi ρ x)
def kCp (e : P) (tg : Tg) (c : PQ) (own : List Nat) (ρ : Env) (ds : List D) : M D := bnd (cpM (evC c) (ev e) tg (wipeE own ρ) ds) mkL
def kC (d : D) (ds : List D) : M (List D) := ret (d :: ds)
def kL (ps : PL) (ρ : Env) (d : D) : M (List D) := bnd (evL ps ρ) (kC d)
def kQ (d : D) : M (Option Int) := bnd (asI d) fun i => ret (some i)
def kR1 (d : D) : M (List D) := bnd (asI d) fun i => rngM 0 i
def kR2 (x y : D) : M (List D) := bnd (asI x) fun i => bnd (asI y) fun j => rngM i j
def kEn (d : D) : M (List D) := bnd (seqM d) fun xs => ret (enumL 0 xs)
def kLr (tp : Bool) (x y : D) : M D := bnd (asI x) fun i => bnd (asI y) fun j => bnd (rngM i j) fun ds => ret (if tp then .tup ds else .lst ds)
def kMt (f : Mt) (b : P) (ρ : Env) (x : D) : M D := bnd (mtO f x) fun _ => bnd (ev b ρ) fun y => mtD f x y
def kMe3 (F : List D → M D) (x : D) (ds : List D) : M D := F (x :: ds)
def kMe2 (F : List D → M D) (ps : PL) (ρ : Env) (x : D) (_ : Unit) : M D := bnd (evL ps ρ) (kMe3 F x)
def kMe (c : Nat) (F : List D → M D) (ps : PL) (ρ : Env) (x : D) : M D := bnd (chkC c x) (kMe2 F ps ρ x)
def isiM (ts : List Ty) (d : D) : M D := fun s => if noObj d then .ok (.bl (ts.any fun t => isTy t d)) s else .bad
theorem isiT_s (ts : List Ty) (d : List D) (s : Sto) : isiM ts (.tup d) s = .ok (.bl (ts.any fun t => isTy t (.tup d))) s := rfl
theorem isiL_s (ts : List Ty) (d : List D) (s : Sto) : isiM ts (.lst d) s = .ok (.bl (ts.any fun t => isTy t (.lst d))) s := rfl
theorem isiI_s (ts : List Ty) (d : Int) (s : Sto) : isiM ts (.int d) s = .ok (.bl (ts.any fun t => isTy t (.int d))) s := rfl
theorem isiM_eq (ts : List Ty) : (fun x => if noObj x = true then ret (D.bl (ts.any fun t => isTy t x)) else bad) = isiM ts := by
  funext d s
  unfold isiM
  split <;> rfl
def aO (o : Option Env) (s : Sto) : R (Fl × Env) := match o with
  | some ρ => .ok (.nx, ρ) s
  | none => .bad
def asgM (tg : Tg) (ρ : Env) (d : D) : MF := fun s => aO (stT tg d ρ) s
def mM (i : Nat) (p : P) (ρ : Env) (d : D) : MF := fun s => if fresh p || !isLst d then .ok (.nx, ρ.set i (some d)) s else .bad
def kMv (i j : Nat) (ρ : Env) (d : D) : MF := ret (.nx, (ρ.set j none).set i (some d))
def kAp2 (i : Nat) (ρ : Env) (d : D) : MF := chg i (appD d) ρ
def kAp (i : Nat) (p : P) (ρ : Env) (_ : Unit) : MF := bnd (ev p ρ) (kAp2 i ρ)
def kXt2 (i : Nat) (ρ : Env) (d : D) : MF := chg i (extD d) ρ
def kXt (i : Nat) (p : P) (ρ : Env) (_ : Unit) : MF := bnd (ev p ρ) (kXt2 i ρ)
def kRm2 (i : Nat) (ρ : Env) (d : D) : MF := chg i (remD d) ρ
def kRm (i : Nat) (p : P) (ρ : Env) (_ : Unit) : MF := bnd (ev p ρ) (kRm2 i ρ)
def kIx3 (i : Nat) (ρ : Env) (d z : D) : MF := bnd (asI z) fun n => chg i (setD n d) ρ
def kIx2 (i : Nat) (k : P) (ρ : Env) (d : D) (_ : Unit) : MF := bnd (ev k ρ) (kIx3 i ρ d)
def kIx (i : Nat) (k : P) (ρ : Env) (d : D) : MF := bnd (lsM i ρ) (kIx2 i k ρ d)
def kE (ρ : Env) (_ : D) : MF := ret (.nx, ρ)
def kRt (ρ : Env) (d : D) : MF := ret (.rt d, ρ)
def kFr (tg : Tg) (b : SL) (ρ : Env) (ds : List D) : MF := forM tg (evB b) ds ρ
def kSa3 (ρ : Env) (_ : Unit) : MF := ret (.nx, ρ)
def kSa2 (k : Nat) (ρ : Env) (d x : D) : MF := bnd (setF k d x) (kSa3 ρ)
def kSa (o : P) (k : Nat) (ρ : Env) (d : D) : MF := bnd (ev o ρ) (kSa2 k ρ d)
section
variable {ρ : Env} {s : Sto}
theorem k2_s {α : Type} (g : D → D → M α) (b : P) (x : D) : k2 g b ρ x s = Rb (ev b ρ s) (g x) := bnd_s _ _ _
theorem neg_s (i : Int) : negM (.int i) s = .ok (.int (-i)) s := rfl
theorem notM_s (b : Bool) : notM b s = .ok (.bl (!b)) s := rfl
theorem notB_s (b : Bool) : notB b s = .ok (!b) s := rfl
theorem chM_s (o1 o2 : CO) (c : P) (x y : D) : chM o1 o2 c ρ x y s = Rif (Rb (cmpD o1 x y s) asB) (k2 (cmpD o2) c ρ y) (ret (.bl false)) := rfl
theorem kSl2_s (hi : PQ) (x : D) (l : Option Int) : kSl2 hi ρ x l s = Rb (evPQ hi ρ s) (slD x l) := bnd_s _ _ _
theorem kSl_s (lo hi : PQ) (x : D) : kSl lo hi ρ x s = Rb (evPQ lo ρ s) (kSl2 hi ρ x) := bnd_s _ _ _
theorem kCp_s (e : P) (tg : Tg) (c : PQ) (own : List Nat) (ds : List D) : kCp e tg c own ρ ds s = Rb (cpM (evC c) (ev e) tg (wipeE own ρ) ds s) mkL := bnd_s _ _ _
theorem kC_s (d : D) (ds : List D) : kC d ds s = .ok (d :: ds) s := rfl
theorem kL_s (ps : PL) (d : D) : kL ps ρ d s = Rb (evL ps ρ s) (kC d) := bnd_s _ _ _
theorem kQ_s (i : Int) : kQ (.int i) s = .ok (some i) s := rfl
theorem kR1_s (i : Int) : kR1 (.int i) s = rngM 0 i s := rfl
theorem kR2_s (i j : Int) : kR2 (.int i) (.int j) s = rngM i j s := rfl
theorem kEnL_s (xs : List D) : kEn (.lst xs) s = .ok (enumL 0 xs) s := rfl
theorem kEnT_s (xs : List D) : kEn (.tup xs) s = .ok (enumL 0 xs) s := rfl
theorem kMt_s (b : P) (xs : List D) : kMt .count b ρ (.lst xs) s = Rb (ev b ρ s) (countD (.lst xs)) := by
  unfold kMt mtO
  rw [bnd_s]
  exact bnd_s _ _ _
theorem kMtT_s (b : P) (xs : List D) : kMt .count b ρ (.tup xs) s = Rb (ev b ρ s) (countD (.tup xs)) := by
  unfold kMt mtO
  rw [bnd_s]
  exact bnd_s _ _ _
theorem kMi_s (b : P) (xs : List D) : kMt .index b ρ (.lst xs) s = Rb (ev b ρ s) (indexD (.lst xs)) := by
  unfold kMt mtO
  rw [bnd_s]
  exact bnd_s _ _ _
theorem kMiT_s (b : P) (xs : List D) : kMt .index b ρ (.tup xs) s = Rb (ev b ρ s) (indexD (.tup xs)) := by
  unfold kMt mtO
  rw [bnd_s]
  exact bnd_s _ _ _
theorem kMe3_s (F : List D → M D) (x : D) (ds : List D) : kMe3 F x ds s = F (x :: ds) s := rfl
theorem kMe2_s (F : List D → M D) (ps : PL) (x : D) (u : Unit) : kMe2 F ps ρ x u s = Rb (evL ps ρ s) (kMe3 F x) := bnd_s _ _ _
theorem kMe_s (c : Nat) (F : List D → M D) (ps : PL) (x : D) : kMe c F ps ρ x s = Rb (chkC c x s) (kMe2 F ps ρ x) := bnd_s _ _ _
theorem aO_s : aO (some ρ) s = .ok (.nx, ρ) s := rfl
theorem asg_s (tg : Tg) (d : D) : asgM tg ρ d s = aO (stT tg d ρ) s := rfl
theorem mM_s (i : Nat) (p : P) (d : D) (h : (fresh p || !isLst d) = true) : mM i p ρ d s = .ok (.nx, ρ.set i (some d)) s := by
  unfold mM
  rw [if_pos h]
theorem mMl_s (i : Nat) (d : D) (ps : PL) : mM i (.li ps) ρ d s = .ok (.nx, ρ.set i (some d)) s := rfl
theorem mMb_s (i : Nat) (d : D) (o : BO) (a b : P) : mM i (.bin o a b) ρ d s = .ok (.nx, ρ.set i (some d)) s := rfl
theorem kMv_s (i j : Nat) (d : D) : kMv i j ρ d s = .ok (.nx, (ρ.set j none).set i (some d)) s := rfl
theorem kAp_s (i : Nat) (p : P) (u : Unit) : kAp i p ρ u s = Rb (ev p ρ s) (kAp2 i ρ) := bnd_s _ _ _
theorem kAp2_s (i : Nat) (d : D) : kAp2 i ρ d s = cO ρ[i]? (appD d) i ρ s := chg_e _ _ _ _
theorem kXt_s (i : Nat) (p : P) (u : Unit) : kXt i p ρ u s = Rb (ev p ρ s) (kXt2 i ρ) := bnd_s _ _ _
theorem kXt2_s (i : Nat) (d : D) : kXt2 i ρ d s = cO ρ[i]? (extD d) i ρ s := chg_e _ _ _ _
theorem kRm_s (i : Nat) (p : P) (u : Unit) : kRm i p ρ u s = Rb (ev p ρ s) (kRm2 i ρ) := bnd_s _ _ _
theorem kRm2_s (i : Nat) (d : D) : kRm2 i ρ d s = cO ρ[i]? (remD d) i ρ s := chg_e _ _ _ _
theorem kIx_s (i : Nat) (k : P) (d : D) : kIx i k ρ d s = Rb (lO ρ[i]? s) (kIx2 i k ρ d) := by
  unfold kIx
  rw [bnd_s, lsM_e]
theorem kIx2_s (i : Nat) (k : P) (d : D) (u : Unit) : kIx2 i k ρ d u s = Rb (ev k ρ s) (kIx3 i ρ d) := bnd_s _ _ _
theorem kIx3_s (i : Nat) (d : D) (n : Int) : kIx3 i ρ d (.int n) s = cO ρ[i]? (setD n d) i ρ s := chg_e _ _ _ _
theorem kE_s (d : D) : kE ρ d s = .ok (.nx, ρ) s := rfl
theorem kRt_s (d : D) : kRt ρ d s = .ok (.rt d, ρ) s := rfl
theorem kFr_s (tg : Tg) (b : SL) (ds : List D) : kFr tg b ρ ds s = forM tg (evB b) ds ρ s := rfl
theorem kSa3_s (u : Unit) : kSa3 ρ u s = .ok (.nx, ρ) s := rfl
theorem kSa2_s (k : Nat) (d x : D) : kSa2 k ρ d x s = Rb (setF k d x s) (kSa3 ρ) := bnd_s _ _ _
theorem kSa_s (o : P) (k : Nat) (d : D) : kSa o k ρ d s = Rb (ev o ρ s) (kSa2 k ρ d) := bnd_s _ _ _
end
section
variable (ρ : Env) (s : Sto)
theorem x_var (i : Nat) : ev (.var i) ρ s = gO ρ[i]? s := by simp only [ev]; exact getV_e i ρ s
theorem x_cI (i : Int) : ev (.cI i) ρ s = .ok (.int i) s := rfl
theorem x_cB (i : Bool) : ev (.cB i) ρ s = .ok (.bl i) s := rfl
theorem x_cN : ev .cN ρ s = .ok .non s := rfl
theorem x_cS (i : List Nat) : ev (.cS i) ρ s = .ok (.str i) s := rfl
theorem x_gl (x : PySem.Str) (d : D) : ev (.gl x d) ρ s = .ok d s := rfl
theorem x_bin (o : BO) (a b : P) : ev (.bin o a b) ρ s = Rb (ev a ρ s) (k2 (opD o) b ρ) := by simp only [ev]; exact bnd_s _ _ _
theorem x_neg (a : P) : ev (.neg a) ρ s = Rb (ev a ρ s) negM := by simp only [ev]; exact bnd_s _ _ _
theorem x_no (a : P) : ev (.no a) ρ s = Rb (Rb (ev a ρ s) asB) notM := by simp only [ev]; rw [bnd_s, bnd_s]; rfl
theorem x_an (ps : PL) : ev (.an ps) ρ s = evAn ps ρ s := by simp only [ev]
theorem x_orr (ps : PL) : ev (.orr ps) ρ s = evOr ps ρ s := by simp only [ev]
theorem x_cmp (o : CO) (a b : P) : ev (.cmp o a b) ρ s = Rb (ev a ρ s) (k2 (cmpD o) b ρ) := by simp only [ev]; exact bnd_s _ _ _
theorem x_chn (o1 o2 : CO) (a b c : P) : ev (.chn o1 o2 a b c) ρ s = Rb (ev a ρ s) (k2 (chM o1 o2 c ρ) b ρ) := by
  simp only [ev]
  rw [bnd_s]
  congr 1
  funext x
  unfold k2
  congr 1
  funext y s
  rw [bnd_if, bnd_s]
  rfl
theorem x_ife (t a b : P) : ev (.ife t a b) ρ s = Rif (evT t ρ s) (ev a ρ) (ev b ρ) := by simp only [ev]; exact bnd_if _ _ _ _
theorem x_ix (a b : P) : ev (.ix a b) ρ s = Rb (ev a ρ s) (k2 ixD b ρ) := by simp only [ev]; exact bnd_s _ _ _
theorem x_sl (a : P) (lo hi : PQ) : ev (.sl a lo hi) ρ s = Rb (ev a ρ s) (kSl lo hi ρ) := by simp only [ev]; exact bnd_s _ _ _
theorem x_rv (a : P) : ev (.rv a) ρ s = Rb (ev a ρ s) rvD := by simp only [ev]; exact bnd_s _ _ _
theorem x_li (ps : PL) : ev (.li ps) ρ s = Rb (evL ps ρ s) mkL := by simp only [ev]; exact bnd_s _ _ _
theorem x_tu (ps : PL) : ev (.tu ps) ρ s = Rb (evL ps ρ s) mkT := by simp only [ev]; exact bnd_s _ _ _
theorem x_cp (e : P) (tg : Tg) (it : I) (c : PQ) (own : List Nat) : ev (.cp e tg it c own) ρ s = Rb (evI it ρ s) (kCp e tg c own ρ) := by simp only [ev]; exact bnd_s _ _ _
theorem x_ca (x : PySem.Str) (F : List D → M D) (ps : PL) : ev (.ca x F ps) ρ s = Rb (evL ps ρ s) F := by simp only [ev]; exact bnd_s _ _ _
theorem x_b1 (f : B1) (a : P) : ev (.b1 f a) ρ s = Rb (ev a ρ s) (b1D f) := by simp only [ev]; exact bnd_s _ _ _
theorem x_b2 (f : B2) (a b : P) : ev (.b2 f a b) ρ s = Rb (ev a ρ s) (k2 (b2D f) b ρ) := by simp only [ev]; exact bnd_s _ _ _
theorem x_mt (f : Mt) (a b : P) : ev (.mt f a b) ρ s = Rb (ev a ρ s) (kMt f b ρ) := by simp only [ev]; exact bnd_s _ _ _
theorem x_isi (a : P) (ts : List Ty) : ev (.isi a ts) ρ s = Rb (ev a ρ s) (isiM ts) := by simp only [ev]; rw [bnd_s, isiM_eq]
theorem x_at (o : P) (x : PySem.Str) (k : Nat) : ev (.at o x k) ρ s = Rb (ev o ρ s) (getF k) := by simp only [ev]; exact bnd_s _ _ _
theorem x_me (o : P) (c : Nat) (x : PySem.Str) (F : List D → M D) (ps : PL) : ev (.me o c x F ps) ρ s = Rb (ev o ρ s) (kMe c F ps ρ) := by simp only [ev]; exact bnd_s _ _ _
theorem x_mk (x : PySem.Str) (c : Nat) (F : List D → M D) (ps : PL) : ev (.mk x c F ps) ρ s = Rb (evL ps ρ s) (mkM c F) := by simp only [ev]; exact bnd_s _ _ _
theorem x_lr (tp : Bool) (a b : P) : ev (.lr tp a b) ρ s = Rb (ev a ρ s) (k2 (kLr tp) b ρ) := by simp only [ev]; exact bnd_s _ _ _
theorem y_an (ps : PL) : evT (.an ps) ρ s = evTAn ps ρ s := by simp only [evT]
theorem y_orr (ps : PL) : evT (.orr ps) ρ s = evTOr ps ρ s := by simp only [evT]
theorem y_no (a : P) : evT (.no a) ρ s = Rb (evT a ρ s) notB := by simp only [evT]; exact bnd_s _ _ _
theorem y_cmp (o : CO) (a b : P) : evT (.cmp o a b) ρ s = Rb (Rb (ev a ρ s) (k2 (cmpD o) b ρ)) asB := by simp only [evT]; rw [bnd_s, bnd_s]; rfl
theorem y_chn (o1 o2 : CO) (a b c : P) : evT (.chn o1 o2 a b c) ρ s = Rb (ev (.chn o1 o2 a b c) ρ s) asB := by
  simp only [evT, ev]
  rw [bnd_s]
theorem y_var (i : Nat) : evT (.var i) ρ s = Rb (gO ρ[i]? s) asB := by simp only [evT]; rw [bnd_s, getV_e]
theorem y_cB (i : Bool) : evT (.cB i) ρ s = .ok i s := rfl
theorem y_ca (x : PySem.Str) (F : List D → M D) (ps : PL) : evT (.ca x F ps) ρ s = Rb (Rb (evL ps ρ s) F) asB := by simp only [evT]; rw [bnd_s, bnd_s]
theorem y_ix (a b : P) : evT (.ix a b) ρ s = Rb (Rb (ev a ρ s) (k2 ixD b ρ)) asB := by simp only [evT]; rw [bnd_s, bnd_s]; rfl
theorem y_b1 (f : B1) (a : P) : evT (.b1 f a) ρ s = Rb (Rb (ev a ρ s) (b1D f)) asB := by simp only [evT]; rw [bnd_s, bnd_s]
theorem y_isi (a : P) (ts : List Ty) : evT (.isi a ts) ρ s = Rb (Rb (ev a ρ s) (isiM ts)) asB := by simp only [evT]; rw [bnd_s, bnd_s, isiM_eq]
theorem y_me (o : P) (c : Nat) (x : PySem.Str) (F : List D → M D) (ps : PL) : evT (.me o c x F ps) ρ s = Rb (Rb (ev o ρ s) (kMe c F ps ρ)) asB := by simp only [evT]; rw [bnd_s, bnd_s]; rfl
theorem z_an0 : evTAn .nil ρ s = .ok true s := rfl
theorem z_an (p : P) (ps : PL) : evTAn (.cons p ps) ρ s = Rif (evT p ρ s) (evTAn ps ρ) (ret false) := by simp only [evTAn]; exact bnd_if _ _ _ _
theorem z_or0 : evTOr .nil ρ s = .ok false s := rfl
theorem z_or (p : P) (ps : PL) : evTOr (.cons p ps) ρ s = Rif (evT p ρ s) (ret true) (evTOr ps ρ) := by simp only [evTOr]; exact bnd_if _ _ _ _
theorem w_an1 (p : P) : evAn (.cons p .nil) ρ s = ev p ρ s := by simp only [evAn]
theorem w_an (p q : P) (ps : PL) : evAn (.cons p (.cons q ps)) ρ s = Rif (Rb (ev p ρ s) asB) (evAn (.cons q ps) ρ) (ret (.bl false)) := by simp only [evAn]; rw [bnd_if, bnd_s]
theorem w_or1 (p : P) : evOr (.cons p .nil) ρ s = ev p ρ s := by simp only [evOr]
theorem w_or (p q : P) (ps : PL) : evOr (.cons p (.cons q ps)) ρ s = Rif (Rb (ev p ρ s) asB) (ret (.bl true)) (evOr (.cons q ps) ρ) := by simp only [evOr]; rw [bnd_if, bnd_s]
theorem l_nil : evL .nil ρ s = .ok [] s := rfl
theorem l_cons (p : P) (ps : PL) : evL (.cons p ps) ρ s = Rb (ev p ρ s) (kL ps ρ) := by simp only [evL]; exact bnd_s _ _ _
theorem q_none : evPQ .none ρ s = .ok none s := rfl
theorem q_some (p : P) : evPQ (.some p) ρ s = Rb (ev p ρ s) kQ := by simp only [evPQ]; exact bnd_s _ _ _
theorem c_none : evC .none ρ s = .ok true s := rfl
theorem c_some (p : P) : evC (.some p) ρ s = evT p ρ s := by simp only [evC]
theorem i_e (p : P) : evI (.e p) ρ s = Rb (ev p ρ s) itsM := by simp only [evI]; exact bnd_s _ _ _
theorem i_r1 (a : P) : evI (.r1 a) ρ s = Rb (ev a ρ s) kR1 := by simp only [evI]; exact bnd_s _ _ _
theorem i_r2 (a b : P) : evI (.r2 a b) ρ s = Rb (ev a ρ s) (k2 kR2 b ρ) := by simp only [evI]; exact bnd_s _ _ _
theorem i_en (a : P) : evI (.en a) ρ s = Rb (ev a ρ s) kEn := by simp only [evI]; exact bnd_s _ _ _
theorem i_zp (a b : P) : evI (.zp a b) ρ s = Rb (ev a ρ s) (k2 seq2M b ρ) := by simp only [evI]; exact bnd_s _ _ _
theorem b_nil : evB .nil ρ s = .ok (.nx, ρ) s := rfl
theorem b_cons (a : S) (ss : SL) : evB (.cons a ss) ρ s = Rb (evS a ρ s) (thenB ss) := by rw [evB_cons, bnd_s]
theorem s_a (tg : Tg) (p : P) : evS (.a tg p) ρ s = Rb (ev p ρ s) (asgM tg ρ) := by
  simp only [evS]
  rw [bnd_s]
  congr 1
  funext d s
  unfold asgM aO
  cases stT tg d ρ <;> rfl
theorem s_m (i : Nat) (p : P) : evS (.m i p) ρ s = Rb (ev p ρ s) (mM i p ρ) := by
  simp only [evS]
  rw [bnd_s]
  congr 1
  funext d s
  unfold mM
  split <;> rfl
theorem s_mv (i j : Nat) : evS (.mv i j) ρ s = Rb (gO ρ[j]? s) (kMv i j ρ) := by simp only [evS]; rw [bnd_s, getV_e]; rfl
theorem s_ap (i : Nat) (p : P) : evS (.ap i p) ρ s = Rb (lO ρ[i]? s) (kAp i p ρ) := by simp only [evS]; rw [bnd_s, lsM_e]; rfl
theorem s_ext (i : Nat) (p : P) : evS (.ext i p) ρ s = Rb (lO ρ[i]? s) (kXt i p ρ) := by simp only [evS]; rw [bnd_s, lsM_e]; rfl
theorem s_rm (i : Nat) (p : P) : evS (.rm i p) ρ s = Rb (lO ρ[i]? s) (kRm i p ρ) := by simp only [evS]; rw [bnd_s, lsM_e]; rfl
theorem s_ixs (i : Nat) (k p : P) : evS (.ixs i k p) ρ s = Rb (ev p ρ s) (kIx i k ρ) := by simp only [evS]; exact bnd_s _ _ _
theorem s_e (p : P) : evS (.e p) ρ s = Rb (ev p ρ s) (kE ρ) := by simp only [evS]; exact bnd_s _ _ _
theorem s_iff (t : P) (b c : SL) : evS (.iff t b c) ρ s = Rif (evT t ρ s) (evB b ρ) (evB c ρ) := by simp only [evS]; exact bnd_if _ _ _ _
theorem s_fr (tg : Tg) (it : I) (b : SL) : evS (.fr tg it b) ρ s = Rb (evI it ρ s) (kFr tg b ρ) := by simp only [evS]; exact bnd_s _ _ _
theorem s_frm (i : Nat) (tg : Tg) (b : SL) : evS (.frm i tg b) ρ s = forS i tg (evB b) FUEL 0 ρ s := by simp only [evS]
theorem s_wh (t : P) (b : SL) : evS (.wh t b) ρ s = whM (evT t) (evB b) FUEL ρ s := by simp only [evS]
theorem s_rt (p : P) : evS (.rt p) ρ s = Rb (ev p ρ s) (kRt ρ) := by simp only [evS]; exact bnd_s _ _ _
theorem s_rn : evS .rn ρ s = .ok (.rt .non, ρ) s := rfl
theorem s_ps : evS .ps ρ s = .ok (.nx, ρ) s := rfl
theorem s_rs (x : PySem.Str) (c : Xc) : evS (.rs x c) ρ s = .ex c s := rfl
theorem s_tr (b : SL) (cx : PySem.Str) (cl : Xc) (al : List Xc) (h : Nat) (hd : Hd) : evS (.tr b cx cl al h hd) ρ s = Rt (evB b ρ s) (hsM al cl hd) ρ := by simp only [evS]; exact tryM_s _ _ _ _
theorem s_sa (o : P) (x : PySem.Str) (k : Nat) (p : P) : evS (.sa o x k p) ρ s = Rb (ev p ρ s) (kSa o k ρ) := by simp only [evS]; exact bnd_s _ _ _
end
end BX.Q

set_option Elab.async false
set_option linter.all false
set_option maxRecDepth 100000
/-! BR2: data are like themselves. -/
namespace BX.Q
/-! ### what is alike -/
mutual
theorem eqD_refl : ∀ {n : Nat} (d : D), sh n d = true → eqD d d = true
  | _, .non, _ => by simp [eqD]
  | _, .bl b, _ => by simp [eqD]
  | _, .int b, _ => by simp [eqD]
  | _, .str b, _ => by simp [eqD]
  | n + 1, .tup xs, h => by simp only [sh] at h; simp only [eqD]; exact eqL_refl xs h
  | n + 1, .lst xs, h => by simp only [sh] at h; simp only [eqD]; exact eqL_refl xs h
  | 0, .tup xs, h => by simp [sh] at h
  | 0, .lst xs, h => by simp [sh] at h
  | _, .scr _, h => by simp [sh] at h
  | _, .obj _, h => by simp [sh] at h
theorem eqL_refl : ∀ {n : Nat} (xs : List D), shL n xs = true → eqL xs xs = true
  | _, [], _ => by simp [eqL]
  | _, x :: xs, h => by
    simp only [shL, Bool.and_eq_true] at h
    simp only [eqL, eqD_refl x h.1, eqL_refl xs h.2]; rfl
end
theorem nrm_sh {d : D} (h : sh 60 d = true) : nrm d = d := by cases d <;> first | rfl | (simp [sh] at h)
theorem eqS_s (d : D) (s : Sto) (h : sh 60 d = true) : cmpD .eq d d s = .ok (.bl true) s := by
  show eqM false d d s = _
  unfold eqM
  rw [nrm_sh h, h, eqD_refl d h]; rfl
theorem neS_s (d : D) (s : Sto) (h : sh 60 d = true) : cmpD .ne d d s = .ok (.bl false) s := by
  show eqM true d d s = _
  unfold eqM
  rw [nrm_sh h, h, eqD_refl d h]; rfl
/-- a check that does not hold -/
theorem if_no {c : R Bool} {m : MF} {ρ : Env} {s : Sto} {ss : SL} {t : Tgt} (h : c = .ok false s) (k : Meets (evB ss ρ s) t) : Meets (Rb (Rif c m (evB .nil ρ)) (thenB ss)) t := by
  rw [h]
  exact k
theorem if_no1 {c : R Bool} {m : MF} {ρ ρc : Env} {s : Sto} (h : c = .ok false s) (k : leE ρc ρ) : Meets (Rb (Rif c m (evB .nil ρ)) (thenB .nil)) (.env ρc s) := by
  rw [h]
  exact Meets.env k
section
variable (s : Sto) (a b c d e f : D)
theorem mkL_0 : mkL [] s = .ok (.lst []) s := rfl
theorem mkL_1 : mkL [a] s = .ok (.lst [a]) s := rfl
theorem mkL_2 : mkL [a, b] s = .ok (.lst [a, b]) s := rfl
theorem mkL_3 : mkL [a, b, c] s = .ok (.lst [a, b, c]) s := rfl
theorem mkL_4 : mkL [a, b, c, d] s = .ok (.lst [a, b, c, d]) s := rfl
theorem mkL_5 : mkL [a, b, c, d, e] s = .ok (.lst [a, b, c, d, e]) s := rfl
theorem mkL_6 : mkL [a, b, c, d, e, f] s = .ok (.lst [a, b, c, d, e, f]) s := rfl
theorem mkT_0 : mkT [] s = .ok (.tup []) s := rfl
theorem mkT_1 : mkT [a] s = .ok (.tup [a]) s := rfl
theorem mkT_2 : mkT [a, b] s = .ok (.tup [a, b]) s := rfl
theorem mkT_3 : mkT [a, b, c] s = .ok (.tup [a, b, c]) s := rfl
theorem mkT_4 : mkT [a, b, c, d] s = .ok (.tup [a, b, c, d]) s := rfl
theorem mkT_5 : mkT [a, b, c, d, e] s = .ok (.tup [a, b, c, d, e]) s := rfl
theorem mkT_6 : mkT [a, b, c, d, e, f] s = .ok (.tup [a, b, c, d, e, f]) s := rfl
end
end BX.Q

set_option Elab.async false
set_option linter.all false
set_option maxRecDepth 100000
/-! BS1: data in the heap, worlds, what a reading must do. -/
namespace BX
open PySem PySem.Spec PyProof.Rows L2

/-- what the run knows: the classes of exceptions, of objects -/
structure Rt where
  P : Program
  w : World
  K : PySem.W.Frag
  mg : Str → Option Value
  base : Heap
  ca : Xc → Addr
  co : Nat → Addr
/-- the names of attributes -/
def AT : List Str := ["book", "digits", "rests", "last", "over", "alarms", "ticks", "loop", "many", "pulled", "moment", "past", "later", "office", "noted"]
/-- a tuple whose object is known to have no dict -/
def SqTN (K : PySem.W.Frag) (H : Hp) (a : Addr) (xs : List V) : Prop :=
  (∃ o, H a = some (.frz o (.tup xs)) ∧ o.dict = none) ∨
    ∃ (o : Obj) (its : Array Value) (n : Nat), K.lookup a = some o ∧ o.cls = .type "tuple" ∧ o.dict = none ∧ o.data = .seq its n ∧ its.size ≤ sizeLine ∧ Vals xs its.toList
theorem SqTN.t {K : PySem.W.Frag} {H : Hp} {a : Addr} {xs : List V} (h : SqTN K H a xs) : SqT K H a xs := by
  rcases h with ⟨o, h, _⟩ | ⟨o, its, n, h1, h2, _, h4⟩
  · exact .inl (.inr ⟨o, h⟩)
  · exact .inr ⟨o, its, n, h1, h2, h4⟩
mutual
def Rp (K : PySem.W.Frag) (G : Hp) (μ : List Addr) : D → V → Prop
  | .non, v => v = .non
  | .bl b, v => v = .bl b
  | .int i, v => v = .int i
  | .str s, v => v = .str ⟨s.toArray⟩ ∧ s.length ≤ LIM ∧ ∀ c ∈ s, c < 1114112
  | .tup ds, v => ∃ a xs, v = .ref a ∧ SqTN K G a xs ∧ xs.length ≤ LIM ∧ RpL K G μ ds xs
  | .lst ds, v => ∃ a xs, v = .ref a ∧ G a = some (.lst xs) ∧ xs.length ≤ LIM ∧ RpL K G μ ds xs
  | .scr ns, v => ∃ a, v = .ref a ∧ SqL K G a (ns.map V.int) ∧ ns.length ≤ LIM
  | .obj n, v => ∃ a, v = .ref a ∧ μ[n]? = some a
def RpL (K : PySem.W.Frag) (G : Hp) (μ : List Addr) : List D → List V → Prop
  | [], xs => xs = []
  | d :: ds, xs => ∃ v vs, xs = v :: vs ∧ Rp K G μ d v ∧ RpL K G μ ds vs
end
/-- one heap is within another -/
def Sub (G G' : Hp) : Prop := ∀ a o, G a = some o → G' a = some o
theorem Sub.refl (G : Hp) : Sub G G := fun _ _ h => h
theorem Sub.trans {G G' G'' : Hp} (h : Sub G G') (h' : Sub G' G'') : Sub G G'' := fun a o e => h' a o (h a o e)
theorem Sub.sqn {K : PySem.W.Frag} {G G' : Hp} {a : Addr} {xs : List V} (s : Sub G G') (h : SqTN K G a xs) : SqTN K G' a xs := by
  rcases h with ⟨o, h, d⟩ | h
  · exact .inl ⟨o, s _ _ h, d⟩
  · exact .inr h
theorem Sub.sqt {K : PySem.W.Frag} {G G' : Hp} {a : Addr} {xs : List V} (s : Sub G G') (h : SqTN K G a xs) : SqT K G' a xs := (s.sqn h).t
theorem Sub.sqw {K : PySem.W.Frag} {G G' : Hp} {a : Addr} {xs : List V} (s : Sub G G') (h : SqT K G a xs) : SqT K G' a xs := by
  rcases h with (h | ⟨o, h⟩) | h
  · exact .inl (.inl (s _ _ h))
  · exact .inl (.inr ⟨o, s _ _ h⟩)
  · exact .inr h
theorem Sub.sql {K : PySem.W.Frag} {G G' : Hp} {a : Addr} {xs : List V} (s : Sub G G') (h : SqL K G a xs) : SqL K G' a xs := by
  rcases h with (h | ⟨o, h⟩) | h
  · exact .inl (.inl (s _ _ h))
  · exact .inl (.inr ⟨o, s _ _ h⟩)
  · exact .inr h
def Pre (μ μ' : List Addr) : Prop := ∃ l, μ' = μ ++ l
theorem Pre.refl (μ : List Addr) : Pre μ μ := ⟨[], by simp⟩
theorem Pre.trans {a b c : List Addr} (h : Pre a b) (h' : Pre b c) : Pre a c := by
  obtain ⟨l, rfl⟩ := h
  obtain ⟨m, rfl⟩ := h'
  exact ⟨l ++ m, by simp⟩
theorem Pre.get {μ μ' : List Addr} (h : Pre μ μ') {n : Nat} {a : Addr} (e : μ[n]? = some a) : μ'[n]? = some a := by
  obtain ⟨l, rfl⟩ := h
  obtain ⟨hl, _⟩ := List.getElem?_eq_some_iff.mp e
  rw [List.getElem?_append_left hl]
  exact e
section
variable {K : PySem.W.Frag} {G G' : Hp} {μ μ' : List Addr}
mutual
theorem Rp.mono (s : Sub G G') (p : Pre μ μ') : ∀ (d : D) (v : V), Rp K G μ d v → Rp K G' μ' d v
  | .non, _, h => h
  | .bl _, _, h => h
  | .int _, _, h => h
  | .str _, _, h => h
  | .tup ds, v, h => by
    obtain ⟨a, xs, e, h1, h2, h3⟩ := (show ∃ a xs, v = .ref a ∧ SqTN K G a xs ∧ xs.length ≤ LIM ∧ RpL K G μ ds xs from by simpa only [Rp] using h)
    simp only [Rp]
    exact ⟨a, xs, e, s.sqn h1, h2, RpL.mono s p ds xs h3⟩
  | .lst ds, v, h => by
    obtain ⟨a, xs, e, h1, h2, h3⟩ := (show ∃ a xs, v = .ref a ∧ G a = some (.lst xs) ∧ xs.length ≤ LIM ∧ RpL K G μ ds xs from by simpa only [Rp] using h)
    simp only [Rp]
    exact ⟨a, xs, e, s _ _ h1, h2, RpL.mono s p ds xs h3⟩
  | .scr ns, v, h => by
    obtain ⟨a, e, h1, h2⟩ := (show ∃ a, v = .ref a ∧ SqL K G a (ns.map V.int) ∧ ns.length ≤ LIM from by simpa only [Rp] using h)
    simp only [Rp]
    exact ⟨a, e, s.sql h1, h2⟩
  | .obj n, v, h => by
    obtain ⟨a, e, h1⟩ := (show ∃ a, v = .ref a ∧ μ[n]? = some a from by simpa only [Rp] using h)
    simp only [Rp]
    exact ⟨a, e, p.get h1⟩
theorem RpL.mono (s : Sub G G') (p : Pre μ μ') : ∀ (ds : List D) (xs : List V), RpL K G μ ds xs → RpL K G' μ' ds xs
  | [], _, h => by simpa only [RpL] using h
  | d :: ds, xs, h => by
    simp only [RpL] at h ⊢
    obtain ⟨v, vs, e, h1, h2⟩ := h
    exact ⟨v, vs, e, Rp.mono s p d v h1, RpL.mono s p ds vs h2⟩
end
theorem RpL.length : ∀ {ds : List D} {xs : List V}, RpL K G μ ds xs → ds.length = xs.length
  | [], _, h => by simp only [RpL] at h; subst h; rfl
  | d :: ds, xs, h => by
    simp only [RpL] at h
    obtain ⟨v, vs, e, h1, h2⟩ := h
    subst e
    simp [RpL.length h2]
theorem RpL.get : ∀ {ds : List D} {xs : List V} {i : Nat} {d : D}, RpL K G μ ds xs → ds[i]? = some d → ∃ v, xs[i]? = some v ∧ Rp K G μ d v
  | [], _, _, _, _, e => by simp at e
  | d :: ds, xs, 0, e, h, q => by
    simp only [RpL] at h
    obtain ⟨v, vs, rfl, h1, h2⟩ := h
    simp at q
    subst q
    exact ⟨v, rfl, h1⟩
  | d :: ds, xs, i + 1, e, h, q => by
    simp only [RpL] at h
    obtain ⟨v, vs, rfl, h1, h2⟩ := h
    obtain ⟨u, q1, q2⟩ := RpL.get (i := i) (d := e) h2 (by simpa using q)
    exact ⟨u, by simpa using q1, q2⟩
theorem RpL.append : ∀ {ds es : List D} {xs ys : List V}, RpL K G μ ds xs → RpL K G μ es ys → RpL K G μ (ds ++ es) (xs ++ ys)
  | [], es, xs, ys, h, h' => by
    simp only [RpL] at h
    subst h
    exact h'
  | d :: ds, es, xs, ys, h, h' => by
    simp only [RpL] at h
    obtain ⟨v, vs, rfl, h1, h2⟩ := h
    show RpL K G μ (d :: (ds ++ es)) (v :: (vs ++ ys))
    simp only [RpL]
    exact ⟨v, vs ++ ys, rfl, h1, RpL.append h2 h'⟩
theorem RpL.one {d : D} {v : V} (h : Rp K G μ d v) : RpL K G μ [d] [v] := by
  simp only [RpL]
  exact ⟨v, [], rfl, h, rfl⟩
theorem RpL.nil : RpL K G μ [] [] := by simp only [RpL]
theorem RpL.cons {d : D} {v : V} {ds : List D} {vs : List V} (h : Rp K G μ d v) (h' : RpL K G μ ds vs) : RpL K G μ (d :: ds) (v :: vs) := by
  simp only [RpL]
  exact ⟨v, vs, rfl, h, h'⟩
theorem RpL.of_cons {d : D} {v : V} {ds : List D} {vs : List V} (h : RpL K G μ (d :: ds) (v :: vs)) : Rp K G μ d v ∧ RpL K G μ ds vs := by
  simp only [RpL] at h
  obtain ⟨v', vs', e, h1, h2⟩ := h
  obtain ⟨rfl, rfl⟩ := List.cons.inj e
  exact ⟨h1, h2⟩
theorem RpL.take : ∀ (n : Nat) {ds : List D} {xs : List V}, RpL K G μ ds xs → RpL K G μ (ds.take n) (xs.take n)
  | 0, _, _, _ => by simp [RpL]
  | n + 1, [], xs, h => by
    simp only [RpL] at h
    subst h
    simp [RpL]
  | n + 1, d :: ds, xs, h => by
    simp only [RpL] at h
    obtain ⟨v, vs, rfl, h1, h2⟩ := h
    simp only [List.take_succ_cons]
    exact RpL.cons h1 (RpL.take n h2)
theorem RpL.drop : ∀ (n : Nat) {ds : List D} {xs : List V}, RpL K G μ ds xs → RpL K G μ (ds.drop n) (xs.drop n)
  | 0, _, _, h => h
  | n + 1, [], xs, h => by
    simp only [RpL] at h
    subst h
    simp [RpL]
  | n + 1, d :: ds, xs, h => by
    simp only [RpL] at h
    obtain ⟨v, vs, rfl, h1, h2⟩ := h
    simp only [List.drop_succ_cons]
    exact RpL.drop n h2
theorem RpL.set : ∀ {ds : List D} {xs : List V} (i : Nat) {d : D} {v : V}, RpL K G μ ds xs → Rp K G μ d v → RpL K G μ (ds.set i d) (xs.set i v)
  | [], xs, i, d, v, h, _ => by
    simp only [RpL] at h
    subst h
    simp [RpL]
  | e :: ds, xs, 0, d, v, h, r => by
    simp only [RpL] at h
    obtain ⟨u, vs, rfl, h1, h2⟩ := h
    exact RpL.cons r h2
  | e :: ds, xs, i + 1, d, v, h, r => by
    simp only [RpL] at h
    obtain ⟨u, vs, rfl, h1, h2⟩ := h
    exact RpL.cons h1 (RpL.set i h2 r)
theorem RpL.eraseIdx : ∀ {ds : List D} {xs : List V} (i : Nat), RpL K G μ ds xs → RpL K G μ (ds.eraseIdx i) (xs.eraseIdx i)
  | [], xs, i, h => by
    simp only [RpL] at h
    subst h
    simp [RpL]
  | e :: ds, xs, 0, h => by
    simp only [RpL] at h
    obtain ⟨u, vs, rfl, h1, h2⟩ := h
    exact h2
  | e :: ds, xs, i + 1, h => by
    simp only [RpL] at h
    obtain ⟨u, vs, rfl, h1, h2⟩ := h
    exact RpL.cons h1 (RpL.eraseIdx i h2)
theorem RpL.reverse : ∀ {ds : List D} {xs : List V}, RpL K G μ ds xs → RpL K G μ ds.reverse xs.reverse
  | [], xs, h => by
    simp only [RpL] at h
    subst h
    simp [RpL]
  | e :: ds, xs, h => by
    simp only [RpL] at h
    obtain ⟨u, vs, rfl, h1, h2⟩ := h
    simp only [List.reverse_cons]
    exact (RpL.reverse h2).append (RpL.one h1)
theorem RpL.rep {ds : List D} {xs : List V} (h : RpL K G μ ds xs) : ∀ k, RpL K G μ (rep k ds) (List.replicate k xs).flatten
  | 0 => by simp [BX.rep, RpL]
  | k + 1 => by
    show RpL K G μ (List.replicate (k + 1) ds).flatten _
    simp only [List.replicate_succ, List.flatten_cons]
    exact h.append (RpL.rep h k)
end

/-- an item of a walk: a pair made by zip, by enumerate is taken apart at once -/
def RpW (K : PySem.W.Frag) (G : Hp) (μ : List Addr) (d : D) (v : V) : Prop := Rp K G μ d v ∨ ∃ ds a xs, d = .tup ds ∧ v = .ref a ∧ SqT K G a xs ∧ xs.length ≤ LIM ∧ RpL K G μ ds xs
def RpZ (z : Bool) (K : PySem.W.Frag) (G : Hp) (μ : List Addr) (d : D) (v : V) : Prop := match z with
  | true => RpW K G μ d v
  | false => Rp K G μ d v
/-! ### worlds -/
def isIns : HO → Bool
  | .ins _ _ _ => true
  | _ => false
/-- an object's attributes -/
def FsOk (K : PySem.W.Frag) (G : Hp) (μ : List Addr) (fs : List (Nat × D)) (vs : List (Str × V)) : Prop :=
  Paired (fun (p : Nat × D) (q : Str × V) => AT[p.1]? = some q.1 ∧ Rp K G μ p.2 q.2) fs vs
/-- a class of objects: plain, its attributes its objects' own -/
structure OkCl (K : PySem.W.Frag) (C : Addr) : Prop where
  cls : Cls K C
  no : ∀ x ∈ AT, NoAttr K C x
def StOk (T : Rt) (st : Sto) : Prop := ∀ ob ∈ st, OkCl T.K (T.co ob.cls) ∧ (ob.fs.map Prod.fst).Nodup
structure WOk (T : Rt) (G H : Hp) (μ : List Addr) (st : Sto) : Prop where
  so : StOk T st
  gh : Sub G H
  nd : μ.Nodup
  len : μ.length = st.length
  obj : ∀ (n : Nat) (a : Addr) (ob : Ob), st[n]? = some ob → μ[n]? = some a → G a = none ∧ ∃ dx fs, H a = some (.ins (T.co ob.cls) dx fs) ∧ FsOk T.K G μ ob.fs fs
/-- a world goes on: nothing but objects changes -/
structure Ev (G H : Hp) (μ : List Addr) (G' H' : Hp) (μ' : List Addr) : Prop where
  g : Sub G G'
  m : Pre μ μ'
  h : ∀ a o, H a = some o → isIns o = false → H' a = some o
  i : ∀ a o, H a = some o → ∃ o', H' a = some o'
  f : ∀ a, G a = none → H a ≠ none → G' a = none
theorem Ev.refl (G H : Hp) (μ : List Addr) : Ev G H μ G H μ := ⟨Sub.refl _, Pre.refl _, fun _ _ e _ => e, fun _ o e => ⟨o, e⟩, fun _ e _ => e⟩
theorem Ev.trans {G H G' H' G'' H'' : Hp} {μ μ' μ'' : List Addr} (a : Ev G H μ G' H' μ') (b : Ev G' H' μ' G'' H'' μ'') : Ev G H μ G'' H'' μ'' := by
  refine ⟨a.g.trans b.g, a.m.trans b.m, fun c o e n => b.h c o (a.h c o e n) n, fun c o e => ?_, fun c e n => b.f c (a.f c e n) ?_⟩
  · obtain ⟨o', e'⟩ := a.i c o e
    exact b.i c o' e'
  · cases q : H c with
    | none => exact absurd q n
    | some o =>
      obtain ⟨o', e'⟩ := a.i c o q
      rw [e']
      simp
theorem Ev.rp {K : PySem.W.Frag} {G H G' H' : Hp} {μ μ' : List Addr} (a : Ev G H μ G' H' μ') {d : D} {v : V} (r : Rp K G μ d v) : Rp K G' μ' d v := Rp.mono a.g a.m d v r
theorem Ev.rpl {K : PySem.W.Frag} {G H G' H' : Hp} {μ μ' : List Addr} (a : Ev G H μ G' H' μ') {d : List D} {v : List V} (r : RpL K G μ d v) : RpL K G' μ' d v := RpL.mono a.g a.m d v r
/-- what comes of an expression: 0 it stands in the frozen part; 1 a list is new, of nobody else's; 2 a list may be a slot's own -/
def PoL (T : Rt) (H G' H' : Hp) (μ' : List Addr) (ds : List D) (v : V) : Nat → Prop
  | 0 => Rp T.K G' μ' (.lst ds) v
  | 1 => ∃ a xs, v = .ref a ∧ H a = none ∧ G' a = none ∧ H' a = some (.lst xs) ∧ xs.length ≤ LIM ∧ RpL T.K G' μ' ds xs
  | _ + 2 => ∃ a xs, v = .ref a ∧ H' a = some (.lst xs) ∧ xs.length ≤ LIM ∧ RpL T.K G' μ' ds xs
def Po (T : Rt) (md : Nat) (H G' H' : Hp) (μ' : List Addr) : D → V → Prop
  | .lst ds, v => PoL T H G' H' μ' ds v md
  | d, v => Rp T.K G' μ' d v
theorem Po.of {T : Rt} {md : Nat} {H G' H' : Hp} {μ' : List Addr} {d : D} {v : V} (h : isLst d = false) (r : Rp T.K G' μ' d v) : Po T md H G' H' μ' d v := by
  cases d <;> first | exact r | exact absurd h (by simp [isLst])
theorem Po.plain {T : Rt} {md : Nat} {H G' H' : Hp} {μ' : List Addr} {d : D} {v : V} (h : isLst d = false) (r : Po T md H G' H' μ' d v) : Rp T.K G' μ' d v := by
  cases d <;> first | exact r | exact absurd h (by simp [isLst])
/-- .. read at any time -/
theorem Po.two {T : Rt} {md : Nat} {H G' H' : Hp} {μ' : List Addr} {d : D} {v : V} (s : Sub G' H') (r : Po T md H G' H' μ' d v) : Po T 2 H G' H' μ' d v := by
  cases d with
  | lst ds =>
    show ∃ a xs, v = .ref a ∧ H' a = some (.lst xs) ∧ xs.length ≤ LIM ∧ RpL T.K G' μ' ds xs
    match md, r with
    | 0, r =>
      have r' : Rp T.K G' μ' (.lst ds) v := r
      simp only [Rp] at r'
      obtain ⟨a, xs, e, h1, h2, h3⟩ := r'
      exact ⟨a, xs, e, s _ _ h1, h2, h3⟩
    | 1, r =>
      obtain ⟨a, xs, e, _, _, h1, h2, h3⟩ := (show ∃ a xs, v = .ref a ∧ H a = none ∧ G' a = none ∧ H' a = some (.lst xs) ∧ xs.length ≤ LIM ∧ RpL T.K G' μ' ds xs from r)
      exact ⟨a, xs, e, h1, h2, h3⟩
    | _ + 2, r => exact r
  | _ => exact r
/-- .. a later look at it -/
theorem Po.later {T : Rt} {H G H1 G' H' : Hp} {μ μ' : List Addr} {d : D} {v : V} (r : Po T 2 H G H1 μ d v) (e : Ev G H1 μ G' H' μ') : Po T 2 H1 G' H' μ' d v := by
  cases d with
  | lst ds =>
    obtain ⟨a, xs, e1, h1, h2, h3⟩ := (show ∃ a xs, v = .ref a ∧ H1 a = some (.lst xs) ∧ xs.length ≤ LIM ∧ RpL T.K G μ ds xs from r)
    exact ⟨a, xs, e1, e.h _ _ h1 rfl, h2, e.rpl h3⟩
  | _ => exact e.rp r
end BX

set_option Elab.async false
set_option linter.all false
set_option maxRecDepth 100000
set_option maxHeartbeats 4000000
/-! BN1: tuples made, their objects known to have no dict of their own. -/
namespace BX
open PySem PySem.Spec PyProof.Rows L2
/-- the object of a new tuple -/
abbrev tupO (its : List Value) : Obj := { cls := .type "tuple", data := .seq its.toArray }
/-- a wish of a new tuple -/
def NewT (xs : List V) (H : Hp) (Q : VK) : Prop := ∀ p o, H p = none → o.dict = none → Q (.ref p) (upd H p (.frz o (.tup xs)))
section
variable {X : Cx} {pins : List (Addr × Obj)} {σ : L2.St} {H : Hp} {s : Shared}
theorem laidN (I : Inv X pins σ H s) {xs : List V} {its : List Value} (z : xs.length ≤ sizeLine) (r : Vals xs its) : Inv X pins σ (upd H s.heap.objs.size (.frz (tupO its) (.tup xs))) { s with heap := s.heap.push (tupO its) } :=
  I.laid (t' := s.toks) (fun b u e => Heap.get?_push_of_some _ e) (Nat.le_refl _) ⟨Heap.get?_push_size _ rfl, z, its, r, _, Heap.get?_push_size _ rfl, rfl, _, rfl⟩
theorem newT_at (I : Inv X pins σ H s) {xs : List V} {its : List Value} {Q : VK} (z : xs.length ≤ sizeLine) (r : Vals xs its) (q : NewT xs H Q) : EP X pins σ Q (.ref s.heap.objs.size) { s with heap := s.heap.push (tupO its) } :=
  ⟨.ref s.heap.objs.size, _, laidN I z r, rfl, q _ _ (I.hok.fresh (Nat.le_refl _)) rfl⟩
/-- a tuple, its items written -/
def tTupN (t : TA) : TE := fun σ H Q => t σ H fun xs H1 => xs.length ≤ sizeLine ∧ NewT xs H1 Q
theorem pe_tupN {es : List Expr} {t : TA} {kk : Nat} {pos : Pos} (h : PA X es t) : PE X (.Tuple es kk pos) (tTupN t) := by
  refine ⟨fun pins s σ H Q I hq => ?_⟩
  refine wpAny_Tuple_spliced (thn (h.run pos pins s σ H _ I hq) fun us s1 ⟨xs, H1, I1, r, z, q⟩ => ?_)
  refine ⟨?_, newT_at I1 z r q⟩
  have e := r.length
  omega
/-- tuple(x) -/
def rTupN (K : PySem.W.Frag) : List V → Hp → VK → Prop := fun vs H Q => ∃ p ys, vs = [.ref p] ∧ ((SqL K H p ys ∧ NewT ys H Q) ∨ (SqT K H p ys ∧ Q (.ref p) H))
theorem cr_tupN : CallR X (.type "tuple") (rTupN X.K) := by
  intro pins s σ H vs us Q I r h
  obtain ⟨p, ys, rfl, h⟩ := h
  rw [Vals.ref1 r]
  rcases h with ⟨hq, q⟩ | ⟨hq, q⟩
  · obtain ⟨its, rv, pl, hz⟩ := I.list hq
    refine call_tuple_list pl.isList (fun h' kp => ?_) (by have := rv.length; simp only [List.size_toArray]; omega)
    have J : Inv X pins σ H { s with heap := h' } := I.kept (t' := s.toks) kp
    exact newT_at J hz rv q
  · obtain ⟨its, rv, pl, hz⟩ := I.tuple hq
    exact call_tuple_same pl ⟨.ref p, H, I, rfl, q⟩
/-- t + u -/
def rCatN (K : PySem.W.Frag) : R2 := fun x y H Q => ∃ a b xs ys, x = .ref a ∧ y = .ref b ∧ SqT K H a xs ∧ SqT K H b ys ∧ xs.length + ys.length ≤ sizeLine ∧
  (xs = [] → Q (.ref b) H) ∧ (xs ≠ [] → ys = [] → Q (.ref a) H) ∧ (xs ≠ [] → ys ≠ [] → NewT (xs ++ ys) H Q)
theorem op_catN : OpR X (binaryOp .Add) (rCatN X.K) := by
  intro pins s σ H x y v u Q I rx ry h
  obtain ⟨a, b, xs, ys, rfl, rfl, ha, hb, hz, q0, q1, q2⟩ := h
  cases rx
  cases ry
  obtain ⟨i1, r1, p1, _⟩ := I.tuple ha
  obtain ⟨i2, r2, p2, _⟩ := I.tuple hb
  have l1 := r1.length
  have l2 := r2.length
  by_cases hx : xs = []
  · subst hx
    cases r1
    exact cat_tup0 p1 p2 ⟨.ref b, H, I, rfl, q0 rfl⟩
  · have n1 : i1 ≠ [] := fun z => hx ((Vals.nil_iff r1).mp z)
    refine HT.cat_tup p1 p2 n1 (fun z => ⟨.ref a, H, I, rfl, q1 hx ((Vals.nil_iff r2).mp z)⟩) (fun z => ?_) (by omega)
    exact newT_at I (by rw [List.length_append]; exact hz) (r1.append r2) (q2 hx fun w => z ((Vals.nil_iff r2).mpr w))
/-- t[lo:hi] -/
def rSlN (K : PySem.W.Frag) : V → Option Int → Option Int → Hp → VK → Prop := fun x lo hi H Q => ∃ a xs, x = .ref a ∧ SqT K H a xs ∧
  (HT.sIx xs.length 0 lo = 0 ∧ HT.sIx xs.length xs.length hi = xs.length → Q (.ref a) H) ∧ (¬ (HT.sIx xs.length 0 lo = 0 ∧ HT.sIx xs.length xs.length hi = xs.length) → NewT (cutV xs lo hi) H Q)
theorem sl_tupN : SlR X (rSlN X.K) := by
  intro pins s σ H x v vl vu lo hi sl Q I rx hs pl pu h
  obtain ⟨a, xs, rfl, hx, q1, q2⟩ := h
  cases rx
  obtain ⟨its, r, ht, hz⟩ := I.tuple hx
  have hlen : its.toArray.size = xs.length := by have := r.length; rw [List.size_toArray]; omega
  refine ⟨"tuple", _, PyProof.Rows.slot_tuple_getitem.lookup, ht.typeIs, ?_⟩
  by_cases hw : HT.sIx xs.length 0 lo = 0 ∧ HT.sIx xs.length xs.length hi = xs.length
  · exact getItem_tuple_whole ht hs pl pu (by rw [hlen]; exact hw) ⟨.ref a, H, I, rfl, q1 hw⟩
  · refine HT.getItem_tuple_cut ht hs pl pu (by rw [hlen]; exact hw) ?_ (by rw [hlen]; exact hz)
    rw [hlen]
    exact newT_at I (Nat.le_trans (cutV_length xs lo hi) hz) ((r.drop _).take _) (q2 hw)
end
end BX

set_option Elab.async false
set_option linter.all false
set_option maxRecDepth 100000
/-! BS2: slots, readings as the evaluator says. -/
namespace BX
open PySem PySem.Spec PyProof.Rows L2

abbrev St := L2.St
/-- a changed list's own -/
def Ow (K : PySem.W.Frag) (H0 G H : Hp) (μ : List Addr) : D → V → Prop
  | .lst ds, v => ∃ a xs, v = .ref a ∧ H0 a = none ∧ G a = none ∧ H a = some (.lst xs) ∧ xs.length ≤ LIM ∧ RpL K G μ ds xs
  | d, v => Rp K G μ d v
/-- the world at a def's entry -/
structure EW where
  G : Hp
  H : Hp
  μ : List Addr
structure Er (T : Rt) (mu : List Nat) (n : Nat) (E : EW) (ρ : Env) (σ : St) (G H : Hp) (μ : List Addr) (st : Sto) : Prop where
  w : WOk T G H μ st
  en : Ev E.G E.H E.μ G H μ
  lr : ρ.length = n
  ls : σ.length = n
  pl : ∀ (i : Nat) (d : D), i ∉ mu → ρ[i]? = some (some d) → ∃ v, σ[i]? = some (some v) ∧ Rp T.K G μ d v
  ow : ∀ (i : Nat) (d : D), i ∈ mu → ρ[i]? = some (some d) → ∃ v, σ[i]? = some (some v) ∧ Ow T.K E.H G H μ d v
  ap : ∀ (i j : Nat) (d e : D) (v : V), i ∈ mu → j ∈ mu → i ≠ j → isLst d = true → isLst e = true → ρ[i]? = some (some d) → ρ[j]? = some (some e) → σ[i]? = some (some v) → σ[j]? ≠ some (some v)
theorem Ow.later {K : PySem.W.Frag} {H0 G H G' H' : Hp} {μ μ' : List Addr} {d : D} {v : V} (r : Ow K H0 G H μ d v) (e : Ev G H μ G' H' μ') : Ow K H0 G' H' μ' d v := by
  cases d with
  | lst ds =>
    obtain ⟨a, xs, e1, h0, hg, h1, h2, h3⟩ := (show ∃ a xs, v = .ref a ∧ H0 a = none ∧ G a = none ∧ H a = some (.lst xs) ∧ xs.length ≤ LIM ∧ RpL K G μ ds xs from r)
    exact ⟨a, xs, e1, h0, e.f a hg (by rw [h1]; simp), e.h _ _ h1 rfl, h2, e.rpl h3⟩
  | _ => exact e.rp r
section
variable {T : Rt} {mu : List Nat} {n : Nat} {E : EW} {ρ : Env} {σ : St} {G H G' H' : Hp} {μ μ' : List Addr} {st st' : Sto}
theorem Er.ev (h : Er T mu n E ρ σ G H μ st) (e : Ev G H μ G' H' μ') (w : WOk T G' H' μ' st') : Er T mu n E ρ σ G' H' μ' st' := by
  refine ⟨w, h.en.trans e, h.lr, h.ls, fun i d hi hr => ?_, fun i d hi hr => ?_, h.ap⟩
  · obtain ⟨v, h1, h2⟩ := h.pl i d hi hr
    exact ⟨v, h1, e.rp h2⟩
  · obtain ⟨v, h1, h2⟩ := h.ow i d hi hr
    exact ⟨v, h1, h2.later e⟩
/-- a slot read, whatever it is -/
theorem Er.get (h : Er T mu n E ρ σ G H μ st) {i : Nat} {d : D} (e : ρ[i]? = some (some d)) : ∃ v, σ[i]? = some (some v) ∧ Po T 2 H G H μ d v := by
  by_cases hi : i ∈ mu
  · obtain ⟨v, h1, h2⟩ := h.ow i d hi e
    refine ⟨v, h1, ?_⟩
    cases d with
    | lst ds =>
      obtain ⟨a, xs, e1, _, _, q1, q2, q3⟩ := (show ∃ a xs, v = .ref a ∧ E.H a = none ∧ G a = none ∧ H a = some (.lst xs) ∧ xs.length ≤ LIM ∧ RpL T.K G μ ds xs from h2)
      exact ⟨a, xs, e1, q1, q2, q3⟩
    | _ => exact h2
  · obtain ⟨v, h1, h2⟩ := h.pl i d hi e
    refine ⟨v, h1, ?_⟩
    have h3 : Po T 0 H G H μ d v := by cases d <;> exact h2
    exact h3.two h.w.gh
end

/-! ### outcomes -/
def Res {α : Type} (m : R α) (k : α → Sto → Prop) (x : Xc → Sto → Prop) : Prop := match m with
  | .ok a s => k a s
  | .ex c s => x c s
  | .bad => False
theorem Res.bnd {α β : Type} {m : M α} {f : α → M β} {s : Sto} {k : β → Sto → Prop} {x : Xc → Sto → Prop} (h : Res (BX.bnd m f s) k x) : Res (m s) (fun a s' => Res (f a s') k x) x := by
  unfold BX.bnd at h
  cases e : m s with
  | ok a s' => rw [e] at h; exact h
  | ex c s' => rw [e] at h; exact h
  | bad => rw [e] at h; exact h
theorem Res.mono {α : Type} {m : R α} {k k' : α → Sto → Prop} {x x' : Xc → Sto → Prop} (h : Res m k x) (hk : ∀ a s, k a s → k' a s) (hx : ∀ c s, x c s → x' c s) : Res m k' x' := by
  cases m with
  | ok a s => exact hk _ _ h
  | ex c s => exact hx _ _ h
  | bad => exact h
theorem Res.ret {α : Type} {a : α} {s : Sto} {k : α → Sto → Prop} {x : Xc → Sto → Prop} (h : Res (BX.ret a s) k x) : k a s := h
theorem Res.bad {α : Type} {s : Sto} {k : α → Sto → Prop} {x : Xc → Sto → Prop} (h : Res (BX.bad s) k x) : False := h
theorem Res.nox {α : Type} {m : M α} {s : Sto} {k : α → Sto → Prop} {x x' : Xc → Sto → Prop} (h : Res (BX.nox m s) k x) : Res (m s) k x' := by
  unfold BX.nox at h
  cases e : m s with
  | ok a s' => rw [e] at h; exact h
  | ex c s' => rw [e] at h; exact h.elim
  | bad => rw [e] at h; exact h

/-! ### what readings must do -/
section
variable (T : Rt) (mu : List Nat) (n : Nat) (W : WX)
abbrev WK (G H : Hp) (μ : List Addr) (σ : St) : Xc → Sto → Prop := fun x st' => ∀ G' H' μ', Ev G H μ G' H' μ' → WOk T G' H' μ' st' → W (.ref (T.ca x)) none σ H'
def RdE (md : Nat) (t : TE) (f : Env → M D) : Prop := ∀ (E : EW) (ρ : Env) (σ : St) (G H : Hp) (μ : List Addr) (st : Sto) (Q : VK), Er T mu n E ρ σ G H μ st →
  Res (f ρ st) (fun d st' => ∀ v G' H' μ', Ev G H μ G' H' μ' → WOk T G' H' μ' st' → Po T md H G' H' μ' d v → Q v H') (WK T W G H μ σ) → t σ H Q
def RdT (t : TT) (f : Env → M Bool) : Prop := ∀ (E : EW) (ρ : Env) (σ : St) (G H : Hp) (μ : List Addr) (st : Sto) (Q : Bool → Hp → Prop), Er T mu n E ρ σ G H μ st →
  Res (f ρ st) (fun b st' => ∀ G' H' μ', Ev G H μ G' H' μ' → WOk T G' H' μ' st' → Q b H') (WK T W G H μ σ) → t σ H Q
def RdA (t : TA) (f : Env → M (List D)) : Prop := ∀ (E : EW) (ρ : Env) (σ : St) (G H : Hp) (μ : List Addr) (st : Sto) (Q : List V → Hp → Prop), Er T mu n E ρ σ G H μ st →
  Res (f ρ st) (fun ds st' => ∀ vs G' H' μ', Ev G H μ G' H' μ' → WOk T G' H' μ' st' → RpL T.K G' μ' ds vs → Q vs H') (WK T W G H μ σ) → t σ H Q
def RdO (md : Nat) (r : R2) (g : D → D → M D) : Prop := ∀ (x y : D) (vx vy : V) (G H : Hp) (μ : List Addr) (st : Sto) (Q : VK), WOk T G H μ st → Po T 2 H G H μ x vx → Po T 2 H G H μ y vy →
  Res (g x y st) (fun d st' => ∀ v G' H', Ev G H μ G' H' μ → WOk T G' H' μ st' → Po T md H G' H' μ d v → Q v H') (fun _ _ => True) → r vx vy H Q
def RdU (md : Nat) (r : V → Hp → VK → Prop) (g : D → M D) : Prop := ∀ (x : D) (vx : V) (G H : Hp) (μ : List Addr) (st : Sto) (Q : VK), WOk T G H μ st → Po T 2 H G H μ x vx →
  Res (g x st) (fun d st' => ∀ v G' H', Ev G H μ G' H' μ → WOk T G' H' μ st' → Po T md H G' H' μ d v → Q v H') (fun _ _ => True) → r vx H Q
end
section
variable {T : Rt} {mu : List Nat} {n : Nat} {W : WX}
theorem Po.back {md : Nat} {H H1 G' H' : Hp} {μ' : List Addr} {d : D} {v : V} (i : ∀ a o, H a = some o → ∃ o', H1 a = some o') (r : Po T md H1 G' H' μ' d v) : Po T md H G' H' μ' d v := by
  cases d with
  | lst ds =>
    match md, r with
    | 0, r => exact r
    | 1, r =>
      obtain ⟨a, xs, e, hn, h0, h1, h2, h3⟩ := (show ∃ a xs, v = .ref a ∧ H1 a = none ∧ G' a = none ∧ H' a = some (.lst xs) ∧ xs.length ≤ LIM ∧ RpL T.K G' μ' ds xs from r)
      refine ⟨a, xs, e, ?_, h0, h1, h2, h3⟩
      cases q : H a with
      | none => rfl
      | some o =>
        obtain ⟨o', e'⟩ := i a o q
        rw [hn] at e'
        cases e'
    | _ + 2, r => exact r
  | _ => exact r
theorem Po.any {H1 H2 G' H' : Hp} {μ' : List Addr} {d : D} {v : V} (r : Po T 2 H1 G' H' μ' d v) : Po T 2 H2 G' H' μ' d v := by
  cases d <;> exact r
theorem rd_op {md : Nat} {r : R2} {g : D → D → M D} {ta tb : TE} {fa fb : Env → M D} {ma mb : Nat} (ha : RdE T mu n W ma ta fa) (hb : RdE T mu n W mb tb fb) (hr : RdO T md r g) :
    RdE T mu n W md (tOp r ta tb) (fun ρ => bnd (fa ρ) fun x => bnd (fb ρ) fun y => g x y) := by
  intro E ρ σ G H μ st Q er hres
  refine ha E ρ σ G H μ st _ er (hres.bnd.mono (fun x s1 h1 v1 G1 H1 μ1 e1 w1 p1 => ?_) fun c s1 h1 => h1)
  refine hb E ρ σ G1 H1 μ1 s1 _ (er.ev e1 w1) (h1.bnd.mono (fun y s2 h2 v2 G2 H2 μ2 e2 w2 p2 => ?_) fun c s2 h2 G' H' μ' e' w' => h2 G' H' μ' (e1.trans e') w')
  refine hr x y v1 v2 G2 H2 μ2 s2 Q w2 ((p1.two w1.gh).later e2).any (p2.two w2.gh).any (h2.mono (fun d s3 h3 v G' H' e3 w3 p3 => ?_) fun _ _ _ => trivial)
  exact h3 v G' H' μ2 ((e1.trans e2).trans e3) w3 (p3.back (e1.trans e2).i)
theorem rd_un {md : Nat} {r : V → Hp → VK → Prop} {g : D → M D} {ta : TE} {fa : Env → M D} {ma : Nat} (ha : RdE T mu n W ma ta fa) (hr : RdU T md r g) :
    RdE T mu n W md (tUn r ta) (fun ρ => bnd (fa ρ) g) := by
  intro E ρ σ G H μ st Q er hres
  refine ha E ρ σ G H μ st _ er (hres.bnd.mono (fun x s1 h1 v1 G1 H1 μ1 e1 w1 p1 => ?_) fun c s1 h1 => h1)
  refine hr x v1 G1 H1 μ1 s1 Q w1 (p1.two w1.gh).any (h1.mono (fun d s3 h3 v G' H' e3 w3 p3 => ?_) fun _ _ _ => trivial)
  exact h3 v G' H' μ1 (e1.trans e3) w3 (p3.back e1.i)
/-- from a new list to one that stands -/
theorem Ev.freeze {T : Rt} {G H G' H' : Hp} {μ μ' : List Addr} {st' : Sto} (e : Ev G H μ G' H' μ') (w : WOk T G' H' μ' st') {a : Addr} {xs : List V} (hn : H a = none) (h0 : G' a = none) (h1 : H' a = some (.lst xs)) :
    Ev G H μ (upd G' a (.lst xs)) H' μ' ∧ WOk T (upd G' a (.lst xs)) H' μ' st' ∧ Sub G' (upd G' a (.lst xs)) := by
  have sub : Sub G' (upd G' a (.lst xs)) := fun b o q => by rw [upd_ne (ne_of_none q h0)]; exact q
  refine ⟨⟨e.g.trans sub, e.m, e.h, e.i, fun b hb hne => ?_⟩, ⟨w.so, fun b o q => ?_, w.nd, w.len, fun k b ob h2 h3 => ?_⟩, sub⟩
  · have nb : b ≠ a := fun z => by subst z; exact hne hn
    rw [upd_ne nb]
    exact e.f b hb hne
  · by_cases hb : b = a
    · subst hb
      rw [upd_same] at q
      cases q
      exact h1
    · rw [upd_ne hb] at q
      exact w.gh b o q
  · obtain ⟨q1, dx, fs, q2, q3⟩ := w.obj k b ob h2 h3
    have nb : b ≠ a := fun z => by subst z; rw [h1] at q2; cases q2
    refine ⟨by rw [upd_ne nb]; exact q1, dx, fs, q2, ?_⟩
    exact Paired.mapP q3 fun p q z => ⟨z.1, Rp.mono sub (Pre.refl _) _ _ z.2⟩
theorem RdE.zero {t : TE} {f : Env → M D} {md : Nat} (h : RdE T mu n W md t f) (hm : md ≤ 1) : RdE T mu n W 0 t f := by
  match md, hm, h with
  | 0, _, h => exact h
  | 1, _, h =>
    intro E ρ σ G H μ st Q er hres
    refine h E ρ σ G H μ st Q er (hres.mono (fun d s1 h1 v G' H' μ' e w p => ?_) fun c s1 h1 => h1)
    cases d with
    | lst ds =>
      obtain ⟨a, xs, ev, hn, h0, q1, q2, q3⟩ := (show ∃ a xs, v = .ref a ∧ H a = none ∧ G' a = none ∧ H' a = some (.lst xs) ∧ xs.length ≤ LIM ∧ RpL T.K G' μ' ds xs from p)
      obtain ⟨e', w', sub⟩ := e.freeze w hn h0 q1
      refine h1 v _ H' μ' e' w' ?_
      show Rp T.K (upd G' a (.lst xs)) μ' (.lst ds) v
      simp only [Rp]
      exact ⟨a, xs, ev, upd_same, q2, RpL.mono sub (Pre.refl _) ds xs q3⟩
    | _ => exact h1 v G' H' μ' e w p
end
end BX

set_option Elab.async false
set_option linter.all false
set_option maxRecDepth 100000
/-! BS3: operators. -/
namespace BX
open PySem PySem.Spec PyProof.Rows L2
variable {T : Rt} {mu : List Nat} {n : Nat} {W : WX}

theorem limS : (sizeLine : Nat) = LIM := sizeLine_eq
/-! ### looks at what stands -/
theorem po_int {H G H' : Hp} {μ : List Addr} {md : Nat} {i : Int} {v : V} (h : Po T md H G H' μ (.int i) v) : v = .int i := by
  have h' : Rp T.K G μ (.int i) v := h
  simpa only [Rp] using h'
theorem po_bl {H G H' : Hp} {μ : List Addr} {md : Nat} {i : Bool} {v : V} (h : Po T md H G H' μ (.bl i) v) : v = .bl i := by
  have h' : Rp T.K G μ (.bl i) v := h
  simpa only [Rp] using h'
theorem po_non {H G H' : Hp} {μ : List Addr} {md : Nat} {v : V} (h : Po T md H G H' μ .non v) : v = .non := by
  have h' : Rp T.K G μ .non v := h
  simpa only [Rp] using h'
theorem po_str {H G H' : Hp} {μ : List Addr} {md : Nat} {x : List Nat} {v : V} (h : Po T md H G H' μ (.str x) v) : v = .str ⟨x.toArray⟩ ∧ x.length ≤ LIM ∧ ∀ c ∈ x, c < 1114112 := by
  have h' : Rp T.K G μ (.str x) v := h
  simpa only [Rp] using h'
theorem po_tup {H G H' : Hp} {μ : List Addr} {md : Nat} {ds : List D} {v : V} (h : Po T md H G H' μ (.tup ds) v) : ∃ a xs, v = .ref a ∧ SqTN T.K G a xs ∧ xs.length ≤ LIM ∧ RpL T.K G μ ds xs := by
  have h' : Rp T.K G μ (.tup ds) v := h
  simpa only [Rp] using h'
theorem po_lst {H G H' : Hp} {μ : List Addr} {ds : List D} {v : V} (h : Po T 2 H G H' μ (.lst ds) v) : ∃ a xs, v = .ref a ∧ H' a = some (.lst xs) ∧ xs.length ≤ LIM ∧ RpL T.K G μ ds xs := h
theorem po_scr {H G H' : Hp} {μ : List Addr} {md : Nat} {ns : List Int} {v : V} (h : Po T md H G H' μ (.scr ns) v) : ∃ a, v = .ref a ∧ SqL T.K G a (ns.map V.int) ∧ ns.length ≤ LIM := by
  have h' : Rp T.K G μ (.scr ns) v := h
  simpa only [Rp] using h'
theorem po_obj {H G H' : Hp} {μ : List Addr} {md : Nat} {k : Nat} {v : V} (h : Po T md H G H' μ (.obj k) v) : ∃ a, v = .ref a ∧ μ[k]? = some a := by
  have h' : Rp T.K G μ (.obj k) v := h
  simpa only [Rp] using h'
theorem rp_int {G : Hp} {μ : List Addr} {i : Int} : Rp T.K G μ (.int i) (.int i) := by simp only [Rp]
theorem rp_bl {G : Hp} {μ : List Addr} {i : Bool} : Rp T.K G μ (.bl i) (.bl i) := by simp only [Rp]
theorem rp_non {G : Hp} {μ : List Addr} : Rp T.K G μ .non .non := by simp only [Rp]
theorem rp_str {G : Hp} {μ : List Addr} {x : List Nat} (h : x.length ≤ LIM) (h' : ∀ c ∈ x, c < 1114112) : Rp T.K G μ (.str x) (.str ⟨x.toArray⟩) := by
  simp only [Rp]
  exact ⟨trivial, h, h'⟩

section
variable {H G H' : Hp} {μ : List Addr} {md : Nat}
theorem pk_int {i : Int} : Po T md H G H' μ (.int i) (.int i) := by
  show Rp T.K G μ (.int i) _
  simp only [Rp]
theorem pk_bl {i : Bool} : Po T md H G H' μ (.bl i) (.bl i) := by
  show Rp T.K G μ (.bl i) _
  simp only [Rp]
theorem pk_non : Po T md H G H' μ .non .non := by
  show Rp T.K G μ .non _
  simp only [Rp]
theorem pk_str {x : List Nat} (h : x.length ≤ LIM) (h' : ∀ c ∈ x, c < 1114112) : Po T md H G H' μ (.str x) (.str ⟨x.toArray⟩) := by
  show Rp T.K G μ (.str x) _
  exact rp_str h h'
theorem pk_tup {ds : List D} {a : Addr} {xs : List V} (h1 : SqTN T.K G a xs) (h2 : xs.length ≤ LIM) (h3 : RpL T.K G μ ds xs) : Po T md H G H' μ (.tup ds) (.ref a) := by
  show Rp T.K G μ (.tup ds) (.ref a)
  simp only [Rp]
  exact ⟨a, xs, rfl, h1, h2, h3⟩
end

/-! ### new things -/
theorem new_lst {G H : Hp} {μ : List Addr} {st : Sto} (w : WOk T G H μ st) {p : Addr} (hp : H p = none) (xs : List V) : Ev G H μ G (upd H p (.lst xs)) μ ∧ WOk T G (upd H p (.lst xs)) μ st := by
  have keep : ∀ b o, H b = some o → upd H p (.lst xs) b = some o := fun b o q => by rw [upd_ne (ne_of_none q hp)]; exact q
  refine ⟨⟨Sub.refl _, Pre.refl _, fun b o q _ => keep b o q, fun b o q => ⟨o, keep b o q⟩, fun b q _ => q⟩, ⟨w.so, fun b o q => keep b o (w.gh b o q), w.nd, w.len, fun k b ob h2 h3 => ?_⟩⟩
  obtain ⟨q1, dx, fs, q2, q3⟩ := w.obj k b ob h2 h3
  exact ⟨q1, dx, fs, keep _ _ q2, q3⟩
theorem po_new {G H : Hp} {μ : List Addr} {ds : List D} {xs : List V} {p : Addr} (w : Sub G H) (hp : H p = none) (hl : xs.length ≤ LIM) (r : RpL T.K G μ ds xs) : Po T 1 H G (upd H p (.lst xs)) μ (.lst ds) (.ref p) := by
  refine ⟨p, xs, rfl, hp, ?_, upd_same, hl, r⟩
  cases q : G p with
  | none => rfl
  | some o => rw [w p o q] at hp; cases hp
theorem new_ho {G H : Hp} {μ : List Addr} {st : Sto} (w : WOk T G H μ st) {p : Addr} (hp : H p = none) (ho : HO) :
    Ev G H μ (upd G p ho) (upd H p ho) μ ∧ WOk T (upd G p ho) (upd H p ho) μ st ∧ Sub G (upd G p ho) := by
  have gp : G p = none := by
    cases q : G p with
    | none => rfl
    | some o => rw [w.gh p o q] at hp; cases hp
  have keep : ∀ b o, H b = some o → upd H p ho b = some o := fun b o q => by rw [upd_ne (ne_of_none q hp)]; exact q
  have keepG : Sub G (upd G p ho) := fun b o q => by rw [upd_ne (ne_of_none q gp)]; exact q
  refine ⟨⟨keepG, Pre.refl _, fun b o q _ => keep b o q, fun b o q => ⟨o, keep b o q⟩, fun b q ne => ?_⟩, ⟨w.so, fun b o q => ?_, w.nd, w.len, fun k b ob h2 h3 => ?_⟩, ?_⟩
  · have nb : b ≠ p := fun z => by subst z; exact ne hp
    rw [upd_ne nb]
    exact q
  · by_cases hb : b = p
    · subst hb
      rw [upd_same] at q ⊢
      exact q
    · rw [upd_ne hb] at q ⊢
      exact w.gh b o q
  · obtain ⟨q1, dx, fs, q2, q3⟩ := w.obj k b ob h2 h3
    have nb : b ≠ p := ne_of_none q2 hp
    refine ⟨by rw [upd_ne nb]; exact q1, dx, fs, keep _ _ q2, ?_⟩
    exact Paired.mapP q3 fun p q z => ⟨z.1, Rp.mono keepG (Pre.refl _) _ _ z.2⟩
  · exact keepG
theorem new_tup {G H : Hp} {μ : List Addr} {st : Sto} (w : WOk T G H μ st) {p : Addr} (hp : H p = none) {o : Obj} (ho : o.dict = none) {ds : List D} {xs : List V} (hl : xs.length ≤ LIM) (r : RpL T.K G μ ds xs) :
    Ev G H μ (upd G p (.frz o (.tup xs))) (upd H p (.frz o (.tup xs))) μ ∧ WOk T (upd G p (.frz o (.tup xs))) (upd H p (.frz o (.tup xs))) μ st ∧ Rp T.K (upd G p (.frz o (.tup xs))) μ (.tup ds) (.ref p) := by
  obtain ⟨e, w', k⟩ := new_ho w hp (.frz o (.tup xs))
  refine ⟨e, w', ?_⟩
  simp only [Rp]
  exact ⟨p, xs, rfl, .inl ⟨o, upd_same, ho⟩, hl, RpL.mono k (Pre.refl _) _ _ r⟩
theorem new_tupW {G H : Hp} {μ : List Addr} {st : Sto} (w : WOk T G H μ st) {p : Addr} (hp : H p = none) {ds : List D} {xs : List V} (hl : xs.length ≤ LIM) (r : RpL T.K G μ ds xs) :
    Ev G H μ (upd G p (.tup xs)) (upd H p (.tup xs)) μ ∧ WOk T (upd G p (.tup xs)) (upd H p (.tup xs)) μ st ∧ RpW T.K (upd G p (.tup xs)) μ (.tup ds) (.ref p) := by
  obtain ⟨e, w', k⟩ := new_ho w hp (.tup xs)
  exact ⟨e, w', .inr ⟨ds, p, xs, rfl, rfl, .inl (.inl upd_same), hl, RpL.mono k (Pre.refl _) _ _ r⟩⟩

/-! ### t * k -/
section
open Builtin
theorem tup_mul_same (l : Addr) (items : Array Value) (n : Nat) (dd : Option Addr) (sl : Array (Option Value)) (x : Int) (u : Tok) (c0 : (decide (x < -(2 ^ 63)) || decide (x ≥ 2 ^ 63)) = false)
    (c1 : (items.isEmpty || x == 1) = true) :
    Meets (Builtin.«tuple.__mul__» ⟨[.ref l, .int x u], []⟩) (fun _ R s => s.heap.get? l = some { cls := .type "tuple", dict := dd, data := .seq items n, slots := sl } ∧ R (.ok (.ret (Value.ref l))) s) :=
  .of_wp fun prog w A R s h => by
    obtain ⟨hp, g, d, tk, os⟩ := s
    obtain ⟨hl, h⟩ := h
    have f1 := AutoSeq1.idx_int
    wp_walk using wpAny_loadPart' hl
    repeat (first
      | (refine wpAny_ite_false (decide_eq_false (by rw [c0]; exact Bool.false_ne_true)) ?_; wp_walk using wpAny_loadPart' hl)
      | (refine wpAny_ite_true (decide_eq_true (by rw [c1])) ?_; wp_walk using wpAny_loadPart' hl))
    exact ⟨_, rfl, h⟩
theorem tup_mul_none (l : Addr) (items : Array Value) (n : Nat) (dd : Option Addr) (sl : Array (Option Value)) (x : Int) (u : Tok) (c0 : (decide (x < -(2 ^ 63)) || decide (x ≥ 2 ^ 63)) = false)
    (c1 : (items.isEmpty || x == 1) = false) (c2 : (decide (x ≤ 0) || items.isEmpty) = true) :
    Meets (Builtin.«tuple.__mul__» ⟨[.ref l, .int x u], []⟩) (fun _ R s => s.heap.get? l = some { cls := .type "tuple", dict := dd, data := .seq items n, slots := sl } ∧
      R (.ok (.ret (Value.ref s.heap.objs.size))) { s with heap := s.heap.push { cls := Value.type "tuple", data := Data.seq #[] }, toks := s.toks }) :=
  .of_wp fun prog w A R s h => by
    obtain ⟨hp, g, d, tk, os⟩ := s
    obtain ⟨hl, h⟩ := h
    have f1 := AutoSeq1.idx_int
    have hz : (#[] : Array Value).size ≤ sizeLine := Nat.zero_le _
    wp_walk using wpAny_loadPart' hl
    repeat (first
      | (refine wpAny_ite_false (decide_eq_false (by rw [c0]; exact Bool.false_ne_true)) ?_; wp_walk using wpAny_loadPart' hl)
      | (refine wpAny_ite_false (decide_eq_false (by rw [c1]; exact Bool.false_ne_true)) ?_; wp_walk using wpAny_loadPart' hl)
      | (refine wpAny_ite_true (decide_eq_true (by rw [c2])) ?_; wp_walk using wpAny_loadPart' hl)
      | (refine wpAny_ite_false (decide_eq_false (Nat.not_lt.mpr hz)) ?_; wp_walk using wpAny_loadPart' hl))
    exact ⟨_, rfl, h⟩
end
/-! ### + - * // % -/
abbrev rAdd (K : PySem.W.Frag) : R2 := fun x y H Q => rI0 (fun i j => .int (i + j)) x y H Q ∨ rCat x y H Q ∨ rCatN K x y H Q ∨ (∃ i j, x = .str i ∧ y = .str j ∧ i.length + j.length ≤ sizeLine ∧ Q (.str (i ++ j)) H)
theorem p_add {X : Cx} : OpR X (binaryOp .Add) (rAdd X.K) := op_add.or (op_cat.or (op_catN.or op_add_str))
theorem o_add : RdO T 1 (rAdd T.K) addD := by
  intro x y vx vy G H μ st Q w px py h
  unfold addD at h
  split at h
  · rename_i a b
    exact .inl ⟨a, b, po_int px, po_int py, h _ _ _ (Ev.refl _ _ _) w pk_int⟩
  · rename_i a b
    obtain ⟨l, xs, rfl, h1, h2, h3⟩ := po_lst px
    obtain ⟨l', ys, rfl, h1', h2', h3'⟩ := po_lst py
    unfold mkL at h
    split at h
    · rename_i hz
      have hz' : (xs ++ ys).length ≤ LIM := by
        have := (h3.append h3').length
        rw [← this]; exact hz
      refine .inr (.inl ⟨l, l', xs, ys, rfl, rfl, h1, h1', by rw [limS, ← List.length_append]; exact hz', fun p hp => ?_⟩)
      obtain ⟨e1, w1⟩ := new_lst w hp (xs ++ ys)
      exact h _ _ _ e1 w1 (po_new w.gh hp hz' (h3.append h3'))
    · exact h.elim
  · rename_i a b
    obtain ⟨l, xs, rfl, h1, h2, h3⟩ := po_tup px
    obtain ⟨l', ys, rfl, h1', h2', h3'⟩ := po_tup py
    unfold mkT at h
    split at h
    · rename_i hz
      have hz' : (xs ++ ys).length ≤ LIM := by
        have := (h3.append h3').length
        rw [← this]; exact hz
      refine .inr (.inr (.inl ⟨l, l', xs, ys, rfl, rfl, w.gh.sqt h1, w.gh.sqt h1', by rw [limS, ← List.length_append]; exact hz', fun e => ?_, fun e1 e2 => ?_, fun e1 e2 p o hp ho => ?_⟩))
      · subst e
        have ea : a = [] := List.eq_nil_of_length_eq_zero h3.length
        subst ea
        refine h _ _ _ (Ev.refl _ _ _) w ?_
        show Rp T.K G μ (.tup ([] ++ b)) _
        simp only [Rp]
        exact ⟨l', ys, rfl, h1', h2', h3'⟩
      · subst e2
        have ea : b = [] := List.eq_nil_of_length_eq_zero h3'.length
        subst ea
        refine h _ _ _ (Ev.refl _ _ _) w ?_
        show Rp T.K G μ (.tup (a ++ [])) _
        rw [List.append_nil]
        simp only [Rp]
        exact ⟨l, xs, rfl, h1, h2, h3⟩
      · obtain ⟨q1, q2, q3⟩ := new_tup w hp ho hz' (h3.append h3')
        exact h _ _ _ q1 q2 q3
    · exact h.elim
  · rename_i a b
    obtain ⟨rfl, h1, h2⟩ := po_str px
    obtain ⟨rfl, h1', h2'⟩ := po_str py
    unfold mkS at h
    split at h
    · rename_i hz
      refine .inr (.inr (.inr ⟨_, _, rfl, rfl, ?_, ?_⟩))
      · show a.toArray.size + b.toArray.size ≤ _
        rw [List.size_toArray, List.size_toArray, limS, ← List.length_append]
        exact hz
      · refine h _ _ _ (Ev.refl _ _ _) w ?_
        have e : (⟨a.toArray⟩ ++ ⟨b.toArray⟩ : Str) = ⟨(a ++ b).toArray⟩ := by
          show (⟨a.toArray ++ b.toArray⟩ : Str) = _
          simp
        show Rp T.K G μ (.str (a ++ b)) _
        rw [e]
        exact rp_str hz fun c hc => (List.mem_append.mp hc).elim (h2 c) (h2' c)
    · exact h.elim
  · exact h.elim
end BX
namespace BX
open PySem PySem.Spec PyProof.Rows L2
variable {T : Rt} {mu : List Nat} {n : Nat} {W : WX}
def rRepA (K : PySem.W.Frag) : R2 := fun x y H Q => ∃ l k xs, x = .ref l ∧ y = .int k ∧ SqT K H l xs ∧ -(2 ^ 63) ≤ k ∧ k < 2 ^ 63 ∧ xs.length * k.toNat ≤ sizeLine ∧
  ((xs = [] ∨ k = 1) → Q (.ref l) H) ∧ (¬ (xs = [] ∨ k = 1) → NewT (List.replicate k.toNat xs).flatten H Q)
theorem p_repA {X : Cx} : OpR X (binaryOp .Mult) (rRepA X.K) := by
  intro pins s σ H x y v u Q I rx ry h
  obtain ⟨l, k, xs, rfl, rfl, hT, h1, h2, hz, q1, q2⟩ := h
  cases rx
  obtain ⟨t, rfl⟩ := ry
  obtain ⟨its, r, ⟨⟨cls, dd, data, sl⟩, ho, hc, m, hd⟩, hs⟩ := I.tuple hT
  simp only at hc hd
  subst hc hd
  have hle : its.length = xs.length := r.length.symm
  have c0 : (decide (k < -(2 ^ 63)) || decide (k ≥ 2 ^ 63)) = false := by
    rw [decide_eq_false (by omega), decide_eq_false (by omega)] <;> rfl
  refine wpAny_binaryOp_repeat_ref (T := "tuple") (U := "int") (by decide) ⟨_, ho, rfl⟩ (fun s' => typeIs_int s' k t) noFill_tuple_mul F.fills_int_mul F.slot_int_rmul repeat_tuple F.slot_int_index.lookup
    (call_meets F.slot_int_rmul (typeIs_int s k t) F.entry_int_rmul (F.args_int_rmul_2 _ _) (int_rmul_tuple k t l its.toArray m dd sl) ⟨ho, rfl, ⟨_, ho, rfl⟩, ?_⟩)
  by_cases hw : xs = [] ∨ k = 1
  · have c1 : (its.toArray.isEmpty || k == 1) = true := by
      rcases hw with e | e
      · rw [e] at hle
        have : its = [] := List.eq_nil_of_length_eq_zero hle
        rw [this]
        rfl
      · rw [e]
        simp
    exact call_meets F.slot_tuple_mul ⟨_, ho, rfl⟩ F.entry_tuple_mul (F.args_tuple_mul_2 _ _) (tup_mul_same l its.toArray m dd sl k t c0 c1) ⟨ho, ⟨.ref l, H, I, rfl, q1 hw⟩⟩
  · have hne : xs ≠ [] := fun e => hw (.inl e)
    have hk1 : k ≠ 1 := fun e => hw (.inr e)
    have hn : its ≠ [] := fun e => hne (by
      rw [e] at hle
      exact List.eq_nil_of_length_eq_zero hle.symm)
    have hi : its.toArray.isEmpty = false := by
      cases its with
      | nil => exact absurd rfl hn
      | cons a b => rfl
    have c1 : (its.toArray.isEmpty || k == 1) = false := by
      rw [hi, Bool.false_or]
      exact beq_eq_false_iff_ne.mpr hk1
    by_cases hk : k ≤ 0
    · have c2 : (decide (k ≤ 0) || its.toArray.isEmpty) = true := by
        rw [decide_eq_true hk, Bool.true_or]
      have e0 : k.toNat = 0 := by omega
      rw [e0] at q2
      refine call_meets F.slot_tuple_mul ⟨_, ho, rfl⟩ F.entry_tuple_mul (F.args_tuple_mul_2 _ _) (tup_mul_none l its.toArray m dd sl k t c0 c1 c2) ⟨ho, ?_⟩
      exact newT_at I (Nat.zero_le _) .nil (q2 hw)
    · have c2 : (decide (k ≤ 0) || its.toArray.isEmpty) = false := by
        rw [hi, Bool.or_false]
        exact decide_eq_false hk
      have hz1 : its.toArray.size = xs.length := by rw [List.size_toArray, hle]
      have hzi : ((its.toArray.size : Nat) : Int) * k ≤ 16777216 := by
        have e1 : k = (k.toNat : Int) := by omega
        rw [hz1, e1]
        have e2 : xs.length * k.toNat ≤ 16777216 := by rw [← sizeLine_eq]; exact hz
        have e3 : ((xs.length * k.toNat : Nat) : Int) ≤ 16777216 := by omega
        rw [Int.natCast_mul] at e3
        exact e3
      have flen : (List.replicate k.toNat its).flatten.length ≤ sizeLine := by
        rw [PyProof.Rows.lm_len_rep_flat, hle, Nat.mul_comm]
        exact hz
      have c4 : Builtin.Tuple.tupleTooMany (((its.toArray.size : Nat) : Int) * k) = false := by
        unfold Builtin.Tuple.tupleTooMany
        rw [sizeLine_eq]
        exact decide_eq_false (by omega)
      refine call_meets F.slot_tuple_mul ⟨_, ho, rfl⟩ F.entry_tuple_mul (F.args_tuple_mul_2 _ _) (tuple_mulW l its.toArray m dd sl k t c0 c1 c2 (by omega) c4 (by rw [size_rep, List.size_toArray]; exact flen)) ⟨ho, ?_⟩
      rw [size_rep]
      exact newT_at I (by rw [PyProof.Rows.lm_len_rep_flat, Nat.mul_comm]; exact hz) (r.rep k.toNat) (q2 hw)
abbrev rMul (K : PySem.W.Frag) : R2 := fun x y H Q => rI CMul (fun i j => .int (i * j)) x y H Q ∨ rRep x y H Q ∨ rRepA K x y H Q
theorem p_mul {X : Cx} : OpR X (binaryOp .Mult) (rMul X.K) := op_mul.or (op_rep.or p_repA)
theorem len_rep (k : Nat) {α : Type} (xs : List α) : (rep k xs).length = xs.length * k := by
  unfold rep
  rw [PyProof.Rows.lm_len_rep_flat, Nat.mul_comm]
theorem o_mul : RdO T 1 (rMul T.K) mulD := by
  intro x y vx vy G H μ st Q w px py h
  unfold mulD at h
  split at h
  · rename_i a b
    split at h
    · rename_i hc
      refine .inl ⟨a, b, po_int px, po_int py, ?_, h _ _ _ (Ev.refl _ _ _) w pk_int⟩
      unfold inb at hc
      simp only [Bool.or_eq_true, Bool.and_eq_true, decide_eq_true_eq] at hc
      exact hc
    · exact h.elim
  · rename_i a k
    obtain ⟨l, xs, rfl, h1, h2, h3⟩ := po_lst px
    split at h
    · rename_i hc
      unfold okRep at hc
      simp only [Bool.and_eq_true, decide_eq_true_eq] at hc
      have hl := h3.length
      have hz : (rep k.toNat xs).length ≤ LIM := by rw [len_rep, ← hl]; exact hc.2
      refine .inr (.inl ⟨l, k, xs, rfl, po_int py, h1, hc.1.1, hc.1.2, by rw [limS, ← hl]; exact hc.2, fun p hp => ?_⟩)
      obtain ⟨e1, w1⟩ := new_lst w hp (rep k.toNat xs)
      exact h _ _ _ e1 w1 (po_new w.gh hp hz (h3.rep _))
    · exact h.elim
  · rename_i a k
    obtain ⟨l, xs, rfl, h1, h2, h3⟩ := po_tup px
    split at h
    · rename_i hc
      unfold okRep at hc
      simp only [Bool.and_eq_true, decide_eq_true_eq] at hc
      have hl := h3.length
      have hz : (rep k.toNat xs).length ≤ LIM := by rw [len_rep, ← hl]; exact hc.2
      refine .inr (.inr ⟨l, k, xs, rfl, po_int py, w.gh.sqt h1, hc.1.1, hc.1.2, by rw [limS, ← hl]; exact hc.2, fun e => ?_, fun e p o hp ho => ?_⟩)
      · have ea : rep k.toNat a = a := by
          rcases e with e | e
          · have : a = [] := List.eq_nil_of_length_eq_zero (by rw [hl, e]; rfl)
            rw [this]
            unfold rep
            exact List.flatten_replicate_nil
          · rw [e]
            show (List.replicate 1 a).flatten = a
            simp
        rw [ea] at h
        exact h _ _ _ (Ev.refl _ _ _) w (pk_tup h1 h2 h3)
      · obtain ⟨q1, q2, q3⟩ := new_tup w hp ho hz (h3.rep k.toNat)
        exact h _ _ _ q1 q2 q3
    · exact h.elim
  · exact h.elim
theorem o_sub : RdO T 1 (rI0 fun i j => .int (i - j)) subD := by
  intro x y vx vy G H μ st Q w px py h
  unfold subD at h
  split at h
  · rename_i a b
    exact ⟨a, b, po_int px, po_int py, h _ _ _ (Ev.refl _ _ _) w pk_int⟩
  · exact h.elim
theorem o_mod : RdO T 1 (rI (fun _ j => j ≠ 0) fun i j => .int (i.fmod j)) modD := by
  intro x y vx vy G H μ st Q w px py h
  unfold modD at h
  split at h
  · rename_i a b
    split at h
    · rename_i hc
      exact ⟨a, b, po_int px, po_int py, bne_iff_ne.mp hc, h _ _ _ (Ev.refl _ _ _) w pk_int⟩
    · exact h.elim
  · exact h.elim
theorem o_fdiv : RdO T 1 (rI CDivN fun i j => .int (i.fdiv j)) fdivD := by
  intro x y vx vy G H μ st Q w px py h
  unfold fdivD at h
  split at h
  · rename_i a b
    split at h
    · rename_i hc
      rw [Bool.and_eq_true, decide_eq_true_eq] at hc
      exact ⟨a, b, po_int px, po_int py, ⟨bne_iff_ne.mp hc.1, hc.2⟩, h _ _ _ (Ev.refl _ _ _) w pk_int⟩
    · exact h.elim
  · exact h.elim
end BX

set_option Elab.async false
set_option linter.all false
set_option maxRecDepth 100000
/-! BS4: comparisons. -/
namespace BX
open PySem PySem.Spec PyProof.Rows L2
open PySem.W (alike alikeAll dataLt rowLt keyToksAll keyToks dataLt_int dataLt_str dataLt_tuple dataLt_list dataLt_cons lt_data)
variable {T : Rt} {mu : List Nat} {n : Nat} {W : WX}

/-! ### as the library's data -/
mutual
def toPy : D → PyData
  | .non => .none
  | .bl b => .bool b
  | .int i => .int i
  | .str s => .str ⟨s.toArray⟩
  | .tup ds => .tuple (toPyL ds)
  | .lst ds => .list (toPyL ds)
  | .scr ns => .list (ns.map .int)
  | .obj _ => .none
def toPyL : List D → List PyData
  | [] => []
  | d :: ds => toPy d :: toPyL ds
end
theorem toPyL_map : ∀ ds, toPyL ds = ds.map toPy
  | [] => rfl
  | d :: ds => by simp only [toPyL, List.map_cons, toPyL_map ds]
section
variable {K : PySem.W.Frag} {G H : Hp} {μ : List Addr}
theorem lay_str {s : List Nat} (h : ∀ c ∈ s, c < 1114112) : PyData.canLay0 (.str ⟨s.toArray⟩) = true := by
  simp only [PyData.canLay0, PyData.strOk]
  simpa using h
mutual
theorem dp_of (sub : Sub G H) : ∀ (n : Nat) (d : D) (v : V), sh n d = true → Rp K G μ d v → Dp K H v (toPy d) ∧ (toPy d).canLay0 = true ∧ (toPy d).depth ≤ n
  | n, .non, v, _, h => by
    simp only [Rp] at h
    subst h
    exact ⟨.non, by simp [toPy, PyData.canLay0], by simp [toPy, PyData.depth]⟩
  | n, .bl b, v, _, h => by
    simp only [Rp] at h
    subst h
    exact ⟨.bl b, by simp [toPy, PyData.canLay0], by simp [toPy, PyData.depth]⟩
  | n, .int b, v, _, h => by
    simp only [Rp] at h
    subst h
    exact ⟨.int b, by simp [toPy, PyData.canLay0], by simp [toPy, PyData.depth]⟩
  | n, .str b, v, _, h => by
    simp only [Rp] at h
    obtain ⟨rfl, h1, h2⟩ := h
    exact ⟨.str _, lay_str h2, by simp [toPy, PyData.depth]⟩
  | n, .tup ds, v, s, h => by
    cases n with
    | zero => simp [sh] at s
    | succ n =>
      simp only [Rp] at h
      obtain ⟨a, xs, rfl, h1, h2, h3⟩ := h
      obtain ⟨q1, q2, q3⟩ := dps_of sub n ds xs (by simpa [sh] using s) h3
      exact ⟨.tup (sub.sqt h1) q1, by simpa [toPy, PyData.canLay0] using q2, by simp [toPy, PyData.depth]; omega⟩
  | n, .lst ds, v, s, h => by
    cases n with
    | zero => simp [sh] at s
    | succ n =>
      simp only [Rp] at h
      obtain ⟨a, xs, rfl, h1, h2, h3⟩ := h
      obtain ⟨q1, q2, q3⟩ := dps_of sub n ds xs (by simpa [sh] using s) h3
      exact ⟨.lst (.inl (.inl (sub _ _ h1))) q1, by simpa [toPy, PyData.canLay0] using q2, by simp [toPy, PyData.depth]; omega⟩
  | n, .scr _, v, s, h => by simp [sh] at s
  | n, .obj _, v, s, h => by simp [sh] at s
theorem dps_of (sub : Sub G H) : ∀ (n : Nat) (ds : List D) (xs : List V), shL n ds = true → RpL K G μ ds xs → DpAll K H xs (toPyL ds) ∧ PyData.canLayAll0 (toPyL ds) = true ∧ PyData.depthAll (toPyL ds) ≤ n
  | n, [], xs, _, h => by
    simp only [RpL] at h
    subst h
    exact ⟨.nil, by simp [toPyL, PyData.canLayAll0], by simp [toPyL, PyData.depthAll]⟩
  | n, d :: ds, xs, s, h => by
    simp only [RpL] at h
    obtain ⟨v, vs, rfl, h1, h2⟩ := h
    simp only [shL, Bool.and_eq_true] at s
    obtain ⟨p1, p2, p3⟩ := dp_of sub n d v s.1 h1
    obtain ⟨q1, q2, q3⟩ := dps_of sub n ds vs s.2 h2
    exact ⟨.cons p1 q1, by simp [toPyL, PyData.canLayAll0, p2, q2], by simp only [toPyL, PyData.depthAll]; omega⟩
end
end
theorem dpi_of {K : PySem.W.Frag} {H : Hp} : ∀ ns : List Int, DpAll K H (ns.map V.int) (ns.map .int) ∧ PyData.canLayAll0 (ns.map .int) = true ∧ PyData.depthAll (ns.map .int) = 0
  | [] => ⟨.nil, by simp [PyData.canLayAll0], by simp [PyData.depthAll]⟩
  | n :: ns => by
    obtain ⟨q1, q2, q3⟩ := dpi_of (K := K) (H := H) ns
    exact ⟨.cons (.int n) q1, by simp [PyData.canLayAll0, PyData.canLay0, q2], by simp [PyData.depthAll, PyData.depth, q3]⟩
theorem shaped_mk {d : PyData} {n : Nat} (h : d.canLay0 = true) (h' : d.depth ≤ n) (hn : n ≤ 64) : SeqAt.shaped d = true := by
  unfold SeqAt.shaped
  rw [h, Bool.true_and]
  exact decide_eq_true (by omega)
/-- what is read at any time -/
theorem po_dp {H0 G H : Hp} {μ : List Addr} {d : D} {v : V} (sub : Sub G H) (h : Po T 2 H0 G H μ d v) (s : sh 60 (nrm d) = true) : Dp T.K H v (toPy d) ∧ SeqAt.shaped (toPy d) = true := by
  cases d with
  | lst ds =>
    obtain ⟨a, xs, rfl, h1, h2, h3⟩ := po_lst h
    obtain ⟨q1, q2, q3⟩ := dps_of sub 59 ds xs (by simpa [sh, nrm] using s) h3
    exact ⟨.lst (.inl (.inl h1)) q1, shaped_mk (n := 60) (by simpa [toPy, PyData.canLay0] using q2) (by simp [toPy, PyData.depth]; omega) (by decide)⟩
  | scr ns =>
    obtain ⟨a, rfl, h1, h2⟩ := po_scr h
    obtain ⟨q1, q2, q3⟩ := dpi_of (K := T.K) (H := H) ns
    exact ⟨.lst (sub.sql h1) q1, shaped_mk (n := 60) (by simpa [toPy, PyData.canLay0] using q2) (by simp [toPy, PyData.depth]; omega) (by decide)⟩
  | non => obtain ⟨p1, p2, p3⟩ := dp_of (K := T.K) sub 60 _ v s (show Rp T.K G μ .non v from h); exact ⟨p1, shaped_mk p2 p3 (by decide)⟩
  | bl b => obtain ⟨p1, p2, p3⟩ := dp_of (K := T.K) sub 60 _ v s (show Rp T.K G μ (.bl b) v from h); exact ⟨p1, shaped_mk p2 p3 (by decide)⟩
  | int b => obtain ⟨p1, p2, p3⟩ := dp_of (K := T.K) sub 60 _ v s (show Rp T.K G μ (.int b) v from h); exact ⟨p1, shaped_mk p2 p3 (by decide)⟩
  | str b => obtain ⟨p1, p2, p3⟩ := dp_of (K := T.K) sub 60 _ v s (show Rp T.K G μ (.str b) v from h); exact ⟨p1, shaped_mk p2 p3 (by decide)⟩
  | tup b => obtain ⟨p1, p2, p3⟩ := dp_of (K := T.K) sub 60 _ v s (show Rp T.K G μ (.tup b) v from h); exact ⟨p1, shaped_mk p2 p3 (by decide)⟩
  | obj _ => simp [sh, nrm] at s
theorem toPy_nrm (d : D) : toPy (nrm d) = toPy d := by
  cases d with
  | scr ns =>
    simp only [nrm, toPy, toPyL_map, List.map_map]
    congr 1
  | _ => rfl
theorem beq_str (a b : List Nat) : ((⟨a.toArray⟩ : Str) == ⟨b.toArray⟩) = (a == b) := by
  by_cases h : a = b
  · subst h
    simp
  · have h1 : (a == b) = false := beq_eq_false_iff_ne.mpr h
    have h2 : ((⟨a.toArray⟩ : Str) == ⟨b.toArray⟩) = false := beq_eq_false_iff_ne.mpr fun e => h (by injection e with e; simpa using e)
    rw [h1, h2]
mutual
theorem eqv_toPy : ∀ (n m : Nat) (d e : D), sh n d = true → sh m e = true → PyData.eqv (toPy d) (toPy e) = eqD d e
  | n, m, .non, e, hd, he => by cases e <;> first | rfl | simp [sh] at he
  | n, m, .bl b, e, hd, he => by cases e <;> first | rfl | simp [sh] at he
  | n, m, .int b, e, hd, he => by cases e <;> first | rfl | simp [sh] at he
  | n, m, .str b, e, hd, he => by
    cases e with
    | str c => exact beq_str b c
    | scr c => simp [sh] at he
    | obj c => simp [sh] at he
    | _ => rfl
  | n, m, .tup ds, e, hd, he => by
    cases e with
    | tup es =>
      cases n with
      | zero => simp [sh] at hd
      | succ n =>
        cases m with
        | zero => simp [sh] at he
        | succ m =>
          simp only [toPy, PyData.eqv, eqD]
          exact eqvL_toPy n m ds es (by simpa [sh] using hd) (by simpa [sh] using he)
    | scr c => simp [sh] at he
    | obj c => simp [sh] at he
    | _ => rfl
  | n, m, .lst ds, e, hd, he => by
    cases e with
    | lst es =>
      cases n with
      | zero => simp [sh] at hd
      | succ n =>
        cases m with
        | zero => simp [sh] at he
        | succ m =>
          simp only [toPy, PyData.eqv, eqD]
          exact eqvL_toPy n m ds es (by simpa [sh] using hd) (by simpa [sh] using he)
    | scr c => simp [sh] at he
    | obj c => simp [sh] at he
    | _ => rfl
  | n, m, .scr _, e, hd, he => by simp [sh] at hd
  | n, m, .obj _, e, hd, he => by simp [sh] at hd
theorem eqvL_toPy : ∀ (n m : Nat) (d e : List D), shL n d = true → shL m e = true → PyData.eqvAll (toPyL d) (toPyL e) = eqL d e
  | n, m, [], [], _, _ => rfl
  | n, m, [], _ :: _, _, _ => rfl
  | n, m, _ :: _, [], _, _ => rfl
  | n, m, d :: ds, e :: es, hd, he => by
    simp only [shL, Bool.and_eq_true] at hd he
    simp only [toPyL, PyData.eqvAll, eqL]
    rw [eqv_toPy n m d e hd.1 he.1, eqvL_toPy n m ds es hd.2 he.2]
end
abbrev Q1 (G H : Hp) (μ : List Addr) (st : Sto) (T : Rt) (Q : VK) : D → Sto → Prop := fun d st' => ∀ v G' H', Ev G H μ G' H' μ → WOk T G' H' μ st' → Po T 1 H G' H' μ d v → Q v H'
/-- == and != -/
def rEqN (K : PySem.W.Frag) : Bool → R2
  | false => rEqD K
  | true => rNeD K
theorem o_eq (neg : Bool) : RdO T 1 (rEqN T.K neg) (eqM neg) := by
  intro x y vx vy G H μ st Q w px py h
  unfold eqM at h
  split at h
  · rename_i hc
    rw [Bool.and_eq_true] at hc
    obtain ⟨d1, s1⟩ := po_dp w.gh px hc.1
    obtain ⟨d2, s2⟩ := po_dp w.gh py hc.2
    have e := eqv_toPy 60 60 (nrm x) (nrm y) hc.1 hc.2
    rw [toPy_nrm, toPy_nrm] at e
    cases neg with
    | false =>
      refine ⟨_, _, d1, d2, s1, s2, ?_⟩
      rw [e]
      have q := h _ _ _ (Ev.refl _ _ _) w pk_bl
      rw [Bool.false_xor] at q
      exact q
    | true =>
      refine ⟨_, _, d1, d2, s1, s2, ?_⟩
      rw [e]
      have q := h _ _ _ (Ev.refl _ _ _) w pk_bl
      rw [Bool.true_xor] at q
      exact q
  · exact h.elim
/-! ### in -/
def rInT (K : PySem.W.Frag) (neg : Bool) : R2 := fun x y H Q => ∃ d ds, Dp K H x d ∧ Dp K H y (.tuple ds) ∧ SeqAt.shaped d = true ∧ SeqAt.shaped (.tuple ds) = true ∧ Q (.bl (xor neg (ds.any fun z => PyData.eqv z d))) H
theorem p_inT {X : Cx} (hu : X.A.units + 65 < cLine) : OpR X (compareOp .In) (rInT X.K false) := by
  intro pins s σ H x y v u Q I rx ry h
  obtain ⟨d, ds, hd, he, sd, se, q⟩ := h
  obtain ⟨as, r1⟩ := Dp.reads I d x v hd rx
  obtain ⟨bs, r2⟩ := Dp.reads I (.tuple ds) y u he ry
  rw [Bool.false_xor] at q
  exact SeqAt.in_tuple_reads r2 r1 (SeqAt.canLay_of_shaped se) (SeqAt.canLay_of_shaped sd) (room_in_shaped sd hu) ⟨.bl _, H, I, rfl, q⟩
theorem p_notInT {X : Cx} (hu : X.A.units + 65 < cLine) : OpR X (compareOp .NotIn) (rInT X.K true) := by
  intro pins s σ H x y v u Q I rx ry h
  obtain ⟨d, ds, hd, he, sd, se, q⟩ := h
  obtain ⟨as, r1⟩ := Dp.reads I d x v hd rx
  obtain ⟨bs, r2⟩ := Dp.reads I (.tuple ds) y u he ry
  rw [Bool.true_xor] at q
  exact SeqAt.notIn_tuple_reads r2 r1 (SeqAt.canLay_of_shaped se) (SeqAt.canLay_of_shaped sd) (room_in_shaped sd hu) ⟨.bl _, H, I, rfl, q⟩
def rInS (neg : Bool) : R2 := fun x y H Q => ∃ (c : Nat) (z : Str), x = .str ⟨#[c]⟩ ∧ y = .str z ∧ Q (.bl (xor neg (decide (c ∈ z.cps.toList)))) H
theorem p_inS {X : Cx} : OpR X (compareOp .In) (rInS false) := fun pins s σ H x y v u Q I rx ry h => op_in_sign pins s σ H x y v u Q I rx ry (by
  obtain ⟨i, j, e1, e2, q⟩ := h
  rw [Bool.false_xor] at q
  exact ⟨i, j, e1, e2, q⟩)
theorem p_notInS {X : Cx} : OpR X (compareOp .NotIn) (rInS true) := fun pins s σ H x y v u Q I rx ry h => op_notIn_sign pins s σ H x y v u Q I rx ry (by
  obtain ⟨i, j, e1, e2, q⟩ := h
  rw [Bool.true_xor] at q
  exact ⟨i, j, e1, e2, q⟩)
def rInL (K : PySem.W.Frag) (neg : Bool) : R2 := fun x y H Q => ∃ d ds, Dp K H x d ∧ Dp K H y (.list ds) ∧ SeqAt.shaped d = true ∧ SeqAt.shaped (.list ds) = true ∧ Q (.bl (xor neg (ds.any fun z => PyData.eqv z d))) H
theorem p_inL {X : Cx} (hu : X.A.units + 65 < cLine) : OpR X (compareOp .In) (rInL X.K false) := fun pins s σ H x y v u Q I rx ry h => op_inD hu pins s σ H x y v u Q I rx ry (by
  obtain ⟨d, ds, h1, h2, h3, h4, q⟩ := h
  rw [Bool.false_xor] at q
  exact ⟨d, ds, h1, h2, h3, h4, q⟩)
theorem p_notInL {X : Cx} (hu : X.A.units + 65 < cLine) : OpR X (compareOp .NotIn) (rInL X.K true) := fun pins s σ H x y v u Q I rx ry h => op_notInD hu pins s σ H x y v u Q I rx ry (by
  obtain ⟨d, ds, h1, h2, h3, h4, q⟩ := h
  rw [Bool.true_xor] at q
  exact ⟨d, ds, h1, h2, h3, h4, q⟩)
def rInA (K : PySem.W.Frag) (neg : Bool) : R2 := fun x y H Q => rInL K neg x y H Q ∨ rInT K neg x y H Q ∨ rInS neg x y H Q
theorem p_inA {X : Cx} (hu : X.A.units + 65 < cLine) : OpR X (compareOp .In) (rInA X.K false) := (p_inL hu).or ((p_inT hu).or p_inS)
theorem p_notInA {X : Cx} (hu : X.A.units + 65 < cLine) : OpR X (compareOp .NotIn) (rInA X.K true) := (p_notInL hu).or ((p_notInT hu).or p_notInS)
theorem any_toPy {n m : Nat} {d : D} (hd : sh m d = true) : ∀ {ds : List D}, shL n ds = true → ((toPyL ds).any fun z => PyData.eqv z (toPy d)) = ds.any fun z => eqD z d
  | [], _ => rfl
  | e :: es, h => by
    simp only [shL, Bool.and_eq_true] at h
    simp only [toPyL, List.any_cons]
    rw [eqv_toPy n m e d h.1 hd, any_toPy hd h.2]
theorem sh_nrm {n : Nat} {d : D} (h : sh n d = true) : nrm d = d := by cases d <;> first | rfl | simp [sh] at h
theorem po_dp' {H0 G H : Hp} {μ : List Addr} {d : D} {v : V} (sub : Sub G H) (h : Po T 2 H0 G H μ d v) (s : sh 60 d = true) : Dp T.K H v (toPy d) ∧ SeqAt.shaped (toPy d) = true :=
  po_dp sub h (by rw [sh_nrm s]; exact s)
theorem po_dpL {H0 G H : Hp} {μ : List Addr} {ds : List D} {v : V} (sub : Sub G H) (h : Po T 2 H0 G H μ (.lst ds) v) (s : shL 60 ds = true) : Dp T.K H v (.list (toPyL ds)) ∧ SeqAt.shaped (.list (toPyL ds)) = true := by
  obtain ⟨a, xs, rfl, h1, h2, h3⟩ := po_lst h
  obtain ⟨q1, q2, q3⟩ := dps_of sub 60 ds xs s h3
  exact ⟨.lst (.inl (.inl h1)) q1, shaped_mk (n := 61) (by simpa [toPy, PyData.canLay0] using q2) (by simp [PyData.depth]; omega) (by decide)⟩
theorem po_dpT {H0 G H : Hp} {μ : List Addr} {md : Nat} {ds : List D} {v : V} (sub : Sub G H) (h : Po T md H0 G H μ (.tup ds) v) (s : shL 60 ds = true) : Dp T.K H v (.tuple (toPyL ds)) ∧ SeqAt.shaped (.tuple (toPyL ds)) = true := by
  obtain ⟨a, xs, rfl, h1, h2, h3⟩ := po_tup h
  obtain ⟨q1, q2, q3⟩ := dps_of sub 60 ds xs s h3
  exact ⟨.tup (sub.sqt h1) q1, shaped_mk (n := 61) (by simpa [toPy, PyData.canLay0] using q2) (by simp [PyData.depth]; omega) (by decide)⟩
theorem o_in (neg : Bool) : RdO T 1 (rInA T.K neg) (inM neg) := by
  intro x y vx vy G H μ st Q w px py h
  unfold inM at h
  split at h
  · rename_i ds
    split at h
    · rename_i hc
      rw [Bool.and_eq_true] at hc
      obtain ⟨d1, s1⟩ := po_dp' w.gh px hc.1
      obtain ⟨d2, s2⟩ := po_dpL w.gh py hc.2
      refine .inl ⟨_, _, d1, d2, s1, s2, ?_⟩
      rw [any_toPy hc.1 hc.2]
      exact h _ _ _ (Ev.refl _ _ _) w pk_bl
    · exact h.elim
  · rename_i ds
    split at h
    · rename_i hc
      rw [Bool.and_eq_true] at hc
      obtain ⟨d1, s1⟩ := po_dp' w.gh px hc.1
      obtain ⟨d2, s2⟩ := po_dpT w.gh py hc.2
      refine .inr (.inl ⟨_, _, d1, d2, s1, s2, ?_⟩)
      rw [any_toPy hc.1 hc.2]
      exact h _ _ _ (Ev.refl _ _ _) w pk_bl
    · exact h.elim
  · rename_i z
    split at h
    · rename_i c
      obtain ⟨rfl, _⟩ := po_str px
      obtain ⟨rfl, _⟩ := po_str py
      exact .inr (.inr ⟨c, _, rfl, rfl, h _ _ _ (Ev.refl _ _ _) w pk_bl⟩)
    · exact h.elim
  · exact h.elim
/-! ### < -/
theorem ltN_eq : ∀ (a b : List Nat), ltN a b = decide (a < b)
  | [], [] => by simp [ltN]
  | [], _ :: _ => by simp [ltN]
  | _ :: _, [] => by simp [ltN]
  | x :: xs, y :: ys => by
    unfold ltN
    rw [ltN_eq xs ys]
    by_cases h : x = y
    · subst h
      simp
    · have h1 : (x == y) = false := beq_eq_false_iff_ne.mpr h
      rw [h1]
      simp only [List.cons_lt_cons_iff, h, false_and, or_false]
      rfl
mutual
theorem alike_toPy : ∀ (n m : Nat) (d e : D), sh n d = true → sh m e = true → alike (toPy d) (toPy e) = alD d e
  | n, m, .non, e, hd, he => by cases e <;> first | rfl | simp [sh] at he
  | n, m, .bl b, e, hd, he => by cases e <;> first | rfl | simp [sh] at he
  | n, m, .int b, e, hd, he => by cases e <;> first | rfl | simp [sh] at he
  | n, m, .str b, e, hd, he => by cases e <;> first | rfl | simp [sh] at he
  | n, m, .tup ds, e, hd, he => by
    cases e with
    | tup es =>
      cases n with
      | zero => simp [sh] at hd
      | succ n =>
        cases m with
        | zero => simp [sh] at he
        | succ m =>
          simp only [toPy, alike, alD]
          exact alikeL_toPy n m ds es (by simpa [sh] using hd) (by simpa [sh] using he)
    | scr c => simp [sh] at he
    | obj c => simp [sh] at he
    | _ => rfl
  | n, m, .lst ds, e, hd, he => by
    cases e with
    | lst es =>
      cases n with
      | zero => simp [sh] at hd
      | succ n =>
        cases m with
        | zero => simp [sh] at he
        | succ m =>
          simp only [toPy, alike, alD]
          exact alikeL_toPy n m ds es (by simpa [sh] using hd) (by simpa [sh] using he)
    | scr c => simp [sh] at he
    | obj c => simp [sh] at he
    | _ => rfl
  | n, m, .scr _, e, hd, he => by simp [sh] at hd
  | n, m, .obj _, e, hd, he => by simp [sh] at hd
theorem alikeL_toPy : ∀ (n m : Nat) (d e : List D), shL n d = true → shL m e = true → alikeAll (toPyL d) (toPyL e) = alL d e
  | n, m, [], [], _, _ => rfl
  | n, m, [], _ :: _, _, _ => rfl
  | n, m, _ :: _, [], _, _ => rfl
  | n, m, d :: ds, e :: es, hd, he => by
    simp only [shL, Bool.and_eq_true] at hd he
    simp only [toPyL, alikeAll, alL]
    rw [alike_toPy n m d e hd.1 he.1, alikeL_toPy n m ds es hd.2 he.2]
end
theorem rowLt_nil (b : PyData) (bs : List PyData) : rowLt [] (b :: bs) = true := by
  unfold rowLt
  simp only [keyToksAll]
  rfl
mutual
theorem lt_toPy : ∀ (n m : Nat) (d e : D), sh n d = true → sh m e = true → alD d e = true → dataLt (toPy d) (toPy e) = ltD d e
  | n, m, .non, e, hd, he, ha => by cases e <;> first | rfl | simp [alD] at ha
  | n, m, .bl b, e, hd, he, ha => by
    cases e with
    | bl c => cases b <;> cases c <;> rfl
    | _ => simp [alD] at ha
  | n, m, .int b, e, hd, he, ha => by
    cases e with
    | int c => exact dataLt_int b c
    | _ => simp [alD] at ha
  | n, m, .str b, e, hd, he, ha => by
    cases e with
    | str c =>
      simp only [toPy, dataLt_str, ltD, ltN_eq]
    | _ => simp [alD] at ha
  | n, m, .tup ds, e, hd, he, ha => by
    cases e with
    | tup es =>
      cases n with
      | zero => simp [sh] at hd
      | succ n =>
        cases m with
        | zero => simp [sh] at he
        | succ m =>
          simp only [toPy, dataLt_tuple, ltD]
          exact ltL_toPy n m ds es (by simpa [sh] using hd) (by simpa [sh] using he) (by simpa [alD] using ha)
    | _ => simp [alD] at ha
  | n, m, .lst ds, e, hd, he, ha => by
    cases e with
    | lst es =>
      cases n with
      | zero => simp [sh] at hd
      | succ n =>
        cases m with
        | zero => simp [sh] at he
        | succ m =>
          simp only [toPy, dataLt_list, ltD]
          exact ltL_toPy n m ds es (by simpa [sh] using hd) (by simpa [sh] using he) (by simpa [alD] using ha)
    | _ => simp [alD] at ha
  | n, m, .scr _, e, hd, he, ha => by simp [sh] at hd
  | n, m, .obj _, e, hd, he, ha => by simp [sh] at hd
theorem ltL_toPy : ∀ (n m : Nat) (d e : List D), shL n d = true → shL m e = true → alL d e = true → PyProof.Rows.lexLt itemOrd (keyToksAll (toPyL d)) (keyToksAll (toPyL e)) = ltL d e
  | n, m, [], [], _, _, _ => rfl
  | n, m, [], _ :: _, _, _, _ => rfl
  | n, m, _ :: _, [], _, _, _ => rfl
  | n, m, d :: ds, e :: es, hd, he, ha => by
    simp only [shL, Bool.and_eq_true] at hd he
    simp only [alL, Bool.and_eq_true] at ha
    simp only [toPyL, ltL]
    rw [dataLt_cons (by rw [alike_toPy n m d e hd.1 he.1]; exact ha.1), eqv_toPy n m d e hd.1 he.1, ltL_toPy n m ds es hd.2 he.2 ha.2, lt_toPy n m d e hd.1 he.1 ha.1]
end
def rLtTD (K : PySem.W.Frag) : R2 := fun x y H Q => ∃ ds es, Dp K H x (.tuple ds) ∧ Dp K H y (.tuple es) ∧ SeqAt.shaped (.tuple ds) = true ∧ SeqAt.shaped (.tuple es) = true ∧ alikeAll ds es = true ∧ Q (.bl (dataLt (.tuple ds) (.tuple es))) H
theorem p_ltTD {X : Cx} (hu : X.A.units + 65 < cLine) : OpR X (compareOp .Lt) (rLtTD X.K) := by
  intro pins s σ H x y v u Q I rx ry h
  obtain ⟨d, e, hd, he, sd, se, al, q⟩ := h
  obtain ⟨as, r1⟩ := Dp.reads I (.tuple d) x v hd rx
  obtain ⟨bs, r2⟩ := Dp.reads I (.tuple e) y u he ry
  exact lt_data r1 r2 (by simpa only [alike] using al) (fun z => by cases z) (SeqAt.room_of_shaped sd (by omega)) ⟨.bl _, H, I, rfl, q⟩
def rLt (K : PySem.W.Frag) : R2 := fun x y H Q => rI0 (fun i j => .bl (decide (i < j))) x y H Q ∨ rLtTD K x y H Q
theorem p_lt {X : Cx} (hu : X.A.units + 65 < cLine) : OpR X (compareOp .Lt) (rLt X.K) := op_lt.or (p_ltTD hu)
theorem o_lt : RdO T 1 (rLt T.K) ltM := by
  intro x y vx vy G H μ st Q w px py h
  unfold ltM at h
  split at h
  · rename_i a b
    exact .inl ⟨a, b, po_int px, po_int py, h _ _ _ (Ev.refl _ _ _) w pk_bl⟩
  · rename_i a b
    split at h
    · rename_i hc
      simp only [Bool.and_eq_true] at hc
      obtain ⟨d1, s1⟩ := po_dpT w.gh px hc.1.1
      obtain ⟨d2, s2⟩ := po_dpT w.gh py hc.1.2
      refine .inr ⟨_, _, d1, d2, s1, s2, by rw [alikeL_toPy 60 60 a b hc.1.1 hc.1.2]; exact hc.2, ?_⟩
      rw [dataLt_tuple, ltL_toPy 60 60 a b hc.1.1 hc.1.2 hc.2]
      exact h _ _ _ (Ev.refl _ _ _) w pk_bl
    · exact h.elim
  · exact h.elim
theorem o_le : RdO T 1 (rI0 fun i j => .bl (decide (i ≤ j))) leM := by
  intro x y vx vy G H μ st Q w px py h
  unfold leM at h
  split at h
  · rename_i a b
    exact ⟨a, b, po_int px, po_int py, h _ _ _ (Ev.refl _ _ _) w pk_bl⟩
  · exact h.elim
def rGtTD (K : PySem.W.Frag) : R2 := fun x y H Q => ∃ ds es, Dp K H x (.tuple ds) ∧ Dp K H y (.tuple es) ∧ SeqAt.shaped (.tuple ds) = true ∧ SeqAt.shaped (.tuple es) = true ∧ alikeAll ds es = true ∧ Q (.bl (dataLt (.tuple es) (.tuple ds))) H
theorem p_gtTD {X : Cx} (hu : X.A.units + 65 < cLine) : OpR X (compareOp .Gt) (rGtTD X.K) := by
  intro pins s σ H x y v u Q I rx ry h
  obtain ⟨d, e, hd, he, sd, se, al, q⟩ := h
  obtain ⟨as, r1⟩ := Dp.reads I (.tuple d) x v hd rx
  obtain ⟨bs, r2⟩ := Dp.reads I (.tuple e) y u he ry
  exact PySem.W.gt_data r1 r2 (by simpa only [alike] using al) (fun z => by cases z) (SeqAt.room_of_shaped sd (by omega)) ⟨.bl _, H, I, rfl, q⟩
def rGt (K : PySem.W.Frag) : R2 := fun x y H Q => rI0 (fun i j => .bl (decide (j < i))) x y H Q ∨ rGtTD K x y H Q
theorem p_gt {X : Cx} (hu : X.A.units + 65 < cLine) : OpR X (compareOp .Gt) (rGt X.K) := op_gt.or (p_gtTD hu)
theorem o_gt : RdO T 1 (rGt T.K) gtM := by
  intro x y vx vy G H μ st Q w px py h
  unfold gtM at h
  split at h
  · rename_i a b
    exact .inl ⟨a, b, po_int px, po_int py, h _ _ _ (Ev.refl _ _ _) w pk_bl⟩
  · rename_i a b
    split at h
    · rename_i hc
      simp only [Bool.and_eq_true] at hc
      obtain ⟨⟨⟨c1, c2⟩, c3⟩, c4⟩ := hc
      obtain ⟨d1, s1⟩ := po_dpT w.gh px c1
      obtain ⟨d2, s2⟩ := po_dpT w.gh py c2
      refine .inr ⟨_, _, d1, d2, s1, s2, by rw [alikeL_toPy 60 60 a b c1 c2]; exact c3, ?_⟩
      rw [dataLt_tuple, ltL_toPy 60 60 b a c2 c1 c4]
      exact h _ _ _ (Ev.refl _ _ _) w pk_bl
    · exact h.elim
  · exact h.elim
theorem o_ge : RdO T 1 (rI0 fun i j => .bl (decide (j ≤ i))) geM := by
  intro x y vx vy G H μ st Q w px py h
  unfold geM at h
  split at h
  · rename_i a b
    exact ⟨a, b, po_int px, po_int py, h _ _ _ (Ev.refl _ _ _) w pk_bl⟩
  · exact h.elim
theorem isNon_iff {H0 G H : Hp} {μ : List Addr} {d : D} {v : V} (h : Po T 2 H0 G H μ d v) : decide (v = V.non) = isNon d := by
  cases d with
  | non => rw [po_non h]; rfl
  | bl b => rw [po_bl h]; rfl
  | int b => rw [po_int h]; rfl
  | str b => obtain ⟨rfl, _⟩ := po_str h; rfl
  | tup b => obtain ⟨a, xs, rfl, _⟩ := po_tup h; rfl
  | lst b => obtain ⟨a, xs, rfl, _⟩ := po_lst h; rfl
  | scr b => obtain ⟨a, rfl, _⟩ := po_scr h; rfl
  | obj b => obtain ⟨a, rfl, _⟩ := po_obj h; rfl
def rIs : Bool → R2 := fun neg x y H Q => (y = .non ∧ Q (.bl (xor neg (decide (x = .non)))) H) ∨ ∃ b, y = .bl b ∧ ((∃ i, x = .int i ∧ Q (.bl neg) H) ∨ ∃ a, x = .bl a ∧ Q (.bl (xor neg (a == b))) H)
theorem p_is {X : Cx} : OpR X (compareOp .Is) (rIs false) := by
  intro pins s σ H x y v u Q I rx ry h
  rcases h with ⟨e, q⟩ | ⟨b, rfl, ⟨i, rfl, q⟩ | ⟨a, rfl, q⟩⟩
  · exact op_isN pins s σ H x y v u Q I rx ry ⟨e, by rw [Bool.false_xor] at q; exact q⟩
  · cases ry
    obtain ⟨t, rfl⟩ := rx
    exact wpAny_is_other rfl (by simp) (fin_bl I q rfl)
  · cases ry
    cases rx
    rw [Bool.false_xor] at q
    exact wpAny_is_plain rfl (fin_bl I q (by cases a <;> cases b <;> rfl))
theorem p_isnot {X : Cx} : OpR X (compareOp .IsNot) (rIs true) := by
  intro pins s σ H x y v u Q I rx ry h
  rcases h with ⟨e, q⟩ | ⟨b, rfl, ⟨i, rfl, q⟩ | ⟨a, rfl, q⟩⟩
  · exact op_notN pins s σ H x y v u Q I rx ry ⟨e, by rw [Bool.true_xor] at q; exact q⟩
  · cases ry
    obtain ⟨t, rfl⟩ := rx
    exact wpAny_isNot_other rfl (by simp) (fin_bl I q rfl)
  · cases ry
    cases rx
    rw [Bool.true_xor] at q
    exact wpAny_isNot_plain rfl (fin_bl I q (by cases a <;> cases b <;> rfl))
theorem o_is (neg : Bool) : RdO T 1 (rIs neg) (isM neg) := by
  intro x y vx vy G H μ st Q w px py h
  unfold isM at h
  split at h
  · have e := isNon_iff px
    have q := h _ _ _ (Ev.refl _ _ _) w pk_bl
    rw [← e] at q
    exact .inl ⟨po_non py, q⟩
  · rename_i i b
    exact .inr ⟨b, po_bl py, .inl ⟨i, po_int px, h _ _ _ (Ev.refl _ _ _) w pk_bl⟩⟩
  · rename_i a b
    exact .inr ⟨b, po_bl py, .inr ⟨a, po_bl px, h _ _ _ (Ev.refl _ _ _) w pk_bl⟩⟩
  · exact h.elim
end BX

set_option Elab.async false
set_option linter.all false
set_option maxRecDepth 100000
/-! BS5: subscripts, slices. -/
namespace BX
open PySem PySem.Spec PyProof.Rows L2
variable {T : Rt} {mu : List Nat} {n : Nat} {W : WX}

theorem ofO_some {α : Type} {o : Option α} {st : Sto} {k : α → Sto → Prop} {x : Xc → Sto → Prop} (h : Res (ofO o st) k x) : ∃ a, o = some a ∧ k a st := by
  cases o with
  | none => exact h.elim
  | some a => exact ⟨a, rfl, h⟩
theorem ixN_lt {n : Nat} {i : Int} {j : Nat} (h : BX.ixN n i = some j) : j < n := by
  unfold BX.ixN at h
  split at h
  · split at h
    · cases h; omega
    · cases h
  · split at h
    · cases h; omega
    · cases h
theorem atI_of {α : Type} (xs : List α) (i : Int) : BX.atI xs i = L2.atI xs i := rfl
theorem atI_rp {K : PySem.W.Frag} {G : Hp} {μ : List Addr} {ds : List D} {xs : List V} (r : RpL K G μ ds xs) {i : Int} {d : D} (h : BX.atI ds i = some d) : ∃ v, L2.atI xs i = some v ∧ Rp K G μ d v := by
  unfold BX.atI at h
  rw [r.length] at h
  cases q : BX.ixN xs.length i with
  | none => rw [q] at h; cases h
  | some j =>
    rw [q] at h
    obtain ⟨v, h1, h2⟩ := r.get (i := j) h
    refine ⟨v, ?_, h2⟩
    show (BX.ixN xs.length i).bind (fun j => xs[j]?) = some v
    rw [q]
    exact h1
theorem po_md0 {H G H' : Hp} {μ : List Addr} {d : D} {v : V} (h : Rp T.K G μ d v) : Po T 0 H G H' μ d v := by cases d <;> exact h
theorem o_ix : RdO T 0 (rIx T.K) ixD := by
  intro x y vx vy G H μ st Q w px py h
  unfold ixD at h
  split at h
  · rename_i ds i
    obtain ⟨l, xs, rfl, h1, h2, h3⟩ := po_lst px
    obtain ⟨d, e, q⟩ := ofO_some h
    obtain ⟨v, e1, e2⟩ := atI_rp h3 e
    exact .inl ⟨l, xs, i, v, rfl, po_int py, .inl (.inl h1), e1, q v G H (Ev.refl _ _ _) w (po_md0 e2)⟩
  · rename_i ds i
    obtain ⟨l, xs, rfl, h1, h2, h3⟩ := po_tup px
    obtain ⟨d, e, q⟩ := ofO_some h
    obtain ⟨v, e1, e2⟩ := atI_rp h3 e
    exact .inr (.inl ⟨l, xs, i, v, rfl, po_int py, w.gh.sqt h1, e1, q v G H (Ev.refl _ _ _) w (po_md0 e2)⟩)
  · rename_i ns i
    obtain ⟨l, rfl, h1, h2⟩ := po_scr px
    obtain ⟨d, e, q⟩ := ofO_some h
    cases e1 : BX.atI ns i with
    | none => rw [e1] at e; cases e
    | some m =>
      rw [e1] at e
      cases e
      refine .inl ⟨l, ns.map V.int, i, .int m, rfl, po_int py, w.gh.sql h1, ?_, q _ G H (Ev.refl _ _ _) w pk_int⟩
      show (BX.ixN (ns.map V.int).length i).bind (fun j => (ns.map V.int)[j]?) = some (.int m)
      unfold BX.atI at e1
      rw [List.length_map]
      cases q2 : BX.ixN ns.length i with
      | none => rw [q2] at e1; cases e1
      | some j =>
        rw [q2] at e1
        show (ns.map V.int)[j]? = _
        rw [List.getElem?_map, show ns[j]? = some m from e1]
        rfl
  · rename_i s i
    obtain ⟨rfl, h1, h2⟩ := po_str px
    obtain ⟨d, e, q⟩ := ofO_some h
    cases e1 : BX.atI s i with
    | none => rw [e1] at e; cases e
    | some c =>
      rw [e1] at e
      cases e
      have hm : c ∈ s := by
        unfold BX.atI at e1
        cases q2 : BX.ixN s.length i with
        | none => rw [q2] at e1; cases e1
        | some j =>
          rw [q2] at e1
          exact List.mem_of_getElem? (show s[j]? = some c from e1)
      refine .inr (.inr ⟨_, i, c, rfl, po_int py, ?_, ?_, q _ G H (Ev.refl _ _ _) w ?_⟩)
      · show s.toArray.size ≤ _
        rw [List.size_toArray, limS]
        exact h1
      · exact e1
      · exact pk_str (x := [c]) (show 1 ≤ LIM by decide) fun b hb => by
          rw [List.mem_singleton] at hb
          subst hb
          exact h2 b hm
  · exact h.elim
/-! ### slices -/
theorem bnN_le (n d : Nat) (hd : d ≤ n) (o : Option Int) : bnN n d o ≤ n := HT.sIx_le n d hd o
theorem cut_rp {K : PySem.W.Frag} {G : Hp} {μ : List Addr} {ds : List D} {xs : List V} (r : RpL K G μ ds xs) (lo hi : Option Int) : RpL K G μ (cut ds lo hi) (cutV xs lo hi) := by
  unfold cut
  rw [r.length]
  exact (r.drop _).take _
theorem cut_len {α : Type} (xs : List α) (lo hi : Option Int) : (cut xs lo hi).length ≤ xs.length := by
  unfold cut
  rw [List.length_take, List.length_drop]
  omega
theorem cut_all {α : Type} (xs : List α) (lo hi : Option Int) (h : bnN xs.length 0 lo = 0 ∧ bnN xs.length xs.length hi = xs.length) : cut xs lo hi = xs := by
  unfold cut
  rw [h.1, h.2, List.drop_zero, Nat.sub_zero, List.take_length]
def rSl (K : PySem.W.Frag) : V → Option Int → Option Int → Hp → VK → Prop := fun x lo hi H Q => rSlL K x lo hi H Q ∨ rSlN K x lo hi H Q ∨ rSlS x lo hi H Q
theorem p_sl {X : Cx} : SlR X (rSl X.K) := sl_list.or (sl_tupN.or sl_str)
theorem cut_mem {α : Type} {xs : List α} {lo hi : Option Int} {c : α} (h : c ∈ cut xs lo hi) : c ∈ xs := List.mem_of_mem_drop (List.mem_of_mem_take h)
theorem o_sl (lo hi : Option Int) : RdU T 1 (fun x H Q => rSl T.K x lo hi H Q) (fun x => slD x lo hi) := by
  intro x vx G H μ st Q w px h
  replace h : Res (slD x lo hi st) _ _ := h
  unfold slD at h
  split at h
  · rename_i ds
    obtain ⟨l, xs, rfl, h1, h2, h3⟩ := po_lst px
    refine .inl ⟨l, xs, rfl, .inl (.inl h1), fun p hp => ?_⟩
    obtain ⟨e1, w1⟩ := new_lst w hp (cutV xs lo hi)
    exact h _ _ _ e1 w1 (po_new w.gh hp (Nat.le_trans (cutV_length xs lo hi) h2) (cut_rp h3 lo hi))
  · rename_i ds
    obtain ⟨l, xs, rfl, h1, h2, h3⟩ := po_tup px
    refine .inr (.inl ⟨l, xs, rfl, w.gh.sqt h1, fun e => ?_, fun e p o hp ho => ?_⟩)
    · have ec : cut ds lo hi = ds := cut_all ds lo hi (by rw [h3.length]; exact e)
      have h' := h (.ref l) _ _ (Ev.refl _ _ _) w
      rw [ec] at h'
      exact h' (pk_tup h1 h2 h3)
    · obtain ⟨q1, q2, q3⟩ := new_tup w hp ho (Nat.le_trans (cutV_length xs lo hi) h2) (cut_rp h3 lo hi)
      exact h _ _ _ q1 q2 q3
  · rename_i s
    obtain ⟨rfl, h1, h2⟩ := po_str px
    refine .inr (.inr ⟨_, rfl, ?_, ?_⟩)
    · show s.toArray.size ≤ _
      rw [List.size_toArray, limS]
      exact h1
    · exact h _ _ _ (Ev.refl _ _ _) w (pk_str (x := cut s lo hi) (Nat.le_trans (cut_len s lo hi) h1) fun c hc => h2 c (cut_mem hc))
  · exact h.elim

/-! ### [::-1] -/
section
variable {prog : Program} {w : World} {A : Around} {E : Value → Shared → Prop} {s : Shared}
theorem sliceApplied_rev {sl : Addr} {vs : Value} {n : Nat} {Q : Int × Int × Nat → Shared → Prop} (hs : s.heap.IsSliceOf sl .none .none vs) (ps : IsPart vs (some (-1)))
    (h : Q ((n : Int) - 1, -1, n) s) : wpAny (model prog w) A (Builtin.Slice.sliceApplied (.ref sl) (pure (n : Int))) Q E s := by
  obtain ⟨os, hos, hcs, hds⟩ := id hs
  unfold Builtin.Slice.sliceApplied Builtin.Slice.sliceFields
  refine wpAny_bind (wpAny_bind (wpAny_field hos hds (x := .none) rfl (wpAny_bind (wpAny_field hos hds (x := .none) rfl (wpAny_bind (wpAny_field hos hds (x := vs) rfl (wpAny_pure ?_)))))))
  refine wpAny_bind (HT.slicePart_ ps ?_)
  show wpAny _ _ (if ((-1 : Int) == 0) = true then _ else _) _ _ s
  rw [if_neg (by decide)]
  refine wpAny_bind (slicePart_none (wpAny_bind (slicePart_none (wpAny_bind (wpAny_pure ?_)))))
  show wpAny _ _ (match Builtin.Slice.sliceAdjust none none (-1) (n : Int) with | (lo, hi) => pure (lo, (-1 : Int), Builtin.Slice.slicePlaces lo hi (-1))) _ _ s
  have e : Builtin.Slice.sliceAdjust none none (-1) (n : Int) = ((n : Int) - 1, -1) := by
    unfold Builtin.Slice.sliceAdjust
    simp
  rw [e]
  show wpAny _ _ (pure ((n : Int) - 1, (-1 : Int), Builtin.Slice.slicePlaces ((n : Int) - 1) (-1) (-1))) _ _ s
  have e2 : Builtin.Slice.slicePlaces ((n : Int) - 1) (-1) (-1) = n := by
    unfold Builtin.Slice.slicePlaces
    simp
    omega
  rw [e2]
  exact wpAny_pure h
theorem pick_rev (xs : Array Value) : ((List.range xs.size).filterMap fun (m : Nat) => xs[((xs.size : Int) - 1 + (m : Int) * (-1)).toNat]?).toArray = xs.toList.reverse.toArray := by
  have e : ∀ m ∈ List.range xs.size, xs[((xs.size : Int) - 1 + (m : Int) * (-1)).toNat]? = xs.toList.reverse[m]? := by
    intro m hm
    have hm' := List.mem_range.mp hm
    have : ((xs.size : Int) - 1 + (m : Int) * (-1)).toNat = xs.size - 1 - m := by omega
    rw [this, List.getElem?_reverse (by simpa using hm'), Array.length_toList]
    simp
  have fc : ∀ (l : List Nat) (f g : Nat → Option Value), (∀ m ∈ l, f m = g m) → l.filterMap f = l.filterMap g := by
    intro l f g
    induction l with
    | nil => intro _; rfl
    | cons a l ih =>
      intro h
      rw [List.filterMap_cons, List.filterMap_cons, h a List.mem_cons_self, ih fun m hm => h m (List.mem_cons_of_mem _ hm)]
  rw [fc _ _ _ e]
  clear fc
  congr 1
  have : xs.size = xs.toList.reverse.length := by simp
  rw [this]
  generalize xs.toList.reverse = ys
  clear e this
  induction ys with
  | nil => rfl
  | cons y ys ih =>
    rw [List.length_cons, List.range_succ_eq_map, List.filterMap_cons]
    simp only [List.getElem?_cons_zero, List.filterMap_map]
    congr 1
theorem getItem_tuple_rev {t sl : Addr} {items : Array Value} {vs : Value} {Q : Value → Shared → Prop} (ht : IsTup s.heap t items) (hs : s.heap.IsSliceOf sl .none .none vs) (ps : IsPart vs (some (-1)))
    (h : Q (.ref s.heap.objs.size) { s with heap := s.heap.push { cls := .type "tuple", data := .seq items.toList.reverse.toArray } })
    (hsz : items.size ≤ sizeLine) : wpAny (model prog w) A (getItem (.ref t) (.ref sl)) Q E s := by
  have htake : sizeOk (.seq items.toList.reverse.toArray) := by
    show items.toList.reverse.toArray.size ≤ sizeLine
    rw [List.size_toArray, List.length_reverse, Array.length_toList]
    exact hsz
  obtain ⟨os, hos, hcs, hds⟩ := id hs
  have hTs : s.TypeIs (.ref sl) "slice" := ⟨os, hos, hcs⟩
  unfold getItem
  try with_reducible refine wpAny_holding ?_
  first | refine wpAny_bind (wpAny_pure ?_) | skip
  refine wpAny_bind (wpAny_sequenceKey ht.typeIs (by decide) ?_)
  refine wpAny_bind (wpAny_callSpecial?_slot (name := Str.ofString "__getitem__") ht.typeIs PyProof.Rows.slot_tuple_getitem
    (wpAny_call_entry PyProof.Rows.slot_tuple_getitem ht.typeIs entry_tuple_getitem ?_ (args_tuple_getitem _ _)))
  show wpAny _ _ (Builtin.Tuple.tupleItemsOf (.ref t) >>= _) _ _ s
  refine wpAny_bind (tupleItemsOf_ ht ?_)
  refine wpAny_bind (wpAny_typeOf hTs ?_)
  rw [if_pos (by decide)]
  refine wpAny_bind (sliceApplied_rev hs ps ?_)
  have hno : ¬ ((((items.size : Int) - 1) == 0 && (-1 : Int) == 1 && items.size == items.size) = true) := by
    intro q
    rw [Bool.and_eq_true, Bool.and_eq_true] at q
    exact absurd q.1.2 (by decide)
  show wpAny _ _ (if (((items.size : Int) - 1) == 0 && (-1 : Int) == 1 && items.size == items.size) = true then _ else _) _ _ s
  rw [if_neg hno, pick_rev]
  first
    | exact wpAny_bind (m := Builtin.Tuple.tupleExact _) (wpAny_newObj_type (wpAny_pure ⟨_, rfl, wpAny_pure h⟩) htake)
    | exact wpAny_bind (m := Builtin.Tuple.tupleExact _) (wpAny_newObj_type (wpAny_bind (wpAny_pure (wpAny_pure ⟨_, rfl, wpAny_pure h⟩))) htake)
    | exact wpAny_bind (wpAny_bind (m := Builtin.Tuple.tupleExact _) (wpAny_newObj_type (wpAny_pure (wpAny_pure ⟨_, rfl, wpAny_pure h⟩)) htake))
    | exact wpAny_bind (wpAny_bind (m := Builtin.Tuple.tupleExact _) (wpAny_newObj_type (wpAny_pure ⟨_, rfl, wpAny_pure h⟩) htake))
end
def rRev (K : PySem.W.Frag) : V → Hp → VK → Prop := fun x H Q => (∃ a xs, x = .ref a ∧ SqL K H a xs ∧ ∀ p, H p = none → Q (.ref p) (upd H p (.lst xs.reverse))) ∨
  ∃ a xs, x = .ref a ∧ SqT K H a xs ∧ NewT xs.reverse H Q
theorem pe_rev {X : Cx} {e : Expr} {te : TE} {k : Nat} {p1 p2 p3 pos : Pos} (he : PE X e te) : PE X (.Subscript e (.Slice none none (some (.UnaryOp .USub (.Constant (.int 1) k p1) p2)) p3) pos) (tUn (rRev X.K) te) := by
  refine ⟨fun pins s σ H Q I h => ?_⟩
  refine Subscript_ (thn (he.run pins s σ H _ I h) fun v s1 ⟨x, H1, I1, r1, q1⟩ => ?_)
  have hst : PO X (some (.UnaryOp .USub (.Constant (.int 1) k p1) p2)) (tPart (tUn (rU fun i => .int (-i)) (tC (.int 1)))) := po_some (pe_un un_neg pe_int)
  refine wpAny_Slice (thn (po_none.run pins s1 σ H1 (fun o H2 => o = none ∧ H2 = H1) I1 ⟨rfl, rfl⟩) fun vl s2 ⟨l, H2, I2, pl, el, e2⟩ => ?_)
  subst el e2
  refine thn (po_none.run pins s2 σ H2 (fun o H3 => o = none ∧ H3 = H2) I2 ⟨rfl, rfl⟩) fun vu s3 ⟨u, H3, I3, pu, eu, e3⟩ => ?_
  subst eu e3
  refine thn (hst.run pins s3 σ H3 (fun o H4 => o = some (-1) ∧ H4 = H3) I3 ⟨1, rfl, -1, rfl, rfl, rfl⟩) fun vs s4 ⟨o, H4, I4, ps, eo, e4⟩ => ?_
  subst eo e4
  have I5 : Inv X pins σ H4 { s4 with heap := s4.heap.push { cls := .type "slice", data := .fields #[vl, vu, vs] } } := I4.kept (t' := s4.toks) fun b ob q => Heap.get?_push_of_some _ q
  rcases q1 with ⟨a, xs, ex, hx, q⟩ | ⟨a, xs, ex, hx, q⟩
  · subst ex
    cases r1
    obtain ⟨its, r, ht, hz⟩ := I5.list hx
    have hlen := r.length
    show wpAny (model X.prog X.w) X.A (subscriptTail e (.Slice none none (some (.UnaryOp .USub (.Constant (.int 1) k p1) p2)) p3) (.ref a) (.ref s4.heap.objs.size)) (EP X pins σ Q) X.xe { s4 with heap := s4.heap.push { cls := .type "slice", data := .fields #[vl, vu, vs] } }
    refine tail_any (ops := [.ref a, .ref s4.heap.objs.size]) ht.isList.typeIs (PySem.slot_list_getitem.lookup) ?_ (by with_unfolding_all rfl)
    refine wpAny_getItem_list_slice ht.isList (Heap.IsSliceOf.new _ vl vu vs) pl pu ps (by decide) ?_ (by rw [List.size_toArray]; omega)
    rw [PySem.W.krv_pick]
    refine ⟨.ref _, _, I5.laid (t' := s4.toks) (o := .lst xs.reverse) (fun b ob q => Heap.get?_push_of_some _ q) (Nat.le_refl _) ?_, rfl, q _ (I5.hok.fresh (Nat.le_refl _))⟩
    exact ⟨by rw [List.length_reverse]; exact hz, _, 0, r.reverse, Heap.get?_push_size _ rfl⟩
  · subst ex
    cases r1
    obtain ⟨its, r, ht, hz⟩ := I5.tuple hx
    have hlen := r.length
    cases pl
    cases pu
    show wpAny (model X.prog X.w) X.A (subscriptTail e (.Slice none none (some (.UnaryOp .USub (.Constant (.int 1) k p1) p2)) p3) (.ref a) (.ref s4.heap.objs.size)) (EP X pins σ Q) X.xe { s4 with heap := s4.heap.push { cls := .type "slice", data := .fields #[.none, .none, vs] } }
    refine tail_any (ops := [.ref a, .ref s4.heap.objs.size]) ht.typeIs (PyProof.Rows.slot_tuple_getitem.lookup) ?_ (by with_unfolding_all rfl)
    refine getItem_tuple_rev ht (Heap.IsSliceOf.new _ .none .none vs) ps ?_ (by rw [List.size_toArray]; omega)
    exact newT_at I5 (by rw [List.length_reverse]; exact hz) r.reverse q
theorem o_rev : RdU T 1 (rRev T.K) rvD := by
  intro x vx G H μ st Q w px h
  unfold rvD at h
  split at h
  · rename_i ds
    obtain ⟨l, xs, rfl, h1, h2, h3⟩ := po_lst px
    refine .inl ⟨l, xs, rfl, .inl (.inl h1), fun p hp => ?_⟩
    obtain ⟨e1, w1⟩ := new_lst w hp xs.reverse
    exact h _ _ _ e1 w1 (po_new w.gh hp (by rw [List.length_reverse]; exact h2) h3.reverse)
  · rename_i ds
    obtain ⟨l, xs, rfl, h1, h2, h3⟩ := po_tup px
    refine .inr ⟨l, xs, rfl, w.gh.sqt h1, fun p o hp ho => ?_⟩
    obtain ⟨q1, q2, q3⟩ := new_tup w hp ho (xs := xs.reverse) (by rw [List.length_reverse]; exact h2) h3.reverse
    exact h _ _ _ q1 q2 q3
  · exact h.elim
end BX

set_option Elab.async false
set_option linter.all false
set_option maxRecDepth 100000
/-! BS6: built-ins. -/
namespace BX
open PySem PySem.Spec PyProof.Rows L2
open PySem.W (alike alikeAll dataLt keyToksAll keyToks AllAlike Sortable dataLe EachIs TotalLe sameRank sort_maps sort_unique sort_congr sortLe_total sorted_data)
variable {T : Rt} {mu : List Nat} {n : Nat} {W : WX}

theorem new_any {G H : Hp} {μ : List Addr} {st : Sto} (w : WOk T G H μ st) {p : Addr} (hp : H p = none) (o : HO) : Ev G H μ G (upd H p o) μ ∧ WOk T G (upd H p o) μ st := by
  have keep : ∀ b u, H b = some u → upd H p o b = some u := fun b u q => by rw [upd_ne (ne_of_none q hp)]; exact q
  refine ⟨⟨Sub.refl _, Pre.refl _, fun b u q _ => keep b u q, fun b u q => ⟨u, keep b u q⟩, fun b q _ => q⟩, ⟨w.so, fun b u q => keep b u (w.gh b u q), w.nd, w.len, fun k b ob h2 h3 => ?_⟩⟩
  obtain ⟨q1, dx, fs, q2, q3⟩ := w.obj k b ob h2 h3
  exact ⟨q1, dx, fs, keep _ _ q2, q3⟩
theorem p_or {X : Cx} {f : Value} {r r' : List V → Hp → VK → Prop} (h : CallR X f r) (h' : CallR X f r') : CallR X f (fun xs H Q => r xs H Q ∨ r' xs H Q) := by
  intro pins s σ H xs us Q I rs q
  rcases q with q | q
  · exact h pins s σ H xs us Q I rs q
  · exact h' pins s σ H xs us Q I rs q

/-! ### sorted -/
section
variable {α : Type} {le : α → α → Bool}
def insG (le : α → α → Bool) (x : α) : List α → List α
  | [] => [x]
  | y :: ys => if !le x y then y :: insG le x ys else x :: y :: ys
def isortG (le : α → α → Bool) : List α → List α
  | [] => []
  | x :: xs => insG le x (isortG le xs)
theorem insG_mem {x z : α} : ∀ {l : List α}, z ∈ insG le x l → z = x ∨ z ∈ l
  | [], h => by
    simp [insG] at h
    exact .inl h
  | y :: ys, h => by
    unfold insG at h
    split at h
    · rcases List.mem_cons.mp h with rfl | h
      · exact .inr List.mem_cons_self
      · rcases insG_mem h with e | e
        · exact .inl e
        · exact .inr (List.mem_cons_of_mem _ e)
    · rcases List.mem_cons.mp h with rfl | h
      · exact .inl rfl
      · exact .inr h
theorem insG_pw (h : TotalLe le) {x : α} : ∀ {l : List α}, l.Pairwise (fun a b => le a b = true) → (insG le x l).Pairwise (fun a b => le a b = true)
  | [], _ => by simp [insG]
  | y :: ys, p => by
    have p' := List.pairwise_cons.mp p
    unfold insG
    split
    · rename_i c
      rw [Bool.not_eq_true'] at c
      refine List.pairwise_cons.mpr ⟨fun z hz => ?_, insG_pw h p'.2⟩
      rcases insG_mem hz with rfl | hz
      · rcases h.total z y with e | e
        · rw [c] at e; cases e
        · exact e
      · exact p'.1 z hz
    · rename_i c
      have c' : le x y = true := by simpa using c
      refine List.pairwise_cons.mpr ⟨fun z hz => ?_, p⟩
      rcases List.mem_cons.mp hz with rfl | hz
      · exact c'
      · exact h.trans _ _ _ c' (p'.1 z hz)
theorem insG_fil (h : TotalLe le) {x c : α} : ∀ {l : List α}, (insG le x l).filter (sameRank le c) = (x :: l).filter (sameRank le c)
  | [] => rfl
  | y :: ys => by
    unfold insG
    split
    · rename_i k
      rw [Bool.not_eq_true'] at k
      rw [List.filter_cons, insG_fil h (l := ys)]
      cases hx : sameRank le c x with
      | false =>
        rw [List.filter_cons_of_neg (by rw [hx]; decide), List.filter_cons_of_neg (p := sameRank le c) (a := x) (l := y :: ys) (by rw [hx]; decide), List.filter_cons]
      | true =>
        cases hy : sameRank le c y with
        | false =>
          rw [if_neg (by decide), List.filter_cons_of_pos hx, List.filter_cons_of_pos (l := y :: ys) hx, List.filter_cons_of_neg (by rw [hy]; decide)]
        | true =>
          exfalso
          unfold sameRank at hx hy
          rw [Bool.and_eq_true] at hx hy
          have := h.trans _ _ _ hx.2 hy.1
          rw [k] at this
          cases this
    · rfl
theorem isortG_pw (h : TotalLe le) : ∀ l : List α, (isortG le l).Pairwise (fun a b => le a b = true)
  | [] => .nil
  | x :: xs => insG_pw h (isortG_pw h xs)
theorem isortG_fil (h : TotalLe le) {c : α} : ∀ l : List α, (isortG le l).filter (sameRank le c) = l.filter (sameRank le c)
  | [] => rfl
  | x :: xs => by
    unfold isortG
    rw [insG_fil h, List.filter_cons, List.filter_cons, isortG_fil h xs]
theorem isortG_eq (h : TotalLe le) (l : List α) : isortG le l = l.mergeSort le := sort_unique h (isortG_pw h l) fun c => isortG_fil h l
theorem isortG_mem {z : α} : ∀ {l : List α}, z ∈ isortG le l → z ∈ l
  | [], h => by simp [isortG] at h
  | x :: xs, h => by
    rcases insG_mem h with rfl | h
    · exact List.mem_cons_self
    · exact List.mem_cons_of_mem _ (isortG_mem h)
end
theorem insD_eq {le : D → D → Bool} {x : D} : ∀ {l : List D}, (∀ y ∈ l, ltD y x = !le x y) → insD x l = insG le x l
  | [], _ => rfl
  | y :: ys, h => by
    unfold insD insG
    rw [h y List.mem_cons_self, insD_eq fun z hz => h z (List.mem_cons_of_mem _ hz)]
theorem isortD_eq {le : D → D → Bool} : ∀ {l : List D}, (∀ x ∈ l, ∀ y ∈ l, ltD y x = !le x y) → isortD l = isortG le l
  | [], _ => rfl
  | x :: xs, h => by
    unfold isortD isortG
    rw [isortD_eq fun a ha b hb => h a (List.mem_cons_of_mem _ ha) b (List.mem_cons_of_mem _ hb)]
    exact insD_eq fun y hy => h x List.mem_cons_self y (List.mem_cons_of_mem _ (isortG_mem hy))
theorem isortD_merge {ds : List D} (h1 : ds.all (sh 60) = true) (h2 : (ds.all fun d => ds.all (alD d)) = true) : isortD ds = ds.mergeSort (dataLe false toPy) := by
  rw [isortD_eq (le := dataLe false toPy) fun x hx y hy => ?_]
  · exact isortG_eq (sortLe_total _ _ _) ds
  · have sx := List.all_eq_true.mp h1 x hx
    have sy := List.all_eq_true.mp h1 y hy
    have al := List.all_eq_true.mp (List.all_eq_true.mp h2 y hy) x hx
    rw [← lt_toPy 60 60 y x sy sx al]
    show _ = !(!dataLt (toPy y) (toPy x))
    rw [Bool.not_not]
theorem rpl_zip {K : PySem.W.Frag} {G : Hp} {μ : List Addr} : ∀ {ds : List D} {xs : List V}, RpL K G μ ds xs → (ds.zip xs).map Prod.fst = ds ∧ (ds.zip xs).map Prod.snd = xs ∧ ∀ q ∈ ds.zip xs, Rp K G μ q.1 q.2
  | [], xs, h => by
    simp only [RpL] at h
    subst h
    exact ⟨rfl, rfl, fun q hq => by cases hq⟩
  | d :: ds, xs, h => by
    simp only [RpL] at h
    obtain ⟨v, vs, rfl, h1, h2⟩ := h
    obtain ⟨q1, q2, q3⟩ := rpl_zip h2
    refine ⟨by simp [q1], by simp [q2], fun q hq => ?_⟩
    rcases List.mem_cons.mp hq with rfl | hq
    · exact h1
    · exact q3 q hq
theorem rpl_of {K : PySem.W.Frag} {G : Hp} {μ : List Addr} : ∀ {qs : List (D × V)}, (∀ q ∈ qs, Rp K G μ q.1 q.2) → RpL K G μ (qs.map Prod.fst) (qs.map Prod.snd)
  | [], _ => RpL.nil
  | q :: qs, h => RpL.cons (h q List.mem_cons_self) (rpl_of fun z hz => h z (List.mem_cons_of_mem _ hz))
def rSortD (K : PySem.W.Frag) : List V → Hp → VK → Prop := fun vs H Q => ∃ (a : Addr) (xs : List V) (ps : List PyData), vs = [.ref a] ∧ SqL K H a xs ∧ DpAll K H xs ps ∧ AllAlike ps ∧ Sortable ps ∧ (∀ d ∈ ps, d.depth ≤ 60) ∧ xs.length ≤ sizeLine ∧
  ∀ p, H p = none → Q (.ref p) (upd H p (.lst (((xs.zip ps).mergeSort (dataLe false Prod.snd)).map Prod.fst)))
theorem dpAll_len {K : PySem.W.Frag} {H : Hp} : ∀ {xs : List V} {ps : List PyData}, DpAll K H xs ps → xs.length = ps.length
  | _, _, .nil => rfl
  | _, _, .cons _ h => by rw [List.length_cons, List.length_cons, dpAll_len h]
theorem zip_snd {α β : Type} : ∀ {xs : List α} {ys : List β}, xs.length = ys.length → (xs.zip ys).map Prod.snd = ys
  | [], [], _ => rfl
  | [], _ :: _, h => by simp at h
  | _ :: _, [], h => by simp at h
  | x :: xs, y :: ys, h => by simp [zip_snd (by simpa using h : xs.length = ys.length)]
theorem each_rel : ∀ {xs : List V} {us : List Value} {ps : List PyData}, Vals xs us → xs.length = ps.length → EachIs (fun v (b : V × PyData) => RelV b.1 v) us (xs.zip ps)
  | _, _, [], .nil, _ => .nil
  | _, _, _ :: _, .nil, h => by simp at h
  | _, _, [], .cons _ _, h => by simp at h
  | _, _, p :: ps, .cons r t, h => .cons r (each_rel t (by simpa using h))
theorem vals_each : ∀ {us : List Value} {bs : List (V × PyData)}, EachIs (fun v (b : V × PyData) => RelV b.1 v) us bs → Vals (bs.map Prod.fst) us
  | _, _, .nil => .nil
  | _, _, .cons h t => .cons h (vals_each t)
section
variable {X : Cx} {pins : List (Addr × Obj)} {σ : L2.St} {H : Hp} {s : Shared}
theorem each_reads (I : Inv X pins σ H s) : ∀ {xs : List V} {us : List Value} {ps : List PyData}, DpAll X.K H xs ps → Vals xs us → EachIs (fun v (b : V × PyData) => ∃ as, Reads s.heap v b.2 as) us (xs.zip ps)
  | _, _, _, .nil, .nil => .nil
  | _, _, _, .cons h1 h2, .cons r t => .cons (Dp.reads I _ _ _ h1 r) (each_reads I h2 t)
theorem p_sortD (hu : X.A.units + 64 < cLine) : CallR X (.builtin "sorted") (rSortD X.K) := by
  intro pins s σ H vs us Q I r h
  obtain ⟨a, xs, ps, rfl, hs, hd, al, so, dp, hz, q⟩ := h
  obtain ⟨its, rv, hl, _⟩ := I.list hs
  rw [Vals.ref1 r]
  have hlen := dpAll_len hd
  have hzip : (xs.zip ps).length = xs.length := by rw [List.length_zip]; omega
  have e2 : (xs.zip ps).map Prod.snd = ps := zip_snd hlen
  refine sorted_data (enc := Prod.snd) (R := fun v (b : V × PyData) => RelV b.1 v) hl.isList (each_rel rv hlen) (each_reads I hd rv) (by rw [e2]; exact al) (by rw [e2]; exact so) (by rw [hzip]; exact hz)
    (fun b hb => ?_) fun out h1 h2 => ?_
  · have : b.2 ∈ ps := by rw [← e2]; exact List.mem_map.mpr ⟨b, hb, rfl⟩
    have := dp _ this
    omega
  · obtain ⟨ep, he'⟩ := PyProof.Rows.sortedAll_at s.heap its (List.toArray out)
    have hv := vals_each h2
    have hzl : (((xs.zip ps).mergeSort (dataLe false Prod.snd)).map Prod.fst).length ≤ sizeLine := by
      rw [hv.length, h1, hzip]
      exact hz
    exact ⟨.ref _, _, I.laid (t' := s.toks) (o := .lst (((xs.zip ps).mergeSort (dataLe false Prod.snd)).map Prod.fst)) (fun _ _ => PyProof.Rows.sortedAll_old) (Nat.le_succ _) (show ObjOk X.prog X.w _ _ _ (.lst _) from ⟨hzl, out, ep, hv, by simpa using he'⟩), rfl, q _ (I.hok.fresh (Nat.le_succ _))⟩
end
theorem shL_of {n : Nat} : ∀ {ds : List D}, ds.all (sh n) = true → shL n ds = true
  | [], _ => rfl
  | d :: ds, h => by
    rw [List.all_cons, Bool.and_eq_true] at h
    simp only [shL, h.1, shL_of h.2, Bool.and_self]
theorem alike_ds {ds : List D} (h1 : ds.all (sh 60) = true) (h2 : (ds.all fun d => ds.all (alD d)) = true) : AllAlike (toPyL ds) := by
  intro d hd e he
  rw [toPyL_map] at hd he
  obtain ⟨x, hx, rfl⟩ := List.mem_map.mp hd
  obtain ⟨y, hy, rfl⟩ := List.mem_map.mp he
  rw [alike_toPy 60 60 x y (List.all_eq_true.mp h1 x hx) (List.all_eq_true.mp h1 y hy)]
  exact List.all_eq_true.mp (List.all_eq_true.mp h2 x hx) y hy
theorem sortable_ds {ds : List D} (h : (ds.all isTupNE || ds.all isAtomS) = true) : Sortable (toPyL ds) := by
  rw [Bool.or_eq_true] at h
  rcases h with h | h
  · refine .inl fun d hd => ?_
    rw [toPyL_map] at hd
    obtain ⟨x, hx, rfl⟩ := List.mem_map.mp hd
    have := List.all_eq_true.mp h x hx
    cases x with
    | tup xs =>
      cases xs with
      | nil => simp [isTupNE] at this
      | cons y ys => exact ⟨toPy y, toPyL ys, by simp [toPy, toPyL]⟩
    | _ => simp [isTupNE] at this
  · refine .inr fun d hd => ?_
    rw [toPyL_map] at hd
    obtain ⟨x, hx, rfl⟩ := List.mem_map.mp hd
    have := List.all_eq_true.mp h x hx
    cases x <;> first | (simp [isAtomS] at this; done) | exact ⟨fun e => by simp [toPy] at e, fun xs e => by simp [toPy] at e⟩
theorem sort_vals {K : PySem.W.Frag} {G : Hp} {μ : List Addr} {ds : List D} {xs : List V} (r : RpL K G μ ds xs) (h1 : ds.all (sh 60) = true) (h2 : (ds.all fun d => ds.all (alD d)) = true) :
    RpL K G μ (isortD ds) (((xs.zip (toPyL ds)).mergeSort (dataLe false Prod.snd)).map Prod.fst) := by
  obtain ⟨q1, q2, q3⟩ := rpl_zip r
  have e0 : xs.zip (toPyL ds) = (ds.zip xs).map fun q => (q.2, toPy q.1) := by
    rw [toPyL_map]
    clear h1 h2 q1 q2 q3 r
    induction ds generalizing xs with
    | nil => simp
    | cons d ds ih =>
      cases xs with
      | nil => rfl
      | cons x xs => simp [ih]
  have e1 : (((ds.zip xs).mergeSort (dataLe false fun q => toPy q.1)).map fun q => (q.2, toPy q.1)) = (xs.zip (toPyL ds)).mergeSort (dataLe false Prod.snd) := by
    rw [e0]
    exact sort_maps _ fun a _ b _ => rfl
  have e2 : (((ds.zip xs).mergeSort (dataLe false fun q => toPy q.1)).map Prod.fst) = isortD ds := by
    rw [isortD_merge h1 h2]
    have := sort_maps (r := dataLe false fun q : D × V => toPy q.1) (s := dataLe false toPy) (l := ds.zip xs) Prod.fst fun a _ b _ => rfl
    rw [q1] at this
    exact this
  rw [← e1, List.map_map, ← e2]
  exact rpl_of fun q hq => q3 q ((List.mergeSort_perm _ _).mem_iff.mp hq)
/-! ### the rules -/
abbrev rLen (K : PySem.W.Frag) : V → Hp → VK → Prop := fun x H Q => ∃ y n, [x] = [y] ∧ LenV K y H n ∧ Q (.int n) H
theorem o_len : RdU T 1 (rLen T.K) lenD := by
  intro x vx G H μ st Q w px h
  unfold lenD at h
  split at h
  · rename_i ds
    obtain ⟨l, xs, rfl, h1, h2, h3⟩ := po_lst px
    refine ⟨_, xs.length, rfl, .inl ⟨xs, .inl (.inl h1), rfl⟩, ?_⟩
    have := h _ _ _ (Ev.refl _ _ _) w pk_int
    rw [h3.length] at this
    exact this
  · rename_i ds
    obtain ⟨l, xs, rfl, h1, h2, h3⟩ := po_tup px
    refine ⟨_, xs.length, rfl, .inr ⟨xs, w.gh.sqt h1, rfl⟩, ?_⟩
    have := h _ _ _ (Ev.refl _ _ _) w pk_int
    rw [h3.length] at this
    exact this
  · rename_i s
    obtain ⟨rfl, h1, h2⟩ := po_str px
    refine ⟨_, s.length, rfl, ⟨?_, ?_⟩, h _ _ _ (Ev.refl _ _ _) w pk_int⟩
    · show s.toArray.size ≤ _
      rw [List.size_toArray, limS]
      exact h1
    · show s.length = s.toArray.size
      rw [List.size_toArray]
  · rename_i ns
    obtain ⟨l, rfl, h1, h2⟩ := po_scr px
    refine ⟨_, ns.length, rfl, .inl ⟨_, w.gh.sql h1, by rw [List.length_map]⟩, h _ _ _ (Ev.refl _ _ _) w pk_int⟩
  · exact h.elim
abbrev rInt : V → Hp → VK → Prop := fun x H Q => (∃ i, [x] = [.int i] ∧ Q (.int i) H) ∨ ∃ k, [x] = [.bl k] ∧ Q (.int (if k then 1 else 0)) H
theorem o_int : RdU T 1 rInt intD := by
  intro x vx G H μ st Q w px h
  cases x with
  | int i => exact .inl ⟨i, by rw [po_int px], h _ _ _ (Ev.refl _ _ _) w pk_int⟩
  | bl b => exact .inr ⟨b, by rw [po_bl px], h _ _ _ (Ev.refl _ _ _) w pk_int⟩
  | _ => exact h.elim
abbrev rTup (K : PySem.W.Frag) : V → Hp → VK → Prop := fun x H Q => ∃ p ys, [x] = [.ref p] ∧ ((SqL K H p ys ∧ NewT ys H Q) ∨ (SqT K H p ys ∧ Q (.ref p) H))
theorem o_tup : RdU T 1 (rTup T.K) tupD := by
  intro x vx G H μ st Q w px h
  unfold tupD at h
  split at h
  · rename_i ds
    obtain ⟨l, xs, rfl, h1, h2, h3⟩ := po_lst px
    refine ⟨l, xs, rfl, .inl ⟨.inl (.inl h1), fun p o hp ho => ?_⟩⟩
    obtain ⟨q1, q2, q3⟩ := new_tup w hp ho h2 h3
    exact h _ _ _ q1 q2 q3
  · rename_i ds
    obtain ⟨l, xs, rfl, h1, h2, h3⟩ := po_tup px
    exact ⟨l, xs, rfl, .inr ⟨w.gh.sqt h1, h _ _ _ (Ev.refl _ _ _) w (pk_tup h1 h2 h3)⟩⟩
  · exact h.elim
abbrev rLst (K : PySem.W.Frag) : V → Hp → VK → Prop := fun x H Q => ∃ p ys, [x] = [.ref p] ∧ (SqL K H p ys ∨ SqT K H p ys) ∧ ∀ l, H l = none → Q (.ref l) (upd H l (.lst ys))
theorem o_lst : RdU T 1 (rLst T.K) lstD := by
  intro x vx G H μ st Q w px h
  unfold lstD at h
  split at h
  · rename_i ds
    obtain ⟨l, xs, rfl, h1, h2, h3⟩ := po_lst px
    refine ⟨l, xs, rfl, .inl (.inl (.inl h1)), fun p hp => ?_⟩
    obtain ⟨e1, w1⟩ := new_lst w hp xs
    exact h _ _ _ e1 w1 (po_new w.gh hp h2 h3)
  · rename_i ds
    obtain ⟨l, xs, rfl, h1, h2, h3⟩ := po_tup px
    refine ⟨l, xs, rfl, .inr (w.gh.sqt h1), fun p hp => ?_⟩
    obtain ⟨e1, w1⟩ := new_lst w hp xs
    exact h _ _ _ e1 w1 (po_new w.gh hp h2 h3)
  · exact h.elim
theorem bools_v {K : PySem.W.Frag} {G : Hp} {μ : List Addr} : ∀ {ds : List D} {xs : List V} {bs : List Bool}, RpL K G μ ds xs → boolsO ds = some bs → xs = bs.map V.bl
  | [], xs, bs, h, e => by
    simp only [RpL] at h
    simp only [boolsO] at e
    cases e
    exact h
  | d :: ds, xs, bs, h, e => by
    simp only [RpL] at h
    obtain ⟨v, vs, rfl, h1, h2⟩ := h
    cases d with
    | bl b =>
      simp only [boolsO] at e
      cases q : boolsO ds with
      | none => rw [q] at e; cases e
      | some l =>
        rw [q] at e
        cases e
        simp only [Rp] at h1
        rw [bools_v h2 q, h1]
        rfl
    | _ => simp [boolsO] at e
theorem ints_v {K : PySem.W.Frag} {G : Hp} {μ : List Addr} : ∀ {ds : List D} {xs : List V} {bs : List Int}, RpL K G μ ds xs → intsO ds = some bs → xs = bs.map V.int
  | [], xs, bs, h, e => by
    simp only [RpL] at h
    simp only [intsO] at e
    cases e
    exact h
  | d :: ds, xs, bs, h, e => by
    simp only [RpL] at h
    obtain ⟨v, vs, rfl, h1, h2⟩ := h
    cases d with
    | int b =>
      simp only [intsO] at e
      cases q : intsO ds with
      | none => rw [q] at e; cases e
      | some l =>
        rw [q] at e
        cases e
        simp only [Rp] at h1
        rw [ints_v h2 q, h1]
        rfl
    | _ => simp [intsO] at e
theorem o_all : RdU T 1 (fun x H Q => rAll T.K [x] H Q) allD := by
  intro x vx G H μ st Q w px h
  unfold allD at h
  split at h
  · rename_i ds
    obtain ⟨l, xs, rfl, h1, h2, h3⟩ := po_lst px
    cases e : boolsO ds with
    | none =>
      rw [e] at h
      exact h.elim
    | some bs =>
      rw [e] at h
      have ex := bools_v h3 e
      subst ex
      exact ⟨l, bs, rfl, .inl (.inl h1), h _ _ _ (Ev.refl _ _ _) w pk_bl⟩
  · exact h.elim
theorem o_sortL : RdU T 1 (fun x H Q => rSortD T.K [x] H Q) (fun d => match d with | .tup _ => bad | d => sortD d) := by
  intro x vx G H μ st Q w px h
  cases x with
  | lst ds =>
    obtain ⟨l, xs, rfl, h1, h2, h3⟩ := po_lst px
    replace h : Res (sortD (.lst ds) st) _ _ := h
    unfold sortD at h
    simp only [items] at h
    by_cases hc : okSort ds = true
    · rw [if_pos hc] at h
      unfold okSort at hc
      rw [Bool.and_eq_true, Bool.and_eq_true] at hc
      obtain ⟨q1, q2, q3⟩ := dps_of w.gh 60 ds xs (shL_of hc.1.1) h3
      have sv := sort_vals h3 hc.1.1 hc.1.2
      refine ⟨l, xs, toPyL ds, rfl, .inl (.inl h1), q1, alike_ds hc.1.1 hc.1.2, sortable_ds hc.2, fun d hd => ?_, by rw [limS]; exact h2, fun p hp => ?_⟩
      · rw [toPyL_map] at hd
        obtain ⟨y, hy, rfl⟩ := List.mem_map.mp hd
        obtain ⟨i, hi⟩ := List.getElem?_of_mem hy
        obtain ⟨v, _, hv⟩ := h3.get hi
        exact (dp_of w.gh 60 y v (List.all_eq_true.mp hc.1.1 y hy) hv).2.2
      · obtain ⟨e1, w1⟩ := new_lst w hp (((xs.zip (toPyL ds)).mergeSort (dataLe false Prod.snd)).map Prod.fst)
        refine h _ _ _ e1 w1 (po_new w.gh hp ?_ sv)
        rw [List.length_map, List.length_mergeSort, List.length_zip]
        omega
    · rw [if_neg hc] at h
      exact h.elim
  | _ => exact h.elim
/-! ### isinstance -/
def tyS : Ty → String
  | .int => "int"
  | .bool => "bool"
  | .str => "str"
  | .tuple => "tuple"
  | .list => "list"
def dtS : D → String
  | .non => "NoneType"
  | .bl _ => "bool"
  | .int _ => "int"
  | .str _ => "str"
  | .tup _ => "tuple"
  | _ => "list"
theorem kit_tab (d : D) (h : noObj d = true) (t : Ty) : kitB (dtS d) (tyS t) = some (isTy t d) := by
  cases d <;> first | (simp [noObj] at h; done) | (cases t <;> (simp only [dtS, tyS, isTy]; decide +kernel))
theorem ty_of {H0 G H : Hp} {μ : List Addr} {d : D} {v : V} (sub : Sub G H) (h : Po T 2 H0 G H μ d v) (n : noObj d = true) : TyX T.K H v (.type (dtS d)) := by
  cases d with
  | non => rw [po_non h]; exact .base .non
  | bl b => rw [po_bl h]; exact .base (.bl b)
  | int b => rw [po_int h]; exact .base (.int b)
  | str b => obtain ⟨rfl, _⟩ := po_str h; exact .base (.str _)
  | tup b =>
    obtain ⟨a, xs, rfl, h1, _⟩ := po_tup h
    rcases sub.sqt h1 with (q | ⟨o, q⟩) | ⟨o, its, n, e, c, _⟩
    · exact .base (.tup q)
    · exact .fTuple q
    · exact .kTuple e c
  | lst b => obtain ⟨a, xs, rfl, h1, _⟩ := po_lst h; exact .base (.lst h1)
  | scr b =>
    obtain ⟨a, rfl, h1, _⟩ := po_scr h
    rcases sub.sql h1 with (q | ⟨o, q⟩) | ⟨o, its, n, e, c, _⟩
    · exact .base (.lst q)
    · exact .base (.frz q)
    · exact .kList e c
  | obj b => simp [noObj] at n
theorem kit_any {K : PySem.W.Frag} (d : D) (h : noObj d = true) : ∀ ts : List Ty, PySem.W.kitAny K (.type (dtS d)) (ts.map fun t => .type (tyS t)) = some (ts.any fun t => isTy t d)
  | [] => rfl
  | t :: ts => by
    refine kitAny_cons (kit_ty (kit_tab d h t)) (fun e => ?_) (fun e => ?_)
    · rw [List.any_cons, e, Bool.false_or]
      exact kit_any d h ts
    · rw [List.any_cons, e, Bool.true_or]
theorem cls_tys : ∀ ts : List Ty, Paired ClsV (ts.map fun t => V.ty (tyS t)) (ts.map fun t => Value.type (tyS t))
  | [] => .nil
  | t :: ts => .cons (.ty _) (cls_tys ts)
def rIsi1 (K : PySem.W.Frag) (t : Ty) : V → Hp → VK → Prop := fun x H Q => rIsi K [x, .ty (tyS t)] H Q
theorem o_isi1 (t : Ty) : RdU T 1 (rIsi1 T.K t) (fun x => if noObj x then ret (.bl ([t].any fun t => isTy t x)) else bad) := by
  intro x vx G H μ st Q w px h
  by_cases hn : noObj x = true
  · simp only [if_pos hn] at h
    refine ⟨vx, .ty (tyS t), .type (dtS x), .type (tyS t), isTy t x, rfl, .ty _, ty_of w.gh px hn, kit_ty (kit_tab x hn t), ?_⟩
    have := h _ _ _ (Ev.refl _ _ _) w pk_bl
    rw [List.any_cons, List.any_nil, Bool.or_false] at this
    exact this
  · simp only [if_neg hn] at h
    exact h.elim
def rIsiN (K : PySem.W.Frag) (ts : List Ty) : V → Hp → VK → Prop := fun x H Q => ∀ p, H p = none → rIsiT K [x, .ref p] (upd H p (.tup (ts.map fun t => V.ty (tyS t)))) Q
theorem o_isiN (ts : List Ty) : RdU T 1 (rIsiN T.K ts) (fun x => if noObj x then ret (.bl (ts.any fun t => isTy t x)) else bad) := by
  intro x vx G H μ st Q w px h p hp
  by_cases hn : noObj x = true
  · simp only [if_pos hn] at h
    obtain ⟨e1, w1⟩ := new_any w hp (.tup (ts.map fun t => V.ty (tyS t)))
    have px' := px.later e1
    exact ⟨vx, p, _, _, _, _, rfl, upd_same, cls_tys ts, ty_of w1.gh px' hn, kit_any x hn ts, h _ _ _ e1 w1 pk_bl⟩
  · simp only [if_neg hn] at h
    exact h.elim
end BX

set_option Elab.async false
set_option linter.all false
set_option maxRecDepth 100000
/-! BS7: contexts, readings of expressions one by one. -/
namespace BX
open PySem PySem.Spec PyProof.Rows L2

structure Cxt (T : Rt) (k : Nat) (N : List Str) (sc : Scope) (W : WX) (X : Cx) : Prop where
  prog : X.prog = T.P
  w : X.w = T.w
  K : X.K = T.K
  mg : X.mg = T.mg
  base : X.base = T.base
  xN : X.N = N
  nd : N.Nodup
  sc : X.env.scope = sc
  calm : X.calm = true
  room : Room k X.A
  tk : Takes X W
def visB (sc : Scope) (x : Str) : Bool := match sc.names.lookup x with
  | some .local => true
  | some .cell => true
  | some .free => true
  | _ => false
def glB (sc : Scope) (x : Str) : Bool := match sc.names.lookup x with
  | some .globalImplicit => true
  | _ => false
def dbB (x : Str) : Bool := !(x == "__debug__") && !(x == "__classdict__")
def nthB (N : List Str) (i : Nat) (x : Str) : Bool := match N[i]? with
  | some y => y == x
  | none => false
theorem nthB_ok {N : List Str} {i : Nat} {x : Str} (h : nthB N i x = true) : N[i]? = some x := by
  unfold nthB at h
  split at h
  · rename_i y e
    rw [e, beq_iff_eq.mp h]
  · cases h
/-- an expression in any place -/
def okE : Expr → Bool
  | .Starred .. => false
  | .Slice .. => false
  | .Set .. => false
  | .SetComp .. => false
  | .DictComp .. => false
  | .GeneratorExp .. => false
  | .NamedExpr .. => false
  | .Lambda .. => false
  | .Await .. => false
  | .Yield .. => false
  | .YieldFrom .. => false
  | _ => true
theorem okE_star {e : Expr} (h : okE e = true) (es : List Expr) (env : PySem.Env) : starEach (e :: es) env = (false, eval e env) :: starEach es env := by
  cases e <;> first | rfl | (simp [okE] at h; done)
theorem okE_ix {e : Expr} (h : okE e = true) : PlainIx e := by
  intro o i
  cases e <;> first | rfl | (simp [okE] at h; done)
theorem okE_bh {e : Expr} (h : okE e = true) (op : CmpOp) : behindInMarks op e = false := by
  cases e <;> first | rfl | (simp [okE] at h; done)
theorem okE_fs {e : Expr} (h : okE e = true) (env : PySem.Env) (x : Value) : foldedSetIterable e env x = pure x := by
  cases e <;> first | rfl | (simp [okE] at h; done)
def noCallB : Expr → Bool
  | .Call .. => false
  | _ => true
theorem noCall_ab {e : Expr} (h : noCallB e = true) (a : Str) (env : PySem.Env) (w : Sem Value) : attributeBase e a env w = w := by
  cases e <;> first | rfl | (simp [noCallB] at h; done)

section
variable {T : Rt} {k : Nat} {N : List Str} {sc : Scope} {W : WX} {X : Cx} {mu : List Nat}
theorem Cxt.vis (c : Cxt T k N sc W X) {x : Str} (h : visB sc x = true) : Vis X.env.scope x := by
  rw [c.sc]
  unfold visB at h
  unfold Vis
  split at h <;> first | (cases h; done) | (rename_i e; rw [e]; simp)
theorem Cxt.gl (c : Cxt T k N sc W X) {x : Str} (h : glB sc x = true) : Gl X x := by
  show X.env.scope.names.lookup x = some .globalImplicit
  rw [c.sc]
  unfold glB at h
  split at h
  · rename_i e
    exact e
  · cases h
theorem Cxt.u (c : Cxt T k N sc W X) : X.A.units + 65 < cLine := by have := c.room.un; omega
theorem db1 {x : Str} (h : dbB x = true) : (x == ("__debug__" : Str)) = false := by
  unfold dbB at h
  rw [Bool.and_eq_true] at h
  simpa using h.1
theorem db2 {x : Str} (h : dbB x = true) : (x == ("__classdict__" : Str)) = false := by
  unfold dbB at h
  rw [Bool.and_eq_true] at h
  simpa using h.2
/-! ### leaves -/
theorem rd_var (i : Nat) : RdE T mu N.length W (if i ∈ mu then 2 else 0) (tVar i) (getV i) := by
  intro E ρ σ G H μ st Q er hres
  unfold getV at hres
  cases e : ρ[i]? with
  | none => rw [e] at hres; exact hres.elim
  | some o =>
    cases o with
    | none => rw [e] at hres; exact hres.elim
    | some d =>
      rw [e] at hres
      by_cases hm : i ∈ mu
      · rw [if_pos hm] at hres
        obtain ⟨v, h1, h2⟩ := er.get e
        exact ⟨v, h1, hres v G H μ (Ev.refl _ _ _) er.w h2⟩
      · rw [if_neg hm] at hres
        obtain ⟨v, h1, h2⟩ := er.pl i d hm e
        exact ⟨v, h1, hres v G H μ (Ev.refl _ _ _) er.w (po_md0 h2)⟩
theorem rd_c {n : Nat} {md : Nat} {d : D} {v : V} (h : ∀ G H H' μ, Po T md H G H' μ d v) : RdE T mu n W md (tC v) (fun _ => ret d) := by
  intro E ρ σ G H μ st Q er hres
  exact hres v G H μ (Ev.refl _ _ _) er.w (h _ _ _ _)
/-! ### tests -/
theorem rd_test {n md : Nat} {t : TE} {f : Env → M D} (h : RdE T mu n W md t f) : RdT T mu n W (tB t) (fun ρ => bnd (f ρ) asB) := by
  intro E ρ σ G H μ st Q er hres
  refine h E ρ σ G H μ st _ er (hres.bnd.mono (fun x s1 h1 v1 G1 H1 μ1 e1 w1 p1 => ?_) fun c s1 h1 => h1)
  cases x with
  | bl b => exact ⟨b, po_bl p1, h1 G1 H1 μ1 e1 w1⟩
  | _ => exact h1.elim
theorem rd_notT {n : Nat} {t : TT} {f : Env → M Bool} (h : RdT T mu n W t f) : RdT T mu n W (tNot t) (fun ρ => bnd (f ρ) fun b => ret (!b)) := by
  intro E ρ σ G H μ st Q er hres
  exact h E ρ σ G H μ st _ er (hres.bnd.mono (fun x s1 h1 G1 H1 μ1 e1 w1 => h1 G1 H1 μ1 e1 w1) fun c s1 h1 => h1)
theorem WK.ev {G H G1 H1 : Hp} {μ μ1 : List Addr} {σ : St} {c : Xc} {s : Sto} (h : WK T W G H μ σ c s) (e : Ev G H μ G1 H1 μ1) : WK T W G1 H1 μ1 σ c s := fun G' H' μ' e' w' => h G' H' μ' (e.trans e') w'
theorem rd_andT {n : Nat} {t u : TT} {f g : Env → M Bool} (h : RdT T mu n W t f) (h' : RdT T mu n W u g) : RdT T mu n W (tAnd t u) (fun ρ => bnd (f ρ) fun b => if b then g ρ else ret false) := by
  intro E ρ σ G H μ st Q er hres
  refine h E ρ σ G H μ st _ er (hres.bnd.mono (fun b s1 h1 G1 H1 μ1 e1 w1 => ?_) fun c s1 h1 => h1)
  cases b with
  | false => exact h1 G1 H1 μ1 e1 w1
  | true => exact h' E ρ σ G1 H1 μ1 s1 Q (er.ev e1 w1) (Res.mono h1 (fun b2 s2 h2 G2 H2 μ2 e2 w2 => h2 G2 H2 μ2 (e1.trans e2) w2) fun c s2 h2 => WK.ev h2 e1)
theorem rd_orT {n : Nat} {t u : TT} {f g : Env → M Bool} (h : RdT T mu n W t f) (h' : RdT T mu n W u g) : RdT T mu n W (tOr t u) (fun ρ => bnd (f ρ) fun b => if b then ret true else g ρ) := by
  intro E ρ σ G H μ st Q er hres
  refine h E ρ σ G H μ st _ er (hres.bnd.mono (fun b s1 h1 G1 H1 μ1 e1 w1 => ?_) fun c s1 h1 => h1)
  cases b with
  | true => exact h1 G1 H1 μ1 e1 w1
  | false => exact h' E ρ σ G1 H1 μ1 s1 Q (er.ev e1 w1) (Res.mono h1 (fun b2 s2 h2 G2 H2 μ2 e2 w2 => h2 G2 H2 μ2 (e1.trans e2) w2) fun c s2 h2 => WK.ev h2 e1)
theorem RdT.congr {n : Nat} {t : TT} {f g : Env → M Bool} (h : RdT T mu n W t f) (e : ∀ ρ, f ρ = g ρ) : RdT T mu n W t g := by
  rw [show g = f from funext fun ρ => (e ρ).symm]
  exact h
/-! ### bools as values -/
theorem asB_bnd {α : Type} {x : D} {g : Bool → M α} {s : Sto} {kk : α → Sto → Prop} {xx : Xc → Sto → Prop} (h : Res (bnd (asB x) g s) kk xx) : ∃ b, x = .bl b ∧ Res (g b s) kk xx := by
  cases x with
  | bl b => exact ⟨b, rfl, h⟩
  | _ => exact h.elim
theorem asI_bnd {α : Type} {x : D} {g : Int → M α} {s : Sto} {kk : α → Sto → Prop} {xx : Xc → Sto → Prop} (h : Res (bnd (asI x) g s) kk xx) : ∃ b, x = .int b ∧ Res (g b s) kk xx := by
  cases x with
  | int b => exact ⟨b, rfl, h⟩
  | _ => exact h.elim
theorem rd_notV {n md : Nat} {t : TE} {f : Env → M D} (h : RdE T mu n W md t f) : RdE T mu n W 0 (tNotV t) (fun ρ => bnd (bnd (f ρ) asB) fun b => ret (.bl (!b))) := by
  intro E ρ σ G H μ st Q er hres
  simp only [bnd_assoc] at hres
  refine h E ρ σ G H μ st _ er (hres.bnd.mono (fun x s1 h1 v1 G1 H1 μ1 e1 w1 p1 => ?_) fun c s1 h1 => h1)
  obtain ⟨b, rfl, h2⟩ := asB_bnd h1
  exact ⟨b, po_bl p1, h2 (.bl (!b)) G1 H1 μ1 e1 w1 pk_bl⟩
theorem rd_andV {n ma : Nat} {t u : TE} {f g : Env → M D} (h : RdE T mu n W ma t f) (h' : RdE T mu n W 0 u g) : RdE T mu n W 0 (tAndV t u) (fun ρ => bnd (bnd (f ρ) asB) fun b => if b then g ρ else ret (.bl false)) := by
  intro E ρ σ G H μ st Q er hres
  simp only [bnd_assoc] at hres
  refine h E ρ σ G H μ st _ er (hres.bnd.mono (fun x s1 h1 v1 G1 H1 μ1 e1 w1 p1 => ?_) fun c s1 h1 => h1)
  obtain ⟨b, rfl, h2⟩ := asB_bnd h1
  refine ⟨b, po_bl p1, ?_⟩
  cases b with
  | false => exact h2 (.bl false) G1 H1 μ1 e1 w1 pk_bl
  | true => exact h' E ρ σ G1 H1 μ1 s1 Q (er.ev e1 w1) (Res.mono h2 (fun d s2 h2 v G2 H2 μ2 e2 w2 p2 => h2 v G2 H2 μ2 (e1.trans e2) w2 (p2.back e1.i)) fun c s2 h2 => WK.ev h2 e1)
theorem rd_orV {n ma : Nat} {t u : TE} {f g : Env → M D} (h : RdE T mu n W ma t f) (h' : RdE T mu n W 0 u g) : RdE T mu n W 0 (tOrV t u) (fun ρ => bnd (bnd (f ρ) asB) fun b => if b then ret (.bl true) else g ρ) := by
  intro E ρ σ G H μ st Q er hres
  simp only [bnd_assoc] at hres
  refine h E ρ σ G H μ st _ er (hres.bnd.mono (fun x s1 h1 v1 G1 H1 μ1 e1 w1 p1 => ?_) fun c s1 h1 => h1)
  obtain ⟨b, rfl, h2⟩ := asB_bnd h1
  refine ⟨b, po_bl p1, ?_⟩
  cases b with
  | true => exact h2 (.bl true) G1 H1 μ1 e1 w1 pk_bl
  | false => exact h' E ρ σ G1 H1 μ1 s1 Q (er.ev e1 w1) (Res.mono h2 (fun d s2 h2 v G2 H2 μ2 e2 w2 p2 => h2 v G2 H2 μ2 (e1.trans e2) w2 (p2.back e1.i)) fun c s2 h2 => WK.ev h2 e1)
theorem rd_if {n : Nat} {tc : TT} {t u : TE} {c : Env → M Bool} {f g : Env → M D} (hc : RdT T mu n W tc c) (h : RdE T mu n W 0 t f) (h' : RdE T mu n W 0 u g) : RdE T mu n W 0 (tIf tc t u) (fun ρ => bnd (c ρ) fun b => if b then f ρ else g ρ) := by
  intro E ρ σ G H μ st Q er hres
  refine hc E ρ σ G H μ st _ er (hres.bnd.mono (fun b s1 h1 G1 H1 μ1 e1 w1 => ?_) fun c s1 h1 => h1)
  cases b with
  | true => exact h E ρ σ G1 H1 μ1 s1 Q (er.ev e1 w1) (Res.mono h1 (fun d s2 h2 v G2 H2 μ2 e2 w2 p2 => h2 v G2 H2 μ2 (e1.trans e2) w2 (p2.back e1.i)) fun c s2 h2 => WK.ev h2 e1)
  | false => exact h' E ρ σ G1 H1 μ1 s1 Q (er.ev e1 w1) (Res.mono h1 (fun d s2 h2 v G2 H2 μ2 e2 w2 p2 => h2 v G2 H2 μ2 (e1.trans e2) w2 (p2.back e1.i)) fun c s2 h2 => WK.ev h2 e1)
/-! ### argument lists, displays -/
theorem rd_nil {n : Nat} : RdA T mu n W tNil (fun _ => ret []) := by
  intro E ρ σ G H μ st Q er hres
  exact hres [] G H μ (Ev.refl _ _ _) er.w RpL.nil
theorem po_rp0 {H G H' : Hp} {μ : List Addr} {d : D} {v : V} (h : Po T 0 H G H' μ d v) : Rp T.K G μ d v := by cases d <;> exact h
theorem rd_cons {n : Nat} {t : TE} {u : TA} {f : Env → M D} {g : Env → M (List D)} (h : RdE T mu n W 0 t f) (h' : RdA T mu n W u g) : RdA T mu n W (tCons t u) (fun ρ => bnd (f ρ) fun d => bnd (g ρ) fun ds => ret (d :: ds)) := by
  intro E ρ σ G H μ st Q er hres
  refine h E ρ σ G H μ st _ er (hres.bnd.mono (fun d s1 h1 v1 G1 H1 μ1 e1 w1 p1 => ?_) fun c s1 h1 => h1)
  refine h' E ρ σ G1 H1 μ1 s1 _ (er.ev e1 w1) (h1.bnd.mono (fun ds s2 h2 vs G2 H2 μ2 e2 w2 p2 => ?_) fun c s2 h2 => WK.ev h2 e1)
  exact h2 (v1 :: vs) G2 H2 μ2 (e1.trans e2) w2 (RpL.cons (e2.rp (po_rp0 p1)) p2)
theorem rd_lst {n : Nat} {u : TA} {g : Env → M (List D)} (h : RdA T mu n W u g) : RdE T mu n W 1 (tLst u) (fun ρ => bnd (g ρ) mkL) := by
  intro E ρ σ G H μ st Q er hres
  refine h E ρ σ G H μ st _ er (hres.bnd.mono (fun ds s1 h1 vs G1 H1 μ1 e1 w1 p1 => ?_) fun c s1 h1 => h1)
  unfold mkL at h1
  split at h1
  · rename_i hz
    have hz' : vs.length ≤ LIM := by rw [← p1.length]; exact hz
    refine ⟨by rw [limS]; exact hz', fun p hp => ?_⟩
    obtain ⟨e2, w2⟩ := new_lst w1 hp vs
    exact h1 _ _ _ _ (e1.trans e2) w2 ((po_new w1.gh hp hz' p1).back e1.i)
  · exact h1.elim
theorem rd_tup {n : Nat} {u : TA} {g : Env → M (List D)} (h : RdA T mu n W u g) : RdE T mu n W 1 (tTupN u) (fun ρ => bnd (g ρ) mkT) := by
  intro E ρ σ G H μ st Q er hres
  refine h E ρ σ G H μ st _ er (hres.bnd.mono (fun ds s1 h1 vs G1 H1 μ1 e1 w1 p1 => ?_) fun c s1 h1 => h1)
  unfold mkT at h1
  split at h1
  · rename_i hz
    have hz' : vs.length ≤ LIM := by rw [← p1.length]; exact hz
    refine ⟨by rw [limS]; exact hz', fun p o hp ho => ?_⟩
    obtain ⟨e2, w2, r2⟩ := new_tup w1 hp ho hz' p1
    exact h1 _ _ _ _ (e1.trans e2) w2 r2
  · exact h1.elim
/-! ### operators -/
def boP : BO → Operator
  | .add => .Add
  | .sub => .Sub
  | .mul => .Mult
  | .mod => .Mod
  | .fdiv => .FloorDiv
def coP : CO → CmpOp
  | .eq => .Eq
  | .ne => .NotEq
  | .lt => .Lt
  | .le => .LtE
  | .gt => .Gt
  | .ge => .GtE
  | .isin => .In
  | .notin => .NotIn
  | .is_ => .Is
  | .isnot => .IsNot
theorem bo_rule (c : Cxt T k N sc W X) (o : BO) : ∃ r, OpR X (binaryOp (boP o)) r ∧ RdO T 1 r (opD o) := by
  have eK := c.K
  cases o with
  | add => exact ⟨rAdd X.K, p_add, by rw [eK]; exact o_add⟩
  | sub => exact ⟨_, op_sub, o_sub⟩
  | mul => exact ⟨rMul X.K, p_mul, by rw [eK]; exact o_mul⟩
  | mod => exact ⟨_, op_modN, o_mod⟩
  | fdiv => exact ⟨_, op_fdivN, o_fdiv⟩
theorem co_rule (c : Cxt T k N sc W X) (o : CO) : ∃ r, OpR X (compareOp (coP o)) r ∧ RdO T 1 r (cmpD o) := by
  have eK := c.K
  have hu := c.u
  cases o with
  | eq => exact ⟨rEqN X.K false, op_eqD (by omega), by rw [eK]; exact o_eq false⟩
  | ne => exact ⟨rEqN X.K true, op_neD (by omega), by rw [eK]; exact o_eq true⟩
  | lt => exact ⟨rLt X.K, p_lt hu, by rw [eK]; exact o_lt⟩
  | le => exact ⟨_, op_le, o_le⟩
  | gt => exact ⟨rGt X.K, p_gt hu, by rw [eK]; exact o_gt⟩
  | ge => exact ⟨_, op_ge, o_ge⟩
  | isin => exact ⟨rInA X.K false, p_inA hu, by rw [eK]; exact o_in false⟩
  | notin => exact ⟨rInA X.K true, p_notInA hu, by rw [eK]; exact o_in true⟩
  | is_ => exact ⟨rIs false, p_is, o_is false⟩
  | isnot => exact ⟨rIs true, p_isnot, o_is true⟩
theorem rd_neg {n md : Nat} {t : TE} {f : Env → M D} (h : RdE T mu n W md t f) : RdE T mu n W 0 (tUn (rU fun i => .int (-i)) t) (fun ρ => bnd (f ρ) fun x => bnd (asI x) fun i => ret (.int (-i))) := by
  intro E ρ σ G H μ st Q er hres
  refine h E ρ σ G H μ st _ er (hres.bnd.mono (fun x s1 h1 v1 G1 H1 μ1 e1 w1 p1 => ?_) fun c s1 h1 => h1)
  obtain ⟨i, rfl, h2⟩ := asI_bnd h1
  exact ⟨i, po_int p1, h2 (.int (-i)) G1 H1 μ1 e1 w1 pk_int⟩
theorem RdO.zero {md : Nat} {r : R2} {g : D → D → M D} (hm : md ≤ 1) (h : RdO T md r g) : ∀ {n ma mb : Nat} {ta tb : TE} {fa fb : Env → M D}, RdE T mu n W ma ta fa → RdE T mu n W mb tb fb →
    RdE T mu n W 0 (tOp r ta tb) (fun ρ => bnd (fa ρ) fun x => bnd (fb ρ) fun y => g x y) := fun ha hb => (rd_op ha hb h).zero hm
theorem rd_chn {n ma mb mc : Nat} {r r' : R2} {g g' : D → D → M D} {ta tb tc : TE} {fa fb fc : Env → M D} (ha : RdE T mu n W ma ta fa) (hb : RdE T mu n W mb tb fb) (hc : RdE T mu n W mc tc fc) (hr : RdO T 1 r g) (hr' : RdO T 1 r' g') :
    RdE T mu n W 1 (tChain r r' ta tb tc) (fun ρ => bnd (fa ρ) fun x => bnd (fb ρ) fun y => bnd (bnd (g x y) asB) fun k => if k then bnd (fc ρ) fun z => g' y z else ret (.bl false)) := by
  intro E ρ σ G H μ st Q er hres
  refine ha E ρ σ G H μ st _ er (hres.bnd.mono (fun x s1 h1 v1 G1 H1 μ1 e1 w1 p1 => ?_) fun c s1 h1 => h1)
  refine hb E ρ σ G1 H1 μ1 s1 _ (er.ev e1 w1) (h1.bnd.mono (fun y s2 h2 v2 G2 H2 μ2 e2 w2 p2 => ?_) fun c s2 h2 => WK.ev h2 e1)
  rw [bnd_assoc] at h2
  refine hr x y v1 v2 G2 H2 μ2 s2 _ w2 ((p1.two w1.gh).later e2).any (p2.two w2.gh).any (h2.bnd.mono (fun d s3 h3 v G3 H3 e3 w3 p3 => ?_) fun _ _ _ => trivial)
  obtain ⟨b, rfl, h4⟩ := asB_bnd h3
  refine ⟨b, po_bl p3, ?_⟩
  have e13 := (e1.trans e2).trans e3
  cases b with
  | false => exact h4 (.bl false) G3 H3 μ2 e13 w3 pk_bl
  | true =>
    refine hc E ρ σ G3 H3 μ2 s3 _ (er.ev e13 w3) (Res.bnd h4 |>.mono (fun z s4 h5 v4 G4 H4 μ4 e4 w4 p4 => ?_) fun c s4 h5 => WK.ev h5 e13)
    refine hr' y z v2 v4 G4 H4 μ4 s4 Q w4 (Po.later (H := H2) (Po.any (H2 := H2) ((p2.two w2.gh).later e3)) e4).any (p4.two w4.gh).any (h5.mono (fun d s5 h6 v G' H' e5 w5 p5 => ?_) fun _ _ _ => trivial)
    exact h6 v G' H' μ4 ((e13.trans e4).trans e5) w5 (p5.back (e13.trans e4).i)
/-! ### slices -/
def RdP (T : Rt) (mu : List Nat) (n : Nat) (W : WX) (t : TO) (f : Env → M (Option Int)) : Prop := ∀ (E : EW) (ρ : Env) (σ : St) (G H : Hp) (μ : List Addr) (st : Sto) (Q : Option Int → Hp → Prop), Er T mu n E ρ σ G H μ st →
  Res (f ρ st) (fun d st' => ∀ G' H' μ', Ev G H μ G' H' μ' → WOk T G' H' μ' st' → Q d H') (WK T W G H μ σ) → t σ H Q
theorem rd_pnone {n : Nat} : RdP T mu n W tNoPart (fun _ => ret none) := by
  intro E ρ σ G H μ st Q er hres
  exact hres G H μ (Ev.refl _ _ _) er.w
theorem rd_psome {n md : Nat} {t : TE} {f : Env → M D} (h : RdE T mu n W md t f) : RdP T mu n W (tPart t) (fun ρ => bnd (f ρ) fun d => bnd (asI d) fun i => ret (some i)) := by
  intro E ρ σ G H μ st Q er hres
  refine h E ρ σ G H μ st _ er (hres.bnd.mono (fun x s1 h1 v1 G1 H1 μ1 e1 w1 p1 => ?_) fun c s1 h1 => h1)
  obtain ⟨i, rfl, h2⟩ := asI_bnd h1
  exact ⟨i, po_int p1, h2 G1 H1 μ1 e1 w1⟩
theorem rd_sl {n md : Nat} {t : TE} {tl th : TO} {f : Env → M D} {fl fh : Env → M (Option Int)} (h : RdE T mu n W md t f) (hl : RdP T mu n W tl fl) (hh : RdP T mu n W th fh) :
    RdE T mu n W 1 (tSl (rSl T.K) t tl th) (fun ρ => bnd (f ρ) fun x => bnd (fl ρ) fun l => bnd (fh ρ) fun u => slD x l u) := by
  intro E ρ σ G H μ st Q er hres
  refine h E ρ σ G H μ st _ er (hres.bnd.mono (fun x s1 h1 v1 G1 H1 μ1 e1 w1 p1 => ?_) fun c s1 h1 => h1)
  refine hl E ρ σ G1 H1 μ1 s1 _ (er.ev e1 w1) (h1.bnd.mono (fun l s2 h2 G2 H2 μ2 e2 w2 => ?_) fun c s2 h2 => WK.ev h2 e1)
  refine hh E ρ σ G2 H2 μ2 s2 _ (er.ev (e1.trans e2) w2) (h2.bnd.mono (fun u s3 h3 G3 H3 μ3 e3 w3 => ?_) fun c s2 h2 => WK.ev h2 (e1.trans e2))
  have e13 := (e1.trans e2).trans e3
  refine o_sl l u x v1 G3 H3 μ3 s3 Q w3 ((p1.two w1.gh).later (e2.trans e3)).any (h3.mono (fun d s4 h4 v G' H' e4 w4 p4 => ?_) fun _ _ _ => trivial)
  exact h4 v G' H' μ3 (e13.trans e4) w4 (p4.back e13.i)
end
end BX

set_option Elab.async false
set_option linter.all false
set_option maxRecDepth 100000
/-! BO1: objects: attributes read, methods called, instances made. -/
namespace BX
open PySem PySem.Spec PyProof.Rows L2
variable {T : Rt} {mu : List Nat} {n : Nat} {W : WX}
theorem at_nodup : AT.Nodup := by decide
theorem at_inj {i j : Nat} {x : Str} (h : AT[i]? = some x) (h' : AT[j]? = some x) : i = j :=
  (List.getElem?_inj (List.getElem?_eq_some_iff.mp h).1 at_nodup).mp (h.trans h'.symm)
theorem nd_len {α : Type} [DecidableEq α] : ∀ (l D : List α), l.Nodup → (∀ x ∈ l, x ∈ D) → l.length ≤ D.length
  | [], _, _, _ => Nat.zero_le _
  | x :: l, D, hn, hs => by
    obtain ⟨h1, h2⟩ := List.nodup_cons.mp hn
    have hx : x ∈ D := hs x List.mem_cons_self
    have ih := nd_len l (D.erase x) h2 fun y hy => (List.mem_erase_of_ne fun e => h1 (by rw [← e]; exact hy)).2 (hs y (List.mem_cons_of_mem _ hy))
    have e := List.length_erase_of_mem hx
    have hp : 0 < D.length := List.length_pos_of_mem hx
    rw [List.length_cons]
    omega
theorem at_mem {i : Nat} {x : Str} (h : AT[i]? = some x) : x ∈ AT := List.mem_of_getElem? h
section
variable {K : PySem.W.Frag} {G : Hp} {μ : List Addr}
theorem fs_look {k : Nat} {x : Str} (hx : AT[k]? = some x) : ∀ {fs : List (Nat × D)} {vs : List (Str × V)} {d : D}, FsOk K G μ fs vs → lookF k fs = some d → ∃ v, vs.lookup x = some v ∧ Rp K G μ d v
  | [], _, d, _, h => by simp [lookF] at h
  | (j, e) :: r, _, d, .cons (b := (y, u)) h1 h2, h => by
    unfold lookF at h
    obtain ⟨g1, g2⟩ := h1
    by_cases c : (j == k) = true
    · rw [if_pos c] at h
      cases h
      have c' : j = k := by simpa using c
      subst c'
      have : y = x := Option.some.inj (g1.symm.trans hx)
      subst this
      exact ⟨u, by simp [List.lookup], g2⟩
    · rw [if_neg c] at h
      have ne : (x == y) = false := by
        cases q : (x == y) with
        | false => rfl
        | true =>
          exfalso
          apply c
          have e2 : x = y := by simpa using q
          subst e2
          simpa using at_inj g1 hx
      obtain ⟨v, v1, v2⟩ := fs_look hx (fs := r) h2 h
      exact ⟨v, by rw [List.lookup_cons, ne]; exact v1, v2⟩
theorem fs_no {m : Str} (hm : m ∉ AT) : ∀ {fs : List (Nat × D)} {vs : List (Str × V)}, FsOk K G μ fs vs → vs.lookup m = none
  | [], _, .nil => rfl
  | (j, e) :: r, _, .cons (b := (y, u)) h1 h2 => by
    have ne : (m == y) = false := by
      cases q : (m == y) with
      | false => rfl
      | true =>
        have e2 : m = y := by simpa using q
        subst e2
        exact absurd (at_mem h1.1) hm
    rw [List.lookup_cons, ne]
    exact fs_no hm h2
theorem fs_put {k : Nat} {x : Str} (hx : AT[k]? = some x) {d : D} {v : V} (hv : Rp K G μ d v) : ∀ {fs : List (Nat × D)} {vs : List (Str × V)}, FsOk K G μ fs vs → FsOk K G μ (putFd k d fs) (putF x v vs)
  | [], _, .nil => .cons ⟨hx, hv⟩ .nil
  | (j, e) :: r, _, .cons (b := (y, u)) (l₂ := l) h1 h2 => by
    unfold putFd
    show FsOk K G μ _ (if y = x then (y, v) :: l else (y, u) :: putF x v l)
    by_cases c : (j == k) = true
    · have c' : j = k := by simpa using c
      subst c'
      have : y = x := Option.some.inj (h1.1.symm.trans hx)
      rw [if_pos c, if_pos this]
      exact .cons ⟨h1.1, hv⟩ h2
    · have ne : ¬ y = x := fun e2 => c (by subst e2; simpa using at_inj h1.1 hx)
      rw [if_neg c, if_neg ne]
      exact .cons h1 (fs_put hx hv h2)
theorem putFd_mem {k : Nat} {d : D} : ∀ {fs : List (Nat × D)} {j : Nat}, j ∈ (putFd k d fs).map Prod.fst → j = k ∨ j ∈ fs.map Prod.fst
  | [], j, h => by simpa [putFd] using h
  | (i, e) :: r, j, h => by
    unfold putFd at h
    by_cases c : (i == k) = true
    · rw [if_pos c] at h
      simp only [List.map_cons, List.mem_cons] at h ⊢
      exact .inr h
    · rw [if_neg c] at h
      simp only [List.map_cons, List.mem_cons] at h ⊢
      rcases h with h | h
      · exact .inr (.inl h)
      · rcases putFd_mem h with z | z
        · exact .inl z
        · exact .inr (.inr z)
theorem putFd_nd {k : Nat} {d : D} : ∀ {fs : List (Nat × D)}, (fs.map Prod.fst).Nodup → ((putFd k d fs).map Prod.fst).Nodup
  | [], _ => by simp [putFd]
  | (i, e) :: r, h => by
    simp only [List.map_cons] at h
    obtain ⟨h1, h2⟩ := List.nodup_cons.mp h
    unfold putFd
    by_cases c : (i == k) = true
    · rw [if_pos c]
      simp only [List.map_cons]
      exact List.nodup_cons.mpr ⟨h1, h2⟩
    · rw [if_neg c]
      simp only [List.map_cons]
      refine List.nodup_cons.mpr ⟨fun z => ?_, putFd_nd h2⟩
      rcases putFd_mem z with q | q
      · exact c (by simp [q])
      · exact h1 q
theorem fs_len : ∀ {fs : List (Nat × D)} {vs : List (Str × V)}, FsOk K G μ fs vs → vs.length = fs.length ∧ ∀ j ∈ fs.map Prod.fst, j < AT.length
  | [], _, .nil => ⟨rfl, fun j h => by cases h⟩
  | (j, e) :: r, _, .cons h1 h2 => by
    obtain ⟨g1, g2⟩ := fs_len h2
    refine ⟨by simp [g1], fun i hi => ?_⟩
    simp only [List.map_cons, List.mem_cons] at hi
    rcases hi with rfl | hi
    · exact (List.getElem?_eq_some_iff.mp h1.1).1
    · exact g2 i hi
theorem fs_few {fs : List (Nat × D)} {vs : List (Str × V)} (h : FsOk K G μ fs vs) (nd : (fs.map Prod.fst).Nodup) : vs.length < 1000 := by
  obtain ⟨h1, h2⟩ := fs_len h
  have this : ∀ (l : List Nat), l.Nodup → (∀ j ∈ l, j < AT.length) → l.length ≤ AT.length := fun l hn hl => by
    have := nd_len l (List.range AT.length) hn fun j hj => List.mem_range.mpr (hl j hj)
    rwa [List.length_range] at this
  have h3 := this _ nd h2
  rw [List.length_map] at h3
  have : AT.length = 15 := rfl
  omega
end
/-! ### the object at a place of the store -/
theorem w_obj {G H : Hp} {μ : List Addr} {st : Sto} {i : Nat} {ob : Ob} (w : WOk T G H μ st) (h : st[i]? = some ob) : ∃ a dx fs, μ[i]? = some a ∧ G a = none ∧ H a = some (.ins (T.co ob.cls) dx fs) ∧ FsOk T.K G μ ob.fs fs ∧ OkCl T.K (T.co ob.cls) ∧ (ob.fs.map Prod.fst).Nodup := by
  have hl := (List.getElem?_eq_some_iff.mp h).1
  rw [← w.len] at hl
  have ha : μ[i]? = some μ[i] := List.getElem?_eq_getElem hl
  obtain ⟨g, dx, fs, h1, h2⟩ := w.obj i _ ob h ha
  obtain ⟨o1, o2⟩ := w.so ob (List.mem_of_getElem? h)
  exact ⟨_, dx, fs, ha, g, h1, h2, o1, o2⟩
theorem getF_ok {k i : Nat} {s : Sto} {kk : D → Sto → Prop} {x : Xc → Sto → Prop} (h : Res (getF k (.obj i) s) kk x) : ∃ ob d, s[i]? = some ob ∧ lookF k ob.fs = some d ∧ kk d s := by
  unfold getF at h
  cases es : s[i]? with
  | none => simp only [es] at h; exact h.elim
  | some ob =>
    cases el : lookF k ob.fs with
    | none => simp only [es, el] at h; exact h.elim
    | some d => simp only [es, el] at h; exact ⟨ob, d, rfl, el, h⟩
/-- e.x -/
theorem rd_at {md k : Nat} {x : Str} {t : TE} {f : Env → M D} (hx : AT[k]? = some x) (h : RdE T mu n W md t f) : RdE T mu n W 0 (tFld T.K t x) (fun ρ => bnd (f ρ) (getF k)) := by
  intro E ρ σ G H μ st Q er hres
  refine h E ρ σ G H μ st _ er (hres.bnd.mono (fun o s1 h1 v1 G1 H1 μ1 e1 w1 p1 => ?_) fun c s1 h1 => h1)
  cases o with
  | obj i =>
    obtain ⟨a, rfl, ha⟩ := po_obj p1
    obtain ⟨ob, d, es, el, h2⟩ := getF_ok h1
    obtain ⟨a', dx, fs, ha', g, q1, q2, q3, q4⟩ := w_obj w1 es
    rw [ha] at ha'
    cases ha'
    obtain ⟨v, v1, v2⟩ := fs_look hx q2 el
    exact ⟨a, _, dx, fs, v, rfl, q1, q3.cls, q3.no x (at_mem hx), v1, h2 v G1 H1 μ1 e1 w1 (po_md0 v2)⟩
  | _ => exact h1.elim
/-! ### methods -/
theorem ht_of {o : Expr} {m : Str} {apos pos : Pos} {args : List Expr} {env : PySem.Env} (hb : attributeBase o m env (eval o env) = eval o env) (hf : methodCallForm (args.length + ([] : List Keyword).length) (backTo pos (starEach args env)) (backToKw pos (keywordEach [] env)) = true) (hl : (apos.endLine == pos.line) = true) :
    eval (.Call (.Attribute o m apos) args [] pos) env = (do
      let ov ← eval o env
      standAt apos.atName
      let (f, first) ← holding [ov] (getMethod ov m (do return (← importBound o env).getD true))
      callWith pos f first (backTo pos (starEach args env)) (backToKw pos (keywordEach [] env))) := by
  rw [arm_eval_Call, hb]
  unfold methodCall
  rw [hf]
  unfold calleeOf methodCallPos
  have e : ((!true || apos.endLine == pos.line) = true) := by rw [hl]; rfl
  rw [if_pos e]
  rfl
def tMeO (C : Addr) (m : Str) (sp : Sp) (E : St → XK) (ta : TE) (t : TA) : TE := fun σ H Q => ta σ H fun x H1 => ∃ a dx fs, x = .ref a ∧ H1 a = some (.ins C dx fs) ∧ fs.lookup m = none ∧ t σ H1 fun vs H2 => sp (x :: vs) H2 Q (E σ)
section
variable {X : Cx} {k : Nat} {f C : Addr} {fd : FuncData} {ps : List Str} {sp : Sp} {E : St → XK} {m x : Str} {p pos apos : Pos} {e o : Expr} {es : List Expr} {ta : TE} {t : TA}
theorem pe_meO (he : PE X o ta) (c : Cls X.K C) (hm : Meth X.K C m f) (F : FnOk X.prog X.w X.K X.mg X.base (L2.CX X.prog X.w) k f fd ps sp) (hr : Room k X.A) (hb : Binds X.K fd ps []) (hx : ∀ σ, PassesAt (L2.CX X.prog X.w) X σ (E σ)) (ha : PA X (e :: es) t)
    (hst : starEach (e :: es) X.env = (false, eval e X.env) :: starEach es X.env) (hpl : (backTo pos (starEach es X.env)).any (·.1) = false)
    (hba : attributeBase o m X.env (eval o X.env) = eval o X.env) (hf : methodCallForm ((e :: es).length + ([] : List Keyword).length) (backTo pos (starEach (e :: es) X.env)) (backToKw pos (keywordEach [] X.env)) = true) (hl : (apos.endLine == pos.line) = true) :
    PE X (.Call (.Attribute o m apos) (e :: es) [] pos) (tMeO C m sp E ta t) := by
  refine ⟨fun pins s σ H Q I h => ?_⟩
  refine PySem.W.methodCall_KW (thn (he.run pins s σ H _ I h) fun u s1 ⟨x, H1, I1, rx, a, dx, fs, ex, ea, l, q⟩ => ?_) (ht_of hba hf hl)
  subst ex
  obtain rfl : u = Value.ref a := rx
  refine getmeth_ok I1 ea c hm l ?_
  refine PySem.W.callWith_K (first := [.ref a]) (h₀ := X.base) I.ok.mod.kin hm.kp (thn (ha.run pos pins s1 σ H1 _ I1 q) fun us s2 ⟨vs, H2, I2, r, q2⟩ => ⟨I2.kIn, ?_⟩) hst hpl
  exact run_fnS (us := .ref a :: us) (vs := .ref a :: vs) F hr hb (hx σ) I2 (.cons rfl r) q2
theorem pe_meO0 (he : PE X o ta) (c : Cls X.K C) (hm : Meth X.K C m f) (F : FnOk X.prog X.w X.K X.mg X.base (L2.CX X.prog X.w) k f fd ps sp) (hr : Room k X.A) (hb : Binds X.K fd ps []) (hx : ∀ σ, PassesAt (L2.CX X.prog X.w) X σ (E σ))
    (hba : attributeBase o m X.env (eval o X.env) = eval o X.env) (hl : (apos.endLine == pos.line) = true) :
    PE X (.Call (.Attribute o m apos) [] [] pos) (tMeO C m sp E ta tNil) := by
  refine ⟨fun pins s σ H Q I h => ?_⟩
  refine PySem.W.methodCall_KW (thn (he.run pins s σ H _ I h) fun u s1 ⟨x, H1, I1, rx, a, dx, fs, ex, ea, l, q⟩ => ?_) (ht_of hba rfl hl)
  subst ex
  obtain rfl : u = Value.ref a := rx
  refine getmeth_ok I1 ea c hm l ?_
  exact PySem.W.callWith_K0 (first := [.ref a]) I1.kIn hm.kp (run_fnS (us := [.ref a]) (vs := [.ref a]) F hr hb (hx σ) I1 (.cons rfl .nil) q)
/-! ### a new instance -/
def tMkS (C : Addr) (sp : Sp) (E : St → XK) (t : TA) : TE := fun σ H Q => t σ H fun vs H1 => ∀ x dx, H1 x = none → H1 dx = none → dx ≠ x →
  sp (.ref x :: vs) (upd (upd H1 dx (.own x)) x (.ins C dx [])) (fun v H2 => v = .non ∧ Q (.ref x) H2) (E σ)
theorem run_mkS {pins : List (Addr × Obj)} {σ : St} {H : Hp} {s : Shared} {Q : VK} {us : List Value} {vs : List V} (Mk_ : Mk X.K C f) (F : FnOk X.prog X.w X.K X.mg X.base (L2.CX X.prog X.w) k f fd ps sp) (hr : Room (k + 1) X.A) (hb : Binds X.K fd ps []) (hx : ∀ σ, PassesAt (L2.CX X.prog X.w) X σ (E σ))
    (I : Inv X pins σ H s) (r : Vals vs us)
    (h : ∀ x dx, H x = none → H dx = none → dx ≠ x → sp (.ref x :: vs) (upd (upd H dx (.own x)) x (.ins C dx [])) (fun v H2 => v = .non ∧ Q (.ref x) H2) (E σ)) :
    wpAny (model X.prog X.w) X.A (call (.ref C) us) (EP X pins σ Q) X.xe s := by
  have hq := h (s.heap.objs.size + 1) s.heap.objs.size (I.hok.fresh (Nat.le_succ _)) (I.hok.fresh (Nat.le_refl _)) (Nat.ne_of_lt (Nat.lt_succ_self _))
  have J := Inv.made (C := C) I
  have r2 : Vals (V.ref (s.heap.objs.size + 1) :: vs) (Value.ref (s.heap.objs.size + 1) :: us) := .cons rfl r
  have hlen : (Value.ref (s.heap.objs.size + 1) :: us).length = ps.length := by rw [← F.len _ _ _ _ hq]; exact r2.length.symm
  have bd := hb _ (Value.ref (s.heap.objs.size + 1) :: us) J.kIn (by rw [List.append_nil]; exact hlen)
  rw [List.append_nil] at bd
  refine wpAny_call (make_map (f := f) I.kIn Mk_.makes Mk_.init (beq_iff_eq.mp Mk_.fn) (codeAny_mono (F.run _ X.stack _ _ ⟨Value.ref (s.heap.objs.size + 1) :: us, []⟩ _ _ _ (E σ) (hr.make C us []) (J.env0.make C us []) bd r2 hq) fun rr s' hq' => ?_))
  cases rr with
  | error e => exact hx σ pins _ _ e s' J hq'
  | ok fl =>
    cases fl with
    | ret u =>
      obtain ⟨v, H', I3, rv, ev, q3⟩ := J.after hq'
      subst ev
      exact ⟨rv, ⟨V.ref (s.heap.objs.size + 1), H', I3, rfl, q3⟩⟩
    | _ => exact False.elim hq'
theorem pe_mkS (Mk_ : Mk X.K C f) (F : FnOk X.prog X.w X.K X.mg X.base (L2.CX X.prog X.w) k f fd ps sp) (hr : Room (k + 1) X.A) (hg : Gl X x) (hm : X.mg x = some (.ref C)) (hb : Binds X.K fd ps []) (hx : ∀ σ, PassesAt (L2.CX X.prog X.w) X σ (E σ)) (ha : PA X (e :: es) t)
    (hdb : (x == ("__debug__" : Str)) = false) (he : starEach (e :: es) X.env = (false, eval e X.env) :: starEach es X.env) (hpl : (backTo pos (starEach es X.env)).any (·.1) = false) :
    PE X (.Call (.Name x p) (e :: es) [] pos) (tMkS C sp E t) := by
  refine ⟨fun pins s σ H Q I h => ?_⟩
  refine wpAny_Call_Name_kw (ld_glob I hg hm ?_ hdb)
  refine PySem.W.callWith_K (h₀ := X.base) I.ok.mod.kin Mk_.kp (thn (ha.run pos pins s σ H _ I h) fun us s1 ⟨vs, H1, I1, r, q⟩ => ⟨I1.kIn, ?_⟩) he hpl
  exact run_mkS Mk_ F hr hb hx I1 r q
end
/-- the world with an instance more -/
theorem new_ins {G H : Hp} {μ : List Addr} {st : Sto} (w : WOk T G H μ st) {c : Nat} (hc : OkCl T.K (T.co c)) {x dx : Addr} (hx : H x = none) (hd : H dx = none) (ne : dx ≠ x) :
    Ev G H μ G (upd (upd H dx (.own x)) x (.ins (T.co c) dx [])) (μ ++ [x]) ∧ WOk T G (upd (upd H dx (.own x)) x (.ins (T.co c) dx [])) (μ ++ [x]) (st ++ [⟨c, []⟩]) := by
  have keep : ∀ b o, H b = some o → upd (upd H dx (.own x)) x (.ins (T.co c) dx []) b = some o := fun b o q => by
    rw [upd_ne (ne_of_none q hx), upd_ne (ne_of_none q hd)]; exact q
  have gx : G x = none := by
    cases q : G x with
    | none => rfl
    | some o => rw [w.gh x o q] at hx; cases hx
  have xm : x ∉ μ := fun z => by
    obtain ⟨i, hi, e⟩ := List.mem_iff_getElem.mp z
    have hl : i < st.length := by rw [← w.len]; exact hi
    obtain ⟨_, _, _, q, _⟩ := w.obj i x st[i] (List.getElem?_eq_getElem hl) (by rw [List.getElem?_eq_getElem hi, e])
    rw [hx] at q
    cases q
  have pr : Pre μ (μ ++ [x]) := ⟨[x], rfl⟩
  refine ⟨⟨Sub.refl _, pr, fun b o q _ => keep b o q, fun b o q => ⟨o, keep b o q⟩, fun b q _ => q⟩, ⟨fun ob hob => ?_, fun b o q => keep b o (w.gh b o q), ?_, by rw [List.length_append, List.length_append, w.len]; rfl, fun i a ob h1 h2 => ?_⟩⟩
  · rcases List.mem_append.mp hob with z | z
    · exact w.so ob z
    · rw [List.mem_singleton.mp z]
      exact ⟨hc, by simp⟩
  · rw [List.nodup_append]
    exact ⟨w.nd, by simp, fun a ha b hb => by rw [List.mem_singleton.mp hb]; exact fun e => xm (by rw [← e]; exact ha)⟩
  · by_cases hi : i < st.length
    · rw [List.getElem?_append_left hi] at h1
      rw [List.getElem?_append_left (by rw [w.len]; exact hi)] at h2
      obtain ⟨q1, dx', fs, q2, q3⟩ := w.obj i a ob h1 h2
      exact ⟨q1, dx', fs, keep _ _ q2, Paired.mapP q3 fun p q z => ⟨z.1, Rp.mono (Sub.refl _) pr _ _ z.2⟩⟩
    · rw [List.getElem?_append_right (by omega)] at h1
      rw [List.getElem?_append_right (by rw [w.len]; omega)] at h2
      have e1 : i - st.length = 0 := by
        have := (List.getElem?_eq_some_iff.mp h1).1
        simp at this
        omega
      rw [e1] at h1
      rw [w.len, e1] at h2
      cases h1
      cases h2
      exact ⟨gx, dx, [], by rw [upd_same], .nil⟩
end BX

set_option Elab.async false
set_option linter.all false
set_option maxRecDepth 100000
/-! BS8: sorted of lists, tuples. -/
namespace BX
open PySem PySem.Spec PyProof.Rows L2
open PySem.W (alike alikeAll dataLt keyToksAll keyToks AllAlike Sortable dataLe EachIs TotalLe sort_maps SortsAt sortingHeap sortingHeap_old each_map bound_map dataKind sortVals_length sortVals_data list_sort_vals)
section
variable {prog : Program} {w : World} {A : Around} {E : Value → Shared → Prop} {s : Shared}
theorem sorted_gen {it : Value} {Q : Value → Shared → Prop} {β : Type} {enc : β → PyData} {R : Value → β → Prop} (Cd : List Value → Shared → List β → Prop)
    (hc : ∀ (E' : Value → Shared → Prop) (Q' : List Value → Shared → Prop), (∀ cs s' bs, Cd cs s' bs → Q' cs s') → wpAny (model prog w) A.in1 (collect it) Q' E' s)
    (hd : ∀ cs s' bs, Cd cs s' bs → EachIs R cs bs ∧ EachIs (fun v b => ∃ as, Reads s'.heap v (enc b) as) cs bs ∧ AllAlike (bs.map enc) ∧ Sortable (bs.map enc) ∧ bs.length ≤ sizeLine ∧ ∀ b, b ∈ bs → A.units + 2 + (enc b).depth < cLine)
    (h : ∀ cs s' bs, Cd cs s' bs → ∀ out h' a n, (∀ b o, s'.heap.get? b = some o → h'.get? b = some o) → s'.heap.objs.size ≤ a → h'.get? a = some (seqObj "list" (List.toArray out) n) → out.length = bs.length → EachIs R out (bs.mergeSort (dataLe false enc)) → Q (.ref a) { s' with heap := h' }) :
    wpAny (model prog w) A (call (.builtin "sorted") [it]) Q E s := by
  refine Calls.call_function_entry kind_sorted plain_sorted entry_sorted (args_sorted1 _) ?_
  unfold Builtin.«sorted»
  refine wpAny_bind (m := checkCount "sorted" 1 1 _) (wpAny_pure ?_)
  refine wpAny_bind (hc _ _ fun cs s' bs cd => ?_)
  obtain ⟨e, er, hal, hk, hL, hu⟩ := hd cs s' bs cd
  have hfin := h cs s' bs cd
  have hz : cs.length ≤ sizeLine := by rw [e.length]; exact hL
  refine wpAny_bind (wpAny_newList ?_ hz)
  have ho : (s'.heap.push (seqObj "list" cs.toArray 0)).get? s'.heap.objs.size = some (seqObj "list" cs.toArray 0) := Heap.get?_push_size _ rfl
  have old : ∀ b o, s'.heap.get? b = some o → (sortingHeap (s'.heap.push (seqObj "list" cs.toArray 0)) s'.heap.objs.size cs).get? b = some o := fun b o q =>
    sortingHeap_old (Nat.ne_of_lt (Heap.lt_size q)) (Heap.get?_push_of_some _ q)
  have er' : EachIs (fun v b => ∃ as, Reads (sortingHeap (s'.heap.push (seqObj "list" cs.toArray 0)) s'.heap.objs.size cs) v (enc b) as) cs bs := er.mono fun _ _ ⟨as, r⟩ => ⟨as, PyProof.Rows.Reads.keeps old r⟩
  show wpAny _ _ _ _ _ { s' with heap := s'.heap.push (seqObj "list" cs.toArray 0) }
  refine wpAny_bind (wpAny_holding (wpAny_call_entry slot_list_sort ⟨_, ho, rfl⟩ entry_list_sort ?body (args_list_sort _)))
  case body =>
    refine list_sort_vals (s := { s' with heap := s'.heap.push (seqObj "list" cs.toArray 0) }) (κ := dataKind (sortingHeap (s'.heap.push (seqObj "list" cs.toArray 0)) s'.heap.objs.size cs) (bs.map enc)) ho
      (SortsAt.data (s := { s' with heap := sortingHeap (s'.heap.push (seqObj "list" cs.toArray 0)) s'.heap.objs.size cs }) (each_map (R := fun v d => ∃ as, Reads (sortingHeap (s'.heap.push (seqObj "list" cs.toArray 0)) s'.heap.objs.size cs) v d as) enc er') hal hk (bound_map hu))
      hz ⟨.none, rfl, wpAny_pure ⟨_, rfl, ?_⟩⟩
    obtain ⟨ep, he'⟩ := sortedHeap_at (vs := cs) (out := (PySem.W.sortVals (dataKind (sortingHeap (s'.heap.push (seqObj "list" cs.toArray 0)) s'.heap.objs.size cs) (bs.map enc)) false cs cs).toArray) ho
    refine hfin _ _ _ ep (fun b o q => ?_) (Nat.le_refl _) he' (by rw [sortVals_length false rfl]; exact e.length) (sortVals_data false e er' hal)
    rw [sortedHeap_old (Nat.ne_of_lt (Heap.lt_size q)) (by rw [size_push']; exact Nat.lt_succ_of_lt (Heap.lt_size q))]
    exact Heap.get?_push_of_some _ q
end
/-- sorted(xs), xs a list or a tuple -/
def rSortS (K : PySem.W.Frag) : List V → Hp → VK → Prop := fun vs H Q => ∃ (a : Addr) (xs : List V) (ps : List PyData), vs = [.ref a] ∧ (SqL K H a xs ∨ SqT K H a xs) ∧ DpAll K H xs ps ∧ AllAlike ps ∧ Sortable ps ∧ (∀ d ∈ ps, d.depth ≤ 60) ∧ xs.length ≤ sizeLine ∧
  ∀ p, H p = none → Q (.ref p) (upd H p (.lst (((xs.zip ps).mergeSort (dataLe false Prod.snd)).map Prod.fst)))
section
variable {X : Cx} {pins : List (Addr × Obj)} {σ : L2.St} {H : Hp} {s : Shared}
theorem p_sortS (hu : X.A.units + 65 < cLine) : CallR X (.builtin "sorted") (rSortS X.K) := by
  intro pins s σ H vs us Q I r h
  obtain ⟨a, xs, ps, rfl, hs, hd, al, so, dp, hz, q⟩ := h
  rw [Vals.ref1 r]
  obtain ⟨its, rv, hcol⟩ : ∃ its, Vals xs its ∧ ∀ (A : Around) (E : Value → Shared → Prop) (Q' : List Value → Shared → Prop), (∀ h', (∀ b o', s.heap.get? b = some o' → h'.get? b = some o') → Q' its { s with heap := h' }) → wpAny (model X.prog X.w) A (collect (.ref a)) Q' E s := by
    rcases hs with hs | hs
    · obtain ⟨its, rv, hl, hz2⟩ := I.list hs
      obtain ⟨o, ho, hc, n, hd⟩ := hl.isList
      refine ⟨its, rv, fun A E Q' hq => ?_⟩
      refine wpAny_collect_seq a (.inl rfl) ho hc hd (fun h' hk => ?_) (by rw [List.size_toArray, ← rv.length]; exact hz)
      have := hq h' hk
      simpa using this
    · obtain ⟨its, rv, hl, hz2⟩ := I.tuple hs
      obtain ⟨o, ho, hc, n, hd⟩ := hl
      refine ⟨its, rv, fun A E Q' hq => ?_⟩
      refine wpAny_collect_seq a (.inr rfl) ho hc hd (fun h' hk => ?_) (by rw [List.size_toArray, ← rv.length]; exact hz)
      have := hq h' hk
      simpa using this
  have hlen := dpAll_len hd
  have hzip : (xs.zip ps).length = xs.length := by rw [List.length_zip]; omega
  have e2 : (xs.zip ps).map Prod.snd = ps := zip_snd hlen
  refine sorted_gen (enc := Prod.snd) (R := fun v (b : V × PyData) => RelV b.1 v) (fun cs s' bs => cs = its ∧ bs = xs.zip ps ∧ ∃ h', (∀ b o', s.heap.get? b = some o' → h'.get? b = some o') ∧ s' = { s with heap := h' })
    (fun E' Q' hq => hcol _ _ _ fun h' hk => hq _ _ _ ⟨rfl, rfl, h', hk, rfl⟩) (fun cs s' bs hcd => ?_) (fun cs s' bs hcd out h' p n k1 k2 k3 k4 k5 => ?_)
  · obtain ⟨rfl, rfl, h', hk, rfl⟩ := hcd
    have I' : Inv X pins σ H { s with heap := h' } := I.kept (t' := s.toks) hk
    refine ⟨each_rel rv hlen, each_reads I' hd rv, by rw [e2]; exact al, by rw [e2]; exact so, by rw [hzip]; exact hz, fun b hb => ?_⟩
    have : b.2 ∈ ps := by rw [← e2]; exact List.mem_map.mpr ⟨b, hb, rfl⟩
    have := dp _ this
    omega
  · obtain ⟨rfl, rfl, h1, hk, rfl⟩ := hcd
    have I' : Inv X pins σ H { s with heap := h1 } := I.kept (t' := s.toks) hk
    have hv := vals_each k5
    have hzl : (((xs.zip ps).mergeSort (dataLe false Prod.snd)).map Prod.fst).length ≤ sizeLine := by
      rw [hv.length, k4, hzip]
      exact hz
    exact ⟨.ref _, _, I'.laid (t' := s.toks) (o := .lst (((xs.zip ps).mergeSort (dataLe false Prod.snd)).map Prod.fst)) k1 k2 (show ObjOk X.prog X.w _ _ _ (.lst _) from ⟨hzl, out, n, hv, k3⟩), rfl, q _ (I'.hok.fresh k2)⟩
end
variable {T : Rt} {mu : List Nat} {n : Nat} {W : WX}
theorem o_sort : RdU T 1 (fun x H Q => rSortS T.K [x] H Q) sortD := by
  intro x vx G H μ st Q w px h
  have key : ∀ (ds : List D) (l : Addr) (xs : List V), items x = some ds → vx = .ref l → (SqL T.K H l xs ∨ SqT T.K H l xs) → xs.length ≤ LIM → RpL T.K G μ ds xs → rSortS T.K [vx] H Q := by
    intro ds l xs e1 ev hs h2 h3
    unfold sortD at h
    rw [e1] at h
    by_cases hc : okSort ds = true
    · simp only [if_pos hc] at h
      unfold okSort at hc
      rw [Bool.and_eq_true, Bool.and_eq_true] at hc
      obtain ⟨q1, q2, q3⟩ := dps_of w.gh 60 ds xs (shL_of hc.1.1) h3
      have sv := sort_vals h3 hc.1.1 hc.1.2
      refine ⟨l, xs, toPyL ds, by rw [ev], hs, q1, alike_ds hc.1.1 hc.1.2, sortable_ds hc.2, fun d hd => ?_, by rw [limS]; exact h2, fun p hp => ?_⟩
      · rw [toPyL_map] at hd
        obtain ⟨y, hy, rfl⟩ := List.mem_map.mp hd
        obtain ⟨i, hi⟩ := List.getElem?_of_mem hy
        obtain ⟨v, _, hv⟩ := h3.get hi
        exact (dp_of w.gh 60 y v (List.all_eq_true.mp hc.1.1 y hy) hv).2.2
      · obtain ⟨e1, w1⟩ := new_lst w hp (((xs.zip (toPyL ds)).mergeSort (dataLe false Prod.snd)).map Prod.fst)
        refine h _ _ _ e1 w1 (po_new w.gh hp ?_ sv)
        rw [List.length_map, List.length_mergeSort, List.length_zip]
        omega
    · simp only [if_neg hc] at h
      exact h.elim
  cases x with
  | lst ds =>
    obtain ⟨l, xs, ev, h1, h2, h3⟩ := po_lst px
    exact key ds l xs rfl ev (.inl (.inl (.inl h1))) h2 h3
  | tup ds =>
    obtain ⟨l, xs, ev, h1, h2, h3⟩ := po_tup px
    exact key ds l xs rfl ev (.inr (w.gh.sqt h1)) h2 h3
  | _ => exact h.elim
end BX

set_option Elab.async false
set_option linter.all false
set_option maxRecDepth 100000
/-! BS9: enumerate, zip over lists and tuples, as turns. -/
namespace BX
open PySem PySem.Spec PyProof.Rows L2
open AutoSeq1 (wpAny_loadPart')
/-- a list (false) or a tuple (true) -/
def SqK (b : Bool) (K : PySem.W.Frag) (H : Hp) (a : Addr) (xs : List V) : Prop := match b with
  | false => SqL K H a xs
  | true => SqT K H a xs
def IsSeqK (b : Bool) (h : Heap) (a : Addr) (items : Array Value) : Prop := match b with
  | false => h.IsList a items
  | true => h.IsTuple a items
def IterK (b : Bool) (h : Heap) (it a : Addr) (i : Nat) : Prop := match b with
  | false => h.IsListIter it a i
  | true => h.IsTupleIter it a i
def itObj (b : Bool) (a : Addr) : Obj := match b with
  | false => { cls := .type "list_iterator", data := .fields #[.ref a, .int 0 0] }
  | true => { cls := .type "tuple_iterator", data := .fields #[.ref a, .int 0 0] }
theorem begins_k (b : Bool) (a : Addr) (items : Array Value) : Begins (.ref a) (itObj b a) fun h => IsSeqK b h a items := by
  cases b with
  | false => exact begins_list a items
  | true => exact begins_tuple a items
theorem iterK_new {b : Bool} {h : Heap} {it a : Addr} (e : h.get? it = some (itObj b a)) : IterK b h it a 0 := by
  cases b with
  | false => exact ⟨_, e, rfl, rfl⟩
  | true => exact ⟨_, e, rfl, rfl⟩
theorem iterK_at {b : Bool} {h h' : Heap} {it a : Addr} {i : Nat} (x : IterK b h it a i) (e : ∀ o, h.get? it = some o → h'.get? it = some o) : IterK b h' it a i := by
  cases b with
  | false => exact Heap.IsListIter.at x e
  | true => exact Heap.IsTupleIter.at x e
theorem iterK_obj {b : Bool} {h : Heap} {it a : Addr} {i : Nat} (x : IterK b h it a i) : ∃ o, h.get? it = some o ∧ (∃ n, o.cls = .type n ∧ n ≠ "enumerate" ∧ n ≠ "zip" ∧ n ≠ "tuple" ∧ n ≠ "list") ∧ ∀ v, o.data ≠ .cell v := by
  cases b with
  | false =>
    obtain ⟨o, e, c, d⟩ := x
    exact ⟨o, e, ⟨_, c, by decide, by decide, by decide, by decide⟩, fun v z => by rw [d] at z; cases z⟩
  | true =>
    obtain ⟨o, e, c, d⟩ := x
    exact ⟨o, e, ⟨_, c, by decide, by decide, by decide, by decide⟩, fun v z => by rw [d] at z; cases z⟩
theorem seqK_obj {b : Bool} {h : Heap} {a : Addr} {items : Array Value} (x : IsSeqK b h a items) : ∃ o, h.get? a = some o ∧ (o.cls = .type "list" ∨ o.cls = .type "tuple") := by
  cases b with
  | false => obtain ⟨o, e, c, _⟩ := x; exact ⟨o, e, .inl c⟩
  | true => obtain ⟨o, e, c, _⟩ := x; exact ⟨o, e, .inr c⟩
theorem seq_ne_iter {b c : Bool} {h : Heap} {a it a' : Addr} {i : Nat} {items : Array Value} (x : IsSeqK b h a items) (y : IterK c h it a' i) : a ≠ it := fun z => by
  subst z
  obtain ⟨o, e, k⟩ := seqK_obj x
  obtain ⟨o', e', ⟨n, c1, _, _, c2, c3⟩, _⟩ := iterK_obj y
  rw [e] at e'
  cases e'
  rcases k with k | k <;> (rw [k] at c1; injection c1 with c1; subst c1; first | exact c2 rfl | exact c3 rfl)
theorem draws_k {prog : Program} {w : World} {A : Around} (hh : A.handled = none) (b : Bool) (it a : Addr) (hne : a ≠ it) (items : Array Value) :
    Draws prog w A it [it, a] items.size (fun i v => items[i]? = some v) (fun i h => IterK b h it a i ∧ IsSeqK b h a items) := by
  cases b with
  | false => exact Draws.list hh it a hne items
  | true => exact Draws.tuple hh it a hne items
section
variable {X : Cx} {pins : List (Addr × Obj)} {σ : L2.St} {H : Hp} {s : Shared} {b : Bool} {a : Addr} {xs ys : List V}
theorem inv_seqK (I : Inv X pins σ H s) (h : SqK b X.K H a xs) : ∃ its, Vals xs its ∧ IsSeqK b s.heap a its.toArray := by
  cases b with
  | false =>
    obtain ⟨its, rv, p, hz⟩ := I.list h
    exact ⟨its, rv, p.isList⟩
  | true =>
    obtain ⟨its, rv, p, hz⟩ := I.tuple h
    exact ⟨its, rv, p⟩
theorem inv_injK (I : Inv X pins σ H s) (h : SqK b X.K H a xs) (h' : SqK b X.K H a ys) : xs = ys := by
  cases b with
  | false => exact I.list_inj h h'
  | true => exact I.tuple_inj h h'
end
/-! ### enumerate -/
theorem meets_enum_newB {v1 : Value} {o1 : Obj} {H1 : Heap → Prop} (B1 : Begins v1 o1 H1) :
    Meets (Builtin.«enumerate.__new__» ⟨[.type "enumerate", v1], []⟩) (fun _ R s => H1 s.heap ∧
      R (.ok (.ret (.ref (s.heap.push o1).objs.size))) { s with heap := (s.heap.push o1).push { cls := .type "enumerate", data := .fields #[.none, .bool false, .ref s.heap.objs.size, rawInt 0, .none, .none] } }) :=
  .of_wp fun prog w A R s h => by
    obtain ⟨hp, g, d, tk, os⟩ := s
    obtain ⟨h1, h⟩ := h
    have hsub := sub_enumerate
    have q1 : ∀ {A' : Around} {E : Value → Shared → Prop} {Q : Value → Shared → Prop}, Q (.ref hp.objs.size) ⟨(hp.push o1), g, d, tk, os⟩ → wpAny (model prog w) A' (pyIter v1) Q E ⟨hp, g, d, tk, os⟩ :=
      fun q => B1.iter prog w _ _ ⟨hp, g, d, tk, os⟩ _ (B1.keeps _ _ h1 fun b o' e => e) q
    wp_walk
    refine wpAny_stack_any fun st => wpAny_pure ?_
    split
    · rename_i c _ _ _ _ _
      cases (c == Value.type "enumerate")
      · wp_walk using q1
        exact ⟨_, rfl, h⟩
      · wp_walk using q1
        exact ⟨_, rfl, h⟩
    · wp_walk using q1
      exact ⟨_, rfl, h⟩
theorem call_enumB {prog : Program} {w : World} {A : Around} {E : Value → Shared → Prop} {s : Shared} {v1 : Value} {o1 : Obj} {H1 : Heap → Prop} {Q : Value → Shared → Prop} (B1 : Begins v1 o1 H1) (h1 : H1 s.heap)
    (h : ∀ h', IsEnum h' (s.heap.objs.size + 1) s.heap.objs.size 0 .none → h'.get? s.heap.objs.size = some o1 → h'.objs.size = s.heap.objs.size + 2 →
      (∀ b o, s.heap.get? b = some o → h'.get? b = some o) → Q (.ref (s.heap.objs.size + 1)) { s with heap := h' }) :
    wpAny (model prog w) A (call (.type "enumerate") [v1]) Q E s := by
  refine callType_new F.called_enumerate (by decide) (F.typeCall_enumerate_1 _) (F.newCall_enumerate_1 _) (fun obj => F.args_object_init_2 obj _) F.entry_enumerate_new
    (meets_enum_newB B1) ⟨h1, ?_⟩
  have hz : (s.heap.push o1).objs.size = s.heap.objs.size + 1 := Heap.size_push ..
  show _ ∧ _
  rw [hz]
  have he : IsEnum ((s.heap.push o1).push
      { cls := .type "enumerate", data := .fields #[.none, .bool false, .ref s.heap.objs.size, rawInt 0, .none, .none] }) (s.heap.objs.size + 1) s.heap.objs.size 0 .none := by
    have := Heap.get?_push_size (s.heap.push o1)
      (o := { cls := .type "enumerate", data := .fields #[.none, .bool false, .ref s.heap.objs.size, rawInt 0, .none, .none] }) rfl
    rw [hz] at this; exact this
  refine ⟨⟨_, he, rfl⟩, h _ he (Heap.get?_push_of_some _ (Heap.get?_push_size _ B1.free)) (by rw [Heap.size_push, hz]) fun b o y => Heap.get?_push_of_some _ (Heap.get?_push_of_some _ y)⟩
/-- the sequence at a as it stands at each turn, each item in a new pair -/
def IteK (b : Bool) (K : PySem.W.Frag) (a : Addr) : It :=
  ⟨fun i H => ∃ (xs : List V) (x : V), SqK b K H a xs ∧ xs[i]? = some x, fun i H v H' => ∃ T x, v = .ref T ∧ H T = none ∧ H' = upd H T (.tup [.int (i : Nat), x]) ∧ ∀ xs, SqK b K H a xs → xs[i]? = some x, fun i H => ∃ xs : List V, SqK b K H a xs ∧ xs.length ≤ i⟩
theorem turn_enumK {P : Program} {w : World} {K : PySem.W.Frag} {elts : List Expr} {kk : Nat} {tpos : Pos} (b : Bool) (a e it : Addr) :
    Turn P w K (.Tuple elts kk tpos) (IteK b K a) [e, it] e (fun i h => (∃ old, IsEnum h e it ((i : Nat) : Int) old) ∧ IterK b h it a i ∧ e ≠ it) where
  mem := by simp
  obj := fun i h st c hc => by
    obtain ⟨⟨old, he⟩, hit, _⟩ := st
    have e' : c = e ∨ c = it := by simpa using hc
    rcases e' with z | z
    · rw [z]; exact ⟨_, he, fun v q => nomatch q⟩
    · rw [z]
      obtain ⟨o, h1, _, h2⟩ := iterK_obj hit
      exact ⟨o, h1, h2⟩
  keep := fun i h h' st k => let ⟨⟨old, he⟩, hi, hne⟩ := st; ⟨⟨old, k e (by simp) _ he⟩, iterK_at hi fun o q => k it (by simp) o q, hne⟩
  item := by
    intro X hP hw hK hc i pins s σ H E I hf st hg
    subst hP hw hK
    obtain ⟨⟨old, he⟩, hit, hne⟩ := st
    obtain ⟨xs, x, hq, hx⟩ := hg
    obtain ⟨its, rv, p⟩ := inv_seqK I hq
    obtain ⟨u, hu, ru⟩ := rv.get hx
    have hel : e < s.heap.objs.size := Heap.lt_size he
    have hil : it < s.heap.objs.size := by obtain ⟨_, q, _⟩ := iterK_obj hit; exact Heap.lt_size q
    have hae : a ≠ e := fun z => by
      obtain ⟨o, q, k⟩ := seqK_obj p
      rw [z, he] at q
      cases q
      rcases k with k | k
      · exact absurd (show Value.type "enumerate" = Value.type "list" from k) (by decide)
      · exact absurd (show Value.type "enumerate" = Value.type "tuple" from k) (by decide)
    have hlt : i < its.toArray.size := by
      obtain ⟨h1, _⟩ := List.getElem?_eq_some_iff.mp hu
      simpa using h1
    refine wpAny_pyNext_enum_itemD (draws_k (A := X.A.in1) (I.ok.hd hc) b it a (seq_ne_iter p hit) its.toArray) he ⟨hit, p⟩ hlt hne (by simp [hne, Ne.symm hae]) fun x' h' tk hx' ho st' hT hsz hk => ?_
    have ex : x' = u := by
      rw [show its.toArray[i]? = some u by simpa using hu] at hx'
      exact (Option.some.inj hx').symm
    subst ex
    obtain ⟨hit', _⟩ := st'
    refine ⟨_, rfl, wpAny_letOwnedTupleGo_enum (s := { s with heap := h', toks := tk + 1 }) ho fun h'' he' sb => ?_⟩
    have hT2 : h''.get? s.heap.objs.size = some { cls := .type "tuple", data := .seq #[.int i tk, x'] } := (sb.2 _ (Nat.ne_of_gt hel)).trans hT
    have new : ObjOk X.prog X.w (upd H s.heap.objs.size (.tup [.int (i : Nat), x])) h'' s.heap.objs.size (.tup [.int (i : Nat), x]) :=
      ⟨by show 2 ≤ sizeLine; decide, [.int i tk, x'], .cons ⟨_, rfl⟩ (.cons ru .nil), ⟨_, hT2, rfl, _, rfl⟩⟩
    have I1 : Inv X pins σ (upd H s.heap.objs.size (.tup [.int (i : Nat), x])) { s with heap := h'', toks := tk + 1 } :=
      I.turnedNew (ch := [e, it]) (fun c ob hb q => (sb.2 c (fun z => hb (by simp [z]))).trans (hk c ob (fun z => hb (by simp [z])) (fun z => hb (by simp [z])) q)) hf (Nat.le_refl _) new
    refine ⟨.ref s.heap.objs.size, _, I1, rfl, ⟨_, x, rfl, I.hok.fresh (Nat.le_refl _), rfl, fun ys hy => by rw [inv_injK I hy hq]; exact hx⟩, ⟨⟨x', ?_⟩, iterK_at hit' fun o q => (sb.2 it (Ne.symm hne)).trans q, hne⟩, fun c hc => ?_⟩
    · have e1 : ((i + 1 : Nat) : Int) = (i : Int) + 1 := by omega
      rw [e1]; exact he'
    · have hb' : c < s.heap.objs.size := by
        have e' : c = e ∨ c = it := by simpa using hc
        rcases e' with z | z
        · rw [z]; exact hel
        · rw [z]; exact hil
      rw [upd_ne (Nat.ne_of_lt hb')]
      exact (hf c hc).1
  done := by
    intro X hP hw hK hc i pins s σ H E I hf st hg
    subst hP hw hK
    obtain ⟨⟨old, he⟩, hit, hne⟩ := st
    obtain ⟨xs, hq, hx⟩ := hg
    obtain ⟨its, rv, p⟩ := inv_seqK I hq
    obtain ⟨f0, f1, f2, f3, f4, f5⟩ := hf it (by simp)
    have hl := rv.length
    have hend : ∀ (Q : Option Value → Shared → Prop), (∀ h', Heap.ExtBut it s.heap h' → Q none { s with heap := h' }) → wpAny (model X.prog X.w) X.A (pyNext (.ref e)) Q E s := by
      intro Q hQ
      have hT : s.TypeIs (.ref e) "enumerate" := ⟨_, he, rfl⟩
      unfold pyNext
      refine wpAny_bind (wpAny_attempt (wpAny_callSpecial?_slot (name := Str.ofString "__next__") hT F.slot_enumerate_next
        (wpAny_call_entry F.slot_enumerate_next hT F.entry_enumerate_next ?_ (F.args_enumerate_next_1 _))))
      show wpAny _ _ (field (.ref e) 2 >>= _) _ _ _
      refine wpAny_bind (wpAny_field he rfl (x := .ref it) rfl ?_)
      cases b with
      | false =>
        refine wpAny_bind (wpAny_nextOf_list_end (I.ok.hd hc) hit p (by simp; omega) fun h' x he' hx' => ?_)
        obtain ⟨o, ho, hc⟩ := hx'
        refine wpAny_bind (wpAny_isInstance (T := "StopIteration") (b := true) ⟨o, ho, hc⟩ isSubtype_stop ?_)
        exact wpAny_pure (hQ _ he')
      | true =>
        refine wpAny_bind (wpAny_nextOf_tuple_end (I.ok.hd hc) hit p (by simp; omega) fun h' x he' hx' => ?_)
        obtain ⟨o, ho, hc⟩ := hx'
        refine wpAny_bind (wpAny_isInstance (T := "StopIteration") (b := true) ⟨o, ho, hc⟩ isSubtype_stop ?_)
        exact wpAny_pure (hQ _ he')
    exact hend _ fun h' eb => ⟨rfl, I.turned (t' := s.toks) (fun c o hb q => eb c o hb q) f0 f1 f3 f4 f5⟩
  self := fun A i s Q E st h => let ⟨⟨_, he⟩, _⟩ := st; wpAny_pyIter_enum he h
def iEnumK (K : PySem.W.Frag) (te : TE) : TI := fun σ H R => te σ H fun v H1 => ∃ b a xs, [v] = [V.ref a] ∧ SqK b K H1 a xs ∧ R (IteK b K a) H1
theorem pi_enumK {X : Cx} {e : Expr} {te : TE} {p pos tpos : Pos} {elts : List Expr} {kk : Nat} (hg : Gl X "enumerate") (hm : X.mg "enumerate" = none) (ha : PE X e te) (hs : starEach [e] X.env = [(false, eval e X.env)]) :
    PI X (.Tuple elts kk tpos) (.Call (.Name "enumerate" p) [e] [] pos) (iEnumK X.K te) := by
  refine ⟨fun pins s σ H R I h => ?_⟩
  have hpa : PA X [e] (tCons te tNil) := pa_cons ha pa_nil hs
  refine Call_ (ld_blt I hg hm boot_enumerate (PyProof.Rows.callWith_type1 (thn (hpa.run pos pins s σ H (fun vs H1 => ∃ b a xs, vs = [V.ref a] ∧ SqK b X.K H1 a xs ∧ R (IteK b X.K a) H1) I h) fun us s1 ⟨vs, H1, I1, r1, q1⟩ => ?_) hs rfl))
  obtain ⟨b, a, xs, ex, hq, q⟩ := q1
  subst ex
  rw [Vals.ref1 r1]
  obtain ⟨its, rv, p'⟩ := inv_seqK I1 hq
  refine call_enumB (begins_k b a its.toArray) p' fun h' he hit hsz hk => wpAny_pyIter_enum he ?_
  have I2 : Inv X pins σ H1 { s1 with heap := h' } := I1.kept (t' := s1.toks) hk
  refine ⟨s1.heap.objs.size + 1, [s1.heap.objs.size + 1, s1.heap.objs.size], _, _, H1, rfl, I2, turn_enumK b a (s1.heap.objs.size + 1) s1.heap.objs.size, ⟨⟨.none, he⟩, iterK_new hit, Nat.succ_ne_self _⟩, fun c hb => ?_, q⟩
  have e' : c = s1.heap.objs.size + 1 ∨ c = s1.heap.objs.size := by simpa using hb
  have hle : s1.heap.objs.size ≤ c := by
    rcases e' with z | z
    · rw [z]; exact Nat.le_add_right _ _
    · rw [z]; exact Nat.le_refl _
  exact I1.fpOk hle (I1.hok.fresh hle)
end BX

set_option Elab.async false
set_option linter.all false
set_option maxRecDepth 100000
/-! BS10: iterables, targets, comprehensions. -/
namespace BX
open PySem PySem.Spec PyProof.Rows L2
variable {T : Rt} {mu : List Nat} {n : Nat} {W : WX}
theorem Res.of_ok {α β : Type} {m : M α} {f : α → M β} {s s' : Sto} {a : α} {k : β → Sto → Prop} {x : Xc → Sto → Prop} (e : m s = .ok a s') (h : Res (BX.bnd m f s) k x) : Res (f a s') k x := by
  unfold BX.bnd at h
  rw [e] at h
  exact h
theorem Res.of_ex {α β : Type} {m : M α} {f : α → M β} {s s' : Sto} {c : Xc} {k : β → Sto → Prop} {x : Xc → Sto → Prop} (e : m s = .ex c s') (h : Res (BX.bnd m f s) k x) : x c s' := by
  unfold BX.bnd at h
  rw [e] at h
  exact h
theorem Res.of_bad {α β : Type} {m : M α} {f : α → M β} {s : Sto} {k : β → Sto → Prop} {x : Xc → Sto → Prop} (e : m s = .bad) (h : Res (BX.bnd m f s) k x) : False := by
  unfold BX.bnd at h
  rw [e] at h
  exact h
def Wk (T : Rt) (z : Bool) (J : It) (ds : List D) (C : Hp → Hp → List Addr → Prop) : Prop :=
  ∀ (i : Nat) (G H : Hp) (μ : List Addr) (st : Sto), C G H μ → WOk T G H μ st →
    (i < ds.length → J.go i H) ∧ (i = ds.length → J.stop i H) ∧
    ∀ x H', i < ds.length → J.yld i H x H' → ∃ d G', ds[i]? = some d ∧ Ev G H μ G' H' μ ∧ WOk T G' H' μ st ∧ RpZ z T.K G' μ d x
def Cd (fz : Bool) (G1 H1 : Hp) (μ1 : List Addr) : Hp → Hp → List Addr → Prop := fun G H μ => match fz with
  | true => Sub G1 G ∧ Pre μ1 μ
  | false => Ev G1 H1 μ1 G H μ
def RdI (T : Rt) (mu : List Nat) (n : Nat) (W : WX) (z fz : Bool) (wi : TI) (f : Env → M (List D)) : Prop :=
  ∀ (E : EW) (ρ : Env) (σ : St) (G H : Hp) (μ : List Addr) (st : Sto) (R : It → Hp → Prop), Er T mu n E ρ σ G H μ st →
    Res (f ρ st) (fun ds st' => ∀ J G' H' μ', Ev G H μ G' H' μ' → WOk T G' H' μ' st' → Wk T z J ds (Cd fz G' H' μ') → R J H') (WK T W G H μ σ) → wi σ H R
theorem Wk.imp {z : Bool} {J : It} {ds : List D} {C C' : Hp → Hp → List Addr → Prop} (h : Wk T z J ds C) (i : ∀ G H μ, C' G H μ → C G H μ) : Wk T z J ds C' := fun k G H μ st c w => h k G H μ st (i G H μ c) w
theorem RdI.loose {z : Bool} {wi : TI} {f : Env → M (List D)} {fz : Bool} (h : RdI T mu n W z fz wi f) : RdI T mu n W z false wi f := by
  cases fz with
  | false => exact h
  | true => exact fun E ρ σ G H μ st R er hr => h E ρ σ G H μ st R er (hr.mono (fun ds s1 h1 J G' H' μ' e w k => h1 J G' H' μ' e w (k.imp fun _ _ _ c => ⟨c.g, c.m⟩)) fun c s h => h)
/-! ### a value walked -/
def iAny (K : PySem.W.Frag) (t : TE) : TI := fun σ H R => iList K t σ H R ∨ iTup K t σ H R ∨ iStr t σ H R
theorem pi_any {X : Cx} {tg e : Expr} {t : TE} (h : PE X e t) : PI X tg e (iAny X.K t) := by
  refine ⟨fun pins s σ H R I q => ?_⟩
  rcases q with q | q | q
  · exact (pi_list h).run pins s σ H R I q
  · exact (pi_tup h).run pins s σ H R I q
  · exact (pi_str h).run pins s σ H R I q
theorem sub_no {G H : Hp} (s : Sub G H) {a : Addr} (h : H a = none) : G a = none := by
  cases q : G a with
  | none => rfl
  | some o => rw [s a o q] at h; cases h
theorem wk_list {K : PySem.W.Frag} {a : Addr} {ds : List D} {xs : List V} {C : Hp → Hp → List Addr → Prop} (eK : K = T.K) (h : ∀ G H μ, C G H μ → Sub G H → SqL T.K H a xs ∧ RpL T.K G μ ds xs) : Wk T false (Itl K a) ds C := by
  subst eK
  intro i G H μ st c w
  obtain ⟨h1, h2⟩ := h G H μ c w.gh
  have wl := walk_list (K := T.K) (a := a) (xs := xs)
  have hl := h2.length
  refine ⟨fun hi => wl.goes i H (by omega) h1, fun hi => by rw [hi, hl]; exact wl.stops H h1, fun x H' hi y => ?_⟩
  obtain ⟨rfl, e⟩ := wl.yields i H x H' (by omega) h1 y
  have hd : ds[i]? = some ds[i] := List.getElem?_eq_getElem hi
  obtain ⟨v, e1, e2⟩ := h2.get hd
  rw [e] at e1
  cases e1
  exact ⟨_, G, hd, Ev.refl _ _ _, w, e2⟩
theorem wk_tup {K : PySem.W.Frag} {a : Addr} {ds : List D} {xs : List V} {C : Hp → Hp → List Addr → Prop} (eK : K = T.K) (h : ∀ G H μ, C G H μ → Sub G H → SqT T.K H a xs ∧ RpL T.K G μ ds xs) : Wk T false (Itt K a) ds C := by
  subst eK
  intro i G H μ st c w
  obtain ⟨h1, h2⟩ := h G H μ c w.gh
  have wl := walk_tup (K := T.K) (a := a) (xs := xs)
  have hl := h2.length
  refine ⟨fun hi => wl.goes i H (by omega) h1, fun hi => by rw [hi, hl]; exact wl.stops H h1, fun x H' hi y => ?_⟩
  obtain ⟨rfl, e⟩ := wl.yields i H x H' (by omega) h1 y
  have hd : ds[i]? = some ds[i] := List.getElem?_eq_getElem hi
  obtain ⟨v, e1, e2⟩ := h2.get hd
  rw [e] at e1
  cases e1
  exact ⟨_, G, hd, Ev.refl _ _ _, w, e2⟩
theorem wk_str {s : List Nat} {C : Hp → Hp → List Addr → Prop} (h1 : s.length ≤ LIM) (h2 : ∀ c ∈ s, c < 1114112) : Wk T false (Its ⟨s.toArray⟩) (s.map fun c => .str [c]) C := by
  intro i G H μ st c w
  have wl := walk_str (z := ⟨s.toArray⟩)
  have hl : (⟨s.toArray⟩ : Str).cps.size = s.length := by simp
  rw [List.length_map]
  refine ⟨fun hi => wl.goes i H (by omega) trivial, fun hi => by rw [hi, ← hl]; exact wl.stops H trivial, fun x H' hi y => ?_⟩
  obtain ⟨rfl, c, e, rfl⟩ := wl.yields i H x H' (by omega) trivial y
  have ec : s[i]? = some c := by simpa using e
  refine ⟨.str [c], G, by rw [List.getElem?_map, ec]; rfl, Ev.refl _ _ _, w, ?_⟩
  exact (show Rp T.K G μ _ _ from rp_str (x := [c]) (show 1 ≤ LIM by decide) fun b hb => by
    rw [List.mem_singleton] at hb
    subst hb
    exact h2 b (List.mem_of_getElem? ec))
theorem rd_iter {md : Nat} {t : TE} {f : Env → M D} {fz : Bool} (h : RdE T mu n W md t f) (hm : fz = true → md ≤ 1) : RdI T mu n W false fz (iAny T.K t) (fun ρ => bnd (f ρ) itsM) := by
  have main : ∀ (md : Nat), RdE T mu n W md t f → (fz = true → md = 0) → RdI T mu n W false fz (iAny T.K t) (fun ρ => bnd (f ρ) itsM) := by
    intro md h hm E ρ σ G H μ st R er hres
    cases e : f ρ st with
    | bad => exact (Res.of_bad e hres).elim
    | ex c s1 =>
      refine .inl (h E ρ σ G H μ st _ er ?_)
      rw [e]
      exact Res.of_ex e hres
    | ok d s1 =>
      replace hres := Res.of_ok e hres
      cases d with
      | lst ds =>
        refine .inl (h E ρ σ G H μ st _ er ?_)
        rw [e]
        intro v G' H' μ' e1 w1 p1
        cases fz with
        | true =>
          have := hm rfl
          subst this
          obtain ⟨a, xs, rfl, h1, h2, h3⟩ := (show ∃ a xs, v = .ref a ∧ G' a = some (.lst xs) ∧ xs.length ≤ LIM ∧ RpL T.K G' μ' ds xs from by simpa only [Rp] using (show Rp T.K G' μ' (.lst ds) v from p1))
          exact ⟨a, rfl, ⟨xs, .inl (.inl (w1.gh _ _ h1))⟩, hres _ G' H' μ' e1 w1 (wk_list (xs := xs) rfl fun G2 H2 μ2 c s2 => ⟨.inl (.inl (s2 _ _ (c.1 _ _ h1))), RpL.mono c.1 c.2 ds xs h3⟩)⟩
        | false =>
          obtain ⟨a, xs, rfl, h1, h2, h3⟩ := po_lst (p1.two w1.gh)
          exact ⟨a, rfl, ⟨xs, .inl (.inl h1)⟩, hres _ G' H' μ' e1 w1 (wk_list (xs := xs) rfl fun G2 H2 μ2 c s2 => ⟨.inl (.inl (c.h _ _ h1 rfl)), c.rpl h3⟩)⟩
      | tup ds =>
        refine .inr (.inl (h E ρ σ G H μ st _ er ?_))
        rw [e]
        intro v G' H' μ' e1 w1 p1
        obtain ⟨a, xs, rfl, h1, h2, h3⟩ := po_tup p1
        refine ⟨a, rfl, ⟨xs, w1.gh.sqt h1⟩, hres _ G' H' μ' e1 w1 (wk_tup (xs := xs) rfl fun G2 H2 μ2 c s2 => ?_)⟩
        have c' : Sub G' G2 ∧ Pre μ' μ2 := by
          cases fz with
          | true => exact c
          | false => exact ⟨c.g, c.m⟩
        exact ⟨(c'.1.trans s2).sqt h1, RpL.mono c'.1 c'.2 ds xs h3⟩
      | str s =>
        refine .inr (.inr (h E ρ σ G H μ st _ er ?_))
        rw [e]
        intro v G' H' μ' e1 w1 p1
        obtain ⟨rfl, h1, h2⟩ := po_str p1
        exact ⟨_, rfl, hres _ G' H' μ' e1 w1 (wk_str h1 h2)⟩
      | _ => exact hres.elim
  cases fz with
  | false => exact main md h (fun z => by cases z)
  | true => exact main 0 (h.zero (hm rfl)) fun _ => rfl
/-! ### ranges -/
theorem rngI_len : ∀ (n : Nat) (a c : Int), (rngI a c n).length = n
  | 0, _, _ => rfl
  | n + 1, a, c => by simp [rngI, rngI_len n]
theorem rngI_get : ∀ (n : Nat) (a c : Int) (i : Nat), i < n → (rngI a c n)[i]? = some (.int (a + (i : Int) * c))
  | 0, _, _, _, h => by omega
  | n + 1, a, c, 0, _ => by simp [rngI]
  | n + 1, a, c, i + 1, h => by
    simp only [rngI, List.getElem?_cons_succ]
    rw [rngI_get n (a + c) c i (by omega)]
    congr 2
    rw [Int.natCast_succ, Int.add_mul]
    omega
theorem wk_rng {lo : Int} {k : Nat} {C : Hp → Hp → List Addr → Prop} : Wk T false (Itr lo k) (rngI lo 1 k) C := by
  intro i G H μ st c w
  have wl := walk_range (lo := lo) (n := k)
  rw [rngI_len]
  refine ⟨fun hi => wl.goes i H hi trivial, fun hi => by rw [hi]; exact wl.stops H trivial, fun x H' hi y => ?_⟩
  obtain ⟨rfl, rfl⟩ := wl.yields i H x H' hi trivial y
  refine ⟨_, G, rngI_get k lo 1 i hi, Ev.refl _ _ _, w, ?_⟩
  rw [Int.mul_one]
  exact (show Rp T.K G μ _ _ from rp_int)
theorem wk_rngC {lo : Int} {k : Nat} {C : Hp → Hp → List Addr → Prop} : Wk T false (Itc lo (-1) k) (rngI lo (-1) k) C := by
  intro i G H μ st c w
  have wl := walk_rangeC (lo := lo) (c := -1) (n := k)
  rw [rngI_len]
  refine ⟨fun hi => wl.goes i H hi trivial, fun hi => by rw [hi]; exact wl.stops H trivial, fun x H' hi y => ?_⟩
  obtain ⟨rfl, rfl⟩ := wl.yields i H x H' hi trivial y
  exact ⟨_, G, rngI_get k lo (-1) i hi, Ev.refl _ _ _, w, (show Rp T.K G μ _ _ from rp_int)⟩
theorem rngM_ok {a b : Int} {s : Sto} {k : List D → Sto → Prop} {x : Xc → Sto → Prop} (h : Res (rngM a b s) k x) : (-(2 ^ 62) ≤ a ∧ a < 2 ^ 62 ∧ -(2 ^ 62) ≤ b ∧ b < 2 ^ 62 ∧ (b - a).toNat ≤ LIM) ∧ k (rngI a 1 (b - a).toNat) s := by
  unfold rngM at h
  split at h
  · rename_i hc
    simp only [Bool.and_eq_true, decide_eq_true_eq] at hc
    exact ⟨⟨hc.1.1.1.1, hc.1.1.1.2, hc.1.1.2, hc.1.2, hc.2⟩, h⟩
  · exact h.elim
theorem rd_r1 {md : Nat} {t : TE} {f : Env → M D} (h : RdE T mu n W md t f) : RdI T mu n W false true (iRng1 (tCons t tNil)) (fun ρ => bnd (f ρ) fun x => bnd (asI x) fun i => rngM 0 i) := by
  intro E ρ σ G H μ st R er hres
  refine h E ρ σ G H μ st _ er (hres.bnd.mono (fun x s1 h1 v G1 H1 μ1 e1 w1 p1 => ?_) fun c s h => h)
  obtain ⟨i, rfl, h2⟩ := asI_bnd h1
  obtain ⟨⟨q1, q2, q3, q4, q5⟩, h3⟩ := rngM_ok h2
  refine ⟨i, by rw [po_int p1], q3, q4, ?_⟩
  have := h3 (Itr 0 (i - 0).toNat) G1 H1 μ1 e1 w1 wk_rng
  rw [Int.sub_zero] at this
  exact this
theorem rd_r2 {ma mb : Nat} {t u : TE} {f g : Env → M D} (h : RdE T mu n W ma t f) (h' : RdE T mu n W mb u g) : RdI T mu n W false true (iRng2 (tCons t (tCons u tNil))) (fun ρ => bnd (f ρ) fun x => bnd (g ρ) fun y => bnd (asI x) fun i => bnd (asI y) fun j => rngM i j) := by
  intro E ρ σ G H μ st R er hres
  refine h E ρ σ G H μ st _ er (hres.bnd.mono (fun x s1 h1 v G1 H1 μ1 e1 w1 p1 => ?_) fun c s h => h)
  refine h' E ρ σ G1 H1 μ1 s1 _ (er.ev e1 w1) (h1.bnd.mono (fun y s2 h2 v2 G2 H2 μ2 e2 w2 p2 => ?_) fun c s h => WK.ev h e1)
  obtain ⟨i, rfl, h3⟩ := asI_bnd h2
  obtain ⟨j, rfl, h4⟩ := asI_bnd h3
  obtain ⟨⟨q1, q2, q3, q4, q5⟩, h5⟩ := rngM_ok h4
  exact ⟨i, j, by rw [po_int p1, po_int p2], ⟨q1, q2, q3, q4⟩, h5 _ G2 H2 μ2 (e1.trans e2) w2 wk_rng⟩
theorem rd_r3 {ma mb mc : Nat} {t u v : TE} {f g k : Env → M D} (h : RdE T mu n W ma t f) (h' : RdE T mu n W mb u g) (h'' : RdE T mu n W mc v k) : RdI T mu n W false true (iRng3 (tCons t (tCons u (tCons v tNil))))
    (fun ρ => bnd (f ρ) fun x => bnd (g ρ) fun y => bnd (k ρ) fun z => bnd (asI x) fun i => bnd (asI y) fun j => bnd (asI z) fun k =>
      if k == -1 && decide (-(2 ^ 62) ≤ i) && decide (i < 2 ^ 62) && decide (-(2 ^ 62) ≤ j) && decide (j < 2 ^ 62) && decide ((i - j).toNat ≤ LIM) then ret (rngI i (-1) (i - j).toNat) else bad) := by
  intro E ρ σ G H μ st R er hres
  refine h E ρ σ G H μ st _ er (hres.bnd.mono (fun x s1 h1 v G1 H1 μ1 e1 w1 p1 => ?_) fun c s h => h)
  refine h' E ρ σ G1 H1 μ1 s1 _ (er.ev e1 w1) (h1.bnd.mono (fun y s2 h2 v2 G2 H2 μ2 e2 w2 p2 => ?_) fun c s h => WK.ev h e1)
  refine h'' E ρ σ G2 H2 μ2 s2 _ (er.ev (e1.trans e2) w2) (h2.bnd.mono (fun z s3 h3 v3 G3 H3 μ3 e3 w3 p3 => ?_) fun c s h => WK.ev h (e1.trans e2))
  obtain ⟨i, rfl, h4⟩ := asI_bnd h3
  obtain ⟨j, rfl, h5⟩ := asI_bnd h4
  obtain ⟨c, rfl, h6⟩ := asI_bnd h5
  split at h6
  · rename_i hc
    simp only [Bool.and_eq_true, decide_eq_true_eq, beq_iff_eq] at hc
    obtain ⟨⟨⟨⟨⟨c0, c1⟩, c2⟩, c3⟩, c4⟩, c5⟩ := hc
    subst c0
    exact ⟨i, j, -1, (i - j).toNat, by rw [po_int p1, po_int p2, po_int p3], RgC.neg c1 c2 c3 c4, h6 _ G3 H3 μ3 ((e1.trans e2).trans e3) w3 wk_rngC⟩
  · exact h6.elim
/-! ### enumerate -/
theorem enumL_len : ∀ (k : Nat) (ds : List D), (enumL k ds).length = ds.length
  | _, [] => rfl
  | k, d :: ds => by simp [enumL, enumL_len (k + 1) ds]
theorem enumL_get : ∀ (k : Nat) (ds : List D) (i : Nat) (d : D), ds[i]? = some d → (enumL k ds)[i]? = some (.tup [.int ((k + i : Nat) : Int), d])
  | _, [], _, _, h => by simp at h
  | k, e :: ds, 0, d, h => by
    simp at h
    subst h
    simp [enumL]
  | k, e :: ds, i + 1, d, h => by
    simp only [enumL, List.getElem?_cons_succ]
    rw [enumL_get (k + 1) ds i d (by simpa using h)]
    congr 4
    omega
theorem wk_enum {b : Bool} {a : Addr} {ds : List D} {xs : List V} {C : Hp → Hp → List Addr → Prop} (h : ∀ G H μ, C G H μ → Sub G H → SqK b T.K H a xs ∧ RpL T.K G μ ds xs) : Wk T true (IteK b T.K a) (enumL 0 ds) C := by
  intro i G H μ st c w
  obtain ⟨h1, h2⟩ := h G H μ c w.gh
  have hl := h2.length
  rw [enumL_len]
  refine ⟨fun hi => ⟨xs, xs[i]'(by omega), h1, by simp [show i < xs.length by omega]⟩, fun hi => ⟨xs, h1, by omega⟩, fun x H' hi y => ?_⟩
  obtain ⟨p, z, rfl, hp, rfl, e⟩ := y
  have hd : ds[i]? = some ds[i] := List.getElem?_eq_getElem hi
  obtain ⟨v, e1, e2⟩ := h2.get hd
  rw [e xs h1] at e1
  cases e1
  have r : RpL T.K G μ [.int (i : Nat), ds[i]] [.int (i : Nat), z] := RpL.cons rp_int (RpL.one e2)
  obtain ⟨q1, q2, q3⟩ := new_tupW w hp (by show 2 ≤ LIM; decide) r
  have := enumL_get 0 ds i _ hd
  rw [Nat.zero_add] at this
  exact ⟨_, _, this, q1, q2, q3⟩
theorem rd_enum {md : Nat} {t : TE} {f : Env → M D} {fz : Bool} (h : RdE T mu n W md t f) (hm : fz = true → md ≤ 1) : RdI T mu n W true fz (iEnumK T.K t) (fun ρ => bnd (f ρ) fun x => bnd (seqM x) fun xs => ret (enumL 0 xs)) := by
  have main : ∀ (md : Nat), RdE T mu n W md t f → (fz = true → md = 0) → RdI T mu n W true fz (iEnumK T.K t) (fun ρ => bnd (f ρ) fun x => bnd (seqM x) fun xs => ret (enumL 0 xs)) := by
    intro md h hm E ρ σ G H μ st R er hres
    refine h E ρ σ G H μ st _ er (hres.bnd.mono (fun x s1 h1 v G1 H1 μ1 e1 w1 p1 => ?_) fun c s h => h)
    cases x with
    | lst ds =>
      cases fz with
      | true =>
        have := hm rfl
        subst this
        obtain ⟨a, xs, rfl, g1, g2, g3⟩ := (show ∃ a xs, v = .ref a ∧ G1 a = some (.lst xs) ∧ xs.length ≤ LIM ∧ RpL T.K G1 μ1 ds xs from by simpa only [Rp] using (show Rp T.K G1 μ1 (.lst ds) v from p1))
        exact ⟨false, a, xs, rfl, .inl (.inl (w1.gh _ _ g1)), h1 _ G1 H1 μ1 e1 w1 (wk_enum (xs := xs) fun G2 H2 μ2 c s2 => ⟨.inl (.inl (s2 _ _ (c.1 _ _ g1))), RpL.mono c.1 c.2 ds xs g3⟩)⟩
      | false =>
        obtain ⟨a, xs, rfl, g1, g2, g3⟩ := po_lst (p1.two w1.gh)
        exact ⟨false, a, xs, rfl, .inl (.inl g1), h1 _ G1 H1 μ1 e1 w1 (wk_enum (xs := xs) fun G2 H2 μ2 c s2 => ⟨.inl (.inl (c.h _ _ g1 rfl)), c.rpl g3⟩)⟩
    | tup ds =>
      obtain ⟨a, xs, rfl, g1, g2, g3⟩ := po_tup p1
      refine ⟨true, a, xs, rfl, w1.gh.sqt g1, h1 _ G1 H1 μ1 e1 w1 (wk_enum (xs := xs) fun G2 H2 μ2 c s2 => ?_)⟩
      have c' : Sub G1 G2 ∧ Pre μ1 μ2 := by
        cases fz with
        | true => exact c
        | false => exact ⟨c.g, c.m⟩
      exact ⟨(c'.1.trans s2).sqt g1, RpL.mono c'.1 c'.2 ds xs g3⟩
    | _ => exact h1.elim
  cases fz with
  | false => exact main md h (fun z => by cases z)
  | true => exact main 0 (h.zero (hm rfl)) fun _ => rfl
/-! ### slots set, forgotten -/
section
variable {E : EW} {ρ : Env} {σ : St} {G H : Hp} {μ : List Addr} {st : Sto}
theorem get_set {α : Type} {l : List (Option α)} {i j : Nat} {x : Option α} {d : α} (h : (l.set i x)[j]? = some (some d)) : (j = i ∧ x = some d ∧ i < l.length) ∨ (j ≠ i ∧ l[j]? = some (some d)) := by
  by_cases e : i = j
  · subst e
    by_cases hl : i < l.length
    · rw [List.getElem?_set_self hl] at h
      exact .inl ⟨rfl, Option.some.inj h, hl⟩
    · rw [List.getElem?_eq_none (by rw [List.length_set]; omega)] at h
      cases h
  · rw [List.getElem?_set_ne e] at h
    exact .inr ⟨fun z => e z.symm, h⟩
theorem Er.set (er : Er T mu n E ρ σ G H μ st) {i : Nat} {d : D} {v : V} (hi : i ∉ mu) (r : Rp T.K G μ d v) : Er T mu n E (ρ.set i (some d)) (σ.set i (some v)) G H μ st := by
  refine ⟨er.w, er.en, by rw [List.length_set]; exact er.lr, by rw [List.length_set]; exact er.ls, fun j e hj h => ?_, fun j e hj h => ?_, fun j l d1 d2 u hj hl hjl l1 l2 h1 h2 h3 h4 => ?_⟩
  · rcases get_set h with ⟨rfl, q, hl⟩ | ⟨q, h'⟩
    · cases q
      exact ⟨v, List.getElem?_set_self (by rw [er.ls, ← er.lr]; exact hl), r⟩
    · obtain ⟨u, h1, h2⟩ := er.pl j e hj h'
      exact ⟨u, by rw [List.getElem?_set_ne fun z => q z.symm]; exact h1, h2⟩
  · have q : j ≠ i := fun z => hi (z ▸ hj)
    rw [List.getElem?_set_ne fun z => q z.symm] at h
    obtain ⟨u, h1, h2⟩ := er.ow j e hj h
    exact ⟨u, by rw [List.getElem?_set_ne fun z => q z.symm]; exact h1, h2⟩
  · have q : j ≠ i := fun z => hi (z ▸ hj)
    have q' : l ≠ i := fun z => hi (z ▸ hl)
    rw [List.getElem?_set_ne fun z => q z.symm] at h1 h3
    rw [List.getElem?_set_ne fun z => q' z.symm] at h2 h4
    exact er.ap j l d1 d2 u hj hl hjl l1 l2 h1 h2 h3 h4
theorem Er.drop (er : Er T mu n E ρ σ G H μ st) (i : Nat) : Er T mu n E (ρ.set i none) (σ.set i none) G H μ st := by
  refine ⟨er.w, er.en, by rw [List.length_set]; exact er.lr, by rw [List.length_set]; exact er.ls, fun j e hj h => ?_, fun j e hj h => ?_, fun j l d1 d2 u hj hl hjl l1 l2 h1 h2 h3 h4 => ?_⟩
  · rcases get_set h with ⟨_, q, _⟩ | ⟨q, h'⟩
    · cases q
    · obtain ⟨u, h1, h2⟩ := er.pl j e hj h'
      exact ⟨u, by rw [List.getElem?_set_ne fun z => q z.symm]; exact h1, h2⟩
  · rcases get_set h with ⟨_, q, _⟩ | ⟨q, h'⟩
    · cases q
    · obtain ⟨u, h1, h2⟩ := er.ow j e hj h'
      exact ⟨u, by rw [List.getElem?_set_ne fun z => q z.symm]; exact h1, h2⟩
  · rcases get_set h1 with ⟨_, q, _⟩ | ⟨q, h1'⟩
    · cases q
    · rcases get_set h2 with ⟨_, q', _⟩ | ⟨q', h2'⟩
      · cases q'
      · rw [List.getElem?_set_ne fun z => q z.symm] at h3
        rw [List.getElem?_set_ne fun z => q' z.symm] at h4
        exact er.ap j l d1 d2 u hj hl hjl l1 l2 h1' h2' h3 h4
theorem Er.wipe (er : Er T mu n E ρ σ G H μ st) : ∀ vs : List Nat, Er T mu n E (wipeE vs ρ) (L2.wipe σ vs) G H μ st
  | [] => er
  | v :: vs => (Er.wipe er vs).drop v
end
theorem wipe_get (σ : St) (j : Nat) : ∀ vs : List Nat, (L2.wipe σ vs)[j]? = if j ∈ vs then (if j < σ.length then some none else none) else σ[j]?
  | [] => by simp [L2.wipe]
  | v :: vs => by
    unfold L2.wipe
    rw [List.getElem?_set, wipe_length, wipe_get σ j vs]
    by_cases e : v = j
    · subst e
      simp
    · have e' : ¬ j = v := fun z => e z.symm
      simp [e, e']
theorem wipe_eq {σ σ2 : St} {vs : List Nat} (hl : σ2.length = σ.length) (h : ∀ j, j ∉ vs → σ2[j]? = (L2.wipe σ vs)[j]?) : L2.wipe σ2 vs = L2.wipe σ vs := by
  apply List.ext_getElem?
  intro j
  rw [wipe_get σ2 j vs]
  by_cases hj : j ∈ vs
  · rw [if_pos hj, wipe_get, if_pos hj, hl]
  · rw [if_neg hj]
    exact h j hj
/-! ### targets -/
def slT : Tg → List Nat
  | .one i => [i]
  | .many is => is
def RdG (T : Rt) (mu : List Nat) (n : Nat) (z : Bool) (tg : Tg) (g : TG) : Prop :=
  ∀ (E : EW) (ρ : Env) (σ : St) (G H : Hp) (μ : List Addr) (st : Sto) (d : D) (v : V) (ρ1 : Env) (Q : St → Hp → Prop), Er T mu n E ρ σ G H μ st → RpZ z T.K G μ d v → stT tg d ρ = some ρ1 →
    (∀ σ1, Er T mu n E ρ1 σ1 G H μ st → σ1.length = σ.length → (∀ j, j ∉ slT tg → σ1[j]? = σ[j]?) → Q σ1 H) → g v σ H Q
theorem rd_gone {i : Nat} (hi : i ∉ mu) : RdG T mu n false (.one i) (gName i) := by
  intro E ρ σ G H μ st d v ρ1 Q er r h q
  simp only [stT] at h
  cases h
  exact q _ (er.set hi r) (List.length_set ..) fun j hj => List.getElem?_set_ne fun z => hj (by simp [slT, z])
def gMany : List Nat → TGs
  | [] => gNil
  | i :: is => gCons (gName i) (gMany is)
theorem rd_gs : ∀ (is : List Nat) (E : EW) (ρ : Env) (σ : St) (G H : Hp) (μ : List Addr) (st : Sto) (ds : List D) (vs : List V) (Q : St → Hp → Prop), (∀ i ∈ is, i ∉ mu) → Er T mu n E ρ σ G H μ st → RpL T.K G μ ds vs → ds.length = is.length →
    (∀ σ1, Er T mu n E (setAll is ds ρ) σ1 G H μ st → σ1.length = σ.length → (∀ j, j ∉ is → σ1[j]? = σ[j]?) → Q σ1 H) → gMany is vs σ H Q
  | [], E, ρ, σ, G, H, μ, st, ds, vs, Q, hi, er, r, hl, q => by
    have : ds = [] := List.eq_nil_of_length_eq_zero hl
    subst this
    simp only [RpL] at r
    refine ⟨r, q σ ?_ rfl fun _ _ => rfl⟩
    simpa [setAll] using er
  | i :: is, E, ρ, σ, G, H, μ, st, [], vs, Q, hi, er, r, hl, q => by simp at hl
  | i :: is, E, ρ, σ, G, H, μ, st, d :: ds, vs, Q, hi, er, r, hl, q => by
    simp only [RpL] at r
    obtain ⟨v, vs, rfl, r1, r2⟩ := r
    refine ⟨v, vs, rfl, rd_gs is E _ _ G H μ st ds vs Q (fun j hj => hi j (List.mem_cons_of_mem _ hj)) (er.set (hi i List.mem_cons_self) r1) r2 (by simpa using hl) fun σ1 er1 l1 s1 => ?_⟩
    refine q σ1 er1 (by rw [l1, List.length_set]) fun j hj => ?_
    rw [List.mem_cons, not_or] at hj
    rw [s1 j hj.2, List.getElem?_set_ne fun z => hj.1 z.symm]
theorem rd_gmany {z : Bool} {is : List Nat} (hi : ∀ i ∈ is, i ∉ mu) : RdG T mu n z (.many is) (gTup T.K is.length (gMany is)) := by
  intro E ρ σ G H μ st d v ρ1 Q er r h q
  cases d with
  | tup ds =>
    simp only [stT] at h
    split at h
    · rename_i hl
      cases h
      have r' : RpW T.K G μ (.tup ds) v := by
        cases z with
        | true => exact r
        | false => exact .inl r
      have r2 : ∃ a xs, v = .ref a ∧ SqT T.K G a xs ∧ RpL T.K G μ ds xs := by
        rcases r' with r' | ⟨ds', a, xs, e, e2, h1, h2, h3⟩
        · simp only [Rp] at r'
          obtain ⟨a, xs, e, h1, h2, h3⟩ := r'
          exact ⟨a, xs, e, h1.t, h3⟩
        · cases e
          exact ⟨a, xs, e2, h1, h3⟩
      obtain ⟨a, xs, rfl, h1, h3⟩ := r2
      exact ⟨a, xs, rfl, er.w.gh.sqw h1, by rw [← h3.length]; exact hl, rd_gs is E ρ σ G H μ st ds xs Q hi er h3 hl q⟩
    · cases h
  | _ => simp [stT] at h
/-! ### a list of one's own changed -/
theorem chg_lst {G1 H1 G H : Hp} {μ1 μ : List Addr} {st : Sto} {p : Addr} {xs ys : List V} (e : Ev G1 H1 μ1 G H μ) (w : WOk T G H μ st) (h1 : H1 p = none) (hg : G p = none) (hp : H p = some (.lst xs)) :
    Ev G1 H1 μ1 G (upd H p (.lst ys)) μ ∧ WOk T G (upd H p (.lst ys)) μ st := by
  have ne1 : ∀ b o, H1 b = some o → b ≠ p := fun b o q => ne_of_none q h1
  refine ⟨⟨e.g, e.m, fun b o q c => by rw [upd_ne (ne1 b o q)]; exact e.h b o q c, fun b o q => by rw [upd_ne (ne1 b o q)]; exact e.i b o q, e.f⟩, ⟨w.so, fun b o q => by rw [upd_ne (ne_of_none q hg)]; exact w.gh b o q, w.nd, w.len, fun k b ob h2 h3 => ?_⟩⟩
  obtain ⟨q1, dx, fs, q2, q3⟩ := w.obj k b ob h2 h3
  have nb : b ≠ p := fun z => by subst z; rw [hp] at q2; cases q2
  exact ⟨q1, dx, fs, by rw [upd_ne nb]; exact q2, q3⟩
/-! ### comprehensions -/
theorem nox_ok {α : Type} {m : M α} {s s' : Sto} {a : α} (h : nox m s = .ok a s') : m s = .ok a s' := by
  unfold nox at h
  cases e : m s with
  | ok b s1 => rw [e] at h; exact h
  | ex c s1 => rw [e] at h; cases h
  | bad => rw [e] at h; cases h
theorem bnd_ok {α β : Type} {m : M α} {f : α → M β} {s s' : Sto} {b : β} (h : bnd m f s = .ok b s') : ∃ a s1, m s = .ok a s1 ∧ f a s1 = .ok b s' := by
  unfold bnd at h
  cases e : m s with
  | ok a s1 => rw [e] at h; exact ⟨a, s1, rfl, h⟩
  | ex c s1 => rw [e] at h; cases h
  | bad => rw [e] at h; cases h
theorem bnd_of_ok {α β : Type} {m : M α} {f : α → M β} {s s' : Sto} {a : α} (e : m s = .ok a s') : bnd m f s = f a s' := by
  unfold bnd
  rw [e]
theorem bnd_of_bad {α β : Type} {m : M α} {f : α → M β} {s : Sto} (e : m s = .bad) : bnd m f s = .bad := by
  unfold bnd
  rw [e]
theorem nox_of_ok {α : Type} {m : M α} {s s' : Sto} {a : α} (e : m s = .ok a s') : nox m s = .ok a s' := by
  unfold nox
  rw [e]
theorem nox_of_bad {α : Type} {m : M α} {s : Sto} (e : m s = .bad) : nox m s = .bad := by
  unfold nox
  rw [e]
theorem nox_of_ex {α : Type} {m : M α} {s s' : Sto} {c : Xc} (e : m s = .ex c s') : nox m s = .bad := by
  unfold nox
  rw [e]
theorem cpM_res {c : Env → M Bool} {e : Env → M D} {tg : Tg} {ρ : Env} : ∀ (ds : List D) (st : Sto), (∃ zs s', cpM c e tg ρ ds st = .ok zs s') ∨ cpM c e tg ρ ds st = .bad
  | [], st => .inl ⟨[], st, rfl⟩
  | d :: ds, st => by
    unfold cpM
    cases h : stT tg d ρ with
    | none => exact .inr rfl
    | some ρ1 =>
      simp only
      cases h1 : c ρ1 st with
      | bad => exact .inr (bnd_of_bad (nox_of_bad h1))
      | ex _ _ => exact .inr (bnd_of_bad (nox_of_ex h1))
      | ok b s1 =>
        rw [bnd_of_ok (nox_of_ok h1)]
        cases b with
        | false => exact cpM_res ds s1
        | true =>
          show (∃ zs s', bnd (nox (e ρ1)) _ s1 = .ok zs s') ∨ bnd (nox (e ρ1)) _ s1 = .bad
          cases h2 : e ρ1 s1 with
          | bad => exact .inr (bnd_of_bad (nox_of_bad h2))
          | ex _ _ => exact .inr (bnd_of_bad (nox_of_ex h2))
          | ok y s2 =>
            rw [bnd_of_ok (nox_of_ok h2)]
            rcases cpM_res (c := c) (e := e) (tg := tg) (ρ := ρ) ds s2 with ⟨zs, s', q⟩ | q
            · exact .inl ⟨y :: zs, s', by rw [bnd_of_ok q]; rfl⟩
            · exact .inr (bnd_of_bad q)
theorem cpM_cons {c : Env → M Bool} {e : Env → M D} {tg : Tg} {ρ : Env} {d : D} {ds zs : List D} {st s' : Sto} (h : cpM c e tg ρ (d :: ds) st = .ok zs s') :
    ∃ ρ1 b s1, stT tg d ρ = some ρ1 ∧ c ρ1 st = .ok b s1 ∧ ((b = false ∧ cpM c e tg ρ ds s1 = .ok zs s') ∨ (b = true ∧ ∃ y s2 ys, e ρ1 s1 = .ok y s2 ∧ cpM c e tg ρ ds s2 = .ok ys s' ∧ zs = y :: ys)) := by
  unfold cpM at h
  cases q : stT tg d ρ with
  | none => rw [q] at h; cases h
  | some ρ1 =>
    rw [q] at h
    obtain ⟨b, s1, h1, h2⟩ := bnd_ok h
    refine ⟨ρ1, b, s1, rfl, nox_ok h1, ?_⟩
    cases b with
    | false => exact .inl ⟨rfl, h2⟩
    | true =>
      obtain ⟨y, s2, h3, h4⟩ := bnd_ok (show bnd (nox (e ρ1)) _ s1 = .ok zs s' from h2)
      obtain ⟨ys, s3, h5, h6⟩ := bnd_ok h4
      cases h6
      exact .inr ⟨rfl, y, s2, ys, nox_ok h3, h5, rfl⟩
def W0 : WX := fun _ _ _ _ => False
theorem rd_cp {z : Bool} {wi : TI} {g : TG} {tt : TT} {te : TE} {fi : Env → M (List D)} {fc : Env → M Bool} {fe : Env → M D} {tg : Tg} {own : List Nat} (hI : RdI T mu n W z false wi fi) (hg : RdG T mu n z tg g) (hc : RdT T mu n W0 tt fc) (he : RdE T mu n W0 0 te fe) (hs : ∀ i ∈ slT tg, i ∈ own) :
    RdE T mu n W 1 (tLc wi g tt te own) (fun ρ => bnd (fi ρ) fun ds => bnd (cpM fc fe tg (wipeE own ρ) ds) mkL) := by
  intro E ρ σ G H μ st Q er hres
  refine hI E ρ σ G H μ st _ er (hres.bnd.mono (fun ds s1 h1 J G1 H1 μ1 e1 w1 wk D hD => ?_) fun c s h => h)
  rcases cpM_res (c := fc) (e := fe) (tg := tg) (ρ := wipeE own ρ) ds s1 with ⟨zs, s', hz⟩ | hz
  rotate_left
  · exact (Res.of_bad hz h1).elim
  have h2 : Res (mkL zs s') (fun d st' => ∀ v G' H' μ', Ev G H μ G' H' μ' → WOk T G' H' μ' st' → Po T 1 H G' H' μ' d v → Q v H') (WK T W G H μ σ) := Res.of_ok hz h1
  have hlim : zs.length ≤ LIM := by
    unfold mkL at h2
    split at h2
    · assumption
    · exact h2.elim
  have h3 : ∀ v G' H' μ', Ev G H μ G' H' μ' → WOk T G' H' μ' s' → Po T 1 H G' H' μ' (.lst zs) v → Q v H' := by
    unfold mkL at h2
    rw [if_pos hlim] at h2
    exact h2
  have gD : G1 D = none := sub_no w1.gh hD
  have er1 : Er T mu n E (wipeE own ρ) (L2.wipe σ own) G1 H1 μ1 s1 := (er.ev e1 w1).wipe own
  let P : Nat → Hp → Prop := fun i H2 => ∃ G2 μ2 st2 acc vs ys, Ev G1 H1 μ1 G2 H2 μ2 ∧ WOk T G2 H2 μ2 st2 ∧ H2 D = some (.lst vs) ∧ G2 D = none ∧ RpL T.K G2 μ2 acc vs ∧ cpM fc fe tg (wipeE own ρ) (ds.drop i) st2 = .ok ys s' ∧ acc ++ ys = zs
  have wl : Walk J ds.length (fun H2 => ∃ G2 μ2 st2, Ev G1 H1 μ1 G2 H2 μ2 ∧ WOk T G2 H2 μ2 st2) (fun i H2 x H' => i < ds.length ∧ J.yld i H2 x H') :=
    ⟨fun i H2 hi ⟨G2, μ2, st2, c, w⟩ => (wk i G2 H2 μ2 st2 c w).1 hi, fun H2 ⟨G2, μ2, st2, c, w⟩ => (wk ds.length G2 H2 μ2 st2 c w).2.1 rfl, fun i H2 x H' hi _ y => ⟨hi, y⟩⟩
  obtain ⟨e0, w0⟩ := new_lst w1 hD []
  refine lc_it (σ := σ) (H1 := H1) (D := D) (Qd := Q (.ref D)) wl P ⟨G1, μ1, s1, [], [], zs, e0, w0, upd_same, gD, RpL.nil, hz, rfl⟩ (fun i H2 _ ⟨G2, μ2, st2, _, _, _, c, w, _⟩ => ⟨G2, μ2, st2, c, w⟩) (fun i x H2 H' hi p y => ?_) (fun H2 p => ?_)
  · obtain ⟨G2, μ2, st2, acc, vs, ys, c2, w2, hd, hg2, hr, hcp, hzs⟩ := p
    obtain ⟨d, G3, hdi, c3, w3, rp⟩ := (wk i G2 H2 μ2 st2 c2 w2).2.2 x H' hi y.2
    have hdrop : ds.drop i = d :: ds.drop (i + 1) := by
      rw [List.drop_eq_getElem_cons hi]
      congr 1
      rw [List.getElem?_eq_getElem hi] at hdi
      exact Option.some.inj hdi
    rw [hdrop] at hcp
    obtain ⟨ρ1, b, sa, k1, k2, k3⟩ := cpM_cons hcp
    have er3 := er1.ev (c2.trans c3) w3
    have hd3 : H' D = some (.lst vs) := c3.h D _ hd rfl
    have hg3 : G3 D = none := c3.f D hg2 (by rw [hd]; simp)
    refine hg E (wipeE own ρ) (L2.wipe σ own) G3 H' μ2 st2 d x ρ1 _ er3 rp k1 fun σ2 er4 l4 s4 => ⟨?_, ?_⟩
    · refine wipe_eq ?_ fun j hj => s4 j fun hj' => hj (hs j hj')
      rw [l4, wipe_length]
    · refine hc E ρ1 σ2 G3 H' μ2 st2 _ er4 ?_
      rw [k2]
      intro G4 H4 μ4 c4 w4
      have c14 := (c2.trans c3).trans c4
      have hd4 : H4 D = some (.lst vs) := c4.h D _ hd3 rfl
      have hg4 : G4 D = none := c4.f D hg3 (by rw [hd3]; simp)
      have hr4 := (c3.trans c4).rpl hr
      rcases k3 with ⟨rfl, k3⟩ | ⟨rfl, y', s2, ys', k3, k4, rfl⟩
      · rw [if_neg (by decide)]
        exact ⟨G4, μ4, sa, acc, vs, ys, c14, w4, hd4, hg4, hr4, k3, hzs⟩
      · rw [if_pos rfl]
        refine he E ρ1 σ2 G4 H4 μ4 sa _ (er4.ev c4 w4) ?_
        rw [k3]
        intro v5 G5 H5 μ5 c5 w5 p5
        have hd5 : H5 D = some (.lst vs) := c5.h D _ hd4 rfl
        have hg5 : G5 D = none := c5.f D hg4 (by rw [hd4]; simp)
        have hr5 := c5.rpl hr4
        have hlen : vs.length < LIM := by
          rw [← hr5.length]
          rw [← hzs, List.length_append, List.length_cons] at hlim
          omega
        obtain ⟨c6, w6⟩ := chg_lst (ys := vs ++ [v5]) (c14.trans c5) w5 hD hg5 hd5
        exact ⟨vs, hd5, by rw [limS]; exact hlen, G5, μ5, s2, acc ++ [y'], vs ++ [v5], ys', c6, w6, upd_same, hg5, hr5.append (RpL.one (po_rp0 p5)), k4, by rw [List.append_assoc]; exact hzs⟩
  · obtain ⟨G2, μ2, st2, acc, vs, ys, c2, w2, hd, hg2, hr, hcp, hzs⟩ := p
    rw [List.drop_length] at hcp
    cases hcp
    rw [List.append_nil] at hzs
    subst hzs
    refine h3 (.ref D) G2 H2 μ2 (e1.trans c2) w2 ⟨D, vs, rfl, ?_, hg2, hd, by rw [← hr.length]; exact hlim, hr⟩
    cases q : H D with
    | none => rfl
    | some o =>
      obtain ⟨o', q'⟩ := e1.i D o q
      rw [hD] at q'
      cases q'
end BX

set_option Elab.async false
set_option linter.all false
set_option maxRecDepth 100000
/-! BU1: zip; sum; max, min of two. -/
namespace BX
open PySem PySem.Spec PyProof.Rows L2
variable {T : Rt} {mu : List Nat} {n : Nat} {W : WX}
theorem zipL_len : ∀ (ds es : List D), (zipL ds es).length = min ds.length es.length
  | [], _ => by simp [zipL]
  | _ :: _, [] => by simp [zipL]
  | d :: ds, e :: es => by simp only [zipL, List.length_cons, zipL_len ds es]; omega
theorem zipL_get : ∀ (ds es : List D) (i : Nat) (d e : D), ds[i]? = some d → es[i]? = some e → (zipL ds es)[i]? = some (.tup [d, e])
  | [], _, _, _, _, h, _ => by simp at h
  | _ :: _, [], _, _, _, _, h => by simp at h
  | x :: ds, y :: es, 0, d, e, h, h' => by
    simp only [List.getElem?_cons_zero, Option.some.injEq] at h h'
    subst h h'
    rfl
  | x :: ds, y :: es, i + 1, d, e, h, h' => by
    simp only [List.getElem?_cons_succ] at h h'
    simp only [zipL, List.getElem?_cons_succ]
    exact zipL_get ds es i d e h h'
theorem wk_zipL {a b : Addr} {ds es : List D} {xs ys : List V} {C : Hp → Hp → List Addr → Prop} (h : ∀ G H μ, C G H μ → Sub G H → (SqL T.K H a xs ∧ RpL T.K G μ ds xs) ∧ SqL T.K H b ys ∧ RpL T.K G μ es ys) : Wk T true (Itz T.K a b) (zipL ds es) C := by
  intro i G H μ st c w
  obtain ⟨⟨h1, h2⟩, h3, h4⟩ := h G H μ c w.gh
  have hl := h2.length
  have hl' := h4.length
  rw [zipL_len]
  refine ⟨fun hi => ⟨xs, ys, xs[i]'(by omega), ys[i]'(by omega), h1, h3, by simp [show i < xs.length by omega], by simp [show i < ys.length by omega]⟩, fun hi => ⟨xs, ys, h1, h3, by omega⟩, fun x H' hi y => ?_⟩
  obtain ⟨p, u, v, rfl, hp, rfl, e, e'⟩ := y
  have hd : ds[i]? = some (ds[i]'(by omega)) := List.getElem?_eq_getElem (by omega)
  have he : es[i]? = some (es[i]'(by omega)) := List.getElem?_eq_getElem (by omega)
  obtain ⟨v1, e1, e2⟩ := h2.get hd
  rw [e xs h1] at e1
  cases e1
  obtain ⟨v2, f1, f2⟩ := h4.get he
  rw [e' ys h3] at f1
  cases f1
  obtain ⟨q1, q2, q3⟩ := new_tupW w hp (by show 2 ≤ LIM; decide) (RpL.cons e2 (RpL.one f2))
  exact ⟨_, _, zipL_get ds es i _ _ hd he, q1, q2, q3⟩
theorem wk_zipT {a b : Addr} {ds es : List D} {xs ys : List V} {C : Hp → Hp → List Addr → Prop} (h : ∀ G H μ, C G H μ → Sub G H → (SqT T.K H a xs ∧ RpL T.K G μ ds xs) ∧ SqT T.K H b ys ∧ RpL T.K G μ es ys) : Wk T true (RZ.ItzT T.K a b) (zipL ds es) C := by
  intro i G H μ st c w
  obtain ⟨⟨h1, h2⟩, h3, h4⟩ := h G H μ c w.gh
  have hl := h2.length
  have hl' := h4.length
  rw [zipL_len]
  refine ⟨fun hi => ⟨xs, ys, xs[i]'(by omega), ys[i]'(by omega), h1, h3, by simp [show i < xs.length by omega], by simp [show i < ys.length by omega]⟩, fun hi => ⟨xs, ys, h1, h3, by omega⟩, fun x H' hi y => ?_⟩
  obtain ⟨p, u, v, rfl, hp, rfl, e, e'⟩ := y
  have hd : ds[i]? = some (ds[i]'(by omega)) := List.getElem?_eq_getElem (by omega)
  have he : es[i]? = some (es[i]'(by omega)) := List.getElem?_eq_getElem (by omega)
  obtain ⟨v1, e1, e2⟩ := h2.get hd
  rw [e xs h1] at e1
  cases e1
  obtain ⟨v2, f1, f2⟩ := h4.get he
  rw [e' ys h3] at f1
  cases f1
  obtain ⟨q1, q2, q3⟩ := new_tupW w hp (by show 2 ≤ LIM; decide) (RpL.cons e2 (RpL.one f2))
  exact ⟨_, _, zipL_get ds es i _ _ hd he, q1, q2, q3⟩
theorem rd_zip {ma mb : Nat} {t u : TE} {f g : Env → M D} {fz : Bool} (h : RdE T mu n W ma t f) (h' : RdE T mu n W mb u g) (hm : fz = true → ma ≤ 1 ∧ mb ≤ 1) : RdI T mu n W true fz (RZ.iZipA T.K (tCons t (tCons u tNil))) (fun ρ => bnd (f ρ) fun x => bnd (g ρ) fun y => seq2M x y) := by
  have main : ∀ (ma mb : Nat), RdE T mu n W ma t f → RdE T mu n W mb u g → (fz = true → ma = 0 ∧ mb = 0) → RdI T mu n W true fz (RZ.iZipA T.K (tCons t (tCons u tNil))) (fun ρ => bnd (f ρ) fun x => bnd (g ρ) fun y => seq2M x y) := by
    intro ma mb h h' hm E ρ σ G H μ st R er hres
    refine h E ρ σ G H μ st _ er (hres.bnd.mono (fun x s1 h1 v G1 H1 μ1 e1 w1 p1 => ?_) fun c s h => h)
    refine h' E ρ σ G1 H1 μ1 s1 _ (er.ev e1 w1) (h1.bnd.mono (fun y s2 h2 v2 G2 H2 μ2 e2 w2 p2 => ?_) fun c s h => WK.ev h e1)
    show ∃ a b xs ys, [v, v2] = [V.ref a, V.ref b] ∧ _
    cases x with
    | lst ds =>
      cases y with
      | lst es =>
        cases fz with
        | true =>
          obtain ⟨ha, hb⟩ := hm rfl
          subst ha hb
          obtain ⟨a, xs, rfl, g1, g2, g3⟩ := (show ∃ a xs, v = .ref a ∧ G1 a = some (.lst xs) ∧ xs.length ≤ LIM ∧ RpL T.K G1 μ1 ds xs from by simpa only [Rp] using (show Rp T.K G1 μ1 (.lst ds) v from p1))
          obtain ⟨b, ys, rfl, k1, k2, k3⟩ := (show ∃ a xs, v2 = .ref a ∧ G2 a = some (.lst xs) ∧ xs.length ≤ LIM ∧ RpL T.K G2 μ2 es xs from by simpa only [Rp] using (show Rp T.K G2 μ2 (.lst es) v2 from p2))
          refine ⟨a, b, xs, ys, rfl, .inl ⟨.inl (.inl (w2.gh _ _ (e2.g _ _ g1))), .inl (.inl (w2.gh _ _ k1)), h2 _ G2 H2 μ2 (e1.trans e2) w2 (wk_zipL (xs := xs) (ys := ys) fun G3 H3 μ3 c s2 => ?_)⟩⟩
          exact ⟨⟨.inl (.inl (s2 _ _ (c.1 _ _ (e2.g _ _ g1)))), RpL.mono (e2.g.trans c.1) (e2.m.trans c.2) ds xs g3⟩, .inl (.inl (s2 _ _ (c.1 _ _ k1))), RpL.mono c.1 c.2 es ys k3⟩
        | false =>
          obtain ⟨a, xs, rfl, g1, g2, g3⟩ := po_lst ((p1.two w1.gh).later e2)
          obtain ⟨b, ys, rfl, k1, k2, k3⟩ := po_lst (p2.two w2.gh)
          refine ⟨a, b, xs, ys, rfl, .inl ⟨.inl (.inl g1), .inl (.inl k1), h2 _ G2 H2 μ2 (e1.trans e2) w2 (wk_zipL (xs := xs) (ys := ys) fun G3 H3 μ3 c s2 => ?_)⟩⟩
          exact ⟨⟨.inl (.inl (c.h _ _ g1 rfl)), c.rpl g3⟩, .inl (.inl (c.h _ _ k1 rfl)), c.rpl k3⟩
      | _ => exact h2.elim
    | tup ds =>
      cases y with
      | tup es =>
        obtain ⟨a, xs, rfl, g1, g2, g3⟩ := po_tup p1
        obtain ⟨b, ys, rfl, k1, k2, k3⟩ := po_tup p2
        refine ⟨a, b, xs, ys, rfl, .inr ⟨w2.gh.sqt (e2.g.sqn g1), w2.gh.sqt k1, h2 _ G2 H2 μ2 (e1.trans e2) w2 (wk_zipT (xs := xs) (ys := ys) fun G3 H3 μ3 c s2 => ?_)⟩⟩
        have c' : Sub G2 G3 ∧ Pre μ2 μ3 := by
          cases fz with
          | true => exact c
          | false => exact ⟨c.g, c.m⟩
        exact ⟨⟨(c'.1.trans s2).sqt (e2.g.sqn g1), RpL.mono (e2.g.trans c'.1) (e2.m.trans c'.2) ds xs g3⟩, (c'.1.trans s2).sqt k1, RpL.mono c'.1 c'.2 es ys k3⟩
      | _ => exact h2.elim
    | _ => exact h2.elim
  cases fz with
  | false => exact main ma mb h h' (fun z => by cases z)
  | true => exact main 0 0 (h.zero (hm rfl).1) (h'.zero (hm rfl).2) fun _ => ⟨rfl, rfl⟩
/-! ### sum -/
def rSumA (K : PySem.W.Frag) : List V → Hp → VK → Prop := fun vs H Q => ∃ (a : Addr) (ns : List Int), vs = [V.ref a] ∧ (SqL K H a (ns.map V.int) ∨ SqT K H a (ns.map V.int)) ∧ Q (.int ns.sum) H
theorem sumT_raw {prog : Program} {w : World} {A : Around} {E : Value → Shared → Prop} {s : Shared} {l : Addr} {its : List Value} {ns : List Int} {Q : Value → Shared → Prop} (hh : A.handled = none) (hl : s.heap.IsTuple l its.toArray) (hi : IntsAre its ns)
    (h : ∀ h' tk t', (∀ b o, s.heap.get? b = some o → h'.get? b = some o) → Q (.int ns.sum t') { s with heap := h', toks := tk }) : wpAny (model prog w) A (call (.builtin "sum") [.ref l]) Q E s := by
  obtain ⟨xs, e⟩ := hi.allInts.items
  have hn : numsOf (intItems xs).toList = ns := by rw [← e]; exact hi.numsOf
  rw [nums_intItems] at hn
  rw [e] at hl
  refine PySem.W.ktm_sumG hh hl fun h' tk t' hk => ?_
  have := h h' tk t' hk
  rw [preSum_eq, List.take_of_length_le (by simp), hn]; exact this
theorem p_sum {X : Cx} (hc : X.calm = true) : CallR X (.builtin "sum") (rSumA X.K) := by
  intro pins s σ H vs us Q I r h
  obtain ⟨a, ns, rfl, hs, q⟩ := h
  rw [Vals.ref1 r]
  rcases hs with hs | hs
  · obtain ⟨its, rv, hl, _⟩ := I.list hs
    exact sum_raw (I.ok.hd hc) hl.isList rv.ints fun h' tk t' hk => ⟨.int _, H, I.kept hk, ⟨_, rfl⟩, q⟩
  · obtain ⟨its, rv, hl, _⟩ := I.tuple hs
    exact sumT_raw (I.ok.hd hc) hl rv.ints fun h' tk t' hk => ⟨.int _, H, I.kept hk, ⟨_, rfl⟩, q⟩
theorem o_sum : RdU T 1 (fun x H Q => rSumA T.K [x] H Q) sumD := by
  intro x vx G H μ st Q w px h
  unfold sumD at h
  cases x with
  | lst ds =>
    obtain ⟨l, xs, rfl, h1, h2, h3⟩ := po_lst px
    cases e : intsO ds with
    | none => simp only [items, Option.bind_some, e] at h; exact h.elim
    | some bs =>
      simp only [items, Option.bind_some, e] at h
      have ex := ints_v h3 e
      subst ex
      exact ⟨l, bs, rfl, .inl (.inl (.inl h1)), h _ _ _ (Ev.refl _ _ _) w pk_int⟩
  | tup ds =>
    obtain ⟨l, xs, rfl, h1, h2, h3⟩ := po_tup px
    cases e : intsO ds with
    | none => simp only [items, Option.bind_some, e] at h; exact h.elim
    | some bs =>
      simp only [items, Option.bind_some, e] at h
      have ex := ints_v h3 e
      subst ex
      exact ⟨l, bs, rfl, .inr (w.gh.sqt h1), h _ _ _ (Ev.refl _ _ _) w pk_int⟩
  | _ => exact h.elim
theorem maxI_spec : ∀ (r : List Int) (m : Int), maxI m r ∈ m :: r ∧ ∀ y ∈ m :: r, y ≤ maxI m r
  | [], m => ⟨List.mem_cons_self, fun y hy => by simp at hy; subst hy; exact Int.le_refl _⟩
  | x :: r, m => by
    obtain ⟨h1, h2⟩ := maxI_spec r (if m < x then x else m)
    simp only [maxI]
    constructor
    · rcases List.mem_cons.mp h1 with e | e
      · rw [e]
        split
        · exact List.mem_cons_of_mem _ List.mem_cons_self
        · exact List.mem_cons_self
      · exact List.mem_cons_of_mem _ (List.mem_cons_of_mem _ e)
    · intro y hy
      have h0 := h2 _ List.mem_cons_self
      generalize maxI (if m < x then x else m) r = z at h0 h2
      rcases List.mem_cons.mp hy with rfl | hy
      · split at h0 <;> omega
      · rcases List.mem_cons.mp hy with rfl | hy
        · split at h0 <;> omega
        · exact h2 y (List.mem_cons_of_mem _ hy)
theorem o_max : RdU T 1 (fun x H Q => rMax T.K [x] H Q) maxD := by
  intro x vx G H μ st Q w px h
  unfold maxD at h
  cases x with
  | lst ds =>
    obtain ⟨l, xs, rfl, h1, h2, h3⟩ := po_lst px
    simp only [] at h
    cases e : intsO ds with
    | none => rw [e] at h; exact h.elim
    | some bs =>
      rw [e] at h
      have ex := ints_v h3 e
      subst ex
      cases bs with
      | nil => exact h.elim
      | cons m r =>
        obtain ⟨g1, g2⟩ := maxI_spec r m
        refine ⟨l, m :: r, rfl, .inl (.inl h1), by simp, fun k hk hle => ?_⟩
        have : k = maxI m r := Int.le_antisymm (g2 k hk) (hle _ g1)
        rw [this]
        exact h _ _ _ (Ev.refl _ _ _) w pk_int
  | _ => exact h.elim
/-! ### max, min of two -/
def rMax2 : V → V → Hp → VK → Prop := fun x y H Q => ∃ i j, [x, y] = [V.int i, V.int j] ∧ Q (.int (if j > i then j else i)) H
def rMin2 : V → V → Hp → VK → Prop := fun x y H Q => ∃ i j, [x, y] = [V.int i, V.int j] ∧ Q (.int (if j < i then j else i)) H
theorem o_max2 : RdO T 1 rMax2 max2D := by
  intro x y vx vy G H μ st Q w px py h
  cases x with
  | int a =>
    cases y with
    | int b => exact ⟨a, b, by rw [po_int px, po_int py], h _ _ _ (Ev.refl _ _ _) w pk_int⟩
    | _ => exact h.elim
  | _ => exact h.elim
theorem o_min2 : RdO T 1 rMin2 min2D := by
  intro x y vx vy G H μ st Q w px py h
  cases x with
  | int a =>
    cases y with
    | int b => exact ⟨a, b, by rw [po_int px, po_int py], h _ _ _ (Ev.refl _ _ _) w pk_int⟩
    | _ => exact h.elim
  | _ => exact h.elim
end BX

set_option Elab.async false
set_option linter.all false
set_option maxRecDepth 100000
/-! BV2: sets of tuples of ints filled. -/
namespace BX
open PySem PySem.Spec PyProof.Rows L2
open PySem.W (alike alikeAll dataLt keyToksAll keyToks AllAlike Sortable dataLe EachIs TotalLe sort_maps SortsAt sortingHeap sortingHeap_old each_map bound_map dataKind sortVals_length sortVals_data list_sort_vals)
/-- a set with nothing in it -/
def eSet (w : World) : Obj := { cls := .type "set", dict := none, data := .set #[] 0 (.fresh 0 0 (!w.params.followText "set-order")) }
section
variable {P : Program} {w : World} {A : Around} {E : Value → Shared → Prop} {s : Shared}
theorem walksK (hh : A.handled = none) (b : Bool) (I ax : Addr) (hne : ax ≠ I) (items : Array Value) : Walks P w A I [I, ax] [I] items.size (fun i v => items[i]? = some v) (fun i h => IterK b h I ax i ∧ IsSeqK b h ax items) := by
  cases b with
  | false => exact Walks.list hh I ax hne items
  | true => exact Walks.tuple hh I ax hne items
theorem nodup_len {α : Type} [DecidableEq α] : ∀ (l D : List α), l.Nodup → (∀ x ∈ l, x ∈ D) → l.length ≤ D.length
  | [], _, _, _ => Nat.zero_le _
  | x :: l, D, hn, hs => by
    obtain ⟨h1, h2⟩ := List.nodup_cons.mp hn
    have hx : x ∈ D := hs x List.mem_cons_self
    have ih := nodup_len l (D.erase x) h2 fun y hy => (List.mem_erase_of_ne fun e => h1 (by rw [← e]; exact hy)).2 (hs y (List.mem_cons_of_mem _ hy))
    have e := List.length_erase_of_mem hx
    have hp : 0 < D.length := List.length_pos_of_mem hx
    rw [List.length_cons]
    omega
/-- what is filled in item by item; few unlike ones -/
theorem set_upd {I : Addr} {fp wr : List Addr} {G : Array GenState → Array GenState → Prop} {n : Nat} {Pv : Nat → Value → Prop} {St : Nat → Shared → Prop} {R : Result → Shared → Prop}
    (W : WalksS P w A.in1 I fp wr G n Pv St) (S : Addr) (hSf : S ∉ fp) (ks : List (Addr × List Int)) (hn : n = ks.length) (D : List (List Int)) (hD : ∀ p ∈ ks, p.2 ∈ D) (hfew : D.length < 63) (hval : ∀ i v, Pv i v → ∃ p, ks[i]? = some p ∧ v = .ref p.1)
    (h0 : Heap) (hk : ∀ p ∈ ks, IsT P w h0 p.2 p.1) (hS0 : h0.get? S = none) (hw0 : ∀ b ∈ wr, h0.get? b = none) (hu : A.in1.units < cLine) (k : Nat) :
    ∀ (i : Nat) (s : Shared), n - i = k → i ≤ n → St i s → (∀ b o, h0.get? b = some o → s.heap.get? b = some o) → (∃ L es ep t, SetTR P w s.heap S L es ep t ∧ Got ks i L) →
      (∀ s' L es ep t, Moved (S :: wr) G s s' → SetTR P w s'.heap S L es ep t → Got ks n L → (∀ b o, h0.get? b = some o → s'.heap.get? b = some o) → R (.ok (.ret .none)) s') →
      codeAny (model P w) A (.builtin "set.update.loop" ⟨[.ref S, .ref I], []⟩) R s := by
  have nw : S ∉ wr := fun h => hSf (W.sub _ h)
  have up : ∀ b ∈ wr, b ∈ S :: wr := fun b hb => List.mem_cons_of_mem _ hb
  have kept : ∀ {s s' : Shared}, Moved wr G s s' → (∀ b o, h0.get? b = some o → s.heap.get? b = some o) → ∀ b o, h0.get? b = some o → s'.heap.get? b = some o := fun m q b o e =>
    m.heap b o (fun hb => by rw [hw0 b hb] at e; cases e) (q b o e)
  induction k with
  | zero =>
    intro i s e0 hi hst q ⟨L, es, ep, t, hS, g⟩ hR
    obtain rfl : i = n := by omega
    apply codeAny_builtin F.entry_set_update_loop; rw [Around.under_plainId F.plain_set_update_loop _]
    refine (show wpAny _ A.in1 (pyNext (.ref I) >>= _) _ _ s from wpAny_bind (W.done s _ _ hst fun s' hm => ?_))
    refine (show wpAny _ A.in1 (PySem.ret Value.none) _ _ s' from wpAny_pure ?_)
    have inn : ∀ p ∈ L, p ∈ ks := fun p hp => List.mem_of_mem_take (g.sub p hp)
    exact hR s' L es ep t (hm.mono up) (hS.keep (fun o e => hm.heap S o nw e) fun p hp => isT_keep (hk p (inn p hp)) (kept hm q)) g (kept hm q)
  | succ k ih =>
    intro i s e0 hi hst q ⟨L, es, ep, t, hS, g⟩ hR
    have lt : i < n := by omega
    apply codeAny_builtin F.entry_set_update_loop; rw [Around.under_plainId F.plain_set_update_loop _]
    refine (show wpAny _ A.in1 (pyNext (.ref I) >>= _) _ _ s from wpAny_bind (W.item i s _ _ lt hst fun v s' hP hst' hm => ?_))
    obtain ⟨p, hp, rfl⟩ := hval i v hP
    have q' := kept hm q
    have inn : ∀ p ∈ L, p ∈ ks := fun p hp => List.mem_of_mem_take (g.sub p hp)
    have hS' : SetTR P w s'.heap S L es ep t := hS.keep (fun o e => hm.heap S o nw e) fun r hr => isT_keep (hk r (inn r hr)) q'
    have hx : IsT P w s'.heap p.2 p.1 := isT_keep (hk p (List.mem_of_getElem? hp)) q'
    have few : L.length + 1 < 64 := by
      have := nodup_len (L.map (·.2)) D hS.nd fun x hx => by
        obtain ⟨r, hr, rfl⟩ := List.mem_map.mp hx
        exact hD r (inn r hr)
      rw [List.length_map] at this
      omega
    show wpAny _ A.in1 (holding [Value.ref p.1] (setAdd S (.ref p.1)) >>= _) _ _ s'
    unfold setAdd
    refine wpAny_bind (wpAny_holding (wpAny_holding (wpAny_bind (wpAny_pyHash_tuple hu hx (add_at (s := { s' with toks := s'.toks + (p.2.length + 1) }) hS' hx hu few fun b h' L' es' ep' t' hsb hS2 c1 c2 => ?_)))))
    have g' : Got ks (i + 1) L' := (Classical.em (p.2 ∈ L.map (·.2))).elim (fun c => by rw [c1 c]; exact g.same hp c) fun c => g.more hp (c2 c)
    have q2 : ∀ b o, h0.get? b = some o → h'.get? b = some o := fun b o e => (hsb.2 b (fun z => by rw [z, hS0] at e; cases e)).trans (q' b o e)
    refine wpAny_pure ⟨plainId_quiet F.plain_set_update_loop _, ih (i + 1) _ (by omega) lt (W.frame _ s' _ _ hst' (Nat.le_add_right _ _) fun b hb o e => ?_) q2 ⟨L', es', ep', t', hS2, g'⟩ fun s2 L2 es2 ep2 t2 m2 hS3 g3 q3 => ?_⟩
    · exact (hsb.2 b (fun z : b = S => hSf (z ▸ hb))).trans e
    · exact hR s2 L2 es2 ep2 t2 (Moved.trans W.gtrans ((hm.mono up).then_heap (Nat.le_add_right _ _) fun b o hb e => (hsb.2 b (fun z : b = S => hb (z ▸ List.mem_cons_self))).trans e) m2) hS3 g3 q3
theorem set_body {b : Bool} {l : Addr} {items : Array Value} (ks : List (Addr × List Int)) (hh : A.handled = none) (hl : IsSeqK b s.heap l items) (hit : items.toList = ks.map fun p => Value.ref p.1)
    (hk : ∀ p ∈ ks, IsT P w s.heap p.2 p.1) (D : List (List Int)) (hD : ∀ p ∈ ks, p.2 ∈ D) (hfew : D.length < 63) (hu : A.in1.units < cLine) {R : Result → Shared → Prop} {o : Obj} (ho : o = itObj b l)
    (hR : ∀ (h' : Heap) (tk : Nat) L es ep t, SetTR P w h' s.heap.objs.size L es ep t → Got ks ks.length L → (∀ b o, s.heap.get? b = some o → h'.get? b = some o) → R (.ok (.ret .none)) { s with heap := h', toks := tk }) :
    codeAny (model P w) A (.builtin "set.update.loop" ⟨[.ref s.heap.objs.size, .ref (s.heap.push (eSet w)).objs.size], []⟩) R { s with heap := (s.heap.push (eSet w)).push o } := by
  subst ho
  have hlen : items.size = ks.length := by
    have q := congrArg List.length hit
    rwa [Array.length_toList, List.length_map] at q
  have z1 : (s.heap.push (eSet w)).objs.size = s.heap.objs.size + 1 := Heap.size_push ..
  have hS : (s.heap.push (eSet w)).get? s.heap.objs.size = some (eSet w) := Heap.get?_push_size _ rfl
  have hlS : l < s.heap.objs.size := by obtain ⟨_, e, _⟩ := seqK_obj hl; exact Heap.lt_size e
  have hfr : ((s.heap.push (eSet w)).push (itObj b l)).get? (s.heap.push (eSet w)).objs.size = some (itObj b l) := by
    cases b <;> exact Heap.get?_push_size _ rfl
  have hl2 : IsSeqK b ((s.heap.push (eSet w)).push (itObj b l)) l items := by
    cases b with
    | false => exact (Heap.IsList.push (Heap.IsList.push hl _) _)
    | true => exact (Heap.IsTuple.push (Heap.IsTuple.push hl _) _)
  have none_of : ∀ c, s.heap.objs.size ≤ c → s.heap.get? c = none := fun c hc => by
    cases q : s.heap.get? c with
    | none => rfl
    | some o => exact absurd (Nat.lt_of_lt_of_le (Heap.lt_size q) hc) (Nat.lt_irrefl _)
  have hval : ∀ (i : Nat) (v : Value), items[i]? = some v → ∃ p, ks[i]? = some p ∧ v = .ref p.1 := fun i v hv => by
    rw [← Array.getElem?_toList, hit, List.getElem?_map] at hv
    cases hq : ks[i]? with
    | none => rw [hq] at hv; cases hv
    | some p => rw [hq] at hv; exact ⟨p, rfl, (Option.some.inj hv).symm⟩
  have hne : l ≠ (s.heap.push (eSet w)).objs.size := by rw [z1]; exact Nat.ne_of_lt (Nat.lt_succ_of_lt hlS)
  have hnf : s.heap.objs.size ∉ [(s.heap.push (eSet w)).objs.size, l] := by
    rw [z1]
    simp only [List.mem_cons, List.not_mem_nil, or_false, not_or]
    exact ⟨Nat.ne_of_lt (Nat.lt_succ_self _), Nat.ne_of_gt hlS⟩
  have old2 : ∀ c u, s.heap.get? c = some u → ((s.heap.push (eSet w)).push (itObj b l)).get? c = some u := fun c u e => Heap.get?_push_of_some _ (Heap.get?_push_of_some _ e)
  have start : ∃ L es ep t, SetTR P w ((s.heap.push (eSet w)).push (itObj b l)) s.heap.objs.size L es ep t ∧ Got ks 0 L := ⟨[], #[], 0, _, setTR_fresh (Heap.get?_push_of_some _ hS), Got.zero ks⟩
  refine set_upd ((walksK (P := P) (w := w) (A := A.in1) (show A.in1.handled = none by simp [hh]) b _ l hne items).toS) s.heap.objs.size hnf ks hlen D hD hfew hval s.heap hk (none_of _ (Nat.le_refl _)) (fun c hc => none_of c ?_) hu (items.size - 0) 0 _ rfl (Nat.zero_le _) ⟨iterK_new hfr, hl2⟩ old2 start fun s' L es ep t hm hS' g' hkp => ?_
  · rw [List.mem_singleton.mp hc, z1]; exact Nat.le_succ _
  · obtain ⟨h', g2, d', tk', os'⟩ := s'
    have e1 : g2 = s.gens := hm.gens
    have e2 : d' = s.drawn := hm.drawn
    have e3 : os' = s.os := hm.os
    subst e1 e2 e3
    rw [hlen] at g'
    exact hR h' tk' L es ep t hS' g' hkp
end
end BX

set_option Elab.async false
set_option linter.all false
set_option maxRecDepth 100000
/-! BU2: the call set(..). -/
namespace BX
open PySem PySem.Spec PyProof.Rows L2
section
variable {P : Program} {w : World} {A : Around} {E : Value → Shared → Prop} {s : Shared}
set_option maxHeartbeats 3200000 in
/-- set(xs), xs a list or a tuple -/
theorem call_setK {b : Bool} {l : Addr} {items : Array Value} (ks : List (Addr × List Int)) {Q : Value → Shared → Prop} (hh : A.handled = none) (hl : IsSeqK b s.heap l items) (hit : items.toList = ks.map fun p => Value.ref p.1)
    (hk : ∀ p ∈ ks, IsT P w s.heap p.2 p.1) (D : List (List Int)) (hD : ∀ p ∈ ks, p.2 ∈ D) (hfew : D.length < 63) (hu : A.units + 3 < cLine)
    (h : ∀ (h' : Heap) (tk : Nat) L es ep t, SetTR P w h' s.heap.objs.size L es ep t → Got ks ks.length L → (∀ b o, s.heap.get? b = some o → h'.get? b = some o) → Q (.ref s.heap.objs.size) { s with heap := h', toks := tk }) :
    wpAny (model P w) A (call (.type "set") [.ref l]) Q E s := by
  obtain ⟨cc, tl, hmro⟩ := F.called_set.mro
  have hmade := F.called_set.made; have hsub := F.called_set.sub
  refine wpAny_call (codeAny_of_tree (show wpAny _ _ (callAny (.type "set") _) _ _ _ from ?_))
  refine wpAny_pure (And.intro (Code.quiet_builtin _ (by decide +kernel)) (codeAny_builtin F.entry_type_call ?_))
  rw [Around.under_plain (weight_type_call_type "set" [Value.ref l] []) (Eq.refl _)]
  have hnt := F.called_set.notType; have hcr := F.called_set.canCreate; have hct := F.typeCall_set_1 (.ref l)
  repeat (any_goals (first | assumption | wp_step))
  refine codeAny_mono (code_set_led1 (.ref l) (E := E) (Q₁ := fun obj s₁ => obj = .ref s.heap.objs.size ∧ s₁ = { s with heap := s.heap.push (eSet w) }) ⟨rfl, rfl⟩) fun r s₁ hr => ?_
  match r, hr with
  | .error e, hr => exact hr
  | .ok (.ret obj), hr =>
    obtain ⟨rfl, rfl⟩ := hr
    have hS : (s.heap.push (eSet w)).get? s.heap.objs.size = some (eSet w) := Heap.get?_push_size _ rfl
    have hT : Shared.TypeIs { s with heap := s.heap.push (eSet w) } (.ref s.heap.objs.size) "set" := ⟨_, hS, rfl⟩
    have hli := F.called_set.init.lookup; have hbi := F.called_set.init.bind (.ref s.heap.objs.size)
    repeat (any_goals (first | assumption | wp_step))
    refine codeAny_mono (codeAny_call_builtin (R := wants (fun r s₂ => r = .none ∧ ∃ h' tk L es ep t, s₂ = { s with heap := h', toks := tk } ∧ SetTR P w h' s.heap.objs.size L es ep t ∧ Got ks ks.length L ∧ (∀ b o, s.heap.get? b = some o → h'.get? b = some o)) E)
      F.called_set.init.plain F.entry_set_init (check_set_init_1 hT ?_)) fun r₂ s₂ hr₂ => ?_
    · have hnd : (Value.type "list" == Value.type "dict") = false ∧ (Value.type "tuple" == Value.type "dict") = false := by decide
      have fin : ∀ {A' : Around}, A'.handled = none → A'.in1.units < cLine → ∀ {E'}, wpAny (model P w) A' (runValue (.builtin "set.update.loop" ⟨[.ref s.heap.objs.size, .ref (s.heap.push (eSet w)).objs.size], []⟩)) (fun r s₂ => r = .none ∧ ∃ h' tk L es ep t, s₂ = { s with heap := h', toks := tk } ∧ SetTR P w h' s.heap.objs.size L es ep t ∧ Got ks ks.length L ∧ (∀ b o, s.heap.get? b = some o → h'.get? b = some o)) E' { s with heap := (s.heap.push (eSet w)).push (itObj b l) } := by
        intro A' hA hU E'
        refine wpAny_runValue (set_body ks hA hl hit hk D hD hfew hU rfl fun h' tk L es ep t q1 q2 q3 => ?_)
        exact ⟨rfl, h', tk, L, es, ep, t, rfl, q1, q2, q3⟩
      cases b with
      | false =>
        obtain ⟨⟨oc, od, oda, os⟩, hol, hc, nl, hd⟩ := id hl
        simp only at hc hd
        subst hc hd
        have hol' : (s.heap.push (eSet w)).get? l = some ⟨.type "list", od, .seq items nl, os⟩ := Heap.get?_push_of_some _ hol
        have i1 := F.sub_list_set; have i2 := F.sub_list_frozenset; have i3 := hnd.1
        have hl1 : (s.heap.push (eSet w)).IsList l items := ⟨_, hol', rfl, nl, rfl⟩
        unfold Builtin.«set.__init__» noKeywords Builtin.Frozenset.updateFrom
        generalize hp : pyIter = PI; wp_walk; subst hp
        exact wpAny_pyIter_list hl1 (wpAny_bind (wpAny_mono (fin (by simp [hh]) hu) (fun v s2 hv => wpAny_pure (wpAny_pure ⟨rfl, hv.2⟩)) fun _ _ e => e))
      | true =>
        obtain ⟨⟨oc, od, oda, os⟩, hol, hc, nl, hd⟩ := id hl
        simp only at hc hd
        subst hc hd
        have hol' : (s.heap.push (eSet w)).get? l = some ⟨.type "tuple", od, .seq items nl, os⟩ := Heap.get?_push_of_some _ hol
        have i1 := F.sub_tuple_set; have i2 := F.sub_tuple_frozenset; have i3 := hnd.2
        have hl1 : (s.heap.push (eSet w)).IsTuple l items := ⟨_, hol', rfl, nl, rfl⟩
        unfold Builtin.«set.__init__» noKeywords Builtin.Frozenset.updateFrom
        generalize hp : pyIter = PI; wp_walk; subst hp
        exact wpAny_pyIter_tuple hl1 (wpAny_bind (wpAny_mono (fin (by simp [hh]) hu) (fun v s2 hv => wpAny_pure (wpAny_pure ⟨rfl, hv.2⟩)) fun _ _ e => e))
    · match r₂, hr₂ with
      | .error e, hr₂ => exact hr₂
      | .ok (.ret r), hr₂ =>
        obtain ⟨rfl, h', tk, L, es, ep, t, rfl, hS', g', hk'⟩ := hr₂
        repeat (any_goals (first | assumption | wp_step))
        exact h _ _ _ _ _ _ hS' g' hk'
end
end BX

set_option Elab.async false
set_option linter.all false
set_option maxRecDepth 100000
/-! BU3: set(..), sorted, len of it, as rules. -/
namespace BX
open PySem PySem.Spec PyProof.Rows L2
open PySem.W (alike alikeAll dataLt keyToksAll keyToks AllAlike Sortable dataLe EachIs TotalLe sort_maps sortLe_total)
/-- a tuple of ints -/
def tD (k : List Int) : D := .tup (k.map .int)
theorem intsO_map : ∀ {es : List D}, es.all isInt = true → ∃ k : List Int, es = k.map .int ∧ intsO es = some k
  | [], _ => ⟨[], rfl, rfl⟩
  | e :: es, h => by
    rw [List.all_cons, Bool.and_eq_true] at h
    obtain ⟨k, h1, h2⟩ := intsO_map h.2
    cases e with
    | int i => exact ⟨i :: k, by rw [h1]; rfl, by simp only [intsO, h2]; rfl⟩
    | _ => simp [isInt] at h
theorem isIntTup_of {d : D} (h : isIntTup d = true) : ∃ k : List Int, d = tD k ∧ k ≠ [] := by
  cases d with
  | tup xs =>
    simp only [isIntTup, Bool.and_eq_true, Bool.not_eq_true'] at h
    obtain ⟨k, h1, _⟩ := intsO_map h.1
    refine ⟨k, by rw [h1]; rfl, fun z => ?_⟩
    rw [h1, z] at h
    simp at h
  | _ => simp [isIntTup] at h
theorem tups_of {K : PySem.W.Frag} {G : Hp} {μ : List Addr} : ∀ {ds : List D} {xs : List V}, RpL K G μ ds xs → ds.all isIntTup = true → ∃ ks : List (Addr × List Int), xs = ks.map (fun p => V.ref p.1) ∧ ds = ks.map (fun p => tD p.2) ∧ ∀ p ∈ ks, Rp K G μ (tD p.2) (.ref p.1) ∧ p.2 ≠ []
  | [], xs, h, _ => by
    simp only [RpL] at h
    subst h
    exact ⟨[], rfl, rfl, fun p hp => by cases hp⟩
  | d :: ds, xs, h, ha => by
    simp only [RpL] at h
    obtain ⟨v, vs, rfl, h1, h2⟩ := h
    rw [List.all_cons, Bool.and_eq_true] at ha
    obtain ⟨k, rfl, hk⟩ := isIntTup_of ha.1
    obtain ⟨ks, rfl, rfl, h3⟩ := tups_of h2 ha.2
    obtain ⟨a, ys, rfl, _⟩ := (show ∃ a xs, v = .ref a ∧ SqTN K G a xs ∧ xs.length ≤ LIM ∧ RpL K G μ (k.map .int) xs from by simpa only [tD, Rp] using h1)
    refine ⟨(a, k) :: ks, rfl, rfl, fun p hp => ?_⟩
    rcases List.mem_cons.mp hp with rfl | hp
    · exact ⟨h1, hk⟩
    · exact h3 p hp
theorem rp_tD {K : PySem.W.Frag} {G : Hp} {μ : List Addr} {k : List Int} {a : Addr} (h : Rp K G μ (tD k) (.ref a)) : SqTN K G a (k.map V.int) := by
  obtain ⟨b, ys, e, h1, h2, h3⟩ := (show ∃ b xs, V.ref a = .ref b ∧ SqTN K G b xs ∧ xs.length ≤ LIM ∧ RpL K G μ (k.map .int) xs from by simpa only [tD, Rp] using h)
  cases e
  have : intsO (k.map .int) = some k := by
    clear h h1 h2 h3
    induction k with
    | nil => rfl
    | cons i k ih => simp only [List.map_cons, intsO, ih]; rfl
  rwa [ints_v h3 this] at h1
/-! ### each once -/
def nubI : List (List Int) → List (List Int)
  | [] => []
  | x :: xs => if x ∈ xs then nubI xs else x :: nubI xs
theorem eqL_int : ∀ a b : List Int, eqL (a.map .int) (b.map .int) = decide (a = b)
  | [], [] => rfl
  | [], _ :: _ => rfl
  | _ :: _, [] => rfl
  | x :: a, y :: b => by
    simp only [List.map_cons, eqL, eqD, eqL_int a b, List.cons.injEq]
    by_cases h : x = y <;> simp [h]
theorem eqD_tD (a b : List Int) : eqD (tD a) (tD b) = decide (a = b) := by
  unfold tD
  simp only [eqD]
  exact eqL_int a b
theorem any_tD (x : List Int) : ∀ xs : List (List Int), (xs.map tD).any (eqD (tD x)) = decide (x ∈ xs)
  | [] => rfl
  | y :: ys => by
    simp only [List.map_cons, List.any_cons, eqD_tD, any_tD x ys, List.mem_cons]
    by_cases h : x = y <;> simp [h]
theorem nubD_tD : ∀ xs : List (List Int), nubD (xs.map tD) = (nubI xs).map tD
  | [] => rfl
  | x :: xs => by
    simp only [List.map_cons, nubD, any_tD, nubI, nubD_tD xs, decide_eq_true_eq]
    split <;> rfl
theorem nubI_mem {x : List Int} : ∀ {xs : List (List Int)}, x ∈ nubI xs ↔ x ∈ xs
  | [] => Iff.rfl
  | y :: ys => by
    unfold nubI
    split
    · rename_i h
      rw [nubI_mem (xs := ys), List.mem_cons]
      exact ⟨.inr, fun z => z.elim (fun e => e ▸ h) id⟩
    · rw [List.mem_cons, List.mem_cons, nubI_mem (xs := ys)]
theorem nubI_nodup : ∀ xs : List (List Int), (nubI xs).Nodup
  | [] => List.nodup_nil
  | y :: ys => by
    unfold nubI
    split
    · exact nubI_nodup ys
    · rename_i h
      exact List.nodup_cons.mpr ⟨fun z => h (nubI_mem.mp z), nubI_nodup ys⟩
theorem tD_inj {a b : List Int} (h : tD a = tD b) : a = b := by
  have e := eqD_tD a b
  rw [h, eqD_tD] at e
  simpa using e
theorem ltL_anti : ∀ a b : List Int, ltL (a.map .int) (b.map .int) = false → ltL (b.map .int) (a.map .int) = false → a = b
  | [], [], _, _ => rfl
  | [], _ :: _, h, _ => by simp [ltL] at h
  | _ :: _, [], _, h => by simp [ltL] at h
  | x :: a, y :: b, h, h' => by
    simp only [List.map_cons, ltL, eqD, ltD] at h h'
    by_cases e : x = y
    · subst e
      simp only [beq_self_eq_true, if_true] at h h'
      rw [ltL_anti a b h h']
    · have e' : ¬ y = x := fun z => e z.symm
      simp only [beq_iff_eq, e, e', if_false, decide_eq_false_iff_not] at h h'
      omega
theorem shL_int (n : Nat) : ∀ k : List Int, shL n (k.map .int) = true
  | [] => by simp [shL]
  | i :: k => by simp only [List.map_cons, shL, sh, shL_int n k]; rfl
theorem sh_tD (n : Nat) (k : List Int) : sh (n + 1) (tD k) = true := by
  unfold tD
  simp only [sh]
  exact shL_int n k
theorem alL_int : ∀ a b : List Int, alL (a.map .int) (b.map .int) = true
  | [], _ => by simp [alL]
  | _ :: _, [] => by simp [alL]
  | x :: a, y :: b => by simp only [List.map_cons, alL, alD, alL_int a b]; rfl
theorem al_tD (a b : List Int) : alD (tD a) (tD b) = true := by
  unfold tD
  simp only [alD]
  exact alL_int a b
/-- the order of tuples of ints -/
def leT (p q : Addr × List Int) : Bool := dataLe false (fun z : Addr × List Int => toPy (tD z.2)) p q
theorem leT_lt (p q : Addr × List Int) : leT p q = !ltD (tD q.2) (tD p.2) := by
  rw [← lt_toPy 60 60 (tD q.2) (tD p.2) (sh_tD 59 _) (sh_tD 59 _) (al_tD _ _)]
  rfl
theorem nub_sort {ks L' : List (Addr × List Int)} (h1 : ∀ p ∈ L', p ∈ ks) (h2 : ∀ p ∈ ks, p.2 ∈ L'.map (·.2)) (nd : (L'.map (·.2)).Nodup) (pw : L'.Pairwise fun p q => leT p q = true) : isortD (nubD (ks.map fun p => tD p.2)) = L'.map fun p => tD p.2 := by
  have e0 : (ks.map fun p => tD p.2) = (ks.map (·.2)).map tD := by rw [List.map_map]; rfl
  have e1 : (L'.map fun p => tD p.2) = (L'.map (·.2)).map tD := by rw [List.map_map]; rfl
  rw [e0, nubD_tD, isortD_merge (by simp only [List.all_map, List.all_eq_true]; exact fun x _ => sh_tD 59 x) (by simp only [List.all_map, List.all_eq_true, Function.comp]; exact fun x _ y _ => al_tD x y), e1]
  have key : (nubI (ks.map (·.2))).Perm (L'.map (·.2)) := (List.perm_ext_iff_of_nodup (nubI_nodup _) nd).mpr fun k => by
    rw [nubI_mem]
    constructor
    · intro hk
      obtain ⟨p, hp, rfl⟩ := List.mem_map.mp hk
      exact h2 p hp
    · intro hk
      obtain ⟨p, hp, rfl⟩ := List.mem_map.mp hk
      exact List.mem_map.mpr ⟨p, h1 p hp, rfl⟩
  refine List.Perm.eq_of_pairwise (le := fun a b : D => dataLe false toPy a b = true) (fun a b ha hb l1 l2 => ?_) ?_ ?_ ((List.mergeSort_perm _ _).trans (key.map tD))
  · obtain ⟨x, _, rfl⟩ := List.mem_map.mp ((List.mergeSort_perm _ _).mem_iff.mp ha)
    obtain ⟨y, _, rfl⟩ := List.mem_map.mp hb
    have g1 : leT (0, x) (0, y) = true := l1
    have g2 : leT (0, y) (0, x) = true := l2
    rw [leT_lt, Bool.not_eq_true'] at g1 g2
    unfold tD at g1 g2
    simp only [ltD] at g1 g2
    rw [ltL_anti x y g2 g1]
  · rw [← isortG_eq (le := dataLe false toPy) (sortLe_total _ _ _)]
    exact isortG_pw (sortLe_total _ _ _) _
  · rw [List.map_map, List.pairwise_map]
    exact pw
/-! ### rules -/
def rSetA (K : PySem.W.Frag) (P : Program) (w : World) : List V → Hp → VK → Prop := fun xs H Q => ∃ (b : Bool) (l : Addr) (ks : List (Addr × List Int)), xs = [V.ref l] ∧ SqK b K H l (ks.map fun p => V.ref p.1) ∧ (∀ p ∈ ks, SqT K H p.1 (p.2.map V.int)) ∧ (nubI (ks.map (·.2))).length < 63 ∧
  ∀ a L, H a = none → (∀ p ∈ L, p ∈ ks) → (∀ p ∈ ks, p.2 ∈ L.map (·.2)) → Q (.ref a) (upd H a (SetTO P w a L))
section
variable {X : Cx} {pins : List (Addr × Obj)} {σ : L2.St} {H : Hp} {s : Shared}
theorem p_setA (hc : X.calm = true) (hu : X.A.units + 65 < cLine) : CallR X (.type "set") (rSetA X.K X.prog X.w) := by
  intro pins s σ H xs us Q I r h
  obtain ⟨b, l, ks, rfl, hl, hk, hf, q⟩ := h
  rw [Vals.ref1 r]
  obtain ⟨its, rv, hs⟩ := inv_seqK I hl
  refine call_setK (P := X.prog) (w := X.w) ks (I.ok.hd hc) hs (by simpa using refs_of_vals rv) (fun p hp => I.isT (hk p hp)) _ (fun p hp => nubI_mem.mpr (List.mem_map.mpr ⟨p, hp, rfl⟩)) hf (by omega) fun h' tk L es ep t R g kk => ?_
  refine ⟨.ref s.heap.objs.size, _, I.laid (t' := tk) (o := SetTO X.prog X.w s.heap.objs.size L) kk (Nat.le_refl _) (setTO_new R.t0), Eq.refl _, q _ L (I.hok.fresh (Nat.le_refl _)) (fun p hp => List.mem_of_mem_take (g.sub p hp)) fun p hp => g.all p (by rw [List.take_length]; exact hp)⟩
def rSortA (K : PySem.W.Frag) (P : Program) (w : World) : List V → Hp → VK → Prop := fun vs H Q => ∃ (a : Addr) (L : List (Addr × List Int)), vs = [V.ref a] ∧ H a = some (SetTO P w a L) ∧ (∀ p ∈ L, SqT K H p.1 (p.2.map V.int) ∧ Dp K H (.ref p.1) (toPy (tD p.2)) ∧ p.2 ≠ []) ∧
  ∀ (L' : List (Addr × List Int)) (p : Addr), L'.Perm L → (L'.map (·.2)).Nodup → L'.length < 64 → (L'.Pairwise fun q r => leT q r = true) → H p = none → Q (.ref p) (upd H p (.lst (L'.map fun q => V.ref q.1)))
theorem perm_map_ex {α β : Type} {f : α → β} : ∀ {vs : List β} {L : List α}, vs.Perm (L.map f) → ∃ L1 : List α, vs = L1.map f ∧ L1.Perm L
  | [], L, h => by
    have : L = [] := by
      have := h.length_eq
      rw [List.length_map] at this
      exact List.length_eq_zero_iff.mp this.symm
    subst this
    exact ⟨[], rfl, .nil⟩
  | v :: vs, L, h => by
    obtain ⟨x, hx, e⟩ := List.mem_map.mp (h.mem_iff.mp List.mem_cons_self)
    obtain ⟨l1, l2, rfl⟩ := List.append_of_mem hx
    have p1 : (l1 ++ x :: l2).Perm (x :: (l1 ++ l2)) := List.perm_middle
    have p2 : (v :: vs).Perm (v :: (l1 ++ l2).map f) := by
      have := h.trans (p1.map f)
      rwa [List.map_cons, e] at this
    obtain ⟨L1, e1, q⟩ := perm_map_ex (f := f) p2.cons_inv
    exact ⟨x :: L1, by rw [List.map_cons, e, e1], (q.cons x).trans p1.symm⟩
theorem each_map_self {α β : Type} {R : β → α → Prop} {f : α → β} : ∀ {l : List α}, (∀ a ∈ l, R (f a) a) → EachIs R (l.map f) l
  | [], _ => .nil
  | a :: l, h => .cons (h a List.mem_cons_self) (each_map_self fun b hb => h b (List.mem_cons_of_mem _ hb))
theorem each_eq {α β : Type} {f : α → β} : ∀ {us : List β} {l : List α}, EachIs (fun u a => u = f a) us l → us = l.map f
  | _, _, .nil => rfl
  | _, _, .cons h t => by rw [h, each_eq t]; rfl
theorem p_sortA (hc : X.calm = true) (hu : X.A.units + 65 < cLine) : CallR X (.builtin "sorted") (rSortA X.K X.prog X.w) := by
  intro pins s σ H vs us Q I r h
  obtain ⟨a, L, rfl, ha, hk, q⟩ := h
  have R0 : SetT0 X.prog X.w s.heap a L := (I.hok a _ ha).1
  obtain ⟨es, ep, t, R⟩ := R0.full fun p hp => I.isT (hk p hp).1
  rw [Vals.ref1 r]
  obtain ⟨o, ho, hex, hd⟩ := R.ob
  have hsz := R.size
  have hfew := R.few
  have hes : es.toList.map (·.2) = L.map fun q => Value.ref q.1 := by
    rw [R.rows]
    unfold rowsOf
    rw [List.map_map]; rfl
  have rd : ∀ p ∈ L, ∃ as, Reads s.heap (.ref p.1) (toPy (tD p.2)) as := fun p hp => Dp.reads I _ _ _ (hk p hp).2.1 rfl
  refine sorted_gen (β := Addr × List Int) (enc := fun p => toPy (tD p.2)) (R := fun v b => v = Value.ref b.1) (fun cs s' bs => (∀ b o', s.heap.get? b = some o' → s'.heap.get? b = some o') ∧ s.heap.objs.size ≤ s'.heap.objs.size ∧ s'.gens = s.gens ∧ s'.os = s.os ∧ cs = bs.map (fun p => Value.ref p.1) ∧ bs.Perm L)
    (fun E' Q' hq => ?_) (fun cs s' bs hcd => ?_) (fun cs s' bs hcd out h' p n k1 k2 k3 k4 k5 => ?_)
  · refine collect_set (A := X.A.in1) (I.ok.hd hc) ⟨o, ho, hex.1, hd⟩ R.fits (by unfold scanBound; omega) R.tab.ris R.led fun s1 vs k1 hz g1 o1 pm => ?_
    rw [hes] at pm
    obtain ⟨L1, e1, pL⟩ := perm_map_ex pm
    exact hq vs s1 L1 ⟨k1, hz, g1, o1, e1, pL⟩
  · obtain ⟨k1, hz, g1, o1, rfl, pL⟩ := hcd
    have mm : ∀ p ∈ bs, p ∈ L := fun p hp => pL.mem_iff.mp hp
    refine ⟨each_map_self fun _ _ => rfl, each_map_self fun p hp => ?_, ?_, ?_, by rw [pL.length_eq, limS]; show _ ≤ 16777216; omega, fun p hp => ?_⟩
    · obtain ⟨as, r⟩ := rd p (mm p hp)
      exact ⟨as, PyProof.Rows.Reads.keeps k1 r⟩
    · have := alike_ds (ds := bs.map fun p => tD p.2) (by simp only [List.all_map, List.all_eq_true]; exact fun x _ => sh_tD 59 x.2) (by simp only [List.all_map, List.all_eq_true, Function.comp]; exact fun x _ y _ => al_tD x.2 y.2)
      rwa [toPyL_map, List.map_map] at this
    · have := sortable_ds (ds := bs.map fun p => tD p.2) (by
        rw [Bool.or_eq_true]
        refine .inl ?_
        simp only [List.all_map, List.all_eq_true, Function.comp]
        intro x hx
        have := (hk x (mm x hx)).2.2
        unfold tD isTupNE
        cases e : x.2 with
        | nil => exact absurd e this
        | cons y ys => rfl)
      rwa [toPyL_map, List.map_map] at this
    · have h60 : (toPy (tD p.2)).depth ≤ 2 := by
        have := (hk p (mm p hp)).2.1
        unfold tD
        simp only [toPy, PyData.depth]
        have hd : ∀ k : List Int, PyData.depthAll (toPyL (k.map .int)) ≤ 1 := fun k => by
          induction k with
          | nil => simp [toPyL, PyData.depthAll]
          | cons i k ih => simp only [List.map_cons, toPyL, toPy, PyData.depthAll, PyData.depth]; omega
        have := hd p.2
        omega
      omega
  · obtain ⟨e1, hz, g1, o1, rfl, pL⟩ := hcd
    have eo := each_eq k5
    have pm : (bs.mergeSort (dataLe false fun p => toPy (tD p.2))).Perm L := (List.mergeSort_perm _ _).trans pL
    have hpw : (bs.mergeSort (dataLe false fun p => toPy (tD p.2))).Pairwise fun q r => leT q r = true := by
      rw [← isortG_eq (le := dataLe false fun p : Addr × List Int => toPy (tD p.2)) (sortLe_total _ _ _)]
      exact isortG_pw (le := dataLe false fun p : Addr × List Int => toPy (tD p.2)) (sortLe_total _ _ _) bs
    have nd : ((bs.mergeSort (dataLe false fun p => toPy (tD p.2))).map (·.2)).Nodup := (pm.map (·.2)).nodup_iff.mpr R.nd
    generalize bs.mergeSort (dataLe false fun p => toPy (tD p.2)) = L' at eo pm hpw nd
    subst eo
    have hp : s.heap.objs.size ≤ p := Nat.le_trans hz k2
    have few : L'.length < 64 := by rw [pm.length_eq]; exact hfew
    have hnp : H p = none := I.hok.fresh hp
    have kk : ∀ b o', s.heap.get? b = some o' → h'.get? b = some o' := fun b o' e => k1 b o' (e1 b o' e)
    have J : Inv X pins σ (upd H p (.lst (L'.map fun q => V.ref q.1))) { s with heap := h', gens := s'.gens, drawn := s'.drawn, toks := s'.toks } :=
      I.call (ch := []) (Un.laid kk hp hnp) (I.hok.laid kk hp ⟨by rw [List.length_map, limS]; show _ ≤ 16777216; omega, L'.map (fun q => Value.ref q.1), n, vals_of_refs L', k3⟩) (by rw [g1]; exact I.bare) (fun _ z => nomatch z)
    have es' : ({ s' with heap := h' } : Shared) = { s with heap := h', gens := s'.gens, drawn := s'.drawn, toks := s'.toks } := by
      cases s'
      cases s
      simp only at o1
      subst o1
      rfl
    rw [es']
    exact ⟨.ref p, _, J, rfl, q L' p pm nd few hpw hnp⟩
def rLenA (K : PySem.W.Frag) (P : Program) (w : World) : List V → Hp → VK → Prop := fun vs H Q => ∃ (a : Addr) (L : List (Addr × List Int)), vs = [V.ref a] ∧ H a = some (SetTO P w a L) ∧ (∀ p ∈ L, SqT K H p.1 (p.2.map V.int)) ∧ ((L.map (·.2)).Nodup → Q (.int L.length) H)
theorem p_lenA : CallR X (.builtin "len") (rLenA X.K X.prog X.w) := by
  intro pins s σ H vs us Q I r h
  obtain ⟨a, L, rfl, ha, hk, q⟩ := h
  have R0 : SetT0 X.prog X.w s.heap a L := (I.hok a _ ha).1
  obtain ⟨es, ep, t, R⟩ := R0.full fun p hp => I.isT (hk p hp)
  rw [Vals.ref1 r]
  obtain ⟨o, ho, hex, hd⟩ := R.ob
  have hsz := R.size
  have hfew := R.few
  exact call_len_set ho hex hd R.fits (by rw [hsz]; omega) ⟨.int L.length, H, I.tok _, ⟨_, by rw [hsz]⟩, q R.nd⟩
end
variable {T : Rt}
def rSS (T : Rt) : V → Hp → VK → Prop := fun x H Q => rSetA T.K T.P T.w [x] H fun y H2 => rSortA T.K T.P T.w [y] H2 Q
def rLS (T : Rt) : V → Hp → VK → Prop := fun x H Q => rSetA T.K T.P T.w [x] H fun y H2 => rLenA T.K T.P T.w [y] H2 Q
theorem set_data {x : D} {vx : V} {G H : Hp} {μ : List Addr} {st : Sto} {ds : List D} (w : WOk T G H μ st) (px : Po T 2 H G H μ x vx) (hx : items x = some ds) (hi : ds.all isIntTup = true) :
    ∃ (b : Bool) (l : Addr) (ks : List (Addr × List Int)), vx = V.ref l ∧ SqK b T.K H l (ks.map fun p => V.ref p.1) ∧ ds = ks.map (fun p => tD p.2) ∧ ∀ p ∈ ks, Rp T.K G μ (tD p.2) (.ref p.1) ∧ p.2 ≠ [] := by
  cases x with
  | lst es =>
    cases hx
    obtain ⟨l, xs, rfl, h1, h2, h3⟩ := po_lst px
    obtain ⟨ks, rfl, rfl, h4⟩ := tups_of h3 hi
    exact ⟨false, l, ks, rfl, .inl (.inl h1), rfl, h4⟩
  | tup es =>
    cases hx
    obtain ⟨l, xs, rfl, h1, h2, h3⟩ := po_tup px
    obtain ⟨ks, rfl, rfl, h4⟩ := tups_of h3 hi
    exact ⟨true, l, ks, rfl, w.gh.sqt h1, rfl, h4⟩
  | _ => simp [items] at hx
theorem okSet_of {ds : List D} (h : okSet ds = true) : (nubD ds).length < 63 ∧ ds.all isIntTup = true := by
  unfold okSet at h
  rw [Bool.and_eq_true, decide_eq_true_eq] at h
  exact h
theorem o_sortSet : RdU T 1 (rSS T) sortSetD := by
  intro x vx G H μ st Q w px h
  unfold sortSetD at h
  cases hx : items x with
  | none => rw [hx] at h; exact h.elim
  | some ds =>
    rw [hx] at h
    by_cases hc : okSet ds = true
    · simp only [if_pos hc] at h
      obtain ⟨c1, c2⟩ := okSet_of hc
      obtain ⟨b, l, ks, rfl, g1, rfl, g3⟩ := set_data w px hx c2
      rw [show (ks.map fun p => tD p.2) = (ks.map (·.2)).map tD by rw [List.map_map]; rfl, nubD_tD, List.length_map] at c1
      refine ⟨b, l, ks, rfl, g1, fun p hp => w.gh.sqt (rp_tD (g3 p hp).1), c1, fun a L ha hL1 hL2 => ?_⟩
      obtain ⟨e1, w1⟩ := new_any w ha (SetTO T.P T.w a L)
      refine ⟨a, L, rfl, upd_same, fun p hp => ⟨w1.gh.sqt (rp_tD (g3 p (hL1 p hp)).1), (dp_of w1.gh 60 _ _ (sh_tD 59 _) (g3 p (hL1 p hp)).1).1, (g3 p (hL1 p hp)).2⟩, fun L' p pm nd few pw hp => ?_⟩
      have e := nub_sort (ks := ks) (L' := L') (fun q hq => hL1 q (pm.mem_iff.mp hq)) (fun q hq => (pm.map (·.2)).mem_iff.mpr (hL2 q hq)) nd pw
      obtain ⟨e2, w2⟩ := new_lst w1 hp (L'.map fun q => V.ref q.1)
      refine h _ _ _ (e1.trans e2) w2 (Po.back e1.i ?_)
      rw [e]
      have r : RpL T.K G μ (L'.map fun p => tD p.2) (L'.map fun q => V.ref q.1) := by
        have := rpl_of (K := T.K) (G := G) (μ := μ) (qs := L'.map fun p => (tD p.2, V.ref p.1)) fun q hq => by
          obtain ⟨z, hz, rfl⟩ := List.mem_map.mp hq
          exact (g3 z (hL1 z (pm.mem_iff.mp hz))).1
        rwa [List.map_map, List.map_map] at this
      exact po_new w1.gh hp (by rw [List.length_map]; show _ ≤ 16777216; omega) r
    · simp only [if_neg hc] at h
      exact h.elim
theorem o_lenSet : RdU T 1 (rLS T) lenSetD := by
  intro x vx G H μ st Q w px h
  unfold lenSetD at h
  cases hx : items x with
  | none => rw [hx] at h; exact h.elim
  | some ds =>
    rw [hx] at h
    by_cases hc : okSet ds = true
    · simp only [if_pos hc] at h
      obtain ⟨c1, c2⟩ := okSet_of hc
      obtain ⟨b, l, ks, rfl, g1, rfl, g3⟩ := set_data w px hx c2
      rw [show (ks.map fun p => tD p.2) = (ks.map (·.2)).map tD by rw [List.map_map]; rfl, nubD_tD, List.length_map] at c1
      refine ⟨b, l, ks, rfl, g1, fun p hp => w.gh.sqt (rp_tD (g3 p hp).1), c1, fun a L ha hL1 hL2 => ?_⟩
      obtain ⟨e1, w1⟩ := new_any w ha (SetTO T.P T.w a L)
      refine ⟨a, L, rfl, upd_same, fun p hp => w1.gh.sqt (rp_tD (g3 p (hL1 p hp)).1), fun nd => ?_⟩
      have key : (nubI (ks.map (·.2))).Perm (L.map (·.2)) := (List.perm_ext_iff_of_nodup (nubI_nodup _) nd).mpr fun k => by
        rw [nubI_mem]
        constructor
        · intro hk
          obtain ⟨p, hp, rfl⟩ := List.mem_map.mp hk
          exact hL2 p hp
        · intro hk
          obtain ⟨p, hp, rfl⟩ := List.mem_map.mp hk
          exact List.mem_map.mpr ⟨p, hL1 p hp, rfl⟩
      have el : (nubD (ks.map fun p => tD p.2)).length = L.length := by
        rw [show (ks.map fun p => tD p.2) = (ks.map (·.2)).map tD by rw [List.map_map]; rfl, nubD_tD, List.length_map, key.length_eq, List.length_map]
      rw [el] at h
      exact h _ _ _ e1 w1 pk_int
    · simp only [if_neg hc] at h
      exact h.elim
end BX

set_option Elab.async false
set_option linter.all false
set_option maxRecDepth 100000
/-! BS11: the text against the syntax: expressions. -/
namespace BX
open PySem PySem.Spec PyProof.Rows L2
/-! ### views -/
def vName : Expr → Option Str
  | .Name x _ => some x
  | _ => none
def vCst : Expr → Option Const
  | .Constant c _ _ => some c
  | _ => none
def vBin : Expr → Option (Expr × Operator × Expr)
  | .BinOp a o b _ => some (a, o, b)
  | _ => none
def vUn : Expr → Option (UnaryOp × Expr)
  | .UnaryOp o a _ => some (o, a)
  | _ => none
def vBool : Expr → Option (BoolOp × List Expr)
  | .BoolOp o a _ => some (o, a)
  | _ => none
def vCmp : Expr → Option (Expr × List CmpOp × List Expr)
  | .Compare a os bs _ => some (a, os, bs)
  | _ => none
def vIf : Expr → Option (Expr × Expr × Expr)
  | .IfExp c a b _ => some (c, a, b)
  | _ => none
def vSub : Expr → Option (Expr × Expr)
  | .Subscript a b _ => some (a, b)
  | _ => none
def vSlice : Expr → Option (Option Expr × Option Expr × Option Expr)
  | .Slice a b c _ => some (a, b, c)
  | _ => none
def vList : Expr → Option (List Expr)
  | .List a _ => some a
  | _ => none
def vTup : Expr → Option (List Expr)
  | .Tuple a _ _ => some a
  | _ => none
def vLc : Expr → Option (Expr × Comprehension × Scope)
  | .ListComp e [g] sc _ => some (e, g, sc)
  | _ => none
def vCall : Expr → Option (Str × List Expr)
  | .Call (.Name x _) es [] _ => some (x, es)
  | _ => none
/-- x.m(e): the name, the method, the argument, the two rows -/
def vMet : Expr → Option (Str × Str × Expr × Bool)
  | .Call (.Attribute (.Name x _) m ap) [e] [] cp => some (x, m, e, ap.endLine == cp.line)
  | _ => none
theorem vMet_eq {e : Expr} {q : Str × Str × Expr × Bool} (h : vMet e = some q) : ∃ p1 ap cp, e = .Call (.Attribute (.Name q.1 p1) q.2.1 ap) [q.2.2.1] [] cp ∧ q.2.2.2 = (ap.endLine == cp.line) := by
  unfold vMet at h
  split at h
  · cases h; exact ⟨_, _, _, rfl, rfl⟩
  · cases h
/-- e.x -/
def vAttr : Expr → Option (Expr × Str)
  | .Attribute e x _ => some (e, x)
  | _ => none
theorem vAttr_eq {e : Expr} {q : Expr × Str} (h : vAttr e = some q) : ∃ p, e = .Attribute q.1 q.2 p := by
  cases e <;> first | (simp [vAttr] at h; done) | (simp only [vAttr, Option.some.injEq] at h; subst h; exact ⟨_, rfl⟩)
/-- e.m(..): the object, the method, the arguments, the two rows -/
def vMeO : Expr → Option (Expr × Str × List Expr × Bool)
  | .Call (.Attribute e m ap) es [] cp => some (e, m, es, ap.endLine == cp.line)
  | _ => none
theorem vMeO_eq {e : Expr} {q : Expr × Str × List Expr × Bool} (h : vMeO e = some q) : ∃ ap cp, e = .Call (.Attribute q.1 q.2.1 ap) q.2.2.1 [] cp ∧ q.2.2.2 = (ap.endLine == cp.line) := by
  unfold vMeO at h
  split at h
  · cases h; exact ⟨_, _, rfl, rfl⟩
  · cases h
/-- f(y, default=z) -/
def vCallD : Expr → Option (Str × Expr × Expr)
  | .Call (.Name x _) [y] [⟨some d, z, _⟩] _ => if d = Str.ofString "default" then some (x, y, z) else none
  | _ => none
theorem vCallD_eq {e : Expr} {q : Str × Expr × Expr} (h : vCallD e = some q) : ∃ p1 kp p, e = .Call (.Name q.1 p1) [q.2.1] [⟨some (Str.ofString "default"), q.2.2, kp⟩] p := by
  unfold vCallD at h
  split at h
  · split at h
    · rename_i e'
      cases h
      rw [e']
      exact ⟨_, _, _, rfl⟩
    · cases h
  · cases h
/-- [f, ..][i](..) -/
def vPk : Expr → Option (List Expr × Expr × List Expr)
  | .Call (.Subscript (.List zs _) i _) es [] _ => some (zs, i, es)
  | _ => none
theorem vPk_eq {e : Expr} {q : List Expr × Expr × List Expr} (h : vPk e = some q) : ∃ p1 p2 p, e = .Call (.Subscript (.List q.1 p1) q.2.1 p2) q.2.2 [] p := by
  unfold vPk at h
  split at h
  · cases h; exact ⟨_, _, _, rfl⟩
  · cases h
def isCI : Mt → Bool
  | .count => true
  | .index => true
  | _ => false
def mtN : Mt → Str
  | .count => "count"
  | .index => "index"
  | .join => "join"
  | .split => "split"
theorem vName_eq {e : Expr} {x : Str} (h : vName e = some x) : ∃ p, e = .Name x p := by
  cases e <;> first | (simp [vName] at h; done) | (simp only [vName, Option.some.injEq] at h; subst h; exact ⟨_, rfl⟩)
theorem vCst_eq {e : Expr} {c : Const} (h : vCst e = some c) : ∃ k p, e = .Constant c k p := by
  cases e <;> first | (simp [vCst] at h; done) | (simp only [vCst, Option.some.injEq] at h; subst h; exact ⟨_, _, rfl⟩)
theorem vBin_eq {e : Expr} {q : Expr × Operator × Expr} (h : vBin e = some q) : ∃ p, e = .BinOp q.1 q.2.1 q.2.2 p := by
  cases e <;> first | (simp [vBin] at h; done) | (simp only [vBin, Option.some.injEq] at h; subst h; exact ⟨_, rfl⟩)
theorem vUn_eq {e : Expr} {q : UnaryOp × Expr} (h : vUn e = some q) : ∃ p, e = .UnaryOp q.1 q.2 p := by
  cases e <;> first | (simp [vUn] at h; done) | (simp only [vUn, Option.some.injEq] at h; subst h; exact ⟨_, rfl⟩)
theorem vBool_eq {e : Expr} {q : BoolOp × List Expr} (h : vBool e = some q) : ∃ p, e = .BoolOp q.1 q.2 p := by
  cases e <;> first | (simp [vBool] at h; done) | (simp only [vBool, Option.some.injEq] at h; subst h; exact ⟨_, rfl⟩)
theorem vCmp_eq {e : Expr} {q : Expr × List CmpOp × List Expr} (h : vCmp e = some q) : ∃ p, e = .Compare q.1 q.2.1 q.2.2 p := by
  cases e <;> first | (simp [vCmp] at h; done) | (simp only [vCmp, Option.some.injEq] at h; subst h; exact ⟨_, rfl⟩)
theorem vIf_eq {e : Expr} {q : Expr × Expr × Expr} (h : vIf e = some q) : ∃ p, e = .IfExp q.1 q.2.1 q.2.2 p := by
  cases e <;> first | (simp [vIf] at h; done) | (simp only [vIf, Option.some.injEq] at h; subst h; exact ⟨_, rfl⟩)
theorem vSub_eq {e : Expr} {q : Expr × Expr} (h : vSub e = some q) : ∃ p, e = .Subscript q.1 q.2 p := by
  cases e <;> first | (simp [vSub] at h; done) | (simp only [vSub, Option.some.injEq] at h; subst h; exact ⟨_, rfl⟩)
theorem vSlice_eq {e : Expr} {q : Option Expr × Option Expr × Option Expr} (h : vSlice e = some q) : ∃ p, e = .Slice q.1 q.2.1 q.2.2 p := by
  cases e <;> first | (simp [vSlice] at h; done) | (simp only [vSlice, Option.some.injEq] at h; subst h; exact ⟨_, rfl⟩)
theorem vList_eq {e : Expr} {q : List Expr} (h : vList e = some q) : ∃ p, e = .List q p := by
  cases e <;> first | (simp [vList] at h; done) | (simp only [vList, Option.some.injEq] at h; subst h; exact ⟨_, rfl⟩)
theorem vTup_eq {e : Expr} {q : List Expr} (h : vTup e = some q) : ∃ k p, e = .Tuple q k p := by
  cases e <;> first | (simp [vTup] at h; done) | (simp only [vTup, Option.some.injEq] at h; subst h; exact ⟨_, _, rfl⟩)
theorem vLc_eq {e : Expr} {q : Expr × Comprehension × Scope} (h : vLc e = some q) : ∃ p, e = .ListComp q.1 [q.2.1] q.2.2 p := by
  unfold vLc at h
  split at h
  · cases h
    exact ⟨_, rfl⟩
  · cases h
theorem vCall_eq {e : Expr} {q : Str × List Expr} (h : vCall e = some q) : ∃ p1 p, e = .Call (.Name q.1 p1) q.2 [] p := by
  unfold vCall at h
  split at h
  · cases h
    exact ⟨_, _, rfl⟩
  · cases h
def tstE : Expr → Bool
  | .Name .. => true
  | .Call .. => true
  | .Subscript .. => true
  | .Attribute .. => true
  | .Constant .. => true
  | _ => false
theorem tstE_ok {e : Expr} (h : tstE e = true) (env : PySem.Env) : ∀ whole, isTrue e env whole = (do let v ← whole; standAt e.pos; holding [v] (truthy v)) := by
  cases e <;> first | (intro _; rfl) | (simp [tstE] at h; done)
/-! ### what is known of a block's text -/
structure MC where
  N : List Str
  sc : Scope
  fs : Str → Bool
  mu : List Nat
structure CxtM (T : Rt) (k : Nat) (C : MC) (W : WX) (X : Cx) : Prop where
  c : Cxt T k C.N C.sc W X
  fn : ∀ x, C.fs x = true → X.fn x = true
def locB (C : MC) (x : Str) : Bool := match C.sc.names.lookup x with
  | some .local => true
  | some .cell => C.fs x
  | _ => false
def cmpOk (o : CO) (p : CmpOp) : Bool := decide (coP o = p)
def bnS : B1 → String
  | .len => "len"
  | .int => "int"
  | .str => "str"
  | .tuple => "tuple"
  | .list => "list"
  | .sorted => "sorted"
  | .sortedSet => "sorted"
  | .lenSet => "len"
  | .max => "max"
  | .min => "min"
  | .sum => "sum"
  | .all => "all"
def b1Ok : B1 → Bool
  | .sum => true
  | .max => true
  | .len => true
  | .int => true
  | .tuple => true
  | .list => true
  | .sorted => true
  | .all => true
  | _ => false
def isSetF : B1 → Bool
  | .sortedSet => true
  | .lenSet => true
  | _ => false
def b2S : B2 → String
  | .max => "max"
  | .min => "min"
  | .maxD => "max"
  | .minD => "min"
def isDf : B2 → Bool
  | .maxD => true
  | .minD => true
  | _ => false
def b2Ok : B2 → Bool
  | .max => true
  | .min => true
  | _ => false
/-- what comes of it: 0 it stands, 1 new, 2 maybe a slot's own list -/
def mdP (mu : List Nat) : P → Nat
  | .var i => if i ∈ mu then 2 else 0
  | .bin .. => 1
  | .cmp .. => 1
  | .chn .. => 1
  | .sl .. => 1
  | .rv .. => 1
  | .li .. => 1
  | .tu .. => 1
  | .cp .. => 1
  | .b1 .. => 1
  | _ => 0
def isRev : Expr → Bool
  | .Slice none none (some (.UnaryOp .USub (.Constant (.int 1) _ _) _)) _ => true
  | _ => false
/-- names of defs -/
def mFns (C : MC) : List (Str × (List D → M D)) → List Expr → Bool
  | [], [] => true
  | q :: r, e :: es => (match vName e with
      | some x => (x == q.1) && glB C.sc x && dbB x
      | none => false) && okE e && mFns C r es
  | _, _ => false
def mTg (C : MC) : List Nat → List Expr → Bool
  | [], [] => true
  | i :: is, e :: es => (match vName e with
      | some x => nthB C.N i x && locB C x && !(decide (i ∈ C.mu))
      | none => false) && mTg C is es
  | _, _ => false
def mT1 (C : MC) : Tg → Expr → Bool
  | .one i, e => mTg C [i] [e]
  | .many is, e => match vTup e with
    | some es => mTg C is es
    | none => false
def tyE (t : Ty) (e : Expr) : Bool := match vName e with
  | some x => x == Str.ofString (tyS t)
  | none => false
def mTys : List Ty → List Expr → Bool
  | [], [] => true
  | t :: ts, e :: es => tyE t e && mTys ts es
  | _, _ => false
def allOk (es : List Expr) : Bool := es.all okE
def nm (N : List Str) (i : Nat) : Str := N.getD i ""
/-- the block of a comprehension -/
def MC.blk (C : MC) (scope : Scope) : MC := { C with sc := relS scope C.sc, fs := fun x => scope.names.lookup x == some .cell }
mutual
def mE (C : MC) : P → Expr → Bool
  | .var i, e => (match vName e with
    | some x => nthB C.N i x && visB C.sc x && dbB x
    | none => false)
  | .cI i, e => (match vCst e with
    | some (.int j) => decide (i = j)
    | _ => false)
  | .cB b, e => (match vCst e with
    | some (.bool c) => decide (b = c)
    | _ => false)
  | .cN, e => (match vCst e with
    | some .none => true
    | _ => false)
  | .cS s, e => (match vCst e with
    | some (.str x) => decide (x = ⟨s.toArray⟩) && decide (s.length ≤ LIM) && s.all (fun c => decide (c < 1114112))
    | _ => false)
  | .gl x d, e => (match vName e with
    | some y => (y == x) && glB C.sc x && dbB x && !isLst d
    | none => false)
  | .bin o a b, e => (match vBin e with
    | some q => decide (boP o = q.2.1) && okE q.1 && okE q.2.2 && mE C a q.1 && mE C b q.2.2
    | none => false)
  | .neg a, e => (match vUn e with
    | some q => decide (q.1 = .USub) && okE q.2 && mE C a q.2
    | none => false)
  | .no a, e => (match vUn e with
    | some q => decide (q.1 = .Not) && okE q.2 && mE C a q.2
    | none => false)
  | .an ps, e => (match vBool e with
    | some q => decide (q.1 = .And) && mV C ps q.2
    | none => false)
  | .orr ps, e => (match vBool e with
    | some q => decide (q.1 = .Or) && mV C ps q.2
    | none => false)
  | .cmp o a b, e => (match vCmp e with
    | some (x, [p], [y]) => cmpOk o p && okE y && mE C a x && mE C b y
    | _ => false)
  | .chn o1 o2 a b c, e => (match vCmp e with
    | some (x, [p, q], [y, z]) => cmpOk o1 p && cmpOk o2 q && okE y && okE z && mE C a x && mE C b y && mE C c z
    | _ => false)
  | .ife t a b, e => (match vIf e with
    | some q => mT C t q.1 && mE C a q.2.1 && mE C b q.2.2 && decide (mdP C.mu a ≤ 1) && decide (mdP C.mu b ≤ 1)
    | none => false)
  | .ix a b, e => (match vSub e with
    | some q => okE q.2 && mE C a q.1 && mE C b q.2
    | none => false)
  | .sl a lo hi, e => (match vSub e with
    | some q => (match vSlice q.2 with
      | some (l, h, none) => mE C a q.1 && mQ C lo l && mQ C hi h
      | _ => false)
    | none => false)
  | .rv a, e => (match vSub e with
    | some q => isRev q.2 && mE C a q.1
    | none => false)
  | .st2 _ _, _ => false
  | .li ps, e => (match vList e with
    | some es => mL C ps es
    | none => false)
  | .tu ps, e => (match vTup e with
    | some es => mL C ps es
    | none => false)
  | .cp e0 tg it c own, e => (match vLc e with
    | some q => decide (q.2.1.is_async = 0) && okE q.2.1.iter && blkC C.N C.sc q.2.2 (own.map fun i => (nm C.N i, i)) && (slT tg).all (fun i => decide (i ∈ own)) && mI C it q.2.1.target q.2.1.iter &&
        mT1 (C.blk q.2.2) tg q.2.1.target && mCn (C.blk q.2.2) c q.2.1.ifs && mE (C.blk q.2.2) e0 q.1 && decide (mdP C.mu e0 ≤ 1)
    | none => false)
  | .ca x _ ps, e => (match vCall e with
    | some q => (q.1 == x) && glB C.sc x && dbB x && allOk q.2 && mL C ps q.2
    | none => false)
  | .pk fs i ps, e => (match vPk e with
    | some q => mFns C fs q.1 && okE q.2.1 && !q.2.2.isEmpty && allOk q.2.2 && decide (fs.length ≤ LIM) && mE C i q.2.1 && mL C ps q.2.2
    | none => false)
  | .b1 f a, e => (match vCall e with
    | some (x, [y]) => if isSetF f then (x == Str.ofString (bnS f)) && glB C.sc x && okE y && (match vCall y with
        | some (x2, [z]) => (x2 == "set") && glB C.sc x2 && okE z && mE C a z
        | _ => false)
      else b1Ok f && (x == Str.ofString (bnS f)) && glB C.sc x && okE y && mE C a y
    | _ => false)
  | .b2 f a b, e => if isDf f then (match vCallD e with
    | some q => (q.1 == Str.ofString (b2S f)) && glB C.sc q.1 && okE q.2.1 && mE C a q.2.1 && mE C b q.2.2
    | none => false) else (match vCall e with
    | some (x, [y, z]) => b2Ok f && (x == Str.ofString (b2S f)) && glB C.sc x && okE y && okE z && mE C a y && mE C b z
    | _ => false)
  | .isi a ts, e => (match vCall e with
    | some (x, [y, z]) => (x == "isinstance") && glB C.sc x && okE y && okE z && mE C a y && (match ts with
      | [t] => tyE t z && glB C.sc (Str.ofString (tyS t))
      | ts => (match vTup z with
        | some zs => mTys ts zs && ts.all (fun t => glB C.sc (Str.ofString (tyS t))) && decide (ts.length ≤ LIM)
        | none => false))
    | _ => false)
  | .mt f o a, e => (match vMeO e with
    | some (o', x, [y], l) => isCI f && (x == mtN f) && noCallB o' && okE y && l && mE C o o' && mE C a y
    | _ => false)
  | .lr _ _ _, _ => false
  | .dic _ _ _, _ => false
  | .dix _ _, _ => false
  | .at o x k, e => (match vAttr e with
    | some q => (q.2 == x) && decide (AT[k]? = some x) && noCallB q.1 && mE C o q.1
    | none => false)
  | .me o _ x _ ps, e => (match vMeO e with
    | some q => (q.2.1 == x) && !(AT.contains x) && noCallB q.1 && allOk q.2.2.1 && decide (q.2.2.1.length < 30) && q.2.2.2 && mE C o q.1 && mL C ps q.2.2.1
    | none => false)
  | .mk x _ _ ps, e => (match vCall e with
    | some q => (q.1 == x) && glB C.sc x && dbB x && allOk q.2 && !q.2.isEmpty && mL C ps q.2
    | none => false)
/-- as a test -/
def mT (C : MC) : P → Expr → Bool
  | .an ps, e => (match vBool e with
    | some q => decide (q.1 = .And) && mTs C ps q.2
    | none => false)
  | .orr ps, e => (match vBool e with
    | some q => decide (q.1 = .Or) && mTs C ps q.2
    | none => false)
  | .no a, e => (match vUn e with
    | some q => decide (q.1 = .Not) && mT C a q.2
    | none => false)
  | .cmp o a b, e => (match vCmp e with
    | some (x, [p], [y]) => cmpOk o p && okE y && mE C a x && mE C b y
    | _ => false)
  | .chn o1 o2 a b c, e => (match vCmp e with
    | some (x, [p, q], [y, z]) => cmpOk o1 p && cmpOk o2 q && okE y && okE z && mE C a x && mE C b y && mE C c z
    | _ => false)
  | .var i, e => (match vName e with
    | some x => nthB C.N i x && visB C.sc x && dbB x
    | none => false)
  | .ca x _ ps, e => (match vCall e with
    | some q => (q.1 == x) && glB C.sc x && dbB x && allOk q.2 && mL C ps q.2
    | none => false)
  | .b1 f a, e => (match vCall e with
    | some (x, [y]) => b1Ok f && (x == Str.ofString (bnS f)) && glB C.sc x && okE y && mE C a y
    | _ => false)
  | .isi a ts, e => (match vCall e with
    | some (x, [y, z]) => (x == "isinstance") && glB C.sc x && okE y && okE z && mE C a y && (match ts with
      | [t] => tyE t z && glB C.sc (Str.ofString (tyS t))
      | ts => (match vTup z with
        | some zs => mTys ts zs && ts.all (fun t => glB C.sc (Str.ofString (tyS t))) && decide (ts.length ≤ LIM)
        | none => false))
    | _ => false)
  | .cB b, e => (match vCst e with
    | some (.bool c) => decide (b = c)
    | _ => false)
  | .ix a b, e => (match vSub e with
    | some q => okE q.2 && mE C a q.1 && mE C b q.2
    | none => false)
  | .me o _ x _ ps, e => (match vMeO e with
    | some q => (q.2.1 == x) && !(AT.contains x) && noCallB q.1 && allOk q.2.2.1 && decide (q.2.2.1.length < 30) && q.2.2.2 && mE C o q.1 && mL C ps q.2.2.1
    | none => false)
  | _, _ => false
def mTs (C : MC) : PL → List Expr → Bool
  | .cons p .nil, [e] => mT C p e
  | .cons p ps, e :: f :: es => mT C p e && mTs C ps (f :: es)
  | _, _ => false
/-- operands of and, or, as values -/
def mV (C : MC) : PL → List Expr → Bool
  | .cons p .nil, [e] => mE C p e && decide (mdP C.mu p ≤ 1)
  | .cons p ps, e :: f :: es => mE C p e && mV C ps (f :: es)
  | _, _ => false
/-- items, arguments -/
def mL (C : MC) : PL → List Expr → Bool
  | .nil, [] => true
  | .cons p ps, e :: es => okE e && mE C p e && decide (mdP C.mu p ≤ 1) && mL C ps es
  | _, _ => false
def mQ (C : MC) : PQ → Option Expr → Bool
  | .none, none => true
  | .some p, some e => mE C p e
  | _, _ => false
def mCn (C : MC) : PQ → List Expr → Bool
  | .none, [] => true
  | .some p, [e] => mT C p e
  | _, _ => false
def mI (C : MC) : I → Expr → Expr → Bool
  | .e p, _, e => mE C p e
  | .r1 a, _, e => (match vCall e with
    | some (x, [y]) => (x == "range") && glB C.sc x && okE y && mE C a y
    | _ => false)
  | .r2 a b, _, e => (match vCall e with
    | some (x, [y, z]) => (x == "range") && glB C.sc x && okE y && okE z && mE C a y && mE C b z
    | _ => false)
  | .r3 a b c, _, e => (match vCall e with
    | some (x, [y, z, w]) => (x == "range") && glB C.sc x && okE y && okE z && okE w && mE C a y && mE C b z && mE C c w
    | _ => false)
  | .en a, tg, e => (match vCall e with
    | some (x, [y]) => (x == "enumerate") && glB C.sc x && okE y && (vTup tg).isSome && mE C a y
    | _ => false)
  | .zp a b, tg, e => (match vCall e with
    | some (x, [y, z]) => (x == "zip") && glB C.sc x && okE y && okE z && (vTup tg).isSome && mE C a y && mE C b z
    | _ => false)
  | .zp3 _ _ _, _, _ => false
end
/-- items that are made as the walk goes -/
def isZ : I → Bool
  | .en _ => true
  | .zp _ _ => true
  | .zp3 _ _ _ => true
  | _ => false
theorem mI_z {C : MC} {it : I} {tg e : Expr} (h : mI C it tg e = true) (hz : isZ it = true) : (vTup tg).isSome = true := by
  cases it with
  | en a =>
    simp only [mI] at h
    split at h
    · simp only [Bool.and_eq_true] at h; exact h.1.2
    · cases h
  | zp a b =>
    simp only [mI] at h
    split at h
    · simp only [Bool.and_eq_true] at h; exact h.1.1.2
    · cases h
  | zp3 a b c => simp [mI] at h
  | _ => cases hz
/-- what is walked stands by itself -/
def fzI (mu : List Nat) : I → Bool
  | .e p => decide (mdP mu p ≤ 1)
  | .en p => decide (mdP mu p ≤ 1)
  | .zp a b => decide (mdP mu a ≤ 1) && decide (mdP mu b ≤ 1)
  | .zp3 a b c => decide (mdP mu a ≤ 1) && (decide (mdP mu b ≤ 1) && decide (mdP mu c ≤ 1))
  | _ => true
/-! ### what it leans on -/
mutual
def ndP : P → List Nd
  | .gl x d => [.gl x d]
  | .bin _ a b => ndP a ++ ndP b
  | .neg a => ndP a
  | .no a => ndP a
  | .an ps => ndL ps
  | .orr ps => ndL ps
  | .cmp _ a b => ndP a ++ ndP b
  | .chn _ _ a b c => ndP a ++ (ndP b ++ ndP c)
  | .ife t a b => ndP t ++ (ndP a ++ ndP b)
  | .ix a b => ndP a ++ ndP b
  | .sl a lo hi => ndP a ++ (ndQ lo ++ ndQ hi)
  | .rv a => ndP a
  | .st2 a _ => ndP a
  | .li ps => ndL ps
  | .tu ps => ndL ps
  | .cp e _ it c _ => ndP e ++ (ndI it ++ ndQ c)
  | .ca x F ps => .fn x F :: ndL ps
  | .pk fs i ps => fs.map (fun q => .fn q.1 q.2) ++ (ndP i ++ ndL ps)
  | .b1 f a => .bi (Str.ofString (bnS f)) :: .bi "set" :: ndP a
  | .b2 f a b => .bi (Str.ofString (b2S f)) :: (ndP a ++ ndP b)
  | .isi a ts => .bi "isinstance" :: (ts.map (fun t => .bi (Str.ofString (tyS t))) ++ ndP a)
  | .mt _ o a => ndP o ++ ndP a
  | .lr _ a b => ndP a ++ ndP b
  | .dic _ a b => ndP a ++ ndP b
  | .dix _ a => ndP a
  | .at o x k => .at x k :: ndP o
  | .me o c x F ps => .me c x F :: (ndP o ++ ndL ps)
  | .mk x c F ps => .mk x c F :: ndL ps
  | _ => []
def ndL : PL → List Nd
  | .nil => []
  | .cons p ps => ndP p ++ ndL ps
def ndQ : PQ → List Nd
  | .none => []
  | .some p => ndP p
def ndI : I → List Nd
  | .e p => ndP p
  | .r1 a => .bi "range" :: ndP a
  | .r2 a b => .bi "range" :: (ndP a ++ ndP b)
  | .r3 a b c => .bi "range" :: (ndP a ++ (ndP b ++ ndP c))
  | .en a => .bi "enumerate" :: ndP a
  | .zp a b => .bi "zip" :: (ndP a ++ ndP b)
  | .zp3 a b c => .bi "zip" :: (ndP a ++ (ndP b ++ ndP c))
end
/-- a def's promise -/
def spOf (T : Rt) (F : List D → M D) : Sp := fun vs H Q E => ∃ G μ st ds, WOk T G H μ st ∧ RpL T.K G μ ds vs ∧
  Res (F ds st) (fun d st' => ∀ v G' H' μ', Ev G H μ G' H' μ' → WOk T G' H' μ' st' → Rp T.K G' μ' d v → Q v H') (fun c st' => ∀ G' H' μ', Ev G H μ G' H' μ' → WOk T G' H' μ' st' → E (.ref (T.ca c)) none H')
def FnIn (T : Rt) (k : Nat) (x : Str) (F : List D → M D) : Prop := ∃ f fd ps, T.mg x = some (.ref f) ∧ PySem.W.keepIn T.K (.ref f) = true ∧ Binds T.K fd ps [] ∧ FnOk T.P T.w T.K T.mg T.base (L2.CX T.P T.w) k f fd ps (spOf T F)
def NdOk (T : Rt) (k : Nat) : Nd → Prop
  | .bi x => T.mg x = none
  | .fn x F => FnIn T k x F
  | .gl x d => ∃ u v, T.mg x = some u ∧ RelV v u ∧ ∀ G μ, Rp T.K G μ d v
  | .me c x F => ∃ f fd ps, Cls T.K (T.co c) ∧ Meth T.K (T.co c) x f ∧ Binds T.K fd ps [] ∧ FnOk T.P T.w T.K T.mg T.base (L2.CX T.P T.w) k f fd ps (spOf T F)
  | .mk x c F => T.mg x = some (.ref (T.co c)) ∧ OkCl T.K (T.co c) ∧ ∃ f fd ps j, j + 1 ≤ k ∧ Mk T.K (T.co c) f ∧ Binds T.K fd ps [] ∧ FnOk T.P T.w T.K T.mg T.base (L2.CX T.P T.w) j f fd ps (spOf T F)
  | _ => True
def Nds (T : Rt) (k : Nat) (l : List Nd) : Prop := ∀ q ∈ l, NdOk T k q
theorem Nds.app {T : Rt} {k : Nat} {a b : List Nd} (h : Nds T k (a ++ b)) : Nds T k a ∧ Nds T k b := ⟨fun q hq => h q (List.mem_append_left _ hq), fun q hq => h q (List.mem_append_right _ hq)⟩
theorem Nds.con {T : Rt} {k : Nat} {a : Nd} {b : List Nd} (h : Nds T k (a :: b)) : NdOk T k a ∧ Nds T k b := ⟨h a List.mem_cons_self, fun q hq => h q (List.mem_cons_of_mem _ hq)⟩
end BX

set_option Elab.async false
set_option linter.all false
set_option maxRecDepth 100000
/-! BZ1: max, min with default=. -/
namespace BX
open PySem PySem.Spec PyProof.Rows L2
def rMaxDf (K : PySem.W.Frag) : List V → List V → Hp → VK → Prop := fun vs zs H Q => ∃ (a : Addr) (ns : List Int) (z : V), vs = [V.ref a] ∧ zs = [z] ∧ SqL K H a (ns.map V.int) ∧ (ns = [] → Q z H) ∧ ∀ m r, ns = m :: r → Q (.int (r.foldl max m)) H
theorem ints_dp {K : PySem.W.Frag} {H : Hp} : ∀ ns : List Int, DpAll K H (ns.map V.int) (ns.map PyData.int)
  | [] => .nil
  | n :: r => .cons (.int n) (ints_dp r)
theorem ints_dep : ∀ ns : List Int, PyData.depthAll (ns.map PyData.int) = 0
  | [] => rfl
  | n :: r => by
    have := ints_dep r
    simp only [List.map_cons, PyData.depthAll, PyData.depth, this]
    rfl
theorem cr_maxDf {X : Cx} (hc : X.calm = true) (hu : X.A.units + 65 < cLine) : CallRK X (.builtin "max") [Str.ofString "default"] (rMaxDf X.K) := by
  intro pins s σ H vs zs us ws Q I r rz h
  obtain ⟨a, ns, z, rfl, rfl, hs, q0, q1⟩ := h
  obtain ⟨its, rv, hl, _⟩ := I.list hs
  rw [Vals.ref1 r]
  obtain ⟨zv, rfl, rzv⟩ := rz.one
  obtain ⟨as, h4⟩ := Dp.readsAll I (ns.map PyData.int) _ its (ints_dp ns) rv
  refine PySem.W.max_list_default (xs := ns.map PyData.int) (I.ok.hd hc) hl.isList (by simpa using h4) ⟨fun x hx y hy => ?_, fun x hx => ?_⟩ (by rw [ints_dep]; omega) (fun hz h' tk hk => ?_) (fun y ys i v h' tk bs he hv hr hk => ?_)
  · obtain ⟨i, _, rfl⟩ := List.mem_map.mp hx
    obtain ⟨j, _, rfl⟩ := List.mem_map.mp hy
    rfl
  · obtain ⟨i, _, rfl⟩ := List.mem_map.mp hx
    intro z
    cases z
  · exact ⟨z, H, I.kept hk, rzv, q0 (by cases ns with | nil => rfl | cons _ _ => cases hz)⟩
  · cases ns with
    | nil => cases he
    | cons m r =>
      rw [List.map_cons] at he
      cases he
      rw [PySem.W.maxD_ints] at hr
      exact ⟨.int (r.foldl max m), H, I.kept hk, by cases hr; exact ⟨_, rfl⟩, q1 m r rfl⟩
def rMinDf (K : PySem.W.Frag) : List V → List V → Hp → VK → Prop := fun vs zs H Q => ∃ (a : Addr) (ns : List Int) (z : V), vs = [V.ref a] ∧ zs = [z] ∧ SqL K H a (ns.map V.int) ∧ (ns = [] → Q z H) ∧ ∀ m r, ns = m :: r → Q (.int (r.foldl min m)) H
theorem cr_minDf {X : Cx} (hc : X.calm = true) (hu : X.A.units + 65 < cLine) : CallRK X (.builtin "min") [Str.ofString "default"] (rMinDf X.K) := by
  intro pins s σ H vs zs us ws Q I r rz h
  obtain ⟨a, ns, z, rfl, rfl, hs, q0, q1⟩ := h
  obtain ⟨its, rv, hl, _⟩ := I.list hs
  rw [Vals.ref1 r]
  obtain ⟨zv, rfl, rzv⟩ := rz.one
  obtain ⟨as, h4⟩ := Dp.readsAll I (ns.map PyData.int) _ its (ints_dp ns) rv
  refine PySem.W.min_list_default (xs := ns.map PyData.int) (I.ok.hd hc) hl.isList (by simpa using h4) ⟨fun x hx y hy => ?_, fun x hx => ?_⟩ (by rw [ints_dep]; omega) (fun hz h' tk hk => ?_) (fun y ys i v h' tk bs he hv hr hk => ?_)
  · obtain ⟨i, _, rfl⟩ := List.mem_map.mp hx
    obtain ⟨j, _, rfl⟩ := List.mem_map.mp hy
    rfl
  · obtain ⟨i, _, rfl⟩ := List.mem_map.mp hx
    intro z
    cases z
  · exact ⟨z, H, I.kept hk, rzv, q0 (by cases ns with | nil => rfl | cons _ _ => cases hz)⟩
  · cases ns with
    | nil => cases he
    | cons m r =>
      rw [List.map_cons] at he
      cases he
      rw [PySem.W.minD_ints] at hr
      exact ⟨.int (r.foldl min m), H, I.kept hk, by cases hr; exact ⟨_, rfl⟩, q1 m r rfl⟩
theorem maxI_fold : ∀ (r : List Int) (m : Int), maxI m r = r.foldl max m
  | [], m => rfl
  | x :: r, m => by
    have : max m x = if m < x then x else m := by rw [Int.max_def]; split <;> split <;> omega
    rw [List.foldl_cons, this, ← maxI_fold r]
    rfl
theorem minI_fold : ∀ (r : List Int) (m : Int), minI m r = r.foldl min m
  | [], m => rfl
  | x :: r, m => by
    have : min m x = if x < m then x else m := by rw [Int.min_def]; split <;> split <;> omega
    rw [List.foldl_cons, this, ← minI_fold r]
    rfl
section
variable {T : Rt}
theorem po_df {H0 G H : Hp} {μ : List Addr} {y : D} {v : V} (h : okDf y = true) (p : Po T 2 H0 G H μ y v) : Po T 1 H0 G H μ y v := by
  cases y <;> first | exact p | (simp [okDf] at h)
theorem o_maxDf : RdO T 1 (fun x y H Q => rMaxDf T.K [x] [y] H Q) maxDD := by
  intro x y vx vy G H μ st Q w px py h
  cases x with
  | lst ds =>
    obtain ⟨l, xs, rfl, h1, h2, h3⟩ := po_lst px
    simp only [maxDD] at h
    cases e : intsO ds with
    | none => rw [e] at h; exact h.elim
    | some bs =>
      rw [e] at h
      have ex := ints_v h3 e
      subst ex
      cases bs with
      | nil =>
        simp only [] at h
        by_cases c : okDf y = true
        · rw [if_pos c] at h
          exact ⟨l, [], vy, rfl, rfl, .inl (.inl h1), fun _ => h _ _ _ (Ev.refl _ _ _) w (po_df c py), fun m r e => by cases e⟩
        · rw [if_neg c] at h
          exact h.elim
      | cons m r =>
        refine ⟨l, m :: r, vy, rfl, rfl, .inl (.inl h1), fun e => by (cases e), fun m' r' e => ?_⟩
        cases e
        rw [← maxI_fold]
        exact h _ _ _ (Ev.refl _ _ _) w pk_int
  | _ => exact h.elim
theorem o_minDf : RdO T 1 (fun x y H Q => rMinDf T.K [x] [y] H Q) minDD := by
  intro x y vx vy G H μ st Q w px py h
  cases x with
  | lst ds =>
    obtain ⟨l, xs, rfl, h1, h2, h3⟩ := po_lst px
    simp only [minDD] at h
    cases e : intsO ds with
    | none => rw [e] at h; exact h.elim
    | some bs =>
      rw [e] at h
      have ex := ints_v h3 e
      subst ex
      cases bs with
      | nil =>
        simp only [] at h
        by_cases c : okDf y = true
        · rw [if_pos c] at h
          exact ⟨l, [], vy, rfl, rfl, .inl (.inl h1), fun _ => h _ _ _ (Ev.refl _ _ _) w (po_df c py), fun m r e => by cases e⟩
        · rw [if_neg c] at h
          exact h.elim
      | cons m r =>
        refine ⟨l, m :: r, vy, rfl, rfl, .inl (.inl h1), fun e => by (cases e), fun m' r' e => ?_⟩
        cases e
        rw [← minI_fold]
        exact h _ _ _ (Ev.refl _ _ _) w pk_int
  | _ => exact h.elim
end
end BX

set_option Elab.async false
set_option linter.all false
set_option maxRecDepth 100000
/-! BO2: methods called, instances made: as the evaluator says. -/
namespace BX
open PySem PySem.Spec PyProof.Rows L2
variable {T : Rt} {mu : List Nat} {n : Nat} {W : WX}
theorem chkC_ok {α : Type} {c : Nat} {o : D} {g : Unit → M α} {s : Sto} {k : α → Sto → Prop} {x : Xc → Sto → Prop} (h : Res (bnd (chkC c o) g s) k x) : ∃ i ob, o = .obj i ∧ s[i]? = some ob ∧ ob.cls = c ∧ Res (g () s) k x := by
  have h := h.bnd
  cases o with
  | obj i =>
    unfold chkC at h
    cases es : s[i]? with
    | none => simp only [es] at h; exact h.elim
    | some ob =>
      simp only [es] at h
      by_cases e : (ob.cls == c) = true
      · rw [if_pos e] at h
        exact ⟨i, ob, rfl, es, by simpa using e, h⟩
      · rw [if_neg e] at h
        exact h.elim
  | _ => exact h.elim
theorem rp_obj {K : PySem.W.Frag} {G : Hp} {μ : List Addr} {i : Nat} {a : Addr} (h : μ[i]? = some a) : Rp K G μ (.obj i) (.ref a) := by
  simp only [Rp]
  exact ⟨a, rfl, h⟩
theorem rd_me {c md : Nat} {F : List D → M D} {x : Str} {to : TE} {fo : Env → M D} {ta : TA} {g : Env → M (List D)} (hx : x ∉ AT) (ho : RdE T mu n W md to fo) (ha : RdA T mu n W ta g) :
    RdE T mu n W 0 (tMeO (T.co c) x (spOf T F) (WE W) to ta) (fun ρ => bnd (fo ρ) fun o => bnd (chkC c o) fun _ => bnd (g ρ) fun ds => F (o :: ds)) := by
  intro E ρ σ G H μ st Q er hres
  refine ho E ρ σ G H μ st _ er (hres.bnd.mono (fun o s1 h1 v1 G1 H1 μ1 e1 w1 p1 => ?_) fun c s1 h1 => h1)
  obtain ⟨i, ob, rfl, es, ec, h2⟩ := chkC_ok h1
  obtain ⟨a, rfl, hma⟩ := po_obj p1
  obtain ⟨a', dx, fs, ha', _, q1, q2, _, _⟩ := w_obj w1 es
  rw [hma] at ha'
  cases ha'
  rw [ec] at q1
  refine ⟨a, dx, fs, rfl, q1, fs_no hx q2, ?_⟩
  refine ha E ρ σ G1 H1 μ1 s1 _ (er.ev e1 w1) (h2.bnd.mono (fun ds s2 h3 vs G2 H2 μ2 e2 w2 p2 => ?_) fun c s2 h3 G' H' μ' e' w' => h3 G' H' μ' (e1.trans e') w')
  refine ⟨G2, μ2, s2, .obj i :: ds, w2, RpL.cons (rp_obj (e2.m.get hma)) p2, h3.mono (fun d s3 h4 v G3 H3 μ3 e3 w3 r3 => h4 v G3 H3 μ3 ((e1.trans e2).trans e3) w3 (po_md0 r3)) fun c s3 h4 G3 H3 μ3 e3 w3 => h4 G3 H3 μ3 ((e1.trans e2).trans e3) w3⟩
theorem rd_mk {c : Nat} {F : List D → M D} {ta : TA} {g : Env → M (List D)} (hc : OkCl T.K (T.co c)) (ha : RdA T mu n W ta g) :
    RdE T mu n W 0 (tMkS (T.co c) (spOf T F) (WE W) ta) (fun ρ => bnd (g ρ) (mkM c F)) := by
  intro E ρ σ G H μ st Q er hres
  refine ha E ρ σ G H μ st _ er (hres.bnd.mono (fun ds s1 h1 vs G1 H1 μ1 e1 w1 p1 x dx hx hd ne => ?_) fun c s1 h1 => h1)
  obtain ⟨e2, w2⟩ := new_ins w1 hc hx hd ne
  unfold mkM at h1
  have h2 := h1.bnd
  have hmx : (μ1 ++ [x])[s1.length]? = some x := by
    rw [← w1.len, List.getElem?_append_right (Nat.le_refl _)]
    simp
  refine ⟨G1, μ1 ++ [x], s1 ++ [⟨c, []⟩], .obj s1.length :: ds, w2, RpL.cons (rp_obj hmx) (e2.rpl p1), h2.mono (fun d s3 h4 v G3 H3 μ3 e3 w3 r3 => ?_) fun c s3 h4 G3 H3 μ3 e3 w3 => h4 G3 H3 μ3 ((e1.trans e2).trans e3) w3⟩
  cases d with
  | non =>
    have ev : v = .non := by simpa only [Rp] using r3
    exact ⟨ev, h4 (.ref x) G3 H3 μ3 ((e1.trans e2).trans e3) w3 (po_md0 (rp_obj (e3.m.get hmx)))⟩
  | _ => exact h4.elim
end BX

set_option Elab.async false
set_option linter.all false
set_option maxRecDepth 100000
/-! BN2: count and index, of lists and of tuples. -/
namespace BX
open PySem PySem.Spec PyProof.Rows L2
open PySem.SeqAt (dataPlace)
variable {T : Rt}
/-! ### count of a list -/
def rCntD (K : PySem.W.Frag) : V → List V → Hp → VK → Prop := fun x vs H Q => ∃ (a : Addr) (xs : List V) (y : V) (ps : List PyData) (d : PyData), x = .ref a ∧ vs = [y] ∧ H a = some (.lst xs) ∧ DpAll K H xs ps ∧ Dp K H y d ∧ SeqAt.shaped (.list ps) = true ∧ SeqAt.shaped d = true ∧
  Q (.int ((ps.countP fun z => PyData.eqv z d : Nat) : Int)) H
theorem p_cntD {X : Cx} (hu : X.A.units + 65 < cLine) : MtM X "list.count" (rCntD X.K) := by
  intro pins s σ H x vs v us Q I rx rv h
  obtain ⟨a, xs, y, ps, d, rfl, rfl, hH, hp, hd, s1, s2, q⟩ := h
  cases rx
  obtain ⟨u, rfl, ru⟩ := rv.one
  obtain ⟨z, its, n, r, hl, e⟩ := I.lstM hH
  obtain ⟨as, h4⟩ := Dp.readsAll I ps _ its hp r
  obtain ⟨bs, r1⟩ := Dp.reads I d y u hd ru
  have hpl : PyData.plainAll ps = true := by
    have := PyData.plain_of_canLay0 _ (SeqAt.canLay_of_shaped s1)
    simpa only [PyData.plain] using this
  exact PySem.SeqAt.count_list_data (vs := its.toArray) ⟨_, e, rfl, n, rfl⟩ (show ReadsAll s.heap its.toArray.toList ps as from h4) r1 hpl (PyData.plain_of_canLay0 _ (SeqAt.canLay_of_shaped s2)) (room_in_shaped s2 hu) ⟨.int _, H, I.tok _, ⟨_, rfl⟩, q⟩
theorem cnt_place {m : Nat} {d : D} (hd : sh m d = true) {n : Nat} : ∀ (xs : List D), shL n xs = true → (toPyL xs).countP (fun y => PyData.eqv y (toPy d)) = xs.countP fun x => eqD x d
  | [], _ => rfl
  | x :: xs, hs => by
    simp only [shL, Bool.and_eq_true] at hs
    simp only [toPyL, List.countP_cons]
    rw [eqv_toPy n m x d hs.1 hd, cnt_place hd xs hs.2]
theorem r_cnt {G H : Hp} {μ : List Addr} {st : Sto} {d : D} {v : V} {a : Addr} {ds : List D} {xs : List V} {Q : VK} (w : WOk T G H μ st) (p : Po T 2 H G H μ d v) (hH : H a = some (.lst xs)) (hx : RpL T.K G μ ds xs) (s1 : sh 60 d = true) (s2 : shL 60 ds = true)
    (q : Q (.int ((ds.countP fun x => eqD x d : Nat) : Int)) H) : rCntD T.K (.ref a) [v] H Q := by
  obtain ⟨q1, q2, q3⟩ := dps_of w.gh 60 ds xs s2 hx
  obtain ⟨d1, d2⟩ := po_dp' w.gh p s1
  exact ⟨a, xs, v, toPyL ds, toPy d, rfl, rfl, hH, q1, d1, shaped_mk (n := 61) (by simpa [PyData.canLay0] using q2) (by simp [PyData.depth]; omega) (by decide), d2, by rw [cnt_place s1 ds s2]; exact q⟩
theorem fstIx_ge (d : D) : ∀ (xs : List D) (i j : Nat), fstIx d xs i = some j → i ≤ j
  | [], _, _, h => by simp [fstIx] at h
  | x :: xs, i, j, h => by
    unfold fstIx at h
    split at h
    · cases h; exact Nat.le_refl _
    · have := fstIx_ge d xs (i + 1) j h
      omega
theorem fst_place {m : Nat} {d : D} (hd : sh m d = true) {n : Nat} : ∀ (xs : List D) (i j : Nat), shL n xs = true → fstIx d xs i = some j → (toPyL xs).findIdx? (fun y => PyData.eqv y (toPy d)) = some (j - i)
  | [], _, _, _, h => by simp [fstIx] at h
  | x :: xs, i, j, hs, h => by
    simp only [shL, Bool.and_eq_true] at hs
    unfold fstIx at h
    simp only [toPyL, List.findIdx?_cons]
    rw [eqv_toPy n m x d hs.1 hd]
    by_cases c : eqD x d = true
    · rw [if_pos c] at h
      cases h
      simp [c]
    · rw [if_neg c] at h
      have c' : eqD x d = false := by simpa using c
      rw [c']
      simp only [Bool.false_eq_true, if_false]
      have h2 := fst_place hd xs (i + 1) j hs.2 h
      have h3 := fstIx_ge d xs (i + 1) j h
      rw [h2]
      simp only [Option.map_some, Option.some.injEq]
      omega
/-! ### count, index of a list -/
section
variable {prog : Program} {w : World} {A : Around} {E : Value → Shared → Prop} {s : Shared} {l : Addr} {vs : Array Value} {xs : List PyData} {x : Value} {d : PyData} {as bs : List Addr} {Q : Value → Shared → Prop}
theorem index_list_dataX {j : Nat} (hl : s.heap.IsList l vs) (rs : ReadsAll s.heap vs.toList xs as) (rx : Reads s.heap x d bs) (hxs : PyData.plainAll xs = true) (hd : d.plain = true) (hu : A.units + 1 + min (PyData.depthAll xs) d.depth < cLine)
    (hp : dataPlace xs d = some j) (hsz : vs.size ≤ LIM) (h : Q (.int (j : Nat) s.toks) { s with toks := s.toks + 1 }) : wpAny (model prog w) A (call (.builtin "list.index") [.ref l, x]) Q E s := by
  obtain ⟨⟨cls, dd, data, sl⟩, ho, hc, n, hd'⟩ := id hl
  simp only at hc hd'
  subst hc hd'
  obtain ⟨hj, hit, hno⟩ := PySem.SeqAt.hit_at rs hxs hp
  have h9 : (j : Int) < 2 ^ 63 - 1 := by
    have : LIM = 16777216 := rfl
    omega
  exact call_meets F.slot_list_index ⟨_, ho, rfl⟩ F.entry_list_index (F.args_list_index_2 _ _) (PySem.SeqAt.list_indexAt l vs n dd sl x _ j hj h9 hit hno) ⟨ho, PySem.SeqAt.items_plain rs rx hxs hd hu, h⟩
end
def rIdxD (K : PySem.W.Frag) : V → List V → Hp → VK → Prop := fun x vs H Q => ∃ (a : Addr) (xs : List V) (y : V) (ps : List PyData) (d : PyData) (j : Nat), x = .ref a ∧ vs = [y] ∧ H a = some (.lst xs) ∧ DpAll K H xs ps ∧ Dp K H y d ∧ SeqAt.shaped (.list ps) = true ∧ SeqAt.shaped d = true ∧
  dataPlace ps d = some j ∧ Q (.int (j : Nat)) H
theorem p_idxD {X : Cx} (hu : X.A.units + 65 < cLine) : MtM X "list.index" (rIdxD X.K) := by
  intro pins s σ H x vs v us Q I rx rv h
  obtain ⟨a, xs, y, ps, d, j, rfl, rfl, hH, hp, hd, s1, s2, hj, q⟩ := h
  cases rx
  obtain ⟨u, rfl, ru⟩ := rv.one
  obtain ⟨z, its, n, r, hl, e⟩ := I.lstM hH
  obtain ⟨as, h4⟩ := Dp.readsAll I ps _ its hp r
  obtain ⟨bs, r1⟩ := Dp.reads I d y u hd ru
  have hpl : PyData.plainAll ps = true := by
    have := PyData.plain_of_canLay0 _ (SeqAt.canLay_of_shaped s1)
    simpa only [PyData.plain] using this
  exact index_list_dataX (vs := its.toArray) ⟨_, e, rfl, n, rfl⟩ (show ReadsAll s.heap its.toArray.toList ps as from h4) r1 hpl (PyData.plain_of_canLay0 _ (SeqAt.canLay_of_shaped s2)) (room_in_shaped s2 hu) hj (by rw [List.size_toArray, ← hl]; exact z) ⟨.int _, H, I.tok _, ⟨_, rfl⟩, q⟩
theorem r_idx {G H : Hp} {μ : List Addr} {st : Sto} {d : D} {v : V} {a : Addr} {ds : List D} {xs : List V} {Q : VK} {j : Nat} (w : WOk T G H μ st) (p : Po T 2 H G H μ d v) (hH : H a = some (.lst xs)) (hx : RpL T.K G μ ds xs) (s1 : sh 60 d = true) (s2 : shL 60 ds = true)
    (hj : fstIx d ds 0 = some j) (q : Q (.int (j : Nat)) H) : rIdxD T.K (.ref a) [v] H Q := by
  obtain ⟨q1, q2, q3⟩ := dps_of w.gh 60 ds xs s2 hx
  obtain ⟨d1, d2⟩ := po_dp' w.gh p s1
  have hj' := fst_place s1 ds 0 j s2 hj
  rw [Nat.sub_zero] at hj'
  exact ⟨a, xs, v, toPyL ds, toPy d, j, rfl, rfl, hH, q1, d1, shaped_mk (n := 61) (by simpa [PyData.canLay0] using q2) (by simp [PyData.depth]; omega) (by decide), d2, hj', q⟩
/-! ### .. of a tuple -/
section
variable {prog : Program} {w : World} {A : Around} {E : Value → Shared → Prop} {s : Shared} {l : Addr} {vs : Array Value} {xs : List PyData} {x : Value} {d : PyData} {as bs : List Addr} {Q : Value → Shared → Prop}
theorem index_tuple_dataX {j : Nat} (hl : s.heap.IsTuple l vs) (rs : ReadsAll s.heap vs.toList xs as) (rx : Reads s.heap x d bs) (hxs : PyData.plainAll xs = true) (hd : d.plain = true) (hu : A.units + 1 + min (PyData.depthAll xs) d.depth < cLine)
    (hp : dataPlace xs d = some j) (h : Q (.int (j : Nat) s.toks) { s with toks := s.toks + 1 }) : wpAny (model prog w) A (call (.builtin "tuple.index") [.ref l, x]) Q E s := by
  obtain ⟨⟨cls, dd, data, sl⟩, ho, hc, n, hd'⟩ := id hl
  simp only at hc hd'
  subst hc hd'
  obtain ⟨hj, hit, hno⟩ := PySem.SeqAt.hit_at rs hxs hp
  exact call_meets F.slot_tuple_index ⟨_, ho, rfl⟩ F.entry_tuple_index (F.args_tuple_index_2 _ _) (TI.tuple_indexAt l vs n dd sl x _ j hj hit hno) ⟨ho, PySem.SeqAt.items_plain rs rx hxs hd hu, h⟩
end
def rCntT (K : PySem.W.Frag) : V → List V → Hp → VK → Prop := fun x vs H Q => ∃ (a : Addr) (xs : List V) (y : V) (ps : List PyData) (d : PyData), x = .ref a ∧ vs = [y] ∧ SqT K H a xs ∧ DpAll K H xs ps ∧ Dp K H y d ∧ SeqAt.shaped (.list ps) = true ∧ SeqAt.shaped d = true ∧
  Q (.int ((ps.countP fun z => PyData.eqv z d : Nat) : Int)) H
def rIdxT (K : PySem.W.Frag) : V → List V → Hp → VK → Prop := fun x vs H Q => ∃ (a : Addr) (xs : List V) (y : V) (ps : List PyData) (d : PyData) (j : Nat), x = .ref a ∧ vs = [y] ∧ SqT K H a xs ∧ DpAll K H xs ps ∧ Dp K H y d ∧ SeqAt.shaped (.list ps) = true ∧ SeqAt.shaped d = true ∧
  dataPlace ps d = some j ∧ Q (.int (j : Nat)) H
theorem p_cntT {X : Cx} (hu : X.A.units + 65 < cLine) : MtR X "tuple.count" (rCntT X.K) := by
  intro pins s σ H x vs v us Q I rx rv h
  obtain ⟨a, xs, y, ps, d, rfl, rfl, hH, hp, hd, s1, s2, q⟩ := h
  cases rx
  obtain ⟨u, rfl, ru⟩ := rv.one
  obtain ⟨its, r, hl, z⟩ := I.tuple hH
  obtain ⟨as, h4⟩ := Dp.readsAll I ps _ its hp r
  obtain ⟨bs, r1⟩ := Dp.reads I d y u hd ru
  have hpl : PyData.plainAll ps = true := by
    have := PyData.plain_of_canLay0 _ (SeqAt.canLay_of_shaped s1)
    simpa only [PyData.plain] using this
  exact PySem.SeqAt.count_tuple_data (vs := its.toArray) hl (show ReadsAll s.heap its.toArray.toList ps as from h4) r1 hpl (PyData.plain_of_canLay0 _ (SeqAt.canLay_of_shaped s2)) (room_in_shaped s2 hu) ⟨.int _, H, I.tok _, ⟨_, rfl⟩, q⟩
theorem p_idxT {X : Cx} (hu : X.A.units + 65 < cLine) : MtR X "tuple.index" (rIdxT X.K) := by
  intro pins s σ H x vs v us Q I rx rv h
  obtain ⟨a, xs, y, ps, d, j, rfl, rfl, hH, hp, hd, s1, s2, hj, q⟩ := h
  cases rx
  obtain ⟨u, rfl, ru⟩ := rv.one
  obtain ⟨its, r, hl, z⟩ := I.tuple hH
  obtain ⟨as, h4⟩ := Dp.readsAll I ps _ its hp r
  obtain ⟨bs, r1⟩ := Dp.reads I d y u hd ru
  have hpl : PyData.plainAll ps = true := by
    have := PyData.plain_of_canLay0 _ (SeqAt.canLay_of_shaped s1)
    simpa only [PyData.plain] using this
  exact index_tuple_dataX (vs := its.toArray) hl (show ReadsAll s.heap its.toArray.toList ps as from h4) r1 hpl (PyData.plain_of_canLay0 _ (SeqAt.canLay_of_shaped s2)) (room_in_shaped s2 hu) hj ⟨.int _, H, I.tok _, ⟨_, rfl⟩, q⟩
/-- a tuple known to have no dict, at the call -/
theorem tupN_is {X : Cx} {pins : List (Addr × Obj)} {σ : L2.St} {H : Hp} {s : Shared} {p : Addr} {xs : List V} (I : Inv X pins σ H s) (h : SqTN X.K H p xs) : s.TypeIs (.ref p) "tuple" ∧ ∀ a, Value.ref p = .ref a → ∃ ob, s.heap.get? a = some ob ∧ ob.dict = none := by
  obtain ⟨its, _, ht, _⟩ := I.tuple h.t
  refine ⟨ht.typeIs, fun a e => ?_⟩
  cases e
  rcases h with ⟨o, h, hd⟩ | ⟨o, _, _, hk, _, hd, _⟩
  · obtain ⟨z, _⟩ := (show ObjOk X.prog X.w H s.heap p (.frz o (.tup xs)) from I.hok p _ h)
    exact ⟨o, z, hd⟩
  · exact ⟨o, I.kIn p o hk, hd⟩
/-- o.m(e), o a list or a tuple -/
def tM2 (K : PySem.W.Frag) (rL rT : V → List V → Hp → VK → Prop) (to : TE) (t : TA) : TE := fun σ H Q => to σ H fun x H1 => (∃ a xs, x = .ref a ∧ H1 a = some (.lst xs) ∧ t σ H1 fun vs H2 => rL x vs H2 Q) ∨ (∃ a xs, x = .ref a ∧ SqTN K H1 a xs ∧ t σ H1 fun vs H2 => rT x vs H2 Q)
section
variable {X : Cx} {o e : Expr} {es : List Expr} {to : TE} {t : TA} {name : Str} {apos cpos : Pos} {iL iT : String} {rL rT : V → List V → Hp → VK → Prop}
theorem pe_m2 (sL : Slot "list" name iL) (tL : typeOf (.builtin iL) = pure (.type "method_descriptor")) (mL : MtR X iL rL) (sT : Slot "tuple" name iT) (tT : typeOf (.builtin iT) = pure (.type "method_descriptor")) (mT : MtR X iT rT) (ho : PE X o to) (ha : PA X (e :: es) t)
    (hbase : attributeBase o name X.env (eval o X.env) = eval o X.env)
    (hfew : methodCallForm ((e :: es).length + ([] : List Keyword).length) (backTo cpos (starEach (e :: es) X.env)) (backToKw cpos (keywordEach [] X.env)) = true)
    (hline : (apos.endLine == cpos.line) = true) (hs : starEach (e :: es) X.env = (false, eval e X.env) :: starEach es X.env) (hplain : (backTo cpos (starEach es X.env)).any (·.1) = false) :
    PE X (.Call (.Attribute o name apos) (e :: es) [] cpos) (tM2 X.K rL rT to t) := by
  refine ⟨fun pins s σ H Q I h => ?_⟩
  refine wpAny_Call_method_late hbase hfew hline rfl (thn (ho.run pins s σ H _ I h) fun v s1 ⟨x, H1, I1, r1, q1⟩ => ?_)
  have go : ∀ {idn : String} {r : V → List V → Hp → VK → Prop}, MtR X idn r → (t σ H1 fun vs H2 => r x vs H2 Q) → wpAny (model X.prog X.w) X.A (callWith cpos (.builtin idn) [v] (backTo cpos (starEach (e :: es) X.env)) (backToKw cpos (keywordEach [] X.env))) (EP X pins σ Q) X.xe s1 := fun hm q => by
    have hA := ha.run cpos pins s1 σ H1 _ I1 q
    rw [hs] at hA ⊢
    refine Calls.callWith_builtin (by show (false || (backTo cpos (starEach es X.env)).any (·.1)) = false; rw [hplain] <;> rfl) (Calls.evalArgs_plain ?_)
    exact thn hA fun us s2 ⟨vs, H2, I2, r2, q2⟩ => hm pins s2 σ H2 x vs v us Q I2 r1 r2 q2
  rcases q1 with ⟨a, xs, rfl, hH, q⟩ | ⟨a, xs, rfl, hH, q⟩
  · obtain ⟨h1, h2⟩ := tyV_is (T := "list") I1 r1 (.inl ⟨rfl, xs, .inl (.inl hH)⟩)
    exact ⟨"list", iL, F.plainAttrs_list, sL, tL, h1, h2, go mL q⟩
  · cases r1
    obtain ⟨h1, h2⟩ := tupN_is I1 hH
    exact ⟨"tuple", iT, F.plainAttrs_tuple, sT, tT, h1, h2, go mT q⟩
end
/-! ### as the evaluator says -/
theorem r_cntT {G H : Hp} {μ : List Addr} {st : Sto} {d : D} {v : V} {a : Addr} {ds : List D} {xs : List V} {Q : VK} (w : WOk T G H μ st) (p : Po T 2 H G H μ d v) (hH : SqT T.K H a xs) (hx : RpL T.K G μ ds xs) (s1 : sh 60 d = true) (s2 : shL 60 ds = true)
    (q : Q (.int ((ds.countP fun x => eqD x d : Nat) : Int)) H) : rCntT T.K (.ref a) [v] H Q := by
  obtain ⟨q1, q2, q3⟩ := dps_of w.gh 60 ds xs s2 hx
  obtain ⟨d1, d2⟩ := po_dp' w.gh p s1
  exact ⟨a, xs, v, toPyL ds, toPy d, rfl, rfl, hH, q1, d1, shaped_mk (n := 61) (by simpa [PyData.canLay0] using q2) (by simp [PyData.depth]; omega) (by decide), d2, by rw [cnt_place s1 ds s2]; exact q⟩
theorem r_idxT {G H : Hp} {μ : List Addr} {st : Sto} {d : D} {v : V} {a : Addr} {ds : List D} {xs : List V} {Q : VK} {j : Nat} (w : WOk T G H μ st) (p : Po T 2 H G H μ d v) (hH : SqT T.K H a xs) (hx : RpL T.K G μ ds xs) (s1 : sh 60 d = true) (s2 : shL 60 ds = true)
    (hj : fstIx d ds 0 = some j) (q : Q (.int (j : Nat)) H) : rIdxT T.K (.ref a) [v] H Q := by
  obtain ⟨q1, q2, q3⟩ := dps_of w.gh 60 ds xs s2 hx
  obtain ⟨d1, d2⟩ := po_dp' w.gh p s1
  have hj' := fst_place s1 ds 0 j s2 hj
  rw [Nat.sub_zero] at hj'
  exact ⟨a, xs, v, toPyL ds, toPy d, j, rfl, rfl, hH, q1, d1, shaped_mk (n := 61) (by simpa [PyData.canLay0] using q2) (by simp [PyData.depth]; omega) (by decide), d2, hj', q⟩
def rMtL (K : PySem.W.Frag) : Mt → V → List V → Hp → VK → Prop
  | .count => rCntD K
  | .index => rIdxD K
  | _ => fun _ _ _ _ => False
def rMtT (K : PySem.W.Frag) : Mt → V → List V → Hp → VK → Prop
  | .count => rCntT K
  | .index => rIdxT K
  | _ => fun _ _ _ _ => False
theorem rd_m2 {mu : List Nat} {n : Nat} {W : WX} {md md' : Nat} {f : Mt} {to t : TE} {fo fa : Env → M D} (hf : isCI f = true) (ho : RdE T mu n W md' to fo) (h : RdE T mu n W md t fa) :
    RdE T mu n W 0 (tM2 T.K (rMtL T.K f) (rMtT T.K f) to (tCons t tNil)) (fun ρ => bnd (fo ρ) fun x => bnd (mtO f x) fun _ => bnd (fa ρ) fun y => mtD f x y) := by
  intro E ρ σ G H μ st Q er hres
  refine ho E ρ σ G H μ st _ er (hres.bnd.mono (fun x s1 h1 v1 G1 H1 μ1 e1 w1 p1 => ?_) fun c s1 h1 => h1)
  cases x with
  | lst ds =>
    have em : ∀ g : Unit → M D, bnd (mtO f (.lst ds)) g = g () := fun g => by
      cases f <;> first | rfl | simp [isCI] at hf
    have h1' := h1
    rw [em] at h1'
    obtain ⟨a, xs, rfl, k1, k2, k3⟩ := po_lst (p1.two w1.gh)
    refine .inl ⟨a, xs, rfl, k1, ?_⟩
    refine h E ρ σ G1 H1 μ1 s1 _ (er.ev e1 w1) (h1'.bnd.mono (fun y s2 h2 v2 G2 H2 μ2 e2 w2 p2 => ?_) fun c s2 h2 G' H' μ' e' w' => h2 G' H' μ' (e1.trans e') w')
    obtain ⟨a', xs', z, k1', k2', k3'⟩ := po_lst (((p1.two w1.gh).later e2).any (H2 := H2))
    cases z
    cases f with
    | count =>
      have h2' : Res ((if sh 60 y && shL 60 ds then ret (.int (ds.countP fun x => eqD x y)) else bad : M D) s2) _ _ := h2
      split at h2'
      · rename_i hz
        simp only [Bool.and_eq_true] at hz
        obtain ⟨z1, z2⟩ := hz
        exact r_cnt w2 ((p2.two w2.gh).any (H2 := H2)) k1' k3' z1 z2 (h2' _ G2 H2 μ2 (e1.trans e2) w2 pk_int)
      · exact h2'.elim
    | index =>
      have h2' : Res ((if sh 60 y && shL 60 ds then (match fstIx y ds 0 with | some j => ret (.int j) | none => bad) else bad : M D) s2) _ _ := h2
      split at h2'
      · rename_i hz
        simp only [Bool.and_eq_true] at hz
        obtain ⟨z1, z2⟩ := hz
        cases hj : fstIx y ds 0 with
        | some j =>
          rw [hj] at h2'
          exact r_idx w2 ((p2.two w2.gh).any (H2 := H2)) k1' k3' z1 z2 hj (h2' _ G2 H2 μ2 (e1.trans e2) w2 pk_int)
        | none =>
          rw [hj] at h2'
          exact h2'.elim
      · exact h2'.elim
    | _ => simp [isCI] at hf
  | tup ds =>
    have em : ∀ g : Unit → M D, bnd (mtO f (.tup ds)) g = g () := fun g => by
      cases f <;> first | rfl | simp [isCI] at hf
    have h1' := h1
    rw [em] at h1'
    obtain ⟨a, xs, rfl, k1, k2, k3⟩ := (show ∃ a xs, v1 = .ref a ∧ SqTN T.K G1 a xs ∧ xs.length ≤ LIM ∧ RpL T.K G1 μ1 ds xs from by simpa only [Po, Rp] using p1)
    refine .inr ⟨a, xs, rfl, w1.gh.sqn k1, ?_⟩
    refine h E ρ σ G1 H1 μ1 s1 _ (er.ev e1 w1) (h1'.bnd.mono (fun y s2 h2 v2 G2 H2 μ2 e2 w2 p2 => ?_) fun c s2 h2 G' H' μ' e' w' => h2 G' H' μ' (e1.trans e') w')
    have k1' : SqT T.K H2 a xs := w2.gh.sqt (e2.g.sqn k1)
    have k3' := e2.rpl k3
    cases f with
    | count =>
      have h2' : Res ((if sh 60 y && shL 60 ds then ret (.int (ds.countP fun x => eqD x y)) else bad : M D) s2) _ _ := h2
      split at h2'
      · rename_i hz
        simp only [Bool.and_eq_true] at hz
        obtain ⟨z1, z2⟩ := hz
        exact r_cntT w2 ((p2.two w2.gh).any (H2 := H2)) k1' k3' z1 z2 (h2' _ G2 H2 μ2 (e1.trans e2) w2 pk_int)
      · exact h2'.elim
    | index =>
      have h2' : Res ((if sh 60 y && shL 60 ds then (match fstIx y ds 0 with | some j => ret (.int j) | none => bad) else bad : M D) s2) _ _ := h2
      split at h2'
      · rename_i hz
        simp only [Bool.and_eq_true] at hz
        obtain ⟨z1, z2⟩ := hz
        cases hj : fstIx y ds 0 with
        | some j =>
          rw [hj] at h2'
          exact r_idxT w2 ((p2.two w2.gh).any (H2 := H2)) k1' k3' z1 z2 hj (h2' _ G2 H2 μ2 (e1.trans e2) w2 pk_int)
        | none =>
          rw [hj] at h2'
          exact h2'.elim
      · exact h2'.elim
    | _ => simp [isCI] at hf
  | _ => cases f <;> first | exact (show False from h1).elim | simp [isCI] at hf
end BX

set_option Elab.async false
set_option linter.all false
set_option maxRecDepth 100000
/-! BS12: a text that is matched does as the evaluator says: expressions. -/
namespace BX
open PySem PySem.Spec PyProof.Rows L2
variable {T : Rt} {k : Nat}
theorem bfT {b : Bool} (h : b = true) : ¬ b = false := by rw [h]; decide
theorem ex_and {a b : Bool} (h : (a && b) = true) : a = true ∧ b = true := by rwa [Bool.and_eq_true] at h
section
variable {C : MC} {W : WX} {X : Cx}
theorem nd_of (c : CxtM T k C W X) : X.N.Nodup := by rw [c.c.xN]; exact c.c.nd
theorem backTo_ok {es : List Expr} (h : allOk es = true) (pos : Pos) (env : PySem.Env) : (backTo pos (starEach es env)).any (·.1) = false := by
  induction es with
  | nil => rfl
  | cons e es ih =>
    unfold allOk at h
    rw [List.all_cons] at h
    obtain ⟨h1, h2⟩ := ex_and h
    rw [okE_star h1]
    show (false || (backTo pos (starEach es env)).any (·.1)) = false
    rw [ih h2]
    rfl
theorem star1 {e : Expr} (h : okE e = true) (env : PySem.Env) : starEach [e] env = [(false, eval e env)] := okE_star h [] env
/-! ### one rule each -/
theorem s_var {i : Nat} {x : Str} {p : Pos} (c : CxtM T k C W X) (h1 : nthB C.N i x = true) (h2 : visB C.sc x = true) (h3 : dbB x = true) : PE X (.Name x p) (tVar i) :=
  pe_var (by rw [c.c.xN]; exact nthB_ok h1) (c.c.vis h2) (db1 h3) (db2 h3)
theorem b1_rule (f : B1) (hf : b1Ok f = true) : ∃ r : List V → Hp → VK → Prop, RdU T 1 (fun x H Q => r [x] H Q) (b1D f) ∧ ∀ (C : MC) (W : WX) (X : Cx) (a : Expr) (ta : TE) (p1 p : Pos), CxtM T k C W X → T.mg (Str.ofString (bnS f)) = none → glB C.sc (Str.ofString (bnS f)) = true → okE a = true → PE X a ta →
    PE X (.Call (.Name (Str.ofString (bnS f)) p1) [a] [] p) (tCB r (tCons ta tNil)) := by
  cases f with
  | len => exact ⟨fun xs H Q => ∃ x n, xs = [x] ∧ LenV T.K x H n ∧ Q (.int n) H, o_len, fun C W X a ta p1 p c hm hg ha he => pe_callB (by rw [← c.c.K]; exact call_len) (c.c.gl hg) (by rw [c.c.mg]; exact hm) boot_len (pa_cons he pa_nil (star1 ha _)) (by decide) (by decide) (okE_star ha _ _) rfl⟩
  | int => exact ⟨fun xs H Q => (∃ i, xs = [.int i] ∧ Q (.int i) H) ∨ ∃ k, xs = [.bl k] ∧ Q (.int (if k then 1 else 0)) H, o_int, fun C W X a ta p1 p c hm hg ha he => pe_callTy call_int1 (c.c.gl hg) (by rw [c.c.mg]; exact hm) boot_int (pa_cons he pa_nil (star1 ha _)) (by decide) (by decide) (okE_star ha _ _) rfl⟩
  | tuple => exact ⟨rTupN T.K, o_tup, fun C W X a ta p1 p c hm hg ha he => pe_callTy (by rw [← c.c.K]; exact cr_tupN) (c.c.gl hg) (by rw [c.c.mg]; exact hm) boot_tuple (pa_cons he pa_nil (star1 ha _)) (by decide) (by decide) (okE_star ha _ _) rfl⟩
  | list => exact ⟨fun xs H Q => ∃ p ys, xs = [.ref p] ∧ (SqL T.K H p ys ∨ SqT T.K H p ys) ∧ ∀ l, H l = none → Q (.ref l) (upd H l (.lst ys)), o_lst, fun C W X a ta p1 p c hm hg ha he => pe_callTy (by rw [← c.c.K]; exact call_list_of) (c.c.gl hg) (by rw [c.c.mg]; exact hm) boot_list (pa_cons he pa_nil (star1 ha _)) (by decide) (by decide) (okE_star ha _ _) rfl⟩
  | sorted => exact ⟨rSortS T.K, o_sort, fun C W X a ta p1 p c hm hg ha he => pe_callB (by rw [← c.c.K]; exact p_sortS c.c.u) (c.c.gl hg) (by rw [c.c.mg]; exact hm) boot_sorted (pa_cons he pa_nil (star1 ha _)) (by decide) (by decide) (okE_star ha _ _) rfl⟩
  | sum => exact ⟨rSumA T.K, o_sum, fun C W X a ta p1 p c hm hg ha he => pe_callB (by rw [← c.c.K]; exact p_sum c.c.calm) (c.c.gl hg) (by rw [c.c.mg]; exact hm) boot_sum (pa_cons he pa_nil (star1 ha _)) (by decide) (by decide) (okE_star ha _ _) rfl⟩
  | max => exact ⟨rMax T.K, o_max, fun C W X a ta p1 p c hm hg ha he => pe_callB (by rw [← c.c.K]; exact cr_max c.c.calm) (c.c.gl hg) (by rw [c.c.mg]; exact hm) boot_max (pa_cons he pa_nil (star1 ha _)) (by decide) (by decide) (okE_star ha _ _) rfl⟩
  | all => exact ⟨rAll T.K, o_all, fun C W X a ta p1 p c hm hg ha he => pe_callB (by rw [← c.c.K]; exact cr_all c.c.calm) (c.c.gl hg) (by rw [c.c.mg]; exact hm) boot_all (pa_cons he pa_nil (star1 ha _)) (by decide) (by decide) (okE_star ha _ _) rfl⟩
  | _ => simp [b1Ok] at hf
/-- sorted(set(a)), len(set(a)) -/
theorem set_rule (f : B1) (hf : isSetF f = true) : ∃ r : V → Hp → VK → Prop, RdU T 1 r (b1D f) ∧ ∀ (C : MC) (W : WX) (X : Cx) (a : Expr) (ta : TE) (p1 p p2 p3 : Pos), CxtM T k C W X → T.mg (Str.ofString (bnS f)) = none → T.mg "set" = none → glB C.sc (Str.ofString (bnS f)) = true → glB C.sc "set" = true → okE a = true →
    okE (.Call (.Name "set" p2) [a] [] p3) = true → PE X a ta → PE X (.Call (.Name (Str.ofString (bnS f)) p1) [.Call (.Name "set" p2) [a] [] p3] [] p) (tUn r ta) := by
  have inner : ∀ (C : MC) (W : WX) (X : Cx) (a : Expr) (ta : TE) (p2 p3 : Pos), CxtM T k C W X → T.mg "set" = none → glB C.sc "set" = true → okE a = true → PE X a ta → PE X (.Call (.Name "set" p2) [a] [] p3) (tCB (rSetA T.K T.P T.w) (tCons ta tNil)) :=
    fun C W X a ta p2 p3 c hm hg ha he => pe_callTy (by rw [← c.c.K, ← c.c.prog, ← c.c.w]; exact p_setA c.c.calm c.c.u) (c.c.gl hg) (by rw [c.c.mg]; exact hm) PyProof.Rows.boot_set (pa_cons he pa_nil (star1 ha _)) (by decide) (by decide) (okE_star ha _ _) rfl
  cases f with
  | sortedSet => exact ⟨rSS T, o_sortSet, fun C W X a ta p1 p p2 p3 c hm hm2 hg hg2 ha ho he => pe_callB (r := rSortA T.K T.P T.w) (t := tCons (tCB (rSetA T.K T.P T.w) (tCons ta tNil)) tNil) (by rw [← c.c.K, ← c.c.prog, ← c.c.w]; exact p_sortA c.c.calm c.c.u) (c.c.gl hg) (by rw [c.c.mg]; exact hm) boot_sorted (pa_cons (inner C W X a ta p2 p3 c hm2 hg2 ha he) pa_nil (star1 ho _)) (by decide) (by decide) (okE_star ho _ _) rfl⟩
  | lenSet => exact ⟨rLS T, o_lenSet, fun C W X a ta p1 p p2 p3 c hm hm2 hg hg2 ha ho he => pe_callB (r := rLenA T.K T.P T.w) (t := tCons (tCB (rSetA T.K T.P T.w) (tCons ta tNil)) tNil) (by rw [← c.c.K, ← c.c.prog, ← c.c.w]; exact p_lenA) (c.c.gl hg) (by rw [c.c.mg]; exact hm) boot_len (pa_cons (inner C W X a ta p2 p3 c hm2 hg2 ha he) pa_nil (star1 ho _)) (by decide) (by decide) (okE_star ho _ _) rfl⟩
  | _ => simp [isSetF] at hf
theorem b2_rule (f : B2) (hf : b2Ok f = true) : ∃ (r : V → V → Hp → VK → Prop), RdO T 1 r (b2D f) ∧ ∀ (C : MC) (W : WX) (X : Cx) (a b : Expr) (ta tb : TE) (p1 p : Pos), CxtM T k C W X → T.mg (Str.ofString (b2S f)) = none → glB C.sc (Str.ofString (b2S f)) = true → okE a = true → okE b = true → PE X a ta → PE X b tb →
    PE X (.Call (.Name (Str.ofString (b2S f)) p1) [a, b] [] p) (tOp r ta tb) := by
  cases f with
  | max => exact ⟨rMax2, o_max2, fun C W X a b ta tb p1 p c hm hg ha hb he he' => pe_callB (r := fun xs H Q => ∃ i j, xs = [.int i, .int j] ∧ Q (.int (if j > i then j else i)) H) (t := tCons ta (tCons tb tNil)) (call_max2 c.c.calm) (c.c.gl hg) (by rw [c.c.mg]; exact hm) boot_max (pa_cons he (pa_cons he' pa_nil (star1 hb _)) (okE_star ha _ _)) (by decide) (by decide) (okE_star ha _ _) (backTo_ok (by simp [allOk, hb]) _ _)⟩
  | min => exact ⟨rMin2, o_min2, fun C W X a b ta tb p1 p c hm hg ha hb he he' => pe_callB (r := fun xs H Q => ∃ i j, xs = [.int i, .int j] ∧ Q (.int (if j < i then j else i)) H) (t := tCons ta (tCons tb tNil)) (call_min2 c.c.calm) (c.c.gl hg) (by rw [c.c.mg]; exact hm) boot_min (pa_cons he (pa_cons he' pa_nil (star1 hb _)) (okE_star ha _ _)) (by decide) (by decide) (okE_star ha _ _) (backTo_ok (by simp [allOk, hb]) _ _)⟩
  | _ => simp [b2Ok] at hf
theorem b2d_rule (f : B2) (hf : isDf f = true) : ∃ (r : V → V → Hp → VK → Prop), RdO T 1 r (b2D f) ∧ ∀ (C : MC) (W : WX) (X : Cx) (a b : Expr) (ta tb : TE) (p1 kp p : Pos), CxtM T k C W X → T.mg (Str.ofString (b2S f)) = none → glB C.sc (Str.ofString (b2S f)) = true → okE a = true → PE X a ta → PE X b tb →
    PE X (.Call (.Name (Str.ofString (b2S f)) p1) [a] [⟨some (Str.ofString "default"), b, kp⟩] p) (tOp r ta tb) := by
  cases f with
  | maxD => exact ⟨fun x y H Q => rMaxDf T.K [x] [y] H Q, o_maxDf, fun C W X a b ta tb p1 kp p c hm hg ha hea heb => by
      have := pe_callBK (x := Str.ofString "max") (r := rMaxDf X.K) (pos := p) (p := p1) (cr_maxDf c.c.calm c.c.u) (c.c.gl hg) (by rw [c.c.mg]; exact hm) boot_max (pa_cons hea pa_nil (star1 ha _)) (pk_cons (nm := some (Str.ofString "default")) (kpos := kp) heb pk_nil) (by decide) (by decide) (by rw [star1 ha]; rfl) (by rw [star1 ha]; rfl) rfl rfl rfl
      rw [c.c.K] at this
      exact this⟩
  | minD => exact ⟨fun x y H Q => rMinDf T.K [x] [y] H Q, o_minDf, fun C W X a b ta tb p1 kp p c hm hg ha hea heb => by
      have := pe_callBK (x := Str.ofString "min") (r := rMinDf X.K) (pos := p) (p := p1) (cr_minDf c.c.calm c.c.u) (c.c.gl hg) (by rw [c.c.mg]; exact hm) boot_min (pa_cons hea pa_nil (star1 ha _)) (pk_cons (nm := some (Str.ofString "default")) (kpos := kp) heb pk_nil) (by decide) (by decide) (by rw [star1 ha]; rfl) (by rw [star1 ha]; rfl) rfl rfl rfl
      rw [c.c.K] at this
      exact this⟩
  | _ => simp [isDf] at hf
/-- a def called by no argument -/
theorem pe_callS0 {X : Cx} {x : Str} {p pos : Pos} {f : Addr} {fd : FuncData} {ps : List Str} {sp : Sp} {kk : Nat} {E : St → XK} (F : FnOk X.prog X.w X.K X.mg X.base (L2.CX X.prog X.w) kk f fd ps sp) (hr : Room kk X.A) (hg : Gl X x) (hm : X.mg x = some (.ref f)) (hk : PySem.W.keepIn X.K (.ref f) = true) (hb : Binds X.K fd ps [])
    (hx : ∀ σ, PassesAt (L2.CX X.prog X.w) X σ (E σ)) (hdb : (x == ("__debug__" : Str)) = false) : PE X (.Call (.Name x p) [] [] pos) (tCallS sp E tNil) :=
  ⟨fun _ _ σ _ _ I h => wpAny_Call_Name_kw (ld_glob I hg hm (PySem.W.callWith_K0 I.kIn hk (run_fnS F hr hb (hx σ) I .nil h)) hdb)⟩
theorem s_call {x : Str} {F : List D → M D} {es : List Expr} {ta : TA} {p1 p : Pos} (c : CxtM T k C W X) (hF : FnIn T k x F) (hg : glB C.sc x = true) (hd : dbB x = true) (ho : allOk es = true) (ha : PA X es ta) (h0 : es = [] → ta = tNil) :
    PE X (.Call (.Name x p1) es [] p) (tCallS (spOf T F) (WE W) ta) := by
  obtain ⟨f, fd, ps, h1, h2, h3, h4⟩ := hF
  have F' : FnOk X.prog X.w X.K X.mg X.base (L2.CX X.prog X.w) k f fd ps (spOf T F) := by
    rw [c.c.prog, c.c.w, c.c.K, c.c.mg, c.c.base]
    exact h4
  cases es with
  | nil =>
    rw [h0 rfl]
    exact pe_callS0 F' c.c.room (c.c.gl hg) (by rw [c.c.mg]; exact h1) (by rw [c.c.K]; exact h2) (by rw [c.c.K]; exact h3) (fun σ => passAt c.c.tk σ) (db1 hd)
  | cons e es =>
    unfold allOk at ho
    rw [List.all_cons] at ho
    obtain ⟨o1, o2⟩ := ex_and ho
    exact pe_callS F' c.c.room (c.c.gl hg) (by rw [c.c.mg]; exact h1) (by rw [c.c.K]; exact h2) (by rw [c.c.K]; exact h3) (fun σ => passAt c.c.tk σ) ha (db1 hd) (okE_star o1 _ _) (backTo_ok (es := es) o2 _ _)
theorem rd_call {mu : List Nat} {n : Nat} {F : List D → M D} {ta : TA} {f : Env → M (List D)} (h : RdA T mu n W ta f) : RdE T mu n W 0 (tCallS (spOf T F) (WE W) ta) (fun ρ => bnd (f ρ) F) := by
  intro E ρ σ G H μ st Q er hres
  refine h E ρ σ G H μ st _ er (hres.bnd.mono (fun ds s1 h1 vs G1 H1 μ1 e1 w1 p1 => ?_) fun c s h => h)
  refine ⟨G1, μ1, s1, ds, w1, p1, h1.mono (fun d s2 h2 v G2 H2 μ2 e2 w2 r2 => h2 v G2 H2 μ2 (e1.trans e2) w2 ?_) fun c s2 h2 G2 H2 μ2 e2 w2 => h2 G2 H2 μ2 (e1.trans e2) w2⟩
  exact po_md0 r2
/-! ### objects -/
theorem back_all {es : List Expr} (h : allOk es = true) (pos : Pos) (env : PySem.Env) : (backTo pos (starEach es env)).all (!·.1) = true := by
  induction es with
  | nil => rfl
  | cons e es ih =>
    unfold allOk at h
    rw [List.all_cons] at h
    obtain ⟨h1, h2⟩ := ex_and h
    rw [okE_star h1]
    show (true && (backTo pos (starEach es env)).all (!·.1)) = true
    rw [ih h2]
    rfl
theorem form_ok {es : List Expr} (h : allOk es = true) (hl : es.length < 30) (pos : Pos) (env : PySem.Env) : methodCallForm (es.length + ([] : List Keyword).length) (backTo pos (starEach es env)) (backToKw pos (keywordEach [] env)) = true := by
  unfold methodCallForm
  rw [back_all h]
  show (true && true && decide (es.length + 0 + 0 < 30)) = true
  rw [decide_eq_true (by omega)]
  rfl
theorem s_me {o : Expr} {x : Str} {c : Nat} {F : List D → M D} {es : List Expr} {to : TE} {ta : TA} {ap cp : Pos} (cx : CxtM T k C W X) (hF : NdOk T k (.me c x F)) (hb : noCallB o = true) (ho : allOk es = true) (hn : es.length < 30) (hl : (ap.endLine == cp.line) = true)
    (po : PE X o to) (pa : PA X es ta) (h0 : es = [] → ta = tNil) : PE X (.Call (.Attribute o x ap) es [] cp) (tMeO (T.co c) x (spOf T F) (WE W) to ta) := by
  obtain ⟨f, fd, ps, h1, h2, h3, h4⟩ := hF
  have F' : FnOk X.prog X.w X.K X.mg X.base (L2.CX X.prog X.w) k f fd ps (spOf T F) := by
    rw [cx.c.prog, cx.c.w, cx.c.K, cx.c.mg, cx.c.base]
    exact h4
  rw [← cx.c.K] at h1 h2 h3
  cases es with
  | nil =>
    rw [h0 rfl]
    exact pe_meO0 po h1 h2 F' cx.c.room h3 (fun σ => passAt cx.c.tk σ) (noCall_ab hb _ _ _) hl
  | cons e es =>
    have ho' := ho
    unfold allOk at ho
    rw [List.all_cons] at ho
    obtain ⟨o1, o2⟩ := ex_and ho
    exact pe_meO po h1 h2 F' cx.c.room h3 (fun σ => passAt cx.c.tk σ) pa (okE_star o1 _ _) (backTo_ok (es := es) o2 _ _) (noCall_ab hb _ _ _) (form_ok ho' hn _ _) hl
theorem s_mk {x : Str} {c : Nat} {F : List D → M D} {es : List Expr} {ta : TA} {p1 p : Pos} (cx : CxtM T k C W X) (hF : NdOk T k (.mk x c F)) (hg : glB C.sc x = true) (hd : dbB x = true) (ho : allOk es = true) (hne : es.isEmpty = false) (pa : PA X es ta) :
    PE X (.Call (.Name x p1) es [] p) (tMkS (T.co c) (spOf T F) (WE W) ta) := by
  obtain ⟨h1, _, f, fd, ps, j, hj, h2, h3, h4⟩ := hF
  have F' : FnOk X.prog X.w X.K X.mg X.base (L2.CX X.prog X.w) j f fd ps (spOf T F) := by
    rw [cx.c.prog, cx.c.w, cx.c.K, cx.c.mg, cx.c.base]
    exact h4
  rw [← cx.c.K] at h2 h3
  cases es with
  | nil => simp at hne
  | cons e es =>
    unfold allOk at ho
    rw [List.all_cons] at ho
    obtain ⟨o1, o2⟩ := ex_and ho
    exact pe_mkS h2 F' (cx.c.room.mono hj) (cx.c.gl hg) (by rw [cx.c.mg]; exact h1) h3 (fun σ => passAt cx.c.tk σ) pa (db1 hd) (okE_star o1 _ _) (backTo_ok (es := es) o2 _ _)
/-! ### one of some defs, called -/
theorem pe_pk {X : Cx} {fe e : Expr} {es : List Expr} {tf : TE} {t : TA} {pos : Pos} {kk : Nat} {E : St → XK} (hf : PE X fe tf) (ha : PA X (e :: es) t) (hr : Room kk X.A) (hx : ∀ σ, PassesAt (L2.CX X.prog X.w) X σ (E σ))
    (ht : eval (.Call fe (e :: es) [] pos) X.env = (do callWith pos (← eval fe X.env) [] (backTo pos (starEach (e :: es) X.env)) (backToKw pos (keywordEach [] X.env))))
    (he : starEach (e :: es) X.env = (false, eval e X.env) :: starEach es X.env) (hpl : (backTo pos (starEach es X.env)).any (·.1) = false) :
    PE X (.Call fe (e :: es) [] pos) (fun σ H Q => tf σ H fun v H1 => ∃ f fd ps sp, v = V.ref f ∧ PySem.W.keepIn X.K (.ref f) = true ∧ Binds X.K fd ps [] ∧ FnOk X.prog X.w X.K X.mg X.base (L2.CX X.prog X.w) kk f fd ps sp ∧ tCallS sp E t σ H1 Q) := by
  refine ⟨fun pins s σ H Q I h => ?_⟩
  refine Call_ (thn (hf.run pins s σ H _ I h) fun u s1 ⟨y, H1, I1, ry, f, fd, ps, sp, ey, hk, hb, F, q⟩ => ?_) ht
  subst ey
  obtain rfl : u = Value.ref f := ry
  refine PySem.W.callWith_K (h₀ := X.base) I1.ok.mod.kin hk (thn (ha.run pos pins s1 σ H1 _ I1 q) fun us s2 ⟨vs, H2, I2, r, q2⟩ => ⟨I2.kIn, ?_⟩) he hpl
  exact run_fnS F hr hb (hx σ) I2 r q2
def PkR (T : Rt) (k : Nat) (q : Str × (List D → M D)) (f : Addr) : Prop := T.mg q.1 = some (.ref f) ∧ PySem.W.keepIn T.K (.ref f) = true ∧ ∃ fd ps, Binds T.K fd ps [] ∧ FnOk T.P T.w T.K T.mg T.base (L2.CX T.P T.w) k f fd ps (spOf T q.2)
theorem pk_as : ∀ {fs : List (Str × (List D → M D))}, (∀ q ∈ fs, FnIn T k q.1 q.2) → ∃ as : List Addr, Paired (PkR T k) fs as
  | [], _ => ⟨[], .nil⟩
  | q :: r, h => by
    obtain ⟨as, ha⟩ := pk_as (fs := r) fun z hz => h z (List.mem_cons_of_mem _ hz)
    obtain ⟨f, fd, ps, h1, h2, h3, h4⟩ := h q (List.mem_cons_self ..)
    exact ⟨f :: as, .cons ⟨h1, h2, fd, ps, h3, h4⟩ ha⟩
theorem pk_pa (c : CxtM T k C W X) : ∀ {fs : List (Str × (List D → M D))} {as : List Addr} {zs : List Expr}, Paired (PkR T k) fs as → mFns C fs zs = true → PA X zs ((as.map fun a => tC (V.ref a)).foldr tCons tNil)
  | _, _, zs, .nil, h => by
    cases zs with
    | nil => exact pa_nil
    | cons z zs => simp [mFns] at h
  | _, _, zs, .cons hq hp, h => by
    cases zs with
    | nil => simp [mFns] at h
    | cons z zs =>
      simp only [mFns] at h
      obtain ⟨h1, h2⟩ := ex_and h
      obtain ⟨h3, h4⟩ := ex_and h1
      split at h3
      · rename_i x e
        obtain ⟨p, rfl⟩ := vName_eq e
        obtain ⟨g1, g2⟩ := ex_and h3
        obtain ⟨g3, g4⟩ := ex_and g1
        have ex := beq_iff_eq.mp g3
        subst ex
        exact pa_cons (pe_glob (c.c.gl g4) (by rw [c.c.mg]; exact hq.1) rfl (db1 g2)) (pk_pa c hp h2) (okE_star h4 _ _)
      · cases h3
theorem pk_run {σ : St} {H : Hp} : ∀ (as : List Addr) (Q : List V → Hp → Prop), Q (as.map V.ref) H → ((as.map fun a => tC (V.ref a)).foldr tCons tNil) σ H Q
  | [], Q, h => h
  | a :: r, Q, h => by
    show ((r.map fun a => tC (V.ref a)).foldr tCons tNil) σ H fun vs H1 => Q (V.ref a :: vs) H1
    exact pk_run r _ h
theorem pk_get : ∀ {fs : List (Str × (List D → M D))} {as : List Addr} {j : Nat} {q : Str × (List D → M D)}, Paired (PkR T k) fs as → fs[j]? = some q → ∃ a, (as.map V.ref)[j]? = some (V.ref a) ∧ PkR T k q a
  | _, _, 0, q, .cons hq hp, h => by cases h; exact ⟨_, rfl, hq⟩
  | _, _, j + 1, q, .cons hq hp, h => by
    obtain ⟨a, h1, h2⟩ := pk_get (j := j) hp (by simpa using h)
    exact ⟨a, by simpa using h1, h2⟩
theorem pk_at {fs : List (Str × (List D → M D))} {as : List Addr} {j : Int} {q : Str × (List D → M D)} (hp : Paired (PkR T k) fs as) (h : BX.atI fs j = some q) : ∃ a, L2.atI (as.map V.ref) j = some (V.ref a) ∧ PkR T k q a := by
  unfold BX.atI at h
  have el : fs.length = (as.map V.ref).length := by rw [List.length_map]; exact hp.length
  rw [el] at h
  cases z : BX.ixN (as.map V.ref).length j with
  | none => rw [z] at h; cases h
  | some i =>
    rw [z] at h
    obtain ⟨a, h1, h2⟩ := pk_get (j := i) hp h
    refine ⟨a, ?_, h2⟩
    show (BX.ixN (as.map V.ref).length j).bind (fun i => (as.map V.ref)[i]?) = some (V.ref a)
    rw [z]
    exact h1
def tPk (T : Rt) (k : Nat) (W : WX) (as : List Addr) (ti : TE) (t : TA) : TE := fun σ H Q => tOp (rIx T.K) (tLst ((as.map fun a => tC (V.ref a)).foldr tCons tNil)) ti σ H fun v H1 => ∃ f fd ps sp, v = V.ref f ∧ PySem.W.keepIn T.K (.ref f) = true ∧ Binds T.K fd ps [] ∧ FnOk T.P T.w T.K T.mg T.base (L2.CX T.P T.w) k f fd ps sp ∧ tCallS sp (WE W) t σ H1 Q
theorem rd_pk {mu : List Nat} {n md : Nat} {fs : List (Str × (List D → M D))} {as : List Addr} {ti : TE} {ta : TA} {fi : Env → M D} {g : Env → M (List D)} (hp : Paired (PkR T k) fs as) (hl : fs.length ≤ LIM) (hi : RdE T mu n W md ti fi) (ha : RdA T mu n W ta g) :
    RdE T mu n W 0 (tPk T k W as ti ta) (fun ρ => bnd (fi ρ) fun x => bnd (asI x) fun j => bnd (ofO (atI fs j)) fun f => bnd (g ρ) f.2) := by
  intro E ρ σ G H μ st Q er hres
  have el : as.length = fs.length := hp.length.symm
  refine pk_run as _ ⟨by rw [limS, List.length_map, el]; exact hl, fun p hp0 => ?_⟩
  obtain ⟨e0, w0⟩ := new_lst er.w hp0 (as.map V.ref)
  refine hi E ρ σ G _ μ st _ (er.ev e0 w0) (hres.bnd.mono (fun x s1 h1 v1 G1 H1 μ1 e1 w1 p1 => ?_) fun c s1 h1 G' H' μ' e' w' => h1 G' H' μ' (e0.trans e') w')
  obtain ⟨j, rfl, h2⟩ := asI_bnd h1
  obtain ⟨q, eq, h3⟩ := ofO_some (Res.bnd h2)
  obtain ⟨a, ea, hq⟩ := pk_at hp eq
  refine .inl ⟨p, as.map V.ref, j, V.ref a, rfl, po_int p1, .inl (.inl (e1.h _ _ upd_same rfl)), ea, ?_⟩
  obtain ⟨k1, k2, fd, ps, k3, k4⟩ := hq
  refine ⟨a, fd, ps, _, rfl, k2, k3, k4, ?_⟩
  refine rd_call ha E ρ σ G1 H1 μ1 s1 Q ((er.ev e0 w0).ev e1 w1) (h3.mono (fun d s2 h v G2 H2 μ2 e2 w2 r2 => h v G2 H2 μ2 ((e0.trans e1).trans e2) w2 (r2.back (e0.trans e1).i)) fun c s2 h G2 H2 μ2 e2 w2 => h G2 H2 μ2 ((e0.trans e1).trans e2) w2)
theorem s_tys {ts : List Ty} {zs : List Expr} (hn : ∀ t ∈ ts, T.mg (Str.ofString (tyS t)) = none) (h : mTys ts zs = true) (hg : ts.all (fun t => glB C.sc (Str.ofString (tyS t))) = true) (c : CxtM T k C W X) : ∃ t, PA X zs t ∧ t = (ts.map fun t => tC (V.ty (tyS t))).foldr tCons tNil := by
  induction ts generalizing zs with
  | nil =>
    cases zs with
    | nil => exact ⟨_, pa_nil, rfl⟩
    | cons z zs => simp [mTys] at h
  | cons t ts ih =>
    cases zs with
    | nil => simp [mTys] at h
    | cons z zs =>
      simp only [mTys] at h
      rw [List.all_cons] at hg
      obtain ⟨h1, h2⟩ := ex_and h
      obtain ⟨g1, g2⟩ := ex_and hg
      obtain ⟨u, hu, rfl⟩ := ih (fun t' ht' => hn t' (List.mem_cons_of_mem _ ht')) h2 g2
      unfold tyE at h1
      split at h1
      · rename_i y e
        obtain ⟨p, rfl⟩ := vName_eq e
        have ey := beq_iff_eq.mp h1
        subst ey
        have hb : bootBuiltins (Str.ofString (tyS t)) = some (.type (tyS t)) := by cases t <;> decide +kernel
        refine ⟨_, pa_cons (pe_bltn (v := V.ty (tyS t)) (c.c.gl g1) (by rw [c.c.mg]; exact hn t List.mem_cons_self) hb rfl (by cases t <;> decide) (by cases t <;> decide)) hu rfl, rfl⟩
      · cases h1
theorem s_ty {t : Ty} {z : Expr} (hn : T.mg (Str.ofString (tyS t)) = none) (h : tyE t z = true) (hg : glB C.sc (Str.ofString (tyS t)) = true) (c : CxtM T k C W X) : PE X z (tC (V.ty (tyS t))) := by
  unfold tyE at h
  split at h
  · rename_i y e
    obtain ⟨p, rfl⟩ := vName_eq e
    have ey := beq_iff_eq.mp h
    subst ey
    have hb : bootBuiltins (Str.ofString (tyS t)) = some (.type (tyS t)) := by cases t <;> decide +kernel
    exact pe_bltn (v := V.ty (tyS t)) (c.c.gl hg) (by rw [c.c.mg]; exact hn) hb rfl (by cases t <;> decide) (by cases t <;> decide)
  · cases h
/-- tCons of the tuple of classes: what it gives -/
theorem tys_run {H : Hp} {σ : St} : ∀ (ts : List Ty) (Q : List V → Hp → Prop), Q (ts.map fun t => V.ty (tyS t)) H → ((ts.map fun t => tC (V.ty (tyS t))).foldr tCons tNil) σ H Q
  | [], Q, h => h
  | t :: ts, Q, h => by
    show ((ts.map fun t => tC (V.ty (tyS t))).foldr tCons tNil) σ H fun xs H2 => Q (V.ty (tyS t) :: xs) H2
    exact tys_run ts _ h
end
end BX

set_option Elab.async false
set_option linter.all false
set_option maxRecDepth 100000
/-! BS13: expressions, all together. -/
namespace BX
open PySem PySem.Spec PyProof.Rows L2
variable {T : Rt} {k : Nat}
/-- an expression's text is right -/
abbrev OkE (T : Rt) (k : Nat) (C : MC) (W : WX) (p : P) (e : Expr) : Prop := ∃ t, RdE T C.mu C.N.length W (mdP C.mu p) t (ev p) ∧ ∀ X, CxtM T k C W X → PE X e t
abbrev OkT (T : Rt) (k : Nat) (C : MC) (W : WX) (p : P) (e : Expr) : Prop := ∃ t, RdT T C.mu C.N.length W t (evT p) ∧ ∀ X, CxtM T k C W X → PT X e t
theorem RdE.as {mu : List Nat} {n md : Nat} {W : WX} {t : TE} {f g : Env → M D} (h : RdE T mu n W md t f) (e : ∀ ρ, g ρ = f ρ) : RdE T mu n W md t g := by
  rw [show g = f from funext e]
  exact h
theorem RdT.as {mu : List Nat} {n : Nat} {W : WX} {t : TT} {f g : Env → M Bool} (h : RdT T mu n W t f) (e : ∀ ρ, g ρ = f ρ) : RdT T mu n W t g := by
  rw [show g = f from funext e]
  exact h
theorem RdA.as {mu : List Nat} {n : Nat} {W : WX} {t : TA} {f g : Env → M (List D)} (h : RdA T mu n W t f) (e : ∀ ρ, g ρ = f ρ) : RdA T mu n W t g := by
  rw [show g = f from funext e]
  exact h
theorem RdP.as {mu : List Nat} {n : Nat} {W : WX} {t : TO} {f g : Env → M (Option Int)} (h : RdP T mu n W t f) (e : ∀ ρ, g ρ = f ρ) : RdP T mu n W t g := by
  rw [show g = f from funext e]
  exact h
theorem RdI.as {mu : List Nat} {n : Nat} {W : WX} {z fz : Bool} {t : TI} {f g : Env → M (List D)} (h : RdI T mu n W z fz t f) (e : ∀ ρ, g ρ = f ρ) : RdI T mu n W z fz t g := by
  rw [show g = f from funext e]
  exact h
theorem cut2 {X : Cx} {e : Expr} {t : TE} (h : PE X e t) (ht : tstE e = true) : PT X e (tB t) := pt_val h (tstE_ok ht X.env)
theorem isRev_eq {e : Expr} (h : isRev e = true) : ∃ k p1 p2 p3, e = .Slice none none (some (.UnaryOp .USub (.Constant (.int 1) k p1) p2)) p3 := by
  unfold isRev at h
  split at h
  · exact ⟨_, _, _, _, rfl⟩
  · cases h
theorem mTg_len {C : MC} : ∀ {is : List Nat} {es : List Expr}, mTg C is es = true → es.length = is.length
  | [], [], _ => rfl
  | [], _ :: _, h => by simp [mTg] at h
  | _ :: _, [], h => by simp [mTg] at h
  | i :: is, e :: es, h => by
    simp only [mTg] at h
    obtain ⟨h1, h2⟩ := ex_and h
    simp [mTg_len h2]
theorem s_loc {C : MC} {W : WX} {X : Cx} {i : Nat} {x : Str} {p : Pos} (c : CxtM T k C W X) (h1 : nthB C.N i x = true) (h2 : locB C x = true) : PG X (.Name x p) (gName i) := by
  have nd := nd_of c
  have hi : X.N[i]? = some x := by rw [c.c.xN]; exact nthB_ok h1
  unfold locB at h2
  split at h2
  · rename_i e
    have e' : X.env.scope.names.lookup x = some .local := by rw [c.c.sc]; exact e
    exact pg_name nd hi (.inl e') (.inr e')
  · rename_i e
    have e' : X.env.scope.names.lookup x = some .cell := by rw [c.c.sc]; exact e
    exact pg_name nd hi (.inr e') (.inl (c.fn x h2))
  · cases h2
theorem s_tgs {C : MC} : ∀ {is : List Nat} {es : List Expr}, mTg C is es = true → (∀ i ∈ is, i ∉ C.mu) ∧ ∀ (W : WX) (X : Cx), CxtM T k C W X → PGs X es (gMany is) ∧ (assignEach es X.env).length = is.length ∧ (assignEach es X.env).findIdx? (·.1) = none
  | [], [], _ => And.intro (fun i hi => nomatch hi) (fun W X c => And.intro pgs_nil (And.intro rfl rfl))
  | [], _ :: _, h => by simp [mTg] at h
  | _ :: _, [], h => by simp [mTg] at h
  | i :: is, e :: es, h => by
    simp only [mTg] at h
    obtain ⟨h1, h2⟩ := ex_and h
    obtain ⟨g1, g2⟩ := s_tgs h2
    split at h1
    · rename_i x ex
      obtain ⟨p, rfl⟩ := vName_eq ex
      obtain ⟨h3, h4⟩ := ex_and h1
      obtain ⟨h5, h6⟩ := ex_and h3
      have hi : i ∉ C.mu := by simpa using h4
      refine ⟨fun j hj => (List.mem_cons.mp hj).elim (fun z => z ▸ hi) (g1 j), fun W X c => ?_⟩
      obtain ⟨q1, q2, q3⟩ := g2 W X c
      refine ⟨pgs_cons (s_loc c h5 h6) q1 rfl, by show (assignEach es X.env).length + 1 = _; rw [q2]; rfl, ?_⟩
      show ((false, assign (.Name x p) X.env) :: assignEach es X.env).findIdx? (·.1) = none
      rw [List.findIdx?_cons]
      simp only [Bool.false_eq_true, if_false]
      rw [q3]
      rfl
    · cases h1
theorem s_tg {C : MC} {tg : Tg} {e : Expr} (h : mT1 C tg e = true) : ∃ g, RdG T C.mu C.N.length false tg g ∧ ∀ (W : WX) (X : Cx), CxtM T k C W X → PG X e g := by
  cases tg with
  | one i =>
    simp only [mT1, mTg] at h
    obtain ⟨h1, _⟩ := ex_and h
    split at h1
    · rename_i x ex
      obtain ⟨p, rfl⟩ := vName_eq ex
      obtain ⟨h3, h4⟩ := ex_and h1
      obtain ⟨h5, h6⟩ := ex_and h3
      exact ⟨_, rd_gone (by simpa using h4), fun W X c => s_loc c h5 h6⟩
    · cases h1
  | many is =>
    simp only [mT1] at h
    split at h
    · rename_i es ee
      obtain ⟨kk, p, rfl⟩ := vTup_eq ee
      obtain ⟨g1, g2⟩ := s_tgs (T := T) (k := k) h
      refine ⟨_, rd_gmany g1, fun W X c => ?_⟩
      obtain ⟨q1, q2, q3⟩ := g2 W X c
      rw [← c.c.K]
      exact pg_tup c.c.calm q1 q2 q3
    · cases h
theorem s_tgz {C : MC} {tg : Tg} {e : Expr} {z : Bool} (h : mT1 C tg e = true) (hz : z = true → (vTup e).isSome = true) : ∃ g, RdG T C.mu C.N.length z tg g ∧ ∀ (W : WX) (X : Cx), CxtM T k C W X → PG X e g := by
  cases z with
  | false => exact s_tg h
  | true =>
    cases tg with
    | one i =>
      exfalso
      simp only [mT1, mTg] at h
      obtain ⟨h1, _⟩ := ex_and h
      split at h1
      · rename_i x ex
        obtain ⟨p, rfl⟩ := vName_eq ex
        simp [vTup] at hz
      · cases h1
    | many is =>
      simp only [mT1] at h
      split at h
      · rename_i es ee
        obtain ⟨kk, p, rfl⟩ := vTup_eq ee
        obtain ⟨g1, g2⟩ := s_tgs (T := T) (k := k) h
        refine ⟨_, rd_gmany g1, fun W X c => ?_⟩
        obtain ⟨q1, q2, q3⟩ := g2 W X c
        rw [← c.c.K]
        exact pg_tup c.c.calm q1 q2 q3
      · cases h
theorem blk_cxt {C : MC} {W : WX} {X : Cx} {scope : Scope} (c : CxtM T k C W X) (s : Shared) (H : Hp) (D : Addr) (cl : List (Str × Addr)) (fp : List Addr) : CxtM T k (C.blk scope) W0 (X.blk s H scope (compEnvC scope cl D X.env) fp) := by
  refine ⟨⟨c.c.prog, c.c.w, c.c.K, c.c.mg, c.c.base, c.c.xN, c.c.nd, ?_, c.c.calm, c.c.room, fun u s' ⟨_, _, _, _, _, _, _, _, _, _, _, _, _, _, _, _, z⟩ => z.elim⟩, fun x h => h⟩
  show relS scope X.env.scope = relS scope C.sc
  rw [c.c.sc]
theorem co_all (o : CO) : ∃ r, RdO T 1 r (cmpD o) ∧ ∀ (C : MC) (W : WX) (X : Cx), CxtM T k C W X → OpR X (compareOp (coP o)) r := by
  cases o with
  | eq => exact ⟨rEqN T.K false, o_eq false, fun C W X c => by rw [← c.c.K]; exact op_eqD (by have := c.c.u; omega)⟩
  | ne => exact ⟨rEqN T.K true, o_eq true, fun C W X c => by rw [← c.c.K]; exact op_neD (by have := c.c.u; omega)⟩
  | lt => exact ⟨rLt T.K, o_lt, fun C W X c => by rw [← c.c.K]; exact p_lt c.c.u⟩
  | le => exact ⟨_, o_le, fun C W X c => op_le⟩
  | gt => exact ⟨rGt T.K, o_gt, fun C W X c => by rw [← c.c.K]; exact p_gt c.c.u⟩
  | ge => exact ⟨_, o_ge, fun C W X c => op_ge⟩
  | isin => exact ⟨rInA T.K false, o_in false, fun C W X c => by rw [← c.c.K]; exact p_inA c.c.u⟩
  | notin => exact ⟨rInA T.K true, o_in true, fun C W X c => by rw [← c.c.K]; exact p_notInA c.c.u⟩
  | is_ => exact ⟨rIs false, o_is false, fun C W X c => p_is⟩
  | isnot => exact ⟨rIs true, o_is true, fun C W X c => p_isnot⟩
abbrev OkL (T : Rt) (k : Nat) (C : MC) (W : WX) (ps : PL) (es : List Expr) : Prop := ∃ t, RdA T C.mu C.N.length W t (evL ps) ∧ ∀ X, CxtM T k C W X → PA X es t
abbrev OkQ (T : Rt) (k : Nat) (C : MC) (W : WX) (q : PQ) (e : Option Expr) : Prop := ∃ t, RdP T C.mu C.N.length W t (evPQ q) ∧ ∀ X, CxtM T k C W X → L2.PO X e t
abbrev OkC (T : Rt) (k : Nat) (C : MC) (W : WX) (q : PQ) (es : List Expr) : Prop := ∃ t, RdT T C.mu C.N.length W t (evC q) ∧ ∀ X, CxtM T k C W X → PTs X es t
abbrev OkI (T : Rt) (k : Nat) (C : MC) (W : WX) (i : I) (tg e : Expr) : Prop := ∃ wi, RdI T C.mu C.N.length W (isZ i) (fzI C.mu i) wi (evI i) ∧ ∀ X, CxtM T k C W X → PI X tg e wi
/-- a comprehension from its parts -/
theorem s_cp {C : MC} {W : WX} {e0 : P} {tg : Tg} {it : I} {cn : PQ} {own : List Nat} {elt target iter : Expr} {ifs : List Expr} {scope : Scope} (hI : OkI T k C W it target iter) (hC : OkC T k (C.blk scope) W0 cn ifs) (hE : OkE T k (C.blk scope) W0 e0 elt)
    (hm : mdP C.mu e0 ≤ 1) (hz : isZ it = true → (vTup target).isSome = true) (hT : mT1 (C.blk scope) tg target = true) (hs : (slT tg).all (fun i => decide (i ∈ own)) = true) (hb : blkC C.N C.sc scope (own.map fun i => (nm C.N i, i)) = true) :
    ∃ wi g tt te, RdE T C.mu C.N.length W 1 (tLc wi g tt te own) (ev (.cp e0 tg it cn own)) ∧ ∀ X, CxtM T k C W X → PI X target iter wi ∧ BlkOk X.N X.env.scope scope (own.map fun i => (nm C.N i, i)) ∧
      (∀ (s : Shared) (H : Hp) (D : Addr) (cl : List (Str × Addr)) (fp : List Addr), PG (X.blk s H scope (compEnvC scope cl D X.env) fp) target g) ∧
      (∀ (s : Shared) (H : Hp) (D : Addr) (cl : List (Str × Addr)) (fp : List Addr), PTs (X.blk s H scope (compEnvC scope cl D X.env) fp) ifs tt) ∧
      (∀ (s : Shared) (H : Hp) (D : Addr) (cl : List (Str × Addr)) (fp : List Addr), PE (X.blk s H scope (compEnvC scope cl D X.env) fp) elt te) := by
  obtain ⟨wi, ri, pi⟩ := hI
  obtain ⟨tt, rt, pt⟩ := hC
  obtain ⟨te, re, pe⟩ := hE
  obtain ⟨g, rg, pg⟩ := s_tgz (T := T) (k := k) hT hz
  refine ⟨wi, g, tt, te, ?_, fun X c => ⟨pi X c, ?_, fun s H D cl fp => pg W0 _ (blk_cxt c s H D cl fp), fun s H D cl fp => pt _ (blk_cxt c s H D cl fp), fun s H D cl fp => pe _ (blk_cxt c s H D cl fp)⟩⟩
  · have := rd_cp (T := T) (W := W) ri.loose rg rt (re.zero hm) (fun i hi => of_decide_eq_true (List.all_eq_true.mp hs i hi))
    exact this.as fun _ => rfl
  · rw [c.c.xN, c.c.sc]
    exact blkOk_by hb
theorem own_snd {N : List Str} (own : List Nat) : (own.map fun i => (nm N i, i)).map (·.2) = own := by
  rw [List.map_map]
  exact List.map_id _
theorem an_one (m : M Bool) : (bnd m fun b => if b then ret true else ret false) = m := by
  conv => rhs; rw [← bnd_ret m]
  congr 1
  funext b
  cases b <;> rfl
theorem or_one (m : M Bool) : (bnd m fun b => if b then ret true else ret false) = m := an_one m
theorem s_isi (a : P) (ts : List Ty) (C : MC) (e : Expr) (W : WX) (h : mE C (.isi a ts) e = true) (hn : Nds T k (ndP (.isi a ts))) (ih : ∀ y, mE C a y = true → OkE T k C W a y) : OkE T k C W (.isi a ts) e := by
  simp only [mE] at h
  split at h
  · rename_i x y z ex
    obtain ⟨p1, p, rfl⟩ := vCall_eq ex
    obtain ⟨h1, h2⟩ := ex_and h
    obtain ⟨h3, h4⟩ := ex_and h1
    obtain ⟨h5, h6⟩ := ex_and h3
    obtain ⟨h7, h8⟩ := ex_and h5
    obtain ⟨h9, h10⟩ := ex_and h7
    have eq := beq_iff_eq.mp h9
    obtain ⟨n1, n2⟩ := Nds.con (show Nds T k (.bi "isinstance" :: (ts.map (fun t => .bi (Str.ofString (tyS t))) ++ ndP a)) from hn)
    obtain ⟨n3, n4⟩ := Nds.app n2
    have nt : ∀ t ∈ ts, T.mg (Str.ofString (tyS t)) = none := fun t ht => n3 (.bi (Str.ofString (tyS t))) (List.mem_map.mpr ⟨t, ht, rfl⟩)
    obtain ⟨ta, ra, pa⟩ := ih y h4
    have key : (∃ t, ts = [t] ∧ tyE t z = true ∧ glB C.sc (Str.ofString (tyS t)) = true) ∨ ∃ zs, vTup z = some zs ∧ mTys ts zs = true ∧ ts.all (fun t => glB C.sc (Str.ofString (tyS t))) = true ∧ ts.length ≤ LIM := by
      split at h2
      · rename_i t
        obtain ⟨a1, a2⟩ := ex_and h2
        exact .inl ⟨t, rfl, a1, a2⟩
      · split at h2
        · rename_i zs ez
          obtain ⟨a0, a3⟩ := ex_and h2
          obtain ⟨a1, a2⟩ := ex_and a0
          exact .inr ⟨zs, ez, a1, a2, of_decide_eq_true a3⟩
        · cases h2
    rcases key with ⟨t, rfl, k1, k2⟩ | ⟨zs, ez, k1, k2, k3⟩
    · refine ⟨tUn (rIsi1 T.K t) ta, ((rd_un ra (o_isi1 t)).zero (Nat.le_refl 1)).as fun _ => rfl, fun X c => ?_⟩
      have hz := s_ty (nt t List.mem_cons_self) k1 k2 c
      show PE X (.Call (.Name x p1) [y, z] [] p) _
      rw [eq]
      refine pe_callB (r := rIsi T.K) (t := tCons ta (tCons (tC (V.ty (tyS t))) tNil)) (by rw [← c.c.K]; exact call_isi) (c.c.gl (by rw [← eq]; exact h10)) (by rw [c.c.mg]; exact n1) boot_isinstance
        (pa_cons (pa X c) (pa_cons hz pa_nil (star1 h6 _)) (okE_star h8 _ _)) (by decide) (by decide) (okE_star h8 _ _) (backTo_ok (by simp [allOk, h6]) _ _)
    · refine ⟨tCB (rIsiT T.K) (tCons ta (tCons (tTup ((ts.map fun t => tC (V.ty (tyS t))).foldr tCons tNil)) tNil)), ?_, fun X c => ?_⟩
      · refine RdE.zero (md := 1) ?_ (Nat.le_refl 1)
        intro E ρ σ G H μ st Q er hres
        have hres' : Res (bnd (ev a ρ) (fun x => if noObj x then ret (D.bl (ts.any fun t => isTy t x)) else BX.bad) st) _ _ := hres
        refine ra E ρ σ G H μ st _ er (hres'.bnd.mono (fun d s1 g1 v G1 H1 μ1 e1 w1 q1 => ?_) fun c s g => g)
        refine tys_run ts _ ⟨?_, fun p2 hp2 => ?_⟩
        · rw [List.length_map]
          rw [limS]
          exact k3
        · have := o_isiN (T := T) ts d v G1 H1 μ1 s1 Q w1 (q1.two w1.gh).any (g1.mono (fun d2 s2 g2 v2 G2 H2 e2 w2 q2 => g2 v2 G2 H2 μ1 (e1.trans e2) w2 (q2.back e1.i)) fun _ _ _ => trivial) p2 hp2
          exact this
      · obtain ⟨kk, pz, rfl⟩ := vTup_eq ez
        obtain ⟨u, hu, rfl⟩ := s_tys nt k1 k2 c
        show PE X (.Call (.Name x p1) [y, .Tuple zs kk pz] [] p) _
        rw [eq]
        exact pe_callB (r := rIsiT T.K) (by rw [← c.c.K]; exact call_isiT) (c.c.gl (by rw [← eq]; exact h10)) (by rw [c.c.mg]; exact n1) boot_isinstance
          (pa_cons (pa X c) (pa_cons (pe_tup hu) pa_nil (star1 h6 _)) (okE_star h8 _ _)) (by decide) (by decide) (okE_star h8 _ _) (backTo_ok (by simp [allOk, h6]) _ _)
  · cases h
set_option maxHeartbeats 4000000 in
mutual
theorem mE_ok : ∀ (p : P) (C : MC) (e : Expr) (W : WX), mE C p e = true → Nds T k (ndP p) → OkE T k C W p e
  | .var i, C, e, W, h, _ => by
    simp only [mE] at h
    split at h
    · rename_i x ex
      obtain ⟨p, rfl⟩ := vName_eq ex
      obtain ⟨h1, h2⟩ := ex_and h
      obtain ⟨h3, h4⟩ := ex_and h1
      refine ⟨_, ?_, fun X c => s_var c h3 h4 h2⟩
      exact (rd_var (T := T) (W := W) (N := C.N) (mu := C.mu) i).as fun _ => rfl
    · cases h
  | .cI i, C, e, W, h, _ => by
    simp only [mE] at h
    split at h
    · rename_i j ex
      obtain ⟨q, p, rfl⟩ := vCst_eq ex
      cases (of_decide_eq_true h)
      exact ⟨_, (rd_c fun _ _ _ _ => pk_int).as fun _ => rfl, fun X c => pe_int⟩
    · cases h
  | .cB b, C, e, W, h, _ => by
    simp only [mE] at h
    split at h
    · rename_i j ex
      obtain ⟨q, p, rfl⟩ := vCst_eq ex
      cases (of_decide_eq_true h)
      exact ⟨_, (rd_c fun _ _ _ _ => pk_bl).as fun _ => rfl, fun X c => pe_bl⟩
    · cases h
  | .cN, C, e, W, h, _ => by
    simp only [mE] at h
    split at h
    · rename_i ex
      obtain ⟨q, p, rfl⟩ := vCst_eq ex
      exact ⟨_, (rd_c fun _ _ _ _ => pk_non).as fun _ => rfl, fun X c => pe_non⟩
    · cases h
  | .cS s, C, e, W, h, _ => by
    simp only [mE] at h
    split at h
    · rename_i x ex
      obtain ⟨q, p, rfl⟩ := vCst_eq ex
      obtain ⟨h1, h2⟩ := ex_and h
      obtain ⟨h3, h4⟩ := ex_and h1
      have ex := of_decide_eq_true h3
      subst ex
      exact ⟨_, (rd_c fun _ _ _ _ => pk_str (of_decide_eq_true h4) fun c hc => of_decide_eq_true (List.all_eq_true.mp h2 c hc)).as fun _ => rfl, fun X c => pe_str⟩
    · cases h
  | .gl x d, C, e, W, h, hn => by
    simp only [mE] at h
    split at h
    · rename_i y ex
      obtain ⟨p, rfl⟩ := vName_eq ex
      obtain ⟨h1, h2⟩ := ex_and h
      obtain ⟨h3, h4⟩ := ex_and h1
      obtain ⟨h5, h6⟩ := ex_and h3
      have ey := beq_iff_eq.mp h5
      subst ey
      obtain ⟨u, v, m1, m2, m3⟩ := (show NdOk T k (.gl y d) from hn _ (by simp [ndP]))
      exact ⟨_, (rd_c fun G H H' μ => Po.of (by simpa using h2) (m3 G μ)).as fun _ => rfl, fun X c => pe_glob (c.c.gl h6) (by rw [c.c.mg]; exact m1) m2 (db1 h4)⟩
    · cases h
  | .bin o a b, C, e, W, h, hn => by
    simp only [mE] at h
    split at h
    · rename_i q ex
      obtain ⟨p, rfl⟩ := vBin_eq ex
      obtain ⟨h1, h2⟩ := ex_and h
      obtain ⟨h3, h4⟩ := ex_and h1
      obtain ⟨h5, h6⟩ := ex_and h3
      obtain ⟨h7, h8⟩ := ex_and h5
      obtain ⟨n1, n2⟩ := Nds.app (show Nds T k (ndP a ++ ndP b) from hn)
      obtain ⟨ta, ra, pa⟩ := mE_ok a C q.1 W h4 n1
      obtain ⟨tb, rb, pb⟩ := mE_ok b C q.2.2 W h2 n2
      have eo := of_decide_eq_true h7
      have key : ∃ r : R2, RdO T 1 r (opD o) ∧ ∀ X, CxtM T k C W X → OpR X (binaryOp (boP o)) r := by
        cases o with
        | add => exact ⟨rAdd T.K, o_add, fun X c => by rw [← c.c.K]; exact p_add⟩
        | sub => exact ⟨_, o_sub, fun X c => op_sub⟩
        | mul => exact ⟨rMul T.K, o_mul, fun X c => by rw [← c.c.K]; exact p_mul⟩
        | mod => exact ⟨_, o_mod, fun X c => op_modN⟩
        | fdiv => exact ⟨_, o_fdiv, fun X c => op_fdivN⟩
      obtain ⟨r, hr, ho⟩ := key
      refine ⟨tOp r ta tb, (rd_op ra rb hr).as fun _ => rfl, fun X c => ?_⟩
      rw [← eo]
      exact pe_op (ho X c) (pa X c) (pb X c)
    · cases h
  | .neg a, C, e, W, h, hn => by
    simp only [mE] at h
    split at h
    · rename_i q ex
      obtain ⟨p, rfl⟩ := vUn_eq ex
      obtain ⟨h1, h2⟩ := ex_and h
      obtain ⟨h3, h4⟩ := ex_and h1
      obtain ⟨ta, ra, pa⟩ := mE_ok a C q.2 W h2 hn
      refine ⟨_, (rd_neg ra).as fun _ => rfl, fun X c => ?_⟩
      rw [of_decide_eq_true h3]
      exact pe_un un_neg (pa X c)
    · cases h
  | .no a, C, e, W, h, hn => by
    simp only [mE] at h
    split at h
    · rename_i q ex
      obtain ⟨p, rfl⟩ := vUn_eq ex
      obtain ⟨h1, h2⟩ := ex_and h
      obtain ⟨h3, h4⟩ := ex_and h1
      obtain ⟨ta, ra, pa⟩ := mE_ok a C q.2 W h2 hn
      refine ⟨_, (rd_notV ra).as fun _ => rfl, fun X c => ?_⟩
      rw [of_decide_eq_true h3]
      exact pe_not (pa X c)
    · cases h
  | .an ps, C, e, W, h, hn => by
    simp only [mE] at h
    split at h
    · rename_i q ex
      obtain ⟨p, rfl⟩ := vBool_eq ex
      obtain ⟨h1, h2⟩ := ex_and h
      obtain ⟨t, r, pe⟩ := mV_and ps C q.2 W p h2 hn
      refine ⟨t, r.as fun _ => rfl, fun X c => ?_⟩
      rw [of_decide_eq_true h1]
      exact pe X c
    · cases h
  | .orr ps, C, e, W, h, hn => by
    simp only [mE] at h
    split at h
    · rename_i q ex
      obtain ⟨p, rfl⟩ := vBool_eq ex
      obtain ⟨h1, h2⟩ := ex_and h
      obtain ⟨t, r, pe⟩ := mV_or ps C q.2 W p h2 hn
      refine ⟨t, r.as fun _ => rfl, fun X c => ?_⟩
      rw [of_decide_eq_true h1]
      exact pe X c
    · cases h
  | .cmp o a b, C, e, W, h, hn => by
    simp only [mE] at h
    split at h
    · rename_i x q y ex
      obtain ⟨p, rfl⟩ := vCmp_eq ex
      obtain ⟨h1, h2⟩ := ex_and h
      obtain ⟨h3, h4⟩ := ex_and h1
      obtain ⟨h5, h6⟩ := ex_and h3
      obtain ⟨n1, n2⟩ := Nds.app (show Nds T k (ndP a ++ ndP b) from hn)
      obtain ⟨ta, ra, pa⟩ := mE_ok a C x W h4 n1
      obtain ⟨tb, rb, pb⟩ := mE_ok b C y W h2 n2
      obtain ⟨r, hr, ho⟩ := co_all (T := T) (k := k) o
      refine ⟨tOp r ta tb, (rd_op ra rb hr).as fun _ => rfl, fun X c => ?_⟩
      have eo := of_decide_eq_true h5
      show PE X (.Compare x [q] [y] p) _
      rw [← eo]
      exact pe_cmpR (ho C W X c) (pa X c) (pb X c) (okE_bh h6 _)
    · cases h
  | .chn o1 o2 a b d, C, e, W, h, hn => by
    simp only [mE] at h
    split at h
    · rename_i x q1 q2 y z ex
      obtain ⟨p, rfl⟩ := vCmp_eq ex
      obtain ⟨h1, h2⟩ := ex_and h
      obtain ⟨h3, h4⟩ := ex_and h1
      obtain ⟨h5, h6⟩ := ex_and h3
      obtain ⟨h7, h8⟩ := ex_and h5
      obtain ⟨h9, h10⟩ := ex_and h7
      obtain ⟨h11, h12⟩ := ex_and h9
      obtain ⟨n1, n2⟩ := Nds.app (show Nds T k (ndP a ++ (ndP b ++ ndP d)) from hn)
      obtain ⟨n3, n4⟩ := Nds.app n2
      obtain ⟨ta, ra, pa⟩ := mE_ok a C x W h6 n1
      obtain ⟨tb, rb, pb⟩ := mE_ok b C y W h4 n3
      obtain ⟨tc, rc, pc⟩ := mE_ok d C z W h2 n4
      obtain ⟨r, hr, ho⟩ := co_all (T := T) (k := k) o1
      obtain ⟨r', hr', ho'⟩ := co_all (T := T) (k := k) o2
      refine ⟨tChain r r' ta tb tc, (rd_chn ra rb rc hr hr').as fun _ => rfl, fun X c => ?_⟩
      have e1 := of_decide_eq_true h11
      have e2 := of_decide_eq_true h12
      show PE X (.Compare x [q1, q2] [y, z] p) _
      rw [← e1, ← e2]
      exact pe_chain (ho C W X c) (ho' C W X c) (pa X c) (pb X c) (pc X c) (okE_bh h8 _)
    · cases h
  | .ife t a b, C, e, W, h, hn => by
    simp only [mE] at h
    split at h
    · rename_i q ex
      obtain ⟨p, rfl⟩ := vIf_eq ex
      obtain ⟨h1, h2⟩ := ex_and h
      obtain ⟨h3, h4⟩ := ex_and h1
      obtain ⟨h5, h6⟩ := ex_and h3
      obtain ⟨h7, h8⟩ := ex_and h5
      obtain ⟨n1, n2⟩ := Nds.app (show Nds T k (ndP t ++ (ndP a ++ ndP b)) from hn)
      obtain ⟨n3, n4⟩ := Nds.app n2
      obtain ⟨tt, rt, pt⟩ := mT_ok t C q.1 W h7 n1
      obtain ⟨ta, ra, pa⟩ := mE_ok a C q.2.1 W h8 n3
      obtain ⟨tb, rb, pb⟩ := mE_ok b C q.2.2 W h6 n4
      exact ⟨_, (rd_if rt (ra.zero (of_decide_eq_true h4)) (rb.zero (of_decide_eq_true h2))).as fun _ => rfl, fun X c => pe_ifExp (pt X c) (pa X c) (pb X c)⟩
    · cases h
  | .ix a b, C, e, W, h, hn => by
    simp only [mE] at h
    split at h
    · rename_i q ex
      obtain ⟨p, rfl⟩ := vSub_eq ex
      obtain ⟨h1, h2⟩ := ex_and h
      obtain ⟨h3, h4⟩ := ex_and h1
      obtain ⟨n1, n2⟩ := Nds.app (show Nds T k (ndP a ++ ndP b) from hn)
      obtain ⟨ta, ra, pa⟩ := mE_ok a C q.1 W h4 n1
      obtain ⟨tb, rb, pb⟩ := mE_ok b C q.2 W h2 n2
      exact ⟨tOp (rIx T.K) ta tb, (rd_op ra rb o_ix).as fun _ => rfl, fun X c => pe_ix (by rw [← c.c.K]; exact ix_seq) (pa X c) (pb X c) (okE_ix h3)⟩
    · cases h
  | .sl a lo hi, C, e, W, h, hn => by
    simp only [mE] at h
    split at h
    · rename_i q ex
      obtain ⟨p, rfl⟩ := vSub_eq ex
      split at h
      · rename_i l u es
        obtain ⟨p2, e2⟩ := vSlice_eq es
        obtain ⟨h1, h2⟩ := ex_and h
        obtain ⟨h3, h4⟩ := ex_and h1
        obtain ⟨n1, n2⟩ := Nds.app (show Nds T k (ndP a ++ (ndQ lo ++ ndQ hi)) from hn)
        obtain ⟨n3, n4⟩ := Nds.app n2
        obtain ⟨ta, ra, pa⟩ := mE_ok a C q.1 W h3 n1
        obtain ⟨tl, rl, pl⟩ := mQ_ok lo C l W h4 n3
        obtain ⟨th, rh, ph⟩ := mQ_ok hi C u W h2 n4
        refine ⟨_, (rd_sl ra rl rh).as fun _ => rfl, fun X c => ?_⟩
        rw [e2]
        exact pe_slice (by rw [← c.c.K]; exact p_sl) (pa X c) (pl X c) (ph X c)
      · cases h
    · cases h
  | .rv a, C, e, W, h, hn => by
    simp only [mE] at h
    split at h
    · rename_i q ex
      obtain ⟨p, rfl⟩ := vSub_eq ex
      obtain ⟨h1, h2⟩ := ex_and h
      obtain ⟨kk, p1, p2, p3, e2⟩ := isRev_eq h1
      obtain ⟨ta, ra, pa⟩ := mE_ok a C q.1 W h2 hn
      refine ⟨tUn (rRev T.K) ta, (rd_un ra o_rev).as fun _ => rfl, fun X c => ?_⟩
      rw [e2, ← c.c.K]
      exact pe_rev (pa X c)
    · cases h
  | .st2 _ _, C, e, W, h, _ => by simp [mE] at h
  | .li ps, C, e, W, h, hn => by
    simp only [mE] at h
    split at h
    · rename_i es ex
      obtain ⟨p, rfl⟩ := vList_eq ex
      obtain ⟨t, r, pa⟩ := mL_ok ps C es W h hn
      exact ⟨_, (rd_lst r).as fun _ => rfl, fun X c => pe_lst (pa X c)⟩
    · cases h
  | .tu ps, C, e, W, h, hn => by
    simp only [mE] at h
    split at h
    · rename_i es ex
      obtain ⟨q, p, rfl⟩ := vTup_eq ex
      obtain ⟨t, r, pa⟩ := mL_ok ps C es W h hn
      exact ⟨_, (rd_tup r).as fun _ => rfl, fun X c => pe_tupN (pa X c)⟩
    · cases h
  | .cp e0 tg it cn own, C, e, W, h, hn => by
    simp only [mE] at h
    split at h
    · rename_i q ex
      obtain ⟨p, rfl⟩ := vLc_eq ex
      obtain ⟨elt, ⟨target, iter, ifs, asy⟩, scope⟩ := q
      obtain ⟨h1, g9⟩ := ex_and h
      obtain ⟨h2, g8⟩ := ex_and h1
      obtain ⟨h3, g7⟩ := ex_and h2
      obtain ⟨h4, g6⟩ := ex_and h3
      obtain ⟨h5, g5⟩ := ex_and h4
      obtain ⟨h6, g4⟩ := ex_and h5
      obtain ⟨h7, g3⟩ := ex_and h6
      obtain ⟨g1, g2⟩ := ex_and h7
      have g1' : asy = 0 := of_decide_eq_true g1
      subst g1'
      obtain ⟨n1, n2⟩ := Nds.app (show Nds T k (ndP e0 ++ (ndI it ++ ndQ cn)) from hn)
      obtain ⟨n3, n4⟩ := Nds.app n2
      obtain ⟨wi, g, tt, te, hr, hX⟩ := s_cp (cn := cn) (it := it) (mI_ok it C target iter W g5 n3) (mC_ok cn (C.blk scope) ifs W0 g7 n4) (mE_ok e0 (C.blk scope) elt W0 g8 n1) (of_decide_eq_true g9) (mI_z g5) g6 g4 g3
      refine ⟨_, hr, fun X c => ?_⟩
      obtain ⟨x1, x2, x3, x4, x5⟩ := hX X c
      have := pe_lc (pos := p) c.c.calm (nd_of c) x1 x2 x3 x4 x5 (fun x => okE_fs g2 X.env x)
      rw [own_snd] at this
      exact this
    · cases h
  | .ca x F ps, C, e, W, h, hn => by
    simp only [mE] at h
    split at h
    · rename_i q ex
      obtain ⟨p1, p, rfl⟩ := vCall_eq ex
      obtain ⟨h1, h2⟩ := ex_and h
      obtain ⟨h3, h4⟩ := ex_and h1
      obtain ⟨h7, h8⟩ := ex_and h3
      obtain ⟨h9, h10⟩ := ex_and h7
      have eq := beq_iff_eq.mp h9
      obtain ⟨n1, n2⟩ := Nds.con (show Nds T k (.fn x F :: ndL ps) from hn)
      obtain ⟨t, r, pa⟩ := mL_ok ps C q.2 W h2 n2
      by_cases hz : q.2 = []
      · rw [hz] at h2 h4
        cases ps with
        | nil =>
          refine ⟨_, (rd_call rd_nil).as fun _ => rfl, fun X c => ?_⟩
          rw [eq, hz]
          exact s_call c n1 h10 h8 h4 pa_nil fun _ => rfl
        | cons _ _ => simp [mL] at h2
      · refine ⟨_, (rd_call r).as fun _ => rfl, fun X c => ?_⟩
        rw [eq]
        exact s_call c n1 h10 h8 h4 (pa X c) fun z => absurd z hz
    · cases h
  | .pk fs i ps, C, e, W, h, hn => by
    simp only [mE] at h
    split at h
    · rename_i q ex
      obtain ⟨p1, p2, p, rfl⟩ := vPk_eq ex
      obtain ⟨h1, h2⟩ := ex_and h
      obtain ⟨h3, h4⟩ := ex_and h1
      obtain ⟨h5, h6⟩ := ex_and h3
      obtain ⟨h7, h8⟩ := ex_and h5
      obtain ⟨h9, h10⟩ := ex_and h7
      obtain ⟨h11, h12⟩ := ex_and h9
      obtain ⟨n1, n0⟩ := Nds.app (show Nds T k (fs.map (fun q => Nd.fn q.1 q.2) ++ (ndP i ++ ndL ps)) from hn)
      obtain ⟨n2, n3⟩ := Nds.app n0
      obtain ⟨as, hp⟩ := pk_as (T := T) (k := k) (fs := fs) fun z hz => n1 (.fn z.1 z.2) (List.mem_map.mpr ⟨z, hz, rfl⟩)
      obtain ⟨ti, ri, pi⟩ := mE_ok i C q.2.1 W h4 n2
      obtain ⟨t, r, pa⟩ := mL_ok ps C q.2.2 W h2 n3
      refine ⟨_, (rd_pk hp (of_decide_eq_true h6) ri r).as fun _ => rfl, fun X c => ?_⟩
      obtain ⟨zs, ie, es⟩ := q
      cases es with
      | nil => simp at h10
      | cons e' es =>
        unfold allOk at h8
        rw [List.all_cons] at h8
        obtain ⟨o1, o2⟩ := ex_and h8
        have := pe_pk (pos := p) (kk := k) (E := WE W) (pe_ix (pos := p2) ix_seq (pe_lst (pos := p1) (pk_pa c hp h11)) (pi X c) (okE_ix h12)) (pa X c) c.c.room (fun σ => passAt c.c.tk σ) rfl (okE_star o1 _ _) (backTo_ok (es := es) o2 _ _)
        rw [c.c.prog, c.c.w, c.c.K, c.c.mg, c.c.base] at this
        unfold tPk
        exact this
    · cases h
  | .b1 f a, C, e, W, h, hn => by
    simp only [mE] at h
    split at h
    · rename_i x y ex
      obtain ⟨p1, p, rfl⟩ := vCall_eq ex
      by_cases hs : isSetF f = true
      · rw [if_pos hs] at h
        obtain ⟨h1, h2⟩ := ex_and h
        obtain ⟨h3, h4⟩ := ex_and h1
        obtain ⟨h5, h6⟩ := ex_and h3
        split at h2
        · rename_i x2 z ex2
          obtain ⟨p2, p3, rfl⟩ := vCall_eq ex2
          obtain ⟨k1, k2⟩ := ex_and h2
          obtain ⟨k3, k4⟩ := ex_and k1
          obtain ⟨k5, k6⟩ := ex_and k3
          have eq := beq_iff_eq.mp h5
          have eq2 := beq_iff_eq.mp k5
          obtain ⟨n1, n0⟩ := Nds.con (show Nds T k (.bi (Str.ofString (bnS f)) :: .bi "set" :: ndP a) from hn)
          obtain ⟨n2, n3⟩ := Nds.con n0
          obtain ⟨ta, ra, pa⟩ := mE_ok a C z W k2 n3
          obtain ⟨r, hr, ho⟩ := set_rule (T := T) (k := k) f hs
          refine ⟨_, (rd_un ra hr).as fun _ => rfl, fun X c => ?_⟩
          show PE X (.Call (.Name x p1) [.Call (.Name x2 p2) [z] [] p3] [] p) _
          subst eq eq2
          exact ho C W X z ta p1 p p2 p3 c n1 n2 h6 k6 k4 h4 (pa X c)
        · cases h2
      · rw [if_neg hs] at h
        obtain ⟨h1, h2⟩ := ex_and h
        obtain ⟨h3, h4⟩ := ex_and h1
        obtain ⟨h5, h6⟩ := ex_and h3
        obtain ⟨h7, h8⟩ := ex_and h5
        have eq := beq_iff_eq.mp h8
        obtain ⟨n1, n0⟩ := Nds.con (show Nds T k (.bi (Str.ofString (bnS f)) :: .bi "set" :: ndP a) from hn)
        obtain ⟨_, n2⟩ := Nds.con n0
        obtain ⟨ta, ra, pa⟩ := mE_ok a C y W h2 n2
        obtain ⟨r, hr, ho⟩ := b1_rule (T := T) (k := k) f h7
        refine ⟨_, (rd_un ra hr).as fun _ => rfl, fun X c => ?_⟩
        show PE X (.Call (.Name x p1) [y] [] p) _
        rw [eq]
        exact ho C W X y ta p1 p c n1 (by rw [← eq]; exact h6) h4 (pa X c)
    · cases h
  | .b2 f a b, C, e, W, h, hn => by
    simp only [mE] at h
    by_cases hs : isDf f = true
    · rw [if_pos hs] at h
      split at h
      · rename_i q ex
        obtain ⟨p1, kp, p, rfl⟩ := vCallD_eq ex
        obtain ⟨h1, h2⟩ := ex_and h
        obtain ⟨h3, h4⟩ := ex_and h1
        obtain ⟨h5, h6⟩ := ex_and h3
        obtain ⟨h7, h8⟩ := ex_and h5
        have eq := beq_iff_eq.mp h7
        obtain ⟨n1, n2⟩ := Nds.con (show Nds T k (.bi (Str.ofString (b2S f)) :: (ndP a ++ ndP b)) from hn)
        obtain ⟨n3, n4⟩ := Nds.app n2
        obtain ⟨ta, ra, pa⟩ := mE_ok a C q.2.1 W h4 n3
        obtain ⟨tb, rb, pb⟩ := mE_ok b C q.2.2 W h2 n4
        obtain ⟨r, hr, ho⟩ := b2d_rule (T := T) (k := k) f hs
        refine ⟨_, ((rd_op ra rb hr).zero (Nat.le_refl 1)).as fun _ => rfl, fun X c => ?_⟩
        rw [eq]
        exact ho C W X q.2.1 q.2.2 ta tb p1 kp p c n1 (by rw [← eq]; exact h8) h6 (pa X c) (pb X c)
      · cases h
    · rw [if_neg hs] at h
      revert h
      intro h
      split at h
      · rename_i x y z ex
        obtain ⟨p1, p, rfl⟩ := vCall_eq ex
        obtain ⟨h1, h2⟩ := ex_and h
        obtain ⟨h3, h4⟩ := ex_and h1
        obtain ⟨h5, h6⟩ := ex_and h3
        obtain ⟨h7, h8⟩ := ex_and h5
        obtain ⟨h9, h10⟩ := ex_and h7
        obtain ⟨h11, h12⟩ := ex_and h9
        have eq := beq_iff_eq.mp h12
        obtain ⟨n1, n2⟩ := Nds.con (show Nds T k (.bi (Str.ofString (b2S f)) :: (ndP a ++ ndP b)) from hn)
        obtain ⟨n3, n4⟩ := Nds.app n2
        obtain ⟨ta, ra, pa⟩ := mE_ok a C y W h4 n3
        obtain ⟨tb, rb, pb⟩ := mE_ok b C z W h2 n4
        obtain ⟨r, hr, ho⟩ := b2_rule (T := T) (k := k) f h11
        refine ⟨_, ((rd_op ra rb hr).zero (Nat.le_refl 1)).as fun _ => rfl, fun X c => ?_⟩
        show PE X (.Call (.Name x p1) [y, z] [] p) _
        subst eq
        exact ho C W X y z ta tb p1 p c n1 h10 h8 h6 (pa X c) (pb X c)
      · cases h
  | .isi a ts, C, e, W, h, hn => s_isi a ts C e W h hn fun y h1 => mE_ok a C y W h1 (Nds.app (Nds.con hn).2).2
  | .mt f o a, C, e, W, h, hn => by
    simp only [mE] at h
    split at h
    · rename_i o' x y l ex
      obtain ⟨ap, cp, rfl, el⟩ := vMeO_eq ex
      obtain ⟨h1, h2⟩ := ex_and h
      obtain ⟨h3, h4⟩ := ex_and h1
      obtain ⟨h5, h6⟩ := ex_and h3
      obtain ⟨h7, h8⟩ := ex_and h5
      obtain ⟨h9, h10⟩ := ex_and h7
      obtain ⟨h11, h12⟩ := ex_and h9
      obtain ⟨n1, n2⟩ := Nds.app (show Nds T k (ndP o ++ ndP a) from hn)
      obtain ⟨to, ro, po⟩ := mE_ok o C o' W h4 n1
      obtain ⟨ta, ra, pa⟩ := mE_ok a C y W h2 n2
      refine ⟨_, (rd_m2 h11 ro ra).as fun _ => rfl, fun X c => ?_⟩
      have em := beq_iff_eq.mp h12
      have el' : (ap.endLine == cp.line) = true := by rw [← el]; exact h6
      have fo : allOk [y] = true := by simp [allOk, h8]
      show PE X (.Call (.Attribute o' x ap) [y] [] cp) _
      rw [em, ← c.c.K]
      cases f with
      | count => exact pe_m2 PySem.F.slot_list_count PySem.F.type_list_count (p_cntD c.c.u) PySem.F.slot_tuple_count PySem.F.type_tuple_count (p_cntT c.c.u) (po X c) (pa_cons (pa X c) pa_nil (star1 h8 _)) (noCall_ab h10 _ _ _) (form_ok fo (by simp) _ _) el' (okE_star h8 _ _) rfl
      | index => exact pe_m2 PySem.F.slot_list_index PySem.F.type_list_index (p_idxD c.c.u) PySem.F.slot_tuple_index PySem.F.type_tuple_index (p_idxT c.c.u) (po X c) (pa_cons (pa X c) pa_nil (star1 h8 _)) (noCall_ab h10 _ _ _) (form_ok fo (by simp) _ _) el' (okE_star h8 _ _) rfl
      | _ => simp [isCI] at h11
    · cases h
  | .lr _ _ _, C, e, W, h, _ => by simp [mE] at h
  | .dic _ _ _, C, e, W, h, _ => by simp [mE] at h
  | .dix _ _, C, e, W, h, _ => by simp [mE] at h
  | .at o x i, C, e, W, h, hn => by
    simp only [mE] at h
    split at h
    · rename_i q ex
      obtain ⟨p, rfl⟩ := vAttr_eq ex
      obtain ⟨h1, h2⟩ := ex_and h
      obtain ⟨h3, h4⟩ := ex_and h1
      obtain ⟨h5, h6⟩ := ex_and h3
      have eq := beq_iff_eq.mp h5
      obtain ⟨t, r, pe⟩ := mE_ok o C q.1 W h2 (Nds.con (show Nds T k (.at x i :: ndP o) from hn)).2
      refine ⟨_, (rd_at (of_decide_eq_true h6) r).as fun _ => rfl, fun X c => ?_⟩
      rw [eq, ← c.c.K]
      exact pe_fld (pe X c) (noCall_ab h4 _ _ _)
    · cases h
  | .me o cl x F ps, C, e, W, h, hn => by
    simp only [mE] at h
    split at h
    · rename_i q ex
      obtain ⟨ap, cp, rfl, el⟩ := vMeO_eq ex
      obtain ⟨h1, h2⟩ := ex_and h
      obtain ⟨h3, h4⟩ := ex_and h1
      obtain ⟨h5, h6⟩ := ex_and h3
      obtain ⟨h7, h8⟩ := ex_and h5
      obtain ⟨h9, h10⟩ := ex_and h7
      obtain ⟨h11, h12⟩ := ex_and h9
      obtain ⟨h13, h14⟩ := ex_and h11
      have eq := beq_iff_eq.mp h13
      have hx : x ∉ AT := by simpa using h14
      obtain ⟨n1, n0⟩ := Nds.con (show Nds T k (.me cl x F :: (ndP o ++ ndL ps)) from hn)
      obtain ⟨n2, n3⟩ := Nds.app n0
      obtain ⟨to, ro, po⟩ := mE_ok o C q.1 W h4 n2
      obtain ⟨t, r, pa⟩ := mL_ok ps C q.2.2.1 W h2 n3
      have hlen := of_decide_eq_true h8
      by_cases hz : q.2.2.1 = []
      · rw [hz] at h2 h10 hlen
        cases ps with
        | nil =>
          refine ⟨_, ((rd_me hx ro rd_nil)).as fun _ => rfl, fun X c => ?_⟩
          rw [eq, hz]
          exact s_me c n1 h12 h10 hlen (by rw [← el]; exact h6) (po X c) pa_nil fun _ => rfl
        | cons _ _ => simp [mL] at h2
      · refine ⟨_, ((rd_me hx ro r)).as fun _ => rfl, fun X c => ?_⟩
        rw [eq]
        exact s_me c n1 h12 h10 hlen (by rw [← el]; exact h6) (po X c) (pa X c) fun z => absurd z hz
    · cases h
  | .mk x cl F ps, C, e, W, h, hn => by
    simp only [mE] at h
    split at h
    · rename_i q ex
      obtain ⟨p1, p, rfl⟩ := vCall_eq ex
      obtain ⟨h1, h2⟩ := ex_and h
      obtain ⟨h3, h4⟩ := ex_and h1
      obtain ⟨h5, h6⟩ := ex_and h3
      obtain ⟨h7, h8⟩ := ex_and h5
      obtain ⟨h9, h10⟩ := ex_and h7
      have eq := beq_iff_eq.mp h9
      obtain ⟨n1, n2⟩ := Nds.con (show Nds T k (.mk x cl F :: ndL ps) from hn)
      obtain ⟨t, r, pa⟩ := mL_ok ps C q.2 W h2 n2
      refine ⟨_, (rd_mk n1.2.1 r).as fun _ => rfl, fun X c => ?_⟩
      rw [eq]
      exact s_mk c n1 h10 h8 h6 (by simpa using h4) (pa X c)
    · cases h
theorem mT_ok : ∀ (p : P) (C : MC) (e : Expr) (W : WX), mT C p e = true → Nds T k (ndP p) → OkT T k C W p e
  | .an ps, C, e, W, h, hn => by
    simp only [mT] at h
    split at h
    · rename_i q ex
      obtain ⟨p, rfl⟩ := vBool_eq ex
      obtain ⟨h1, h2⟩ := ex_and h
      obtain ⟨t, r, pw⟩ := mTs_and ps C q.2 W p h2 hn
      refine ⟨t, (r).as (fun _ => rfl), fun X c => ?_⟩
      rw [of_decide_eq_true h1]
      exact (pw X c).pt
    · cases h
  | .orr ps, C, e, W, h, hn => by
    simp only [mT] at h
    split at h
    · rename_i q ex
      obtain ⟨p, rfl⟩ := vBool_eq ex
      obtain ⟨h1, h2⟩ := ex_and h
      obtain ⟨t, r, pw⟩ := mTs_or ps C q.2 W p h2 hn
      refine ⟨t, (r).as (fun _ => rfl), fun X c => ?_⟩
      rw [of_decide_eq_true h1]
      exact (pw X c).pt
    · cases h
  | .no a, C, e, W, h, hn => by
    simp only [mT] at h
    split at h
    · rename_i q ex
      obtain ⟨p, rfl⟩ := vUn_eq ex
      obtain ⟨h1, h2⟩ := ex_and h
      obtain ⟨ta, ra, pa⟩ := mT_ok a C q.2 W h2 hn
      refine ⟨_, (rd_notT ra).as (fun _ => rfl), fun X c => ?_⟩
      rw [of_decide_eq_true h1]
      exact pt_not (pa X c)
    · cases h
  | .cmp o a b, C, e, W, h, hn => by
    simp only [mT] at h
    split at h
    · rename_i x q y ex
      obtain ⟨p, rfl⟩ := vCmp_eq ex
      obtain ⟨h1, h2⟩ := ex_and h
      obtain ⟨h3, h4⟩ := ex_and h1
      obtain ⟨h5, h6⟩ := ex_and h3
      obtain ⟨n1, n2⟩ := Nds.app (show Nds T k (ndP a ++ ndP b) from hn)
      obtain ⟨ta, ra, pa⟩ := mE_ok a C x W h4 n1
      obtain ⟨tb, rb, pb⟩ := mE_ok b C y W h2 n2
      obtain ⟨r, hr, ho⟩ := co_all (T := T) (k := k) o
      refine ⟨tTest (tOp r ta tb), (rd_test (rd_op ra rb hr)).as (fun _ => rfl), fun X c => ?_⟩
      have eo := of_decide_eq_true h5
      show PT X (.Compare x [q] [y] p) _
      rw [← eo]
      exact pt_cmpR (ho C W X c) (pa X c) (pb X c) (okE_bh h6 _)
    · cases h
  | .chn o1 o2 a b d, C, e, W, h, hn => by
    simp only [mT] at h
    split at h
    · rename_i x q1 q2 y z ex
      obtain ⟨p, rfl⟩ := vCmp_eq ex
      obtain ⟨h1, h2⟩ := ex_and h
      obtain ⟨h3, h4⟩ := ex_and h1
      obtain ⟨h5, h6⟩ := ex_and h3
      obtain ⟨h7, h8⟩ := ex_and h5
      obtain ⟨h9, h10⟩ := ex_and h7
      obtain ⟨h11, h12⟩ := ex_and h9
      obtain ⟨n1, n2⟩ := Nds.app (show Nds T k (ndP a ++ (ndP b ++ ndP d)) from hn)
      obtain ⟨n3, n4⟩ := Nds.app n2
      obtain ⟨ta, ra, pa⟩ := mE_ok a C x W h6 n1
      obtain ⟨tb, rb, pb⟩ := mE_ok b C y W h4 n3
      obtain ⟨tc, rc, pc⟩ := mE_ok d C z W h2 n4
      obtain ⟨r, hr, ho⟩ := co_all (T := T) (k := k) o1
      obtain ⟨r', hr', ho'⟩ := co_all (T := T) (k := k) o2
      refine ⟨tTest (tChain r r' ta tb tc), (rd_test (rd_chn ra rb rc hr hr')).as (fun _ => rfl), fun X c => ?_⟩
      have e1 := of_decide_eq_true h11
      have e2 := of_decide_eq_true h12
      show PT X (.Compare x [q1, q2] [y, z] p) _
      rw [← e1, ← e2]
      exact pt_chain (ho C W X c) (ho' C W X c) (pa X c) (pb X c) (pc X c) (okE_bh h8 _)
    · cases h
  | .var i, C, e, W, h, hn => by
    have h' : mE C (.var i) e = true := by simpa only [mE, mT] using h
    have ht : tstE e = true := by
      simp only [mT] at h
      split at h
      · rename_i x ex
        obtain ⟨p, rfl⟩ := vName_eq ex
        rfl
      · cases h
    simp only [mE] at h'
    split at h'
    · rename_i x ex
      obtain ⟨p, rfl⟩ := vName_eq ex
      obtain ⟨h1, h2⟩ := ex_and h'
      obtain ⟨h3, h4⟩ := ex_and h1
      exact ⟨tB (tVar i), (rd_test (rd_var (T := T) (W := W) (N := C.N) (mu := C.mu) i)).as (fun _ => rfl), fun X c => cut2 (s_var c h3 h4 h2) ht⟩
    · cases h'
  | .ca x F ps, C, e, W, h, hn => by
    simp only [mT] at h
    split at h
    · rename_i q ex
      obtain ⟨p1, p, rfl⟩ := vCall_eq ex
      obtain ⟨h1, h2⟩ := ex_and h
      obtain ⟨h3, h4⟩ := ex_and h1
      obtain ⟨h7, h8⟩ := ex_and h3
      obtain ⟨h9, h10⟩ := ex_and h7
      have eq := beq_iff_eq.mp h9
      obtain ⟨n1, n2⟩ := Nds.con (show Nds T k (.fn x F :: ndL ps) from hn)
      obtain ⟨t, r, pa⟩ := mL_ok ps C q.2 W h2 n2
      by_cases hz : q.2 = []
      · rw [hz] at h2 h4
        cases ps with
        | nil =>
          refine ⟨_, (rd_test (rd_call rd_nil)).as (fun _ => rfl), fun X c => cut2 ?_ rfl⟩
          rw [eq, hz]
          exact s_call c n1 h10 h8 h4 pa_nil fun _ => rfl
        | cons _ _ => simp [mL] at h2
      · refine ⟨_, (rd_test (rd_call r)).as (fun _ => rfl), fun X c => cut2 ?_ rfl⟩
        rw [eq]
        exact s_call c n1 h10 h8 h4 (pa X c) fun z => absurd z hz
    · cases h
  | .b1 f a, C, e, W, h, hn => by
    simp only [mT] at h
    split at h
    · rename_i x y ex
      obtain ⟨p1, p, rfl⟩ := vCall_eq ex
      obtain ⟨h1, h2⟩ := ex_and h
      obtain ⟨h3, h4⟩ := ex_and h1
      obtain ⟨h5, h6⟩ := ex_and h3
      obtain ⟨h7, h8⟩ := ex_and h5
      have eq := beq_iff_eq.mp h8
      obtain ⟨n1, n0⟩ := Nds.con (show Nds T k (.bi (Str.ofString (bnS f)) :: .bi "set" :: ndP a) from hn)
      obtain ⟨_, n2⟩ := Nds.con n0
      obtain ⟨ta, ra, pa⟩ := mE_ok a C y W h2 n2
      obtain ⟨r, hr, ho⟩ := b1_rule (T := T) (k := k) f h7
      refine ⟨_, (rd_test (rd_un ra hr)).as (fun _ => rfl), fun X c => cut2 ?_ rfl⟩
      show PE X (.Call (.Name x p1) [y] [] p) _
      rw [eq]
      exact ho C W X y ta p1 p c n1 (by rw [← eq]; exact h6) h4 (pa X c)
    · cases h
  | .isi a ts, C, e, W, h, hn => by
    have h' : mE C (.isi a ts) e = true := by simpa only [mE, mT] using h
    have ht : tstE e = true := by
      simp only [mT] at h
      split at h
      · rename_i ex
        obtain ⟨p1, p, rfl⟩ := vCall_eq ex
        rfl
      · cases h
    obtain ⟨t, r, pe⟩ := s_isi (T := T) (k := k) a ts C e W h' hn (fun y h1 => mE_ok a C y W h1 (Nds.app (Nds.con hn).2).2)
    exact ⟨tB t, (rd_test r).as (fun _ => rfl), fun X c => cut2 (pe X c) ht⟩
  | .cB b, C, e, W, h, hn => by
    simp only [mT] at h
    split at h
    · rename_i j ex
      obtain ⟨q, p, rfl⟩ := vCst_eq ex
      cases (of_decide_eq_true h)
      exact ⟨tB (tC (.bl b)), (rd_test (rd_c (md := 0) fun _ _ _ _ => pk_bl)).as (fun _ => rfl), fun X c => cut2 pe_bl rfl⟩
    · cases h
  | .cI _, C, e, W, h, _ => by simp [mT] at h
  | .cN, C, e, W, h, _ => by simp [mT] at h
  | .cS _, C, e, W, h, _ => by simp [mT] at h
  | .gl _ _, C, e, W, h, _ => by simp [mT] at h
  | .bin _ _ _, C, e, W, h, _ => by simp [mT] at h
  | .neg _, C, e, W, h, _ => by simp [mT] at h
  | .ife _ _ _, C, e, W, h, _ => by simp [mT] at h
  | .ix a b, C, e, W, h, hn => by
    simp only [mT] at h
    split at h
    · rename_i q ex
      obtain ⟨p, rfl⟩ := vSub_eq ex
      obtain ⟨h1, h2⟩ := ex_and h
      obtain ⟨h3, h4⟩ := ex_and h1
      obtain ⟨n1, n2⟩ := Nds.app (show Nds T k (ndP a ++ ndP b) from hn)
      obtain ⟨ta, ra, pa⟩ := mE_ok a C q.1 W h4 n1
      obtain ⟨tb, rb, pb⟩ := mE_ok b C q.2 W h2 n2
      exact ⟨tB (tOp (rIx T.K) ta tb), (rd_test (rd_op ra rb o_ix)).as (fun _ => rfl), fun X c => cut2 (pe_ix (by rw [← c.c.K]; exact ix_seq) (pa X c) (pb X c) (okE_ix h3)) rfl⟩
    · cases h
  | .sl _ _ _, C, e, W, h, _ => by simp [mT] at h
  | .rv _, C, e, W, h, _ => by simp [mT] at h
  | .st2 _ _, C, e, W, h, _ => by simp [mT] at h
  | .li _, C, e, W, h, _ => by simp [mT] at h
  | .tu _, C, e, W, h, _ => by simp [mT] at h
  | .cp _ _ _ _ _, C, e, W, h, _ => by simp [mT] at h
  | .pk _ _ _, C, e, W, h, _ => by simp [mT] at h
  | .b2 _ _ _, C, e, W, h, _ => by simp [mT] at h
  | .mt _ _ _, C, e, W, h, _ => by simp [mT] at h
  | .lr _ _ _, C, e, W, h, _ => by simp [mT] at h
  | .dic _ _ _, C, e, W, h, _ => by simp [mT] at h
  | .dix _ _, C, e, W, h, _ => by simp [mT] at h
  | .at _ _ _, C, e, W, h, _ => by simp [mT] at h
  | .me o cl x F ps, C, e, W, h, hn => by
    simp only [mT] at h
    split at h
    · rename_i q ex
      obtain ⟨ap, cp, rfl, el⟩ := vMeO_eq ex
      obtain ⟨h1, h2⟩ := ex_and h
      obtain ⟨h3, h4⟩ := ex_and h1
      obtain ⟨h5, h6⟩ := ex_and h3
      obtain ⟨h7, h8⟩ := ex_and h5
      obtain ⟨h9, h10⟩ := ex_and h7
      obtain ⟨h11, h12⟩ := ex_and h9
      obtain ⟨h13, h14⟩ := ex_and h11
      have eq := beq_iff_eq.mp h13
      have hx : x ∉ AT := by simpa using h14
      obtain ⟨n1, n0⟩ := Nds.con (show Nds T k (.me cl x F :: (ndP o ++ ndL ps)) from hn)
      obtain ⟨n2, n3⟩ := Nds.app n0
      obtain ⟨to, ro, po⟩ := mE_ok o C q.1 W h4 n2
      obtain ⟨t, r, pa⟩ := mL_ok ps C q.2.2.1 W h2 n3
      have hlen := of_decide_eq_true h8
      by_cases hz : q.2.2.1 = []
      · rw [hz] at h2 h10 hlen
        cases ps with
        | nil =>
          refine ⟨_, (rd_test (rd_me hx ro rd_nil)).as fun _ => rfl, fun X c => cut2 ?_ rfl⟩
          rw [eq, hz]
          exact s_me c n1 h12 h10 hlen (by rw [← el]; exact h6) (po X c) pa_nil fun _ => rfl
        | cons _ _ => simp [mL] at h2
      · refine ⟨_, (rd_test (rd_me hx ro r)).as fun _ => rfl, fun X c => cut2 ?_ rfl⟩
        rw [eq]
        exact s_me c n1 h12 h10 hlen (by rw [← el]; exact h6) (po X c) (pa X c) fun z => absurd z hz
    · cases h
  | .mk _ _ _ _, C, e, W, h, _ => by simp [mT] at h
theorem mTs_and : ∀ (ps : PL) (C : MC) (es : List Expr) (W : WX) (pos : Pos), mTs C ps es = true → Nds T k (ndL ps) → ∃ t, RdT T C.mu C.N.length W t (evTAn ps) ∧ ∀ X, CxtM T k C W X → PW X (.BoolOp .And es pos) t
  | .nil, C, es, W, pos, h, hn => by simp [mTs] at h
  | .cons p .nil, C, [e], W, pos, h, hn => by
    simp only [mTs] at h
    obtain ⟨ta, ra, pa⟩ := mT_ok p C e W h (Nds.app hn).1
    refine ⟨ta, ra.congr fun ρ => ?_, fun X c => pw_and1 (pa X c)⟩
    simp only [evTAn, an_one]
  | .cons p .nil, C, [], W, pos, h, hn => by simp [mTs] at h
  | .cons p .nil, C, e :: f :: es, W, pos, h, hn => by simp [mTs] at h
  | .cons p (.cons q ps), C, [], W, pos, h, hn => by simp [mTs] at h
  | .cons p (.cons q ps), C, [e], W, pos, h, hn => by simp [mTs] at h
  | .cons p (.cons q ps), C, e :: f :: es, W, pos, h, hn => by
    have h' : (mT C p e && mTs C (.cons q ps) (f :: es)) = true := by simpa only [mTs] using h
    obtain ⟨h1, h2⟩ := ex_and h'
    obtain ⟨n1, n2⟩ := Nds.app (show Nds T k (ndP p ++ ndL (.cons q ps)) from hn)
    obtain ⟨ta, ra, pa⟩ := mT_ok p C e W h1 n1
    obtain ⟨tb, rb, pb⟩ := mTs_and (.cons q ps) C (f :: es) W pos h2 n2
    exact ⟨tAnd ta tb, (rd_andT ra rb).congr fun ρ => by simp only [evTAn], fun X c => pw_and (pa X c) (pb X c)⟩
theorem mTs_or : ∀ (ps : PL) (C : MC) (es : List Expr) (W : WX) (pos : Pos), mTs C ps es = true → Nds T k (ndL ps) → ∃ t, RdT T C.mu C.N.length W t (evTOr ps) ∧ ∀ X, CxtM T k C W X → PW X (.BoolOp .Or es pos) t
  | .nil, C, es, W, pos, h, hn => by simp [mTs] at h
  | .cons p .nil, C, [e], W, pos, h, hn => by
    simp only [mTs] at h
    obtain ⟨ta, ra, pa⟩ := mT_ok p C e W h (Nds.app hn).1
    refine ⟨ta, ra.congr fun ρ => ?_, fun X c => pw_or1 (pa X c)⟩
    simp only [evTOr, or_one]
  | .cons p .nil, C, [], W, pos, h, hn => by simp [mTs] at h
  | .cons p .nil, C, e :: f :: es, W, pos, h, hn => by simp [mTs] at h
  | .cons p (.cons q ps), C, [], W, pos, h, hn => by simp [mTs] at h
  | .cons p (.cons q ps), C, [e], W, pos, h, hn => by simp [mTs] at h
  | .cons p (.cons q ps), C, e :: f :: es, W, pos, h, hn => by
    have h' : (mT C p e && mTs C (.cons q ps) (f :: es)) = true := by simpa only [mTs] using h
    obtain ⟨h1, h2⟩ := ex_and h'
    obtain ⟨n1, n2⟩ := Nds.app (show Nds T k (ndP p ++ ndL (.cons q ps)) from hn)
    obtain ⟨ta, ra, pa⟩ := mT_ok p C e W h1 n1
    obtain ⟨tb, rb, pb⟩ := mTs_or (.cons q ps) C (f :: es) W pos h2 n2
    exact ⟨tOr ta tb, (rd_orT ra rb).congr fun ρ => by simp only [evTOr], fun X c => pw_or (pa X c) (pb X c)⟩
theorem mV_and : ∀ (ps : PL) (C : MC) (es : List Expr) (W : WX) (pos : Pos), mV C ps es = true → Nds T k (ndL ps) → ∃ t, RdE T C.mu C.N.length W 0 t (evAn ps) ∧ ∀ X, CxtM T k C W X → PE X (.BoolOp .And es pos) t
  | .nil, C, es, W, pos, h, hn => by simp [mV] at h
  | .cons p .nil, C, [e], W, pos, h, hn => by
    simp only [mV] at h
    obtain ⟨h1, h2⟩ := ex_and h
    obtain ⟨ta, ra, pa⟩ := mE_ok p C e W h1 (Nds.app hn).1
    exact ⟨ta, (ra.zero (of_decide_eq_true h2)).as (fun _ => rfl), fun X c => pe_one (pa X c)⟩
  | .cons p .nil, C, [], W, pos, h, hn => by simp [mV] at h
  | .cons p .nil, C, e :: f :: es, W, pos, h, hn => by simp [mV] at h
  | .cons p (.cons q ps), C, [], W, pos, h, hn => by simp [mV] at h
  | .cons p (.cons q ps), C, [e], W, pos, h, hn => by simp [mV] at h
  | .cons p (.cons q ps), C, e :: f :: es, W, pos, h, hn => by
    have h' : (mE C p e && mV C (.cons q ps) (f :: es)) = true := by simpa only [mV] using h
    obtain ⟨h1, h2⟩ := ex_and h'
    obtain ⟨n1, n2⟩ := Nds.app (show Nds T k (ndP p ++ ndL (.cons q ps)) from hn)
    obtain ⟨ta, ra, pa⟩ := mE_ok p C e W h1 n1
    obtain ⟨tb, rb, pb⟩ := mV_and (.cons q ps) C (f :: es) W pos h2 n2
    exact ⟨tAndV ta tb, (rd_andV ra rb).as (fun _ => rfl), fun X c => pe_and (pa X c) (pb X c)⟩
theorem mV_or : ∀ (ps : PL) (C : MC) (es : List Expr) (W : WX) (pos : Pos), mV C ps es = true → Nds T k (ndL ps) → ∃ t, RdE T C.mu C.N.length W 0 t (evOr ps) ∧ ∀ X, CxtM T k C W X → PE X (.BoolOp .Or es pos) t
  | .nil, C, es, W, pos, h, hn => by simp [mV] at h
  | .cons p .nil, C, [e], W, pos, h, hn => by
    simp only [mV] at h
    obtain ⟨h1, h2⟩ := ex_and h
    obtain ⟨ta, ra, pa⟩ := mE_ok p C e W h1 (Nds.app hn).1
    exact ⟨ta, (ra.zero (of_decide_eq_true h2)).as (fun _ => rfl), fun X c => pe_one (pa X c)⟩
  | .cons p .nil, C, [], W, pos, h, hn => by simp [mV] at h
  | .cons p .nil, C, e :: f :: es, W, pos, h, hn => by simp [mV] at h
  | .cons p (.cons q ps), C, [], W, pos, h, hn => by simp [mV] at h
  | .cons p (.cons q ps), C, [e], W, pos, h, hn => by simp [mV] at h
  | .cons p (.cons q ps), C, e :: f :: es, W, pos, h, hn => by
    have h' : (mE C p e && mV C (.cons q ps) (f :: es)) = true := by simpa only [mV] using h
    obtain ⟨h1, h2⟩ := ex_and h'
    obtain ⟨n1, n2⟩ := Nds.app (show Nds T k (ndP p ++ ndL (.cons q ps)) from hn)
    obtain ⟨ta, ra, pa⟩ := mE_ok p C e W h1 n1
    obtain ⟨tb, rb, pb⟩ := mV_or (.cons q ps) C (f :: es) W pos h2 n2
    exact ⟨tOrV ta tb, (rd_orV ra rb).as (fun _ => rfl), fun X c => pe_or (pa X c) (pb X c)⟩
theorem mL_ok : ∀ (ps : PL) (C : MC) (es : List Expr) (W : WX), mL C ps es = true → Nds T k (ndL ps) → OkL T k C W ps es
  | .nil, C, [], W, h, hn => ⟨tNil, (rd_nil).as (fun _ => rfl), fun X c => pa_nil⟩
  | .nil, C, _ :: _, W, h, hn => by simp [mL] at h
  | .cons _ _, C, [], W, h, hn => by simp [mL] at h
  | .cons p ps, C, e :: es, W, h, hn => by
    simp only [mL] at h
    obtain ⟨h1, h2⟩ := ex_and h
    obtain ⟨h3, h4⟩ := ex_and h1
    obtain ⟨h5, h6⟩ := ex_and h3
    obtain ⟨n1, n2⟩ := Nds.app (show Nds T k (ndP p ++ ndL ps) from hn)
    obtain ⟨ta, ra, pa⟩ := mE_ok p C e W h6 n1
    obtain ⟨tb, rb, pb⟩ := mL_ok ps C es W h2 n2
    exact ⟨_, (rd_cons (ra.zero (of_decide_eq_true h4)) rb).as (fun _ => rfl), fun X c => pa_cons (pa X c) (pb X c) (okE_star h5 _ _)⟩
theorem mQ_ok : ∀ (q : PQ) (C : MC) (e : Option Expr) (W : WX), mQ C q e = true → Nds T k (ndQ q) → OkQ T k C W q e
  | .none, C, none, W, h, hn => ⟨_, (rd_pnone).as (fun _ => rfl), fun X c => po_none⟩
  | .none, C, some _, W, h, hn => by simp [mQ] at h
  | .some _, C, none, W, h, hn => by simp [mQ] at h
  | .some p, C, some e, W, h, hn => by
    simp only [mQ] at h
    obtain ⟨ta, ra, pa⟩ := mE_ok p C e W h hn
    exact ⟨_, (rd_psome ra).as (fun _ => rfl), fun X c => po_some (pa X c)⟩
theorem mC_ok : ∀ (q : PQ) (C : MC) (es : List Expr) (W : WX), mCn C q es = true → Nds T k (ndQ q) → OkC T k C W q es
  | .none, C, [], W, h, hn => ⟨tYes, fun E ρ σ G H μ st Q er hres => by
      have : Res (ret true st) _ _ := hres
      exact this G H μ (Ev.refl _ _ _) er.w, fun X c => pts_nil⟩
  | .none, C, _ :: _, W, h, hn => by simp [mCn] at h
  | .some _, C, [], W, h, hn => by simp [mCn] at h
  | .some _, C, _ :: _ :: _, W, h, hn => by simp [mCn] at h
  | .some p, C, [e], W, h, hn => by
    simp only [mCn] at h
    obtain ⟨ta, ra, pa⟩ := mT_ok p C e W h hn
    exact ⟨ta, (ra).as (fun _ => rfl), fun X c => pts_one (pa X c)⟩
theorem mI_ok : ∀ (i : I) (C : MC) (tg e : Expr) (W : WX), mI C i tg e = true → Nds T k (ndI i) → OkI T k C W i tg e
  | .e p, C, tg, e, W, h, hn => by
    simp only [mI] at h
    obtain ⟨ta, ra, pa⟩ := mE_ok p C e W h hn
    refine ⟨iAny T.K ta, (rd_iter ra fun z => of_decide_eq_true z).as (fun _ => rfl), fun X c => ?_⟩
    rw [← c.c.K]
    exact pi_any (pa X c)
  | .r1 a, C, tg, e, W, h, hn => by
    simp only [mI] at h
    split at h
    · rename_i x y ex
      obtain ⟨p1, p, rfl⟩ := vCall_eq ex
      obtain ⟨h1, h2⟩ := ex_and h
      obtain ⟨h3, h4⟩ := ex_and h1
      obtain ⟨h5, h6⟩ := ex_and h3
      have eq := beq_iff_eq.mp h5
      obtain ⟨n1, n2⟩ := Nds.con (show Nds T k (.bi "range" :: ndP a) from hn)
      obtain ⟨ta, ra, pa⟩ := mE_ok a C y W h2 n2
      refine ⟨_, (rd_r1 ra).as (fun _ => rfl), fun X c => ?_⟩
      show PI X tg (.Call (.Name x p1) [y] [] p) _
      rw [eq]
      exact pi_range1 (c.c.gl (by rw [← eq]; exact h6)) (by rw [c.c.mg]; exact n1) (pa_cons (pa X c) pa_nil (star1 h4 _)) (star1 h4 _)
    · cases h
  | .r2 a b, C, tg, e, W, h, hn => by
    simp only [mI] at h
    split at h
    · rename_i x y z ex
      obtain ⟨p1, p, rfl⟩ := vCall_eq ex
      obtain ⟨h1, h2⟩ := ex_and h
      obtain ⟨h3, h4⟩ := ex_and h1
      obtain ⟨h5, h6⟩ := ex_and h3
      obtain ⟨h7, h8⟩ := ex_and h5
      obtain ⟨h9, h10⟩ := ex_and h7
      have eq := beq_iff_eq.mp h9
      obtain ⟨n1, n2⟩ := Nds.con (show Nds T k (.bi "range" :: (ndP a ++ ndP b)) from hn)
      obtain ⟨n3, n4⟩ := Nds.app n2
      obtain ⟨ta, ra, pa⟩ := mE_ok a C y W h4 n3
      obtain ⟨tb, rb, pb⟩ := mE_ok b C z W h2 n4
      refine ⟨_, (rd_r2 ra rb).as (fun _ => rfl), fun X c => ?_⟩
      show PI X tg (.Call (.Name x p1) [y, z] [] p) _
      rw [eq]
      exact pi_range2 (c.c.gl (by rw [← eq]; exact h10)) (by rw [c.c.mg]; exact n1) (pa_cons (pa X c) (pa_cons (pb X c) pa_nil (star1 h6 _)) (okE_star h8 _ _)) (by rw [okE_star h8, star1 h6]) (star1 h6 _)
    · cases h
  | .r3 a b d, C, tg, e, W, h, hn => by
    simp only [mI] at h
    split at h
    · rename_i x y z w ex
      obtain ⟨p1, p, rfl⟩ := vCall_eq ex
      obtain ⟨h1, h2⟩ := ex_and h
      obtain ⟨h3, h4⟩ := ex_and h1
      obtain ⟨h5, h6⟩ := ex_and h3
      obtain ⟨h7, h8⟩ := ex_and h5
      obtain ⟨h9, h10⟩ := ex_and h7
      obtain ⟨h11, h12⟩ := ex_and h9
      obtain ⟨h13, h14⟩ := ex_and h11
      have eq := beq_iff_eq.mp h13
      obtain ⟨n1, n2⟩ := Nds.con (show Nds T k (.bi "range" :: (ndP a ++ (ndP b ++ ndP d))) from hn)
      obtain ⟨n3, n4⟩ := Nds.app n2
      obtain ⟨n5, n6⟩ := Nds.app n4
      obtain ⟨ta, ra, pa⟩ := mE_ok a C y W h6 n3
      obtain ⟨tb, rb, pb⟩ := mE_ok b C z W h4 n5
      obtain ⟨tc, rc, pc⟩ := mE_ok d C w W h2 n6
      refine ⟨_, (rd_r3 ra rb rc).as (fun _ => rfl), fun X c => ?_⟩
      show PI X tg (.Call (.Name x p1) [y, z, w] [] p) _
      rw [eq]
      exact pi_range3 (c.c.gl (by rw [← eq]; exact h14)) (by rw [c.c.mg]; exact n1) (pa_cons (pa X c) (pa_cons (pb X c) (pa_cons (pc X c) pa_nil (star1 h8 _)) (okE_star h10 _ _)) (okE_star h12 _ _)) (okE_star h12 _ _) (backTo_ok (by simp [allOk, h8, h10]) _ _)
    · cases h
  | .en a, C, tg, e, W, h, hn => by
    simp only [mI] at h
    split at h
    · rename_i x y ex
      obtain ⟨p1, p, rfl⟩ := vCall_eq ex
      obtain ⟨h1, h2⟩ := ex_and h
      obtain ⟨h3, h4⟩ := ex_and h1
      obtain ⟨h5, h6⟩ := ex_and h3
      obtain ⟨h7, h8⟩ := ex_and h5
      have eq := beq_iff_eq.mp h7
      obtain ⟨es, he⟩ := Option.isSome_iff_exists.mp h4
      obtain ⟨kk, tp, rfl⟩ := vTup_eq he
      obtain ⟨n1, n2⟩ := Nds.con (show Nds T k (.bi "enumerate" :: ndP a) from hn)
      obtain ⟨ta, ra, pa⟩ := mE_ok a C y W h2 n2
      refine ⟨iEnumK T.K ta, (rd_enum ra fun z => of_decide_eq_true z).as (fun _ => rfl), fun X c => ?_⟩
      show PI X _ (.Call (.Name x p1) [y] [] p) _
      rw [eq, ← c.c.K]
      exact pi_enumK (c.c.gl (by rw [← eq]; exact h8)) (by rw [c.c.mg]; exact n1) (pa X c) (star1 h6 _)
    · cases h
  | .zp a b, C, tg, e, W, h, hn => by
    simp only [mI] at h
    split at h
    · rename_i x y z ex
      obtain ⟨p1, p, rfl⟩ := vCall_eq ex
      obtain ⟨h1, h2⟩ := ex_and h
      obtain ⟨h3, h4⟩ := ex_and h1
      obtain ⟨h5, h6⟩ := ex_and h3
      obtain ⟨h7, h8⟩ := ex_and h5
      obtain ⟨h9, h10⟩ := ex_and h7
      obtain ⟨h11, h12⟩ := ex_and h9
      have eq := beq_iff_eq.mp h11
      obtain ⟨es, he⟩ := Option.isSome_iff_exists.mp h6
      obtain ⟨kk, tp, rfl⟩ := vTup_eq he
      obtain ⟨n1, n2⟩ := Nds.con (show Nds T k (.bi "zip" :: (ndP a ++ ndP b)) from hn)
      obtain ⟨n3, n4⟩ := Nds.app n2
      obtain ⟨ta, ra, pa⟩ := mE_ok a C y W h4 n3
      obtain ⟨tb, rb, pb⟩ := mE_ok b C z W h2 n4
      refine ⟨RZ.iZipA T.K (tCons ta (tCons tb tNil)), (rd_zip ra rb fun z => by
        have z' := ex_and (show (decide (mdP C.mu a ≤ 1) && decide (mdP C.mu b ≤ 1)) = true from z)
        exact ⟨of_decide_eq_true z'.1, of_decide_eq_true z'.2⟩).as (fun _ => rfl), fun X c => ?_⟩
      show PI X _ (.Call (.Name x p1) [y, z] [] p) _
      rw [eq, ← c.c.K]
      exact RZ.pi_zipA (c.c.gl (by rw [← eq]; exact h12)) (by rw [c.c.mg]; exact n1) (pa_cons (pa X c) (pa_cons (pb X c) pa_nil (star1 h8 _)) (okE_star h10 _ _)) (okE_star h10 _ _) (backTo_ok (by simp [allOk, h8]) _ _)
    · cases h
  | .zp3 _ _ _, C, tg, e, W, h, _ => by simp [mI] at h
end
end BX

set_option Elab.async false
set_option linter.all false
set_option maxRecDepth 100000
/-! BS14: statements, one by one. -/
namespace BX
open PySem PySem.Spec PyProof.Rows L2
open PySem.SeqAt (dataPlace remove_list_data)
variable {T : Rt} {mu : List Nat} {n : Nat} {W : WX}
def EndsP (T : Rt) (mu : List Nat) (n : Nat) (E : EW) (G : Hp) (μ : List Addr) (σ : St) (as : List Nat) (D : Ends) : Fl × Env → Sto → Prop := fun q st' => match q.1 with
  | .nx => ∀ σ' G' H' μ', Er T mu n E q.2 σ' G' H' μ' st' → Sub G G' → Pre μ μ' → (∀ j, j ∉ as → σ'[j]? = σ[j]?) → D.nx σ' H'
  | .bk => ∀ σ' G' H' μ', Er T mu n E q.2 σ' G' H' μ' st' → Sub G G' → Pre μ μ' → (∀ j, j ∉ as → σ'[j]? = σ[j]?) → D.bk σ' H'
  | .ct => ∀ σ' G' H' μ', Er T mu n E q.2 σ' G' H' μ' st' → Sub G G' → Pre μ μ' → (∀ j, j ∉ as → σ'[j]? = σ[j]?) → D.ct σ' H'
  | .rt d => ∀ v G' H' μ', Ev E.G E.H E.μ G' H' μ' → WOk T G' H' μ' st' → Rp T.K G' μ' d v → D.rt v H'
def WS (T : Rt) (W : WX) (n : Nat) (E : EW) : Xc → Sto → Prop := fun c st' => ∀ σ' G' H' μ', σ'.length = n → Ev E.G E.H E.μ G' H' μ' → WOk T G' H' μ' st' → W (.ref (T.ca c)) none σ' H'
def RdS (T : Rt) (mu : List Nat) (n : Nat) (W : WX) (as : List Nat) (t : TS) (f : Env → MF) : Prop :=
  ∀ (E : EW) (ρ : Env) (σ : St) (G H : Hp) (μ : List Addr) (st : Sto) (D : Ends), Er T mu n E ρ σ G H μ st → Res (f ρ st) (EndsP T mu n E G μ σ as D) (WS T W n E) → t D σ H
theorem RdS.as {as : List Nat} {t : TS} {f g : Env → MF} (h : RdS T mu n W as t f) (e : ∀ ρ, g ρ = f ρ) : RdS T mu n W as t g := by
  rw [show g = f from funext e]
  exact h
section
variable {E : EW} {ρ : Env} {σ : St} {G H G' H' : Hp} {μ μ' : List Addr} {st st' : Sto}
theorem WS.wk {c : Xc} {s : Sto} (er : Er T mu n E ρ σ G H μ st) (h : WS T W n E c s) : WK T W G H μ σ c s := fun G' H' μ' e w => h σ G' H' μ' er.ls (er.en.trans e) w
/-- an expression first -/
theorem RdE.run {md : Nat} {t : TE} {f : Env → M D} {α : Type} {g : D → M α} {k : α → Sto → Prop} {Q : VK} (h : RdE T mu n W md t f) (er : Er T mu n E ρ σ G H μ st) (hres : Res (bnd (f ρ) g st) k (WS T W n E))
    (hq : ∀ d s1 v G1 H1 μ1, Ev G H μ G1 H1 μ1 → WOk T G1 H1 μ1 s1 → Po T md H G1 H1 μ1 d v → Res (g d s1) k (WS T W n E) → Q v H1) : t σ H Q :=
  h E ρ σ G H μ st Q er (hres.bnd.mono (fun d s1 h1 v G1 H1 μ1 e w p => hq d s1 v G1 H1 μ1 e w p h1) fun c s h => WS.wk er h)
theorem RdT.run {t : TT} {f : Env → M Bool} {α : Type} {g : Bool → M α} {k : α → Sto → Prop} {Q : Bool → Hp → Prop} (h : RdT T mu n W t f) (er : Er T mu n E ρ σ G H μ st) (hres : Res (bnd (f ρ) g st) k (WS T W n E))
    (hq : ∀ b s1 G1 H1 μ1, Ev G H μ G1 H1 μ1 → WOk T G1 H1 μ1 s1 → Res (g b s1) k (WS T W n E) → Q b H1) : t σ H Q :=
  h E ρ σ G H μ st Q er (hres.bnd.mono (fun d s1 h1 G1 H1 μ1 e w => hq d s1 G1 H1 μ1 e w h1) fun c s h => WS.wk er h)
/-! ### assignments -/
theorem rd_asg {md : Nat} {t : TE} {f : Env → M D} {tg : Tg} {g : TG} (h : RdE T mu n W 0 t f) (hg : RdG T mu n false tg g) : RdS T mu n W (slT tg) (tAsg t g) (fun ρ => bnd (f ρ) fun d => bnd (ofO (stT tg d ρ)) fun ρ1 => ret (.nx, ρ1)) := by
  intro E ρ σ G H μ st D er hres
  refine h.run er hres fun d s1 v G1 H1 μ1 e1 w1 p1 h1 => ?_
  cases q : stT tg d ρ with
  | none => rw [q] at h1; exact h1.elim
  | some ρ1 =>
    rw [q] at h1
    exact hg E ρ σ G1 H1 μ1 s1 d v ρ1 _ (er.ev e1 w1) (po_rp0 p1) q fun σ1 er1 _ s => h1 σ1 G1 H1 μ1 er1 e1.g e1.m s
/-- a slot gets a list of its own -/
theorem Er.own (er : Er T mu n E ρ σ G H μ st) {i : Nat} {d : D} {v : V} (hi : i ∈ mu) (r : Ow T.K E.H G H μ d v) (ha : isLst d = true → ∀ j, j ∈ mu → j ≠ i → ∀ e, ρ[j]? = some (some e) → isLst e = true → σ[j]? ≠ some (some v)) :
    Er T mu n E (ρ.set i (some d)) (σ.set i (some v)) G H μ st := by
  refine ⟨er.w, er.en, by rw [List.length_set]; exact er.lr, by rw [List.length_set]; exact er.ls, fun j e hj h => ?_, fun j e hj h => ?_, fun j l d1 d2 u hj hl hjl l1 l2 h1 h2 h3 h4 => ?_⟩
  · have q : j ≠ i := fun z => hj (z ▸ hi)
    rw [List.getElem?_set_ne fun z => q z.symm] at h
    obtain ⟨u, h1, h2⟩ := er.pl j e hj h
    exact ⟨u, by rw [List.getElem?_set_ne fun z => q z.symm]; exact h1, h2⟩
  · rcases get_set h with ⟨rfl, q, hl⟩ | ⟨q, h'⟩
    · cases q
      exact ⟨v, List.getElem?_set_self (by rw [er.ls, ← er.lr]; exact hl), r⟩
    · obtain ⟨u, h1, h2⟩ := er.ow j e hj h'
      exact ⟨u, by rw [List.getElem?_set_ne fun z => q z.symm]; exact h1, h2⟩
  · rcases get_set h1 with ⟨rfl, q, hlen⟩ | ⟨q, h1'⟩
    · cases q
      rcases get_set h2 with ⟨rfl, _, _⟩ | ⟨q', h2'⟩
      · exact hjl rfl
      · rw [List.getElem?_set_self (by rw [er.ls, ← er.lr]; exact hlen)] at h3
        cases h3
        rw [List.getElem?_set_ne fun z => q' z.symm] at h4
        exact ha l1 l hl q' d2 h2' l2 h4
    · rcases get_set h2 with ⟨rfl, q', hlen⟩ | ⟨q', h2'⟩
      · cases q'
        rw [List.getElem?_set_self (by rw [er.ls, ← er.lr]; exact hlen)] at h4
        cases h4
        rw [List.getElem?_set_ne fun z => q z.symm] at h3
        exact ha l2 j hj q d1 h1' l1 h3
      · rw [List.getElem?_set_ne fun z => q z.symm] at h3
        rw [List.getElem?_set_ne fun z => q' z.symm] at h4
        exact er.ap j l d1 d2 u hj hl hjl l1 l2 h1' h2' h3 h4
end
theorem rd_m {md : Nat} {t : TE} {f : Env → M D} {i : Nat} {p : P} (hi : i ∈ mu) (h : RdE T mu n W md t f) (hm : md ≤ 1) (hf : fresh p = true → md = 1) : RdS T mu n W [i] (tAsg t (gName i)) (fun ρ => bnd (f ρ) fun d => if fresh p || !isLst d then ret (.nx, ρ.set i (some d)) else bad) := by
  intro E ρ σ G H μ st D er hres
  refine h.run er hres fun d s1 v G1 H1 μ1 e1 w1 p1 h1 => ?_
  split at h1
  · rename_i hc
    have er1 := er.ev e1 w1
    have same : ∀ j, j ∉ [i] → (σ.set i (some v))[j]? = σ[j]? := fun j hj => List.getElem?_set_ne fun z => hj (by simp [z])
    by_cases hl : isLst d = true
    · have hfr : fresh p = true := by simpa [hl] using hc
      have := hf hfr
      subst this
      cases d with
      | lst ds =>
        obtain ⟨a, xs, rfl, q1, q2, q3, q4, q5⟩ := (show ∃ a xs, v = .ref a ∧ H a = none ∧ G1 a = none ∧ H1 a = some (.lst xs) ∧ xs.length ≤ LIM ∧ RpL T.K G1 μ1 ds xs from p1)
        have hEa : E.H a = none := by
          cases z : E.H a with
          | none => rfl
          | some o =>
            obtain ⟨o', z'⟩ := er.en.i a o z
            rw [q1] at z'
            cases z'
        refine h1 _ G1 H1 μ1 (er1.own hi ⟨a, xs, rfl, hEa, q2, q3, q4, q5⟩ fun _ j hj hji e he le hs => ?_) e1.g e1.m same
        obtain ⟨u, u1, u2⟩ := er.ow j e hj he
        rw [hs] at u1
        cases u1
        cases e with
        | lst es =>
          obtain ⟨a', xs', z1, _, _, z2, _⟩ := (show ∃ a' xs', V.ref a = .ref a' ∧ E.H a' = none ∧ G a' = none ∧ H a' = some (.lst xs') ∧ xs'.length ≤ LIM ∧ RpL T.K G μ es xs' from u2)
          cases z1
          rw [q1] at z2
          cases z2
        | _ => cases le
      | _ => cases hl
    · have hl' : isLst d = false := by simpa using hl
      refine h1 _ G1 H1 μ1 (er1.own hi ?_ fun z => absurd z hl) e1.g e1.m same
      have r := p1.plain hl'
      cases d <;> first | exact r | cases hl'
  · exact h1.elim
/-! ### a slot's own list changed -/
theorem Er.chg {E : EW} {ρ : Env} {σ : St} {G H : Hp} {μ : List Addr} {st : Sto} (er : Er T mu n E ρ σ G H μ st) {i : Nat} {ds ds' : List D} {ys : List V} {l : Addr} {xs : List V} (hi : i ∈ mu) (hr : ρ[i]? = some (some (.lst ds))) (hs : σ[i]? = some (some (.ref l))) (hH : H l = some (.lst xs)) (hz : ys.length ≤ LIM) (r : RpL T.K G μ ds' ys) :
    Er T mu n E (ρ.set i (some (.lst ds'))) σ G (upd H l (.lst ys)) μ st := by
  obtain ⟨v, v1, v2⟩ := er.ow i _ hi hr
  rw [hs] at v1
  cases v1
  obtain ⟨a, zs, z1, z2, z3, z4, z5, z6⟩ := (show ∃ a zs, V.ref l = .ref a ∧ E.H a = none ∧ G a = none ∧ H a = some (.lst zs) ∧ zs.length ≤ LIM ∧ RpL T.K G μ ds zs from v2)
  cases z1
  obtain ⟨e, w⟩ := chg_lst (ys := ys) er.en er.w z2 z3 hH
  have hlen : i < ρ.length := (List.getElem?_eq_some_iff.mp hr).1
  refine ⟨w, e, by rw [List.length_set]; exact er.lr, er.ls, fun j d hj h => ?_, fun j d hj h => ?_, fun j k d1 d2 u hj hk hjk l1 l2 h1 h2 h3 h4 => ?_⟩
  · have q : j ≠ i := fun z => hj (z ▸ hi)
    rw [List.getElem?_set_ne fun z => q z.symm] at h
    exact er.pl j d hj h
  · rcases get_set h with ⟨rfl, q, _⟩ | ⟨q, h'⟩
    · cases q
      exact ⟨_, hs, l, ys, rfl, z2, z3, upd_same, hz, r⟩
    · obtain ⟨u, u1, u2⟩ := er.ow j d hj h'
      refine ⟨u, u1, ?_⟩
      cases d with
      | lst es =>
        obtain ⟨a', xs', y1, y2, y3, y4, y5, y6⟩ := (show ∃ a' xs', u = .ref a' ∧ E.H a' = none ∧ G a' = none ∧ H a' = some (.lst xs') ∧ xs'.length ≤ LIM ∧ RpL T.K G μ es xs' from u2)
        subst y1
        have ne : a' ≠ l := fun z => by
          subst z
          exact er.ap j i _ _ _ hj hi q rfl rfl h' hr u1 hs
        exact ⟨a', xs', rfl, y2, y3, by rw [upd_ne ne]; exact y4, y5, y6⟩
      | _ => exact u2
  · have key : ∀ {j : Nat} {d : D}, (ρ.set i (some (.lst ds')))[j]? = some (some d) → isLst d = true → ∃ d', ρ[j]? = some (some d') ∧ isLst d' = true := by
      intro j d h hd
      rcases get_set h with ⟨rfl, _, _⟩ | ⟨_, h'⟩
      · exact ⟨_, hr, rfl⟩
      · exact ⟨d, h', hd⟩
    obtain ⟨d1', k1, k2⟩ := key h1 l1
    obtain ⟨d2', k3, k4⟩ := key h2 l2
    exact er.ap j k d1' d2' u hj hk hjk k2 k4 k1 k3 h3 h4
theorem chg_ok {i : Nat} {f : List D → Option (List D)} {ρ : Env} {s : Sto} {k : Fl × Env → Sto → Prop} {x : Xc → Sto → Prop} (h : Res (chg i f ρ s) k x) : ∃ ds ys, ρ[i]? = some (some (.lst ds)) ∧ f ds = some ys ∧ k (.nx, ρ.set i (some (.lst ys))) s := by
  unfold BX.chg at h
  cases e : ρ[i]? with
  | none => rw [e] at h; exact h.elim
  | some o =>
    rw [e] at h
    cases o with
    | none => exact h.elim
    | some d =>
      cases d with
      | lst ds =>
        cases e' : f ds with
        | none =>
          simp only [e'] at h
          exact h.elim
        | some ys =>
          simp only [e'] at h
          exact ⟨ds, ys, rfl, e', h⟩
      | _ => exact h.elim
theorem Er.lst {E : EW} {ρ : Env} {σ : St} {G H : Hp} {μ : List Addr} {st : Sto} (er : Er T mu n E ρ σ G H μ st) {i : Nat} {ds : List D} (hi : i ∈ mu) (h : ρ[i]? = some (some (.lst ds))) : ∃ a xs, σ[i]? = some (some (.ref a)) ∧ H a = some (.lst xs) ∧ xs.length ≤ LIM ∧ RpL T.K G μ ds xs := by
  obtain ⟨v, v1, v2⟩ := er.ow i _ hi h
  obtain ⟨a, zs, z1, z2, z3, z4, z5, z6⟩ := (show ∃ a zs, v = .ref a ∧ E.H a = none ∧ G a = none ∧ H a = some (.lst zs) ∧ zs.length ≤ LIM ∧ RpL T.K G μ ds zs from v2)
  subst z1
  exact ⟨a, zs, v1, z4, z5, z6⟩
theorem lsM_ok {α : Type} {i : Nat} {ρ : Env} {g : Unit → M α} {s : Sto} {k : α → Sto → Prop} {x : Xc → Sto → Prop} (h : Res (bnd (lsM i ρ) g s) k x) : (∃ ds, ρ[i]? = some (some (.lst ds))) ∧ Res (g () s) k x := by
  unfold lsM at h
  split at h
  · rename_i ds e
    exact ⟨⟨ds, e⟩, h⟩
  · exact h.elim
/-- o.m(e), o a slot with a list of its own -/
theorem rd_chg {md : Nat} {t : TE} {f : Env → M D} {i : Nat} {r : V → List V → Hp → VK → Prop} {g : D → List D → Option (List D)} (hi : i ∈ mu) (h : RdE T mu n W md t f)
    (hr : ∀ (H0 G H : Hp) (μ : List Addr) (st : Sto) (d : D) (v : V) (a : Addr) (ds ys : List D) (xs : List V) (Q : VK), WOk T G H μ st → Po T md H0 G H μ d v → H a = some (.lst xs) → xs.length ≤ LIM → RpL T.K G μ ds xs → g d ds = some ys →
      (∀ zs, zs.length ≤ LIM → RpL T.K G μ ys zs → Q .non (upd H a (.lst zs))) → r (.ref a) [v] H Q) :
    RdS T mu n W [] (tDrop (tBM T.K "list" r (tVar i) (tCons t tNil))) (fun ρ => bnd (lsM i ρ) fun _ => bnd (f ρ) fun d => BX.chg i (g d) ρ) := by
  intro E ρ σ G H μ st D er hres
  obtain ⟨⟨ds, hd⟩, hres⟩ := lsM_ok hres
  obtain ⟨a, xs, q1, q2, q3, q4⟩ := er.lst hi hd
  refine ⟨.ref a, q1, .inl ⟨rfl, xs, .inl (.inl q2)⟩, ?_⟩
  refine h.run er hres fun d s1 v G1 H1 μ1 e1 w1 p1 h1 => ?_
  obtain ⟨ds', ys, k1, k2, k3⟩ := chg_ok h1
  rw [hd] at k1
  cases k1
  have er1 := er.ev e1 w1
  have q2' := e1.h _ _ q2 rfl
  have q4' := e1.rpl q4
  exact hr H G1 H1 μ1 s1 d v a ds ys xs _ w1 p1 q2' q3 q4' k2 fun zs z1 z2 => k3 σ G1 _ μ1 (er1.chg hi hd q1 q2' z1 z2) e1.g e1.m fun _ _ => rfl
theorem r_app {H0 G H : Hp} {μ : List Addr} {d : D} {v : V} {a : Addr} {ds ys : List D} {xs : List V} {Q : VK} (p : Po T 0 H0 G H μ d v) (hH : H a = some (.lst xs)) (hl : xs.length ≤ LIM) (hx : RpL T.K G μ ds xs) (e : appD d ds = some ys)
    (q : ∀ zs, zs.length ≤ LIM → RpL T.K G μ ys zs → Q .non (upd H a (.lst zs))) : rAppend (.ref a) [v] H Q := by
  unfold appD at e
  split at e
  · rename_i hz
    cases e
    rw [hx.length] at hz
    exact ⟨a, xs, v, rfl, rfl, hH, by rw [limS]; exact hz, q _ (by rw [List.length_append, List.length_singleton]; exact hz) (hx.append (RpL.one (po_rp0 p)))⟩
  · cases e
theorem r_ext {H0 G H : Hp} {μ : List Addr} {md : Nat} {st : Sto} {d : D} {v : V} {a : Addr} {ds ys : List D} {xs : List V} {Q : VK} (w : WOk T G H μ st) (p : Po T md H0 G H μ d v) (hH : H a = some (.lst xs)) (hl : xs.length ≤ LIM) (hx : RpL T.K G μ ds xs) (e : extD d ds = some ys)
    (q : ∀ zs, zs.length ≤ LIM → RpL T.K G μ ys zs → Q .non (upd H a (.lst zs))) : rExtend (.ref a) [v] H Q := by
  cases d with
  | lst es =>
    obtain ⟨b, zs, rfl, h1, h2, h3⟩ := po_lst (p.two w.gh)
    simp only [extD] at e
    split at e
    · rename_i hz
      cases e
      rw [hx.length, h3.length] at hz
      exact ⟨a, b, xs, zs, rfl, rfl, hH, h1, by rw [limS]; exact hz, q _ (by rw [List.length_append]; exact hz) (hx.append h3)⟩
    · cases e
  | _ => simp [extD] at e
/-! ### remove -/
def rRemD (K : PySem.W.Frag) : V → List V → Hp → VK → Prop := fun x vs H Q => ∃ (a : Addr) (xs : List V) (y : V) (ps : List PyData) (d : PyData) (j : Nat), x = .ref a ∧ vs = [y] ∧ H a = some (.lst xs) ∧ DpAll K H xs ps ∧ Dp K H y d ∧ SeqAt.shaped (.list ps) = true ∧ SeqAt.shaped d = true ∧
  dataPlace ps d = some j ∧ Q .non (upd H a (.lst (xs.eraseIdx j)))
theorem p_remD {X : Cx} (hu : X.A.units + 65 < cLine) : MtM X "list.remove" (rRemD X.K) := by
  intro pins s σ H x vs v us Q I rx rv h
  obtain ⟨a, xs, y, ps, d, j, rfl, rfl, hH, hp, hd, s1, s2, hj, q⟩ := h
  cases rx
  obtain ⟨u, rfl, ru⟩ := rv.one
  obtain ⟨z, its, n, r, hl, e⟩ := I.lstM hH
  obtain ⟨as, h4⟩ := Dp.readsAll I ps _ its hp r
  obtain ⟨bs, r1⟩ := Dp.reads I d y u hd ru
  have hpl : PyData.plainAll ps = true := by
    have := PyData.plain_of_canLay0 _ (SeqAt.canLay_of_shaped s1)
    simpa only [PyData.plain] using this
  refine remove_list_data (vs := its.toArray) (j := j) ⟨_, e, rfl, n, rfl⟩ (show ReadsAll s.heap its.toArray.toList ps as from h4) r1 hpl (PyData.plain_of_canLay0 _ (SeqAt.canLay_of_shaped s2)) (room_in_shaped s2 hu) hj (by rw [List.size_toArray, ← hl]; exact z) ?_
  refine ⟨.non, _, I.lset (its' := its.eraseIdx j) (t' := s.toks) hH e (by show its.toArray.eraseIdxIfInBounds j = _; rw [List.eraseIdxIfInBounds_toArray]) (r.eraseIdx j) ?_, rfl, q⟩
  have := len_erase xs j
  omega
theorem r_rem {H0 G H : Hp} {μ : List Addr} {md : Nat} {st : Sto} {d : D} {v : V} {a : Addr} {ds ys : List D} {xs : List V} {Q : VK} (w : WOk T G H μ st) (p : Po T md H0 G H μ d v) (hH : H a = some (.lst xs)) (hl : xs.length ≤ LIM) (hx : RpL T.K G μ ds xs) (e : remD d ds = some ys)
    (q : ∀ zs, zs.length ≤ LIM → RpL T.K G μ ys zs → Q .non (upd H a (.lst zs))) : rRemD T.K (.ref a) [v] H Q := by
  unfold remD at e
  split at e
  · rename_i hc
    rw [Bool.and_eq_true] at hc
    cases k : fstIx d ds 0 with
    | none => rw [k] at e; cases e
    | some j =>
      rw [k] at e
      cases e
      obtain ⟨q1, q2, q3⟩ := dps_of w.gh 60 ds xs hc.2 hx
      obtain ⟨d1, s1⟩ := po_dp' w.gh (p.two w.gh) hc.1
      have hj := fst_place hc.1 ds 0 j hc.2 k
      rw [Nat.sub_zero] at hj
      exact ⟨a, xs, v, toPyL ds, toPy d, j, rfl, rfl, hH, q1, d1, shaped_mk (n := 61) (by simpa [PyData.canLay0] using q2) (by simp [PyData.depth]; omega) (by decide), s1, hj, q _ (Nat.le_trans (len_erase xs j) hl) (hx.eraseIdx j)⟩
  · cases e
end BX

set_option Elab.async false
set_option linter.all false
set_option maxRecDepth 100000
/-! BS15: statements that hold others. -/
namespace BX
open PySem PySem.Spec PyProof.Rows L2
variable {T : Rt} {mu : List Nat} {n : Nat} {W : WX}
section
variable {E : EW} {ρ : Env} {σ : St} {G H : Hp} {μ : List Addr} {st : Sto}
/-- x[k] = v, x a slot with a list of its own -/
theorem rd_ixs {md : Nat} {t u : TE} {f g : Env → M D} {i : Nat} (hi : i ∈ mu) (h : RdE T mu n W 0 t f) (h' : RdE T mu n W md u g) : RdS T mu n W [] (tAsg t (gSub (tVar i) u rSetL)) (fun ρ => bnd (f ρ) fun d => bnd (lsM i ρ) fun _ => bnd (g ρ) fun z => bnd (asI z) fun k => BX.chg i (setD k d) ρ) := by
  intro E ρ σ G H μ st D er hres
  refine h.run er hres fun d s1 v G1 H1 μ1 e1 w1 p1 h1 => ?_
  have er1 := er.ev e1 w1
  obtain ⟨⟨ds, hd⟩, h1⟩ := lsM_ok h1
  obtain ⟨a, xs, q1, q2, q3, q4⟩ := er1.lst hi hd
  refine ⟨.ref a, q1, ?_⟩
  refine h'.run er1 h1 fun z s2 vz G2 H2 μ2 e2 w2 p2 h2 => ?_
  obtain ⟨k, rfl, h3⟩ := asI_bnd h2
  obtain ⟨ds', ys, k1, k2, k3⟩ := chg_ok h3
  rw [hd] at k1
  cases k1
  unfold setD at k2
  cases e : BX.ixN ds.length k with
  | none => rw [e] at k2; cases k2
  | some j =>
    rw [e] at k2
    cases k2
    have er2 := er1.ev e2 w2
    have q2' := e2.h _ _ q2 rfl
    have q4' := e2.rpl q4
    rw [q4.length] at e
    exact ⟨a, xs, k, j, rfl, po_int p2, q2', e, k3 σ G2 _ μ2 (er2.chg hi hd q1 q2' (by rw [List.length_set]; exact q3) (q4'.set j (e2.rp (po_rp0 p1)))) (e1.g.trans e2.g) (e1.m.trans e2.m) fun _ _ => rfl⟩
/-- a slot's own list moved to a slot of its own right: it stands from now on -/
theorem Er.frz1 (er : Er T mu n E ρ σ G H μ st) {j : Nat} {ds : List D} (hj : j ∈ mu) (h : ρ[j]? = some (some (.lst ds))) : ∃ G' v, Sub G G' ∧ σ[j]? = some (some v) ∧ Rp T.K G' μ (.lst ds) v ∧ Er T mu n E (ρ.set j none) (σ.set j none) G' H μ st := by
  obtain ⟨v, v1, v2⟩ := er.ow j _ hj h
  obtain ⟨a, xs, rfl, z2, z3, z4, z5, z6⟩ := (show ∃ a zs, v = .ref a ∧ E.H a = none ∧ G a = none ∧ H a = some (.lst zs) ∧ zs.length ≤ LIM ∧ RpL T.K G μ ds zs from v2)
  obtain ⟨e', w', sub⟩ := er.en.freeze er.w z2 z3 z4
  refine ⟨_, .ref a, sub, v1, ?_, ?_⟩
  · simp only [Rp]
    exact ⟨a, xs, rfl, upd_same, z5, RpL.mono sub (Pre.refl _) ds xs z6⟩
  · have er0 := er.drop j
    refine ⟨w', e', er0.lr, er0.ls, fun i d hi hr => ?_, fun i d hi hr => ?_, er0.ap⟩
    · obtain ⟨u, u1, u2⟩ := er0.pl i d hi hr
      exact ⟨u, u1, Rp.mono sub (Pre.refl _) _ _ u2⟩
    · rcases get_set hr with ⟨_, q, _⟩ | ⟨q, hr'⟩
      · cases q
      · obtain ⟨u, u1, u2⟩ := er.ow i d hi hr'
        refine ⟨u, by rw [List.getElem?_set_ne fun z => q z.symm]; exact u1, ?_⟩
        cases d with
        | lst es =>
          obtain ⟨b, ys, rfl, y2, y3, y4, y5, y6⟩ := (show ∃ a zs, u = .ref a ∧ E.H a = none ∧ G a = none ∧ H a = some (.lst zs) ∧ zs.length ≤ LIM ∧ RpL T.K G μ es zs from u2)
          have ne : b ≠ a := fun z => by
            subst z
            exact er.ap i j _ _ _ hi hj q rfl rfl hr' h u1 v1
          exact ⟨b, ys, rfl, y2, by rw [upd_ne ne]; exact y3, y4, y5, RpL.mono sub (Pre.refl _) es ys y6⟩
        | _ => exact Rp.mono sub (Pre.refl _) _ _ u2
theorem wrong {P : Prop} (h : False) : P := h.elim
/-- all slots' own lists stand from now on -/
theorem Er.frz : ∀ (l : List Nat) {mu : List Nat} {G : Hp}, Er T mu n E ρ σ G H μ st → (∀ i ∈ mu, i ∈ l) → ∃ G', Sub G G' ∧ Er T [] n E ρ σ G' H μ st
  | [], mu, G, er, hm => by
    have : mu = [] := List.eq_nil_iff_forall_not_mem.mpr fun a ha => by have := hm a ha; cases this
    subst this
    exact ⟨G, Sub.refl _, er⟩
  | j :: l, mu, G, er, hm => by
    have step : ∃ G', Sub G G' ∧ Er T (mu.filter fun i => decide (i ≠ j)) n E ρ σ G' H μ st := by
      by_cases hj : j ∈ mu
      · by_cases hd : ∃ ds, ρ[j]? = some (some (.lst ds))
        · obtain ⟨ds, hd⟩ := hd
          obtain ⟨G', v, sub, v1, v2, er'⟩ := er.frz1 hj hd
          refine ⟨G', sub, er'.w, er'.en, er.lr, er.ls, fun i d hi hr => ?_, fun i d hi hr => ?_, fun i k d1 d2 u hi hk hik l1 l2 h1 h2 h3 h4 => ?_⟩
          · by_cases e : i = j
            · subst e
              rw [hd] at hr
              cases hr
              exact ⟨v, v1, v2⟩
            · have him : i ∉ mu := fun z => hi (List.mem_filter.mpr ⟨z, by simpa using e⟩)
              obtain ⟨u, u1, u2⟩ := er'.pl i d him (by rw [List.getElem?_set_ne fun z => e z.symm]; exact hr)
              exact ⟨u, by rw [List.getElem?_set_ne fun z => e z.symm] at u1; exact u1, u2⟩
          · obtain ⟨him, e⟩ := List.mem_filter.mp hi
            have e : i ≠ j := by simpa using e
            obtain ⟨u, u1, u2⟩ := er'.ow i d him (by rw [List.getElem?_set_ne fun z => e z.symm]; exact hr)
            exact ⟨u, by rw [List.getElem?_set_ne fun z => e z.symm] at u1; exact u1, u2⟩
          · exact er.ap i k d1 d2 u (List.mem_filter.mp hi).1 (List.mem_filter.mp hk).1 hik l1 l2 h1 h2 h3 h4
        · refine ⟨G, Sub.refl _, er.w, er.en, er.lr, er.ls, fun i d hi hr => ?_, fun i d hi hr => er.ow i d (List.mem_filter.mp hi).1 hr, fun i k d1 d2 u hi hk hik l1 l2 h1 h2 h3 h4 => er.ap i k d1 d2 u (List.mem_filter.mp hi).1 (List.mem_filter.mp hk).1 hik l1 l2 h1 h2 h3 h4⟩
          by_cases him : i ∈ mu
          · have e : i = j := Classical.byContradiction fun z => hi (List.mem_filter.mpr ⟨him, by simpa using z⟩)
            subst e
            obtain ⟨u, u1, u2⟩ := er.ow i d him hr
            refine ⟨u, u1, ?_⟩
            cases d with
            | lst ds => exact absurd ⟨ds, hr⟩ hd
            | _ => exact u2
          · exact er.pl i d him hr
      · have e : (mu.filter fun i => decide (i ≠ j)) = mu := List.filter_eq_self.mpr fun i hi => by
          have : i ≠ j := fun z => hj (z ▸ hi)
          simpa using this
        rw [e]
        exact ⟨G, Sub.refl _, er⟩
    obtain ⟨G1, s1, er1⟩ := step
    obtain ⟨G2, s2, er2⟩ := Er.frz l er1 fun i hi => by
      obtain ⟨h1, h2⟩ := List.mem_filter.mp hi
      have h2 : i ≠ j := by simpa using h2
      exact (List.mem_cons.mp (hm i h1)).elim (fun z => absurd z h2) id
    exact ⟨G2, s1.trans s2, er2⟩
end
theorem rd_mv {i j : Nat} (hj : j ∈ mu) (hi : i ∉ mu) : RdS T mu n W [i, j] (tAsg (tVar j) (gName i)) (fun ρ => bnd (getV j ρ) fun d => ret (.nx, (ρ.set j none).set i (some d))) := by
  intro E ρ σ G H μ st D er hres
  cases e : ρ[j]? with
  | none =>
    unfold getV at hres
    simp only [e] at hres
    exact hres.elim
  | some o =>
    cases o with
    | none =>
      unfold getV at hres
      simp only [e] at hres
      exact hres.elim
    | some d =>
      have hg : getV j ρ = ret d := by unfold getV; rw [e]
      rw [show (fun ρ => bnd (getV j ρ) fun d => ret (Fl.nx, (ρ.set j none).set i (some d))) ρ = ret (.nx, (ρ.set j none).set i (some d)) from by show bnd (getV j ρ) _ = _; rw [hg]; rfl] at hres
      by_cases hl : ∃ ds, d = .lst ds
      · obtain ⟨ds, rfl⟩ := hl
        obtain ⟨G', v, sub, v1, v2, er'⟩ := er.frz1 hj e
        refine ⟨v, v1, ?_⟩
        have er2 := er'.set hi v2
        -- the slot j still holds the list; nothing is known of it
        have er3 : Er T mu n E ((ρ.set j none).set i (some (.lst ds))) (σ.set i (some v)) G' H μ st := by
          refine ⟨er2.w, er2.en, er2.lr, by rw [List.length_set]; exact er.ls, fun k d hk hr => ?_, fun k d hk hr => ?_, fun k l d1 d2 u hk hl hkl l1 l2 h1 h2 h3 h4 => ?_⟩
          · obtain ⟨u, u1, u2⟩ := er2.pl k d hk hr
            refine ⟨u, ?_, u2⟩
            by_cases ki : k = i
            · subst ki
              rw [List.getElem?_set] at u1 ⊢
              simpa using u1
            · rw [List.getElem?_set_ne fun z => ki z.symm] at u1 ⊢
              rcases get_set u1 with ⟨_, q, _⟩ | ⟨_, q⟩
              · cases q
              · exact q
          · obtain ⟨u, u1, u2⟩ := er2.ow k d hk hr
            refine ⟨u, ?_, u2⟩
            have ki : k ≠ i := fun z => hi (z ▸ hk)
            rw [List.getElem?_set_ne fun z => ki z.symm] at u1 ⊢
            rcases get_set u1 with ⟨_, q, _⟩ | ⟨_, q⟩
            · cases q
            · exact q
          · have ki : k ≠ i := fun z => hi (z ▸ hk)
            have li : l ≠ i := fun z => hi (z ▸ hl)
            rw [List.getElem?_set_ne fun z => ki z.symm] at h1 h3
            rw [List.getElem?_set_ne fun z => li z.symm] at h2 h4
            rcases get_set h1 with ⟨_, q, _⟩ | ⟨_, h1'⟩
            · cases q
            rcases get_set h2 with ⟨_, q, _⟩ | ⟨_, h2'⟩
            · cases q
            exact er.ap k l d1 d2 u hk hl hkl l1 l2 h1' h2' h3 h4
        exact hres _ G' H μ er3 sub (Pre.refl _) fun k hk => List.getElem?_set_ne fun z => hk (by simp [z])
      · obtain ⟨v, v1, v2⟩ := er.ow j d hj e
        have v2' : Rp T.K G μ d v := by cases d <;> first | exact v2 | exact absurd ⟨_, rfl⟩ hl
        refine ⟨v, v1, ?_⟩
        have er2 := er.set hi v2'
        have er3 : Er T mu n E ((ρ.set j none).set i (some d)) (σ.set i (some v)) G H μ st := by
          have key : ∀ {k : Nat} {d' : BX.D}, ((ρ.set j none).set i (some d))[k]? = some (some d') → (ρ.set i (some d))[k]? = some (some d') := by
            intro k d' h
            rcases get_set h with ⟨rfl, q, hl⟩ | ⟨q, h'⟩
            · cases q
              rw [List.length_set] at hl
              exact List.getElem?_set_self hl
            · rcases get_set h' with ⟨_, q', _⟩ | ⟨_, h''⟩
              · cases q'
              · rw [List.getElem?_set_ne fun z => q z.symm]
                exact h''
          exact ⟨er2.w, er2.en, by rw [List.length_set, List.length_set]; exact er.lr, er2.ls, fun k d hk hr => er2.pl k d hk (key hr), fun k d hk hr => er2.ow k d hk (key hr), fun k l d1 d2 u hk hl hkl l1 l2 h1 h2 h3 h4 => er2.ap k l d1 d2 u hk hl hkl l1 l2 (key h1) (key h2) h3 h4⟩
        exact hres _ G H μ er3 (Sub.refl _) (Pre.refl _) fun k hk => List.getElem?_set_ne fun z => hk (by simp [z])
/-! ### plain ones -/
theorem rd_drop {md : Nat} {t : TE} {f : Env → M D} (h : RdE T mu n W md t f) : RdS T mu n W [] (tDrop t) (fun ρ => bnd (f ρ) fun _ => ret (.nx, ρ)) := by
  intro E ρ σ G H μ st D er hres
  exact h.run er hres fun d s1 v G1 H1 μ1 e1 w1 p1 h1 => h1 σ G1 H1 μ1 (er.ev e1 w1) e1.g e1.m fun _ _ => rfl
theorem rd_next : RdS T mu n W [] tNext (fun ρ => ret (.nx, ρ)) := by
  intro E ρ σ G H μ st D er hres
  exact hres σ G H μ er (Sub.refl _) (Pre.refl _) fun _ _ => rfl
theorem rd_retN : RdS T mu n W [] tRetN (fun ρ => ret (.rt .non, ρ)) := by
  intro E ρ σ G H μ st D er hres
  exact hres .non G H μ er.en er.w rp_non
theorem rd_ret {md : Nat} {t : TE} {f : Env → M D} (h : RdE T [] n W md t f) (hm : md ≤ 1) : RdS T mu n W [] (tRet t) (fun ρ => bnd (f ρ) fun d => ret (.rt d, ρ)) := by
  intro E ρ σ G H μ st D er hres
  obtain ⟨G', sub, er'⟩ := er.frz mu fun i hi => hi
  refine (h.zero hm).run er' hres fun d s1 v G1 H1 μ1 e1 w1 p1 h1 => ?_
  exact h1 v G1 H1 μ1 (er'.en.trans e1) w1 (po_rp0 p1)
theorem EndsP.later {E : EW} {G G1 : Hp} {μ μ1 : List Addr} {σ σ1 : St} {as a1 : List Nat} {D : Ends} {q : Fl × Env} {s : Sto} (h : EndsP T mu n E G μ σ as D q s) (hs : Sub G G1) (hp : Pre μ μ1) (ha : ∀ j, j ∉ as → j ∉ a1 ∧ σ1[j]? = σ[j]?) : EndsP T mu n E G1 μ1 σ1 a1 D q s := by
  obtain ⟨fl, ρ1⟩ := q
  cases fl with
  | nx => exact fun σ' G' H' μ' e sub pre sm => h σ' G' H' μ' e (hs.trans sub) (hp.trans pre) fun j hj => (sm j (ha j hj).1).trans (ha j hj).2
  | bk => exact fun σ' G' H' μ' e sub pre sm => h σ' G' H' μ' e (hs.trans sub) (hp.trans pre) fun j hj => (sm j (ha j hj).1).trans (ha j hj).2
  | ct => exact fun σ' G' H' μ' e sub pre sm => h σ' G' H' μ' e (hs.trans sub) (hp.trans pre) fun j hj => (sm j (ha j hj).1).trans (ha j hj).2
  | rt d => exact h
theorem rd_if' {a1 a2 : List Nat} {tc : TT} {t u : TS} {c : Env → M Bool} {f g : Env → MF} (hc : RdT T mu n W tc c) (h : RdS T mu n W a1 t f) (h' : RdS T mu n W a2 u g) : RdS T mu n W (a1 ++ a2) (tIfS tc t u) (fun ρ => bnd (c ρ) fun k => if k then f ρ else g ρ) := by
  intro E ρ σ G H μ st D er hres
  refine hc.run er hres fun b s1 G1 H1 μ1 e1 w1 h1 => ?_
  have er1 := er.ev e1 w1
  cases b with
  | true => exact h E ρ σ G1 H1 μ1 s1 D er1 (Res.mono h1 (fun q s hq => EndsP.later hq e1.g e1.m fun j hj => ⟨fun z => hj (List.mem_append_left _ z), rfl⟩) fun _ _ x => x)
  | false => exact h' E ρ σ G1 H1 μ1 s1 D er1 (Res.mono h1 (fun q s hq => EndsP.later hq e1.g e1.m fun j hj => ⟨fun z => hj (List.mem_append_right _ z), rfl⟩) fun _ _ x => x)
theorem rd_seq {a1 a2 : List Nat} {t u : TS} {f g : Env → MF} (h : RdS T mu n W a1 t f) (h' : RdS T mu n W a2 u g) : RdS T mu n W (a1 ++ a2) (tSeq t u) (fun ρ => bnd (f ρ) fun q => match q.1 with
    | .nx => g q.2
    | x => ret (x, q.2)) := by
  intro E ρ σ G H μ st D er hres
  refine h E ρ σ G H μ st _ er (hres.bnd.mono (fun q s1 h1 => ?_) fun _ _ x => x)
  obtain ⟨fl, ρ1⟩ := q
  cases fl with
  | nx =>
    show ∀ σ' G' H' μ', Er T mu n E ρ1 σ' G' H' μ' s1 → Sub G G' → Pre μ μ' → (∀ j, j ∉ a1 → σ'[j]? = σ[j]?) → u D σ' H'
    intro σ1 G1 H1 μ1 er1 sub pre sm
    exact h' E ρ1 σ1 G1 H1 μ1 s1 D er1 (Res.mono h1 (fun q s hq => hq.later sub pre fun j hj => ⟨fun z => hj (List.mem_append_right _ z), sm j fun z => hj (List.mem_append_left _ z)⟩) fun _ _ x => x)
  | bk => exact (show EndsP T mu n E G μ σ (a1 ++ a2) D (.bk, ρ1) s1 from h1).later (Sub.refl _) (Pre.refl _) fun j hj => ⟨fun z => hj (List.mem_append_left _ z), rfl⟩
  | ct => exact (show EndsP T mu n E G μ σ (a1 ++ a2) D (.ct, ρ1) s1 from h1).later (Sub.refl _) (Pre.refl _) fun j hj => ⟨fun z => hj (List.mem_append_left _ z), rfl⟩
  | rt d => exact h1
/-! ### loops -/
/-- a turn's end: what the body leaves goes on with the loop -/
theorem turn_end {E : EW} {G0 G : Hp} {μ0 μ : List Addr} {σ0 σ : St} {as ab : List Nat} {D : Ends} {Nx : St → Hp → Prop} {loop : Env → MF} {body : MF} {st : Sto} (hab : ∀ j, j ∉ as → j ∉ ab) (hsub : Sub G0 G) (hpre : Pre μ0 μ) (hsm : ∀ j, j ∉ as → σ[j]? = σ0[j]?)
    (hN : ∀ ρ1 σ1 G1 H1 μ1 s1, Er T mu n E ρ1 σ1 G1 H1 μ1 s1 → Sub G G1 → Sub G0 G1 → Pre μ0 μ1 → Pre μ μ1 → (∀ j, j ∉ as → σ1[j]? = σ0[j]?) → (∀ j, j ∉ ab → σ1[j]? = σ[j]?) → Res (loop ρ1 s1) (EndsP T mu n E G0 μ0 σ0 as D) (WS T W n E) → Nx σ1 H1)
    (h : Res (bnd body (fun q => match q.1 with
      | .nx => loop q.2
      | .ct => loop q.2
      | .bk => ret (.nx, q.2)
      | .rt x => ret (.rt x, q.2)) st) (EndsP T mu n E G0 μ0 σ0 as D) (WS T W n E)) :
    Res (body st) (EndsP T mu n E G μ σ ab { D with nx := Nx, ct := Nx, bk := D.nx }) (WS T W n E) := by
  refine h.bnd.mono (fun q s1 h1 => ?_) fun _ _ x => x
  obtain ⟨fl, ρ1⟩ := q
  have go : Res (loop ρ1 s1) (EndsP T mu n E G0 μ0 σ0 as D) (WS T W n E) → ∀ σ' G' H' μ', Er T mu n E ρ1 σ' G' H' μ' s1 → Sub G G' → Pre μ μ' → (∀ j, j ∉ ab → σ'[j]? = σ[j]?) → Nx σ' H' := by
    intro h1 σ1 G1 H1 μ1 er1 sub pre sm
    exact hN ρ1 σ1 G1 H1 μ1 s1 er1 sub (hsub.trans sub) (hpre.trans pre) pre (fun j hj => (sm j (hab j hj)).trans (hsm j hj)) sm h1
  cases fl with
  | nx => exact go h1
  | ct => exact go h1
  | bk =>
    show ∀ σ' G' H' μ', Er T mu n E ρ1 σ' G' H' μ' s1 → Sub G G' → Pre μ μ' → (∀ j, j ∉ ab → σ'[j]? = σ[j]?) → D.nx σ' H'
    intro σ1 G1 H1 μ1 er1 sub pre sm
    exact (show EndsP T mu n E G0 μ0 σ0 as D (.nx, ρ1) s1 from h1) σ1 G1 H1 μ1 er1 (hsub.trans sub) (hpre.trans pre) fun j hj => (sm j (hab j hj)).trans (hsm j hj)
  | rt d => exact h1
theorem rd_for {z : Bool} {ab : List Nat} {wi : TI} {fi : Env → M (List D)} {tg : Tg} {g : TG} {tb : TS} {b : Env → MF} (hI : RdI T mu n W z true wi fi) (hg : RdG T mu n z tg g) (hb : RdS T mu n W ab tb b) : RdS T mu n W (slT tg ++ ab) (tFor wi g tb) (fun ρ => bnd (fi ρ) fun ds => forM tg b ds ρ) := by
  intro E ρ σ G H μ st D er hres
  refine hI E ρ σ G H μ st _ er (hres.bnd.mono (fun ds s1 h1 J G1 H1 μ1 e1 w1 wk => ?_) fun c s h => WS.wk er h)
  let as := slT tg ++ ab
  let P : Nat → St → Hp → Prop := fun i σ2 H2 => ∃ ρ2 G2 μ2 st2, Er T mu n E ρ2 σ2 G2 H2 μ2 st2 ∧ Sub G1 G2 ∧ Pre μ1 μ2 ∧ (∀ j, j ∉ as → σ2[j]? = σ[j]?) ∧ Res (forM tg b (ds.drop i) ρ2 st2) (EndsP T mu n E G μ σ as D) (WS T W n E)
  have wl : Walk J ds.length (fun H2 => ∃ G2 μ2 st2, (Sub G1 G2 ∧ Pre μ1 μ2) ∧ WOk T G2 H2 μ2 st2) (fun i H2 x H' => i < ds.length ∧ J.yld i H2 x H') :=
    ⟨fun i H2 hi ⟨G2, μ2, st2, c, w⟩ => (wk i G2 H2 μ2 st2 c w).1 hi, fun H2 ⟨G2, μ2, st2, c, w⟩ => (wk ds.length G2 H2 μ2 st2 c w).2.1 rfl, fun i H2 x H' hi _ y => ⟨hi, y⟩⟩
  refine for_it wl P ⟨ρ, G1, μ1, s1, er.ev e1 w1, Sub.refl _, Pre.refl _, fun _ _ => rfl, h1⟩ (fun i σ2 H2 _ ⟨ρ2, G2, μ2, st2, e, s, p, _, _⟩ => ⟨G2, μ2, st2, ⟨s, p⟩, e.w⟩) (fun i x σ2 H2 H' hi p y => ?_) (fun σ2 H2 p => ?_)
  · obtain ⟨ρ2, G2, μ2, st2, er2, sub, pre, sm, hr⟩ := p
    obtain ⟨d, G3, hdi, c3, w3, rp⟩ := (wk i G2 H2 μ2 st2 ⟨sub, pre⟩ er2.w).2.2 x H' hi y.2
    have hdrop : ds.drop i = d :: ds.drop (i + 1) := by
      rw [List.drop_eq_getElem_cons hi]
      congr 1
      rw [List.getElem?_eq_getElem hi] at hdi
      exact Option.some.inj hdi
    rw [hdrop] at hr
    unfold forM at hr
    cases q : stT tg d ρ2 with
    | none =>
      simp only [q] at hr
      exact hr.elim
    | some ρ3 =>
      simp only [q] at hr
      have er3 := er2.ev c3 w3
      refine hg E ρ2 σ2 G3 H' μ2 st2 d x ρ3 _ er3 rp q fun σ3 er4 _ s4 => ?_
      have sm3 : ∀ j, j ∉ as → σ3[j]? = σ[j]? := fun j hj => (s4 j fun z => hj (List.mem_append_left _ z)).trans (sm j hj)
      refine hb E ρ3 σ3 G3 H' μ2 st2 _ er4 (turn_end (as := as) (fun j hj z => hj (List.mem_append_right _ z)) (e1.g.trans (sub.trans c3.g)) (e1.m.trans pre) sm3 (fun ρ5 σ5 G5 H5 μ5 s5 er5 k1 k2 k3 k4 k5 _ k6 => ?_) hr)
      exact ⟨ρ5, G5, μ5, s5, er5, (sub.trans c3.g).trans k1, pre.trans k4, k5, k6⟩
  · obtain ⟨ρ2, G2, μ2, st2, er2, sub, pre, sm, hr⟩ := p
    rw [List.drop_length] at hr
    exact (show EndsP T mu n E G μ σ as D (.nx, ρ2) st2 from hr) σ2 G2 H2 μ2 er2 (e1.g.trans sub) (e1.m.trans pre) sm
theorem rd_while {ab : List Nat} {tc : TT} {c : Env → M Bool} {tb : TS} {b : Env → MF} (hc : RdT T mu n W tc c) (hb : RdS T mu n W ab tb b) : RdS T mu n W ab (tWhile tc tb) (fun ρ => whM c b FUEL ρ) := by
  intro E ρ σ G H μ st D er hres
  refine ⟨fun m σ2 H2 => ∃ ρ2 G2 μ2 st2, Er T mu n E ρ2 σ2 G2 H2 μ2 st2 ∧ Sub G G2 ∧ Pre μ μ2 ∧ (∀ j, j ∉ ab → σ2[j]? = σ[j]?) ∧ Res (whM c b m ρ2 st2) (EndsP T mu n E G μ σ ab D) (WS T W n E), ⟨FUEL, ρ, G, μ, st, er, Sub.refl _, Pre.refl _, fun _ _ => rfl, hres⟩, ?_⟩
  rintro m σ2 H2 ⟨ρ2, G2, μ2, st2, er2, sub, pre, sm, hr⟩
  cases m with
  | zero => exact hr.elim
  | succ m =>
    unfold whM at hr
    refine hc.run er2 hr fun k s1 G3 H3 μ3 e3 w3 h3 => ?_
    have er3 := er2.ev e3 w3
    cases k with
    | false =>
      rw [if_neg (by decide)]
      exact (show EndsP T mu n E G μ σ ab D (.nx, ρ2) s1 from h3) σ2 G3 H3 μ3 er3 (sub.trans e3.g) (pre.trans e3.m) sm
    | true =>
      rw [if_pos rfl]
      refine ⟨fun σ' H' => ∃ ρ2 G2 μ2 st2, Er T mu n E ρ2 σ' G2 H' μ2 st2 ∧ Sub G G2 ∧ Pre μ μ2 ∧ (∀ j, j ∉ ab → σ'[j]? = σ[j]?) ∧ Res (whM c b m ρ2 st2) (EndsP T mu n E G μ σ ab D) (WS T W n E), fun σ' H' q => ⟨m, Nat.lt_succ_self m, q⟩, ?_⟩
      refine hb E ρ2 σ2 G3 H3 μ3 s1 _ er3 (turn_end (as := ab) (fun j hj => hj) (sub.trans e3.g) (pre.trans e3.m) sm (fun ρ5 σ5 G5 H5 μ5 s5 er5 k1 k2 k3 k4 k5 _ k6 => ?_) h3)
      exact ⟨ρ5, G5, μ5, s5, er5, k2, k3, k5, k6⟩
theorem forS_ok {i : Nat} {tg : Tg} {b : Env → MF} {f j : Nat} {ρ : Env} {st : Sto} {k : Fl × Env → Sto → Prop} {x : Xc → Sto → Prop} (h : Res (forS i tg b f j ρ st) k x) :
    ∃ f' ds, f = f' + 1 ∧ ρ[i]? = some (some (.lst ds)) ∧ ((ds[j]? = none ∧ k (.nx, ρ) st) ∨ ∃ d ρ1, ds[j]? = some d ∧ stT tg d ρ = some ρ1 ∧ Res (bnd (b ρ1) (fun q => match q.1 with
          | .nx => forS i tg b f' (j + 1) q.2
          | .ct => forS i tg b f' (j + 1) q.2
          | .bk => ret (.nx, q.2)
          | .rt x => ret (.rt x, q.2)) st) k x) := by
  cases f with
  | zero => exact h.elim
  | succ f =>
    unfold forS at h
    cases e : ρ[i]? with
    | none => simp only [e] at h; exact h.elim
    | some o =>
      simp only [e] at h
      cases o with
      | none => exact h.elim
      | some dd =>
        cases dd with
        | lst ds =>
          refine ⟨f, ds, rfl, rfl, ?_⟩
          simp only at h
          cases e2 : ds[j]? with
          | none =>
            simp only [e2] at h
            exact .inl ⟨rfl, h⟩
          | some d =>
            simp only [e2] at h
            cases e3 : stT tg d ρ with
            | none => simp only [e3] at h; exact h.elim
            | some ρ1 =>
              simp only [e3] at h
              exact .inr ⟨d, ρ1, rfl, e3, h⟩
        | _ => exact h.elim
/-- a walk over a slot's own list -/
theorem rd_frm {ab : List Nat} {i F : Nat} {tg : Tg} {g : TG} {tb : TS} {b : Env → MF} (hi : i ∈ mu) (hg : RdG T mu n false tg g) (hb : RdS T mu n W ab tb b) (hia : i ∉ ab) (hit : i ∉ slT tg) : RdS T mu n W (slT tg ++ ab) (tFor (iList T.K (tVar i)) g tb) (fun ρ => forS i tg b F 0 ρ) := by
  intro E ρ σ G H μ st D er hres
  let as := slT tg ++ ab
  obtain ⟨f0, ds0, _, hd0, _⟩ := forS_ok hres
  obtain ⟨a, xs0, q1, q2, q3, q4⟩ := er.lst hi hd0
  refine ⟨.ref a, q1, a, rfl, ⟨xs0, .inl (.inl q2)⟩, ?_⟩
  refine ⟨fun j m σ2 H2 => ∃ ρ2 G2 μ2 st2, Er T mu n E ρ2 σ2 G2 H2 μ2 st2 ∧ Sub G G2 ∧ Pre μ μ2 ∧ (∀ j, j ∉ as → σ2[j]? = σ[j]?) ∧ σ2[i]? = some (some (.ref a)) ∧ Res (forS i tg b m j ρ2 st2) (EndsP T mu n E G μ σ as D) (WS T W n E), ⟨F, ρ, G, μ, st, er, Sub.refl _, Pre.refl _, fun _ _ => rfl, q1, hres⟩, ?_⟩
  rintro j m σ2 H2 ⟨ρ2, G2, μ2, st2, er2, sub, pre, sm, sa, hr⟩
  obtain ⟨m', ds, rfl, hd, hr⟩ := forS_ok hr
  obtain ⟨a', xs, k1, k2, k3, k4⟩ := er2.lst hi hd
  rw [sa] at k1
  cases k1
  have hlen := k4.length
  rcases hr with ⟨hj, hr⟩ | ⟨d, ρ3, hj, q, hr⟩
  · refine .inl ⟨⟨xs, .inl (.inl k2), ?_⟩, (show EndsP T mu n E G μ σ as D (.nx, ρ2) st2 from hr) σ2 G2 H2 μ2 er2 sub pre sm⟩
    have := List.getElem?_eq_none_iff.mp hj
    omega
  · obtain ⟨v, hv, rp⟩ := k4.get hj
    refine .inr ⟨⟨xs, v, .inl (.inl k2), hv⟩, fun σ' H' => ∃ ρ2 G2 μ2 st2, Er T mu n E ρ2 σ' G2 H' μ2 st2 ∧ Sub G G2 ∧ Pre μ μ2 ∧ (∀ j, j ∉ as → σ'[j]? = σ[j]?) ∧ σ'[i]? = some (some (.ref a)) ∧ Res (forS i tg b m' (j + 1) ρ2 st2) (EndsP T mu n E G μ σ as D) (WS T W n E), fun σ' H' q => ⟨m', Nat.lt_succ_self _, q⟩, fun x H' y => ?_⟩
    obtain ⟨rfl, hx⟩ := y
    have ex := hx xs (.inl (.inl k2))
    rw [hv] at ex
    cases ex
    refine hg E ρ2 σ2 G2 _ μ2 st2 d v ρ3 _ er2 rp q fun σ3 er4 _ s4 => ?_
    have sm3 : ∀ j, j ∉ as → σ3[j]? = σ[j]? := fun j hj => (s4 j fun z => hj (List.mem_append_left _ z)).trans (sm j hj)
    refine hb E ρ3 σ3 G2 _ μ2 st2 _ er4 (turn_end (as := as) (fun j hj z => hj (List.mem_append_right _ z)) sub pre sm3 (fun ρ5 σ5 G5 H5 μ5 s5 er5 k1 k2 k3 k4 k5 k7 k6 => ?_) hr)
    exact ⟨ρ5, G5, μ5, s5, er5, k2, k3, k5, ((k7 i hia).trans (s4 i hit)).trans sa, k6⟩
end BX

set_option Elab.async false
set_option linter.all false
set_option maxRecDepth 100000
/-! BO3: an attribute set. -/
namespace BX
open PySem PySem.Spec PyProof.Rows L2
variable {T : Rt} {mu : List Nat} {n : Nat} {W : WX}
theorem setF_ok {α : Type} {k : Nat} {d o : D} {g : Unit → M α} {s : Sto} {kk : α → Sto → Prop} {x : Xc → Sto → Prop} (h : Res (bnd (setF k d o) g s) kk x) : ∃ i ob, o = .obj i ∧ s[i]? = some ob ∧ Res (g () (s.set i { ob with fs := putFd k d ob.fs })) kk x := by
  have h := h.bnd
  cases o with
  | obj i =>
    unfold setF at h
    cases es : s[i]? with
    | none => simp only [es] at h; exact h.elim
    | some ob => simp only [es] at h; exact ⟨i, ob, rfl, es, h⟩
  | _ => exact h.elim
theorem set_ins {G H : Hp} {μ : List Addr} {st : Sto} (w : WOk T G H μ st) {i k : Nat} {ob : Ob} {a dx : Addr} {fs : List (Str × V)} {x : Str} {d : D} {v : V} (es : st[i]? = some ob) (ha : μ[i]? = some a) (hH : H a = some (.ins (T.co ob.cls) dx fs)) (hf : FsOk T.K G μ ob.fs fs) (hg : G a = none) (hx : AT[k]? = some x) (hv : Rp T.K G μ d v) :
    Ev G H μ G (upd H a (.ins (T.co ob.cls) dx (putF x v fs))) μ ∧ WOk T G (upd H a (.ins (T.co ob.cls) dx (putF x v fs))) μ (st.set i { ob with fs := putFd k d ob.fs }) := by
  have nb : ∀ b o, H b = some o → isIns o = false → b ≠ a := fun b o q c z => by
    subst z
    rw [hH] at q
    cases q
    cases c
  have hl := (List.getElem?_eq_some_iff.mp es).1
  refine ⟨⟨Sub.refl _, Pre.refl _, fun b o q c => by rw [upd_ne (nb b o q c)]; exact q, fun b o q => ?_, fun b q _ => q⟩, ⟨fun ob' hob => ?_, fun b o q => ?_, w.nd, by rw [List.length_set]; exact w.len, fun j b ob' h1 h2 => ?_⟩⟩
  · by_cases c : b = a
    · subst c; exact ⟨_, upd_same⟩
    · exact ⟨o, by rw [upd_ne c]; exact q⟩
  · rcases List.mem_or_eq_of_mem_set hob with z | z
    · exact w.so ob' z
    · rw [z]
      obtain ⟨o1, o2⟩ := w.so ob (List.mem_of_getElem? es)
      exact ⟨o1, putFd_nd o2⟩
  · have c : b ≠ a := fun z => by subst z; rw [hg] at q; cases q
    rw [upd_ne c]
    exact w.gh b o q
  · by_cases c : i = j
    · subst c
      rw [List.getElem?_set_self hl] at h1
      cases h1
      rw [ha] at h2
      cases h2
      exact ⟨hg, dx, _, upd_same, fs_put hx hv hf⟩
    · rw [List.getElem?_set_ne c] at h1
      obtain ⟨q1, dx', fs', q2, q3⟩ := w.obj j b ob' h1 h2
      have hb : b ≠ a := fun z => by
        subst z
        exact c (List.getElem?_inj (by rw [w.len]; exact hl) w.nd |>.mp (ha.trans h2.symm))
      exact ⟨q1, dx', fs', by rw [upd_ne hb]; exact q2, q3⟩
/-- o.x = v -/
theorem rd_sa {mo k : Nat} {x : Str} {tv to : TE} {f g : Env → M D} (hx : AT[k]? = some x) (h : RdE T mu n W 0 tv f) (ho : RdE T mu n W mo to g) : RdS T mu n W [] (sFld T.K to tv x) (fun ρ => bnd (f ρ) fun d => bnd (g ρ) fun o => bnd (setF k d o) fun _ => ret (.nx, ρ)) := by
  intro E ρ σ G H μ st D er hres
  refine h.run er hres fun d s1 v G1 H1 μ1 e1 w1 p1 h1 => ?_
  have er1 := er.ev e1 w1
  refine ho.run er1 h1 fun o s2 vo G2 H2 μ2 e2 w2 p2 h2 => ?_
  have er2 := er1.ev e2 w2
  obtain ⟨i, ob, rfl, es, h3⟩ := setF_ok h2
  obtain ⟨a, rfl, hma⟩ := po_obj p2
  obtain ⟨a', dx, fs, ha', g0, q1, q2, q3, q4⟩ := w_obj w2 es
  rw [hma] at ha'
  cases ha'
  obtain ⟨e3, w3⟩ := set_ins w2 es hma q1 q2 g0 hx (e2.rp (po_rp0 p1))
  exact ⟨a, _, dx, fs, rfl, q1, q3.cls, q3.no x (at_mem hx), fs_few q2 q4, h3 σ G2 _ μ2 (er2.ev e3 w3) (e1.g.trans e2.g) (e1.m.trans e2.m) fun _ _ => rfl⟩
end BX

set_option Elab.async false
set_option linter.all false
set_option maxRecDepth 100000
/-! BS16: the text against the syntax: statements. -/
namespace BX
open PySem PySem.Spec PyProof.Rows L2
def noLc : Expr → Bool
  | .ListComp .. => false
  | .SetComp .. => false
  | .DictComp .. => false
  | _ => true
def noTup : Expr → Bool
  | .Tuple .. => false
  | _ => true
theorem sw_no {e : Expr} (h : noLc e = true) (t : Option Expr) (l : Nat) (env : PySem.Env) : swapsWith e t l env = pure false := by
  cases e <;> first | rfl | (simp [noLc] at h; done)
theorem ss_name {e : Expr} {x : Str} {p : Pos} (env : PySem.Env) : swappedStores [.Name x p] e env = pure none := by
  cases e <;> rfl
theorem ss_tup {e : Expr} {ts : List Expr} {k : Nat} {p : Pos} (h : noTup e = true) (env : PySem.Env) : swappedStores [.Tuple ts k p] e env = pure none := by
  cases e <;> first | rfl | (simp [noTup] at h; done)
theorem ss_sub {e a b : Expr} {p : Pos} (env : PySem.Env) : swappedStores [.Subscript a b p] e env = pure none := by
  cases e <;> rfl
/-- whether a comprehension's list is bound within its block -/
def swB (sc scope : Scope) (t : Str) (p pos : Pos) : Bool := (decide (sc.names.lookup t = some .local) && (p.line == pos.line)) && !(scope.names.any fun (n, k) => n == t && (k == .local || k == .cell))
theorem sw_eq {elt : Expr} {gs : List Comprehension} {scope : Scope} {pos p : Pos} {t : Str} {l : Nat} {env : PySem.Env} (hk : env.scope.kind = .function) : swapsWith (.ListComp elt gs scope pos) (some (.Name t p)) l env = pure (swB env.scope scope t p pos) := by
  have hb : env.blockKind = .function := by unfold PySem.Env.blockKind; rw [hk]; rfl
  unfold swapsWith swB
  simp only [hb]
  have e : (env.kindOf t == some .local) = decide (env.scope.names.lookup t = some .local) := by
    show (env.scope.names.lookup t == some NameKind.local) = _
    cases env.scope.names.lookup t with
    | none => rfl
    | some k => cases k <;> rfl
  rw [e]
  rfl
theorem sws {t v : Expr} {l : Nat} {env : PySem.Env} {b : Bool} (h : swapsWith v (some t) l env = pure b) : swapsWithSole [t] v l env = pure b := h
/-! ### views -/
def vAsg : Stmt → Option (Expr × Expr × Pos)
  | .Assign [t] v p => some (t, v, p)
  | _ => none
def vEx : Stmt → Option (Expr × Pos)
  | .Expr e p => some (e, p)
  | _ => none
def vIfS : Stmt → Option (Expr × List Stmt × List Stmt)
  | .If c a b _ => some (c, a, b)
  | _ => none
def vFor : Stmt → Option (Expr × Expr × List Stmt)
  | .For t i b [] _ => some (t, i, b)
  | _ => none
def vWh : Stmt → Option (Expr × List Stmt)
  | .While c b [] _ => some (c, b)
  | _ => none
def vRet : Stmt → Option (Option Expr)
  | .Return e _ => some e
  | _ => none
def vRs : Stmt → Option Str
  | .Raise (some (.Call (.Name x _) [.Constant (.str _) _ _] [] _)) none _ => some x
  | _ => none
def vPs : Stmt → Bool
  | .Pass _ => true
  | _ => false
theorem vAsg_eq {s : Stmt} {q : Expr × Expr × Pos} (h : vAsg s = some q) : s = .Assign [q.1] q.2.1 q.2.2 := by
  unfold vAsg at h
  split at h
  · cases h; rfl
  · cases h
theorem vEx_eq {s : Stmt} {q : Expr × Pos} (h : vEx s = some q) : s = .Expr q.1 q.2 := by
  unfold vEx at h
  split at h
  · cases h; rfl
  · cases h
theorem vIfS_eq {s : Stmt} {q : Expr × List Stmt × List Stmt} (h : vIfS s = some q) : ∃ p, s = .If q.1 q.2.1 q.2.2 p := by
  unfold vIfS at h
  split at h
  · cases h; exact ⟨_, rfl⟩
  · cases h
theorem vFor_eq {s : Stmt} {q : Expr × Expr × List Stmt} (h : vFor s = some q) : ∃ p, s = .For q.1 q.2.1 q.2.2 [] p := by
  unfold vFor at h
  split at h
  · cases h; exact ⟨_, rfl⟩
  · cases h
theorem vWh_eq {s : Stmt} {q : Expr × List Stmt} (h : vWh s = some q) : ∃ p, s = .While q.1 q.2 [] p := by
  unfold vWh at h
  split at h
  · cases h; exact ⟨_, rfl⟩
  · cases h
theorem vRet_eq {s : Stmt} {q : Option Expr} (h : vRet s = some q) : ∃ p, s = .Return q p := by
  unfold vRet at h
  split at h
  · cases h; exact ⟨_, rfl⟩
  · cases h
theorem vRs_eq {s : Stmt} {x : Str} (h : vRs s = some x) : ∃ p1 m j p2 p3 p, s = .Raise (some (.Call (.Name x p1) [.Constant (.str m) j p2] [] p3)) none p := by
  unfold vRs at h
  split at h
  · cases h; exact ⟨_, _, _, _, _, _, rfl⟩
  · cases h
theorem vPs_eq {s : Stmt} (h : vPs s = true) : ∃ p, s = .Pass p := by
  unfold vPs at h
  split at h
  · exact ⟨_, rfl⟩
  · cases h
/-- x.m(e) -/
def mMet (C : MC) (i : Nat) (m : Str) (e : Expr) (f : Expr → Bool) : Bool := match vMet e with
  | some q => nthB C.N i q.1 && visB C.sc q.1 && dbB q.1 && decide (i ∈ C.mu) && (q.2.1 == m) && okE q.2.2.1 && q.2.2.2 && f q.2.2.1
  | none => false
def isCp : P → Bool
  | .cp .. => true
  | _ => false
/-! ### the text -/
def varB (N : List Str) (sc : Scope) (i : Nat) (e : Expr) : Bool := match vName e with
  | some u => nthB N i u && visB sc u && dbB u
  | none => false
def isXB (N : List Str) (sc : Scope) (i : Nat) (cn : Str) (e : Expr) : Bool := match vCall e with
  | some (x, [y, z]) => (x == "isinstance") && glB sc x && varB N sc i y && (match vName z with
    | some v => (v == cn) && glB sc v && dbB v
    | none => false)
  | _ => false
def lisB (N : List Str) (sc : Scope) (i : Nat) : List (Str × Xc) → List Expr → Bool
  | [], [] => true
  | p :: r, e :: es => isXB N sc i p.1 e && okE e && lisB N sc i r es
  | _, _ => false
def tgB (N : List Str) (sc : Scope) (i : Nat) (e : Expr) : Bool := match vName e with
  | some x => nthB N i x && decide (sc.names.lookup x = some .local)
  | none => false
def mcB (N : List Str) (sc : Scope) (m : Str) (e : Expr) : Bool := match vMet e with
  | some (x, m', y, rows) => nthB N 1 x && visB sc x && dbB x && (m' == m) && rows && (match vCst y with
    | some (.bool b) => b
    | _ => false)
  | none => false
def oneB (e : Expr) : Bool := match vCst e with
  | some (.int i) => decide (i = 1)
  | _ => false
def refStr (e : Expr) : Bool := match vCst e with
  | some (.str x) => decide (x = ⟨REF.toArray⟩)
  | _ => false
def tstRB (N : List Str) (sc : Scope) (e : Expr) : Bool := match vBool e with
  | some (o, [x, y]) => decide (o = .Or) && (match vCmp x with
      | some (l, [op], [r]) => decide (op = .NotEq) && mcB N sc "count" l && oneB r
      | _ => false) && (match vUn y with
      | some (o', z) => decide (o' = .Not) && isXB N sc 0 "ValueError" z
      | none => false)
  | _ => false
def retB1 (s : Stmt) : Bool := match vRet s with
  | some (some e) => (match vTup e with
    | some [p, q] => refStr p && (match vUn q with
      | some (o, z) => decide (o = .USub) && oneB z
      | none => false)
    | _ => false)
  | _ => false
def retB2 (N : List Str) (sc : Scope) (s : Stmt) : Bool := match vRet s with
  | some (some e) => (match vTup e with
    | some [p, q] => refStr p && mcB N sc "index" q
    | _ => false)
  | _ => false
def endRB (N : List Str) (sc : Scope) (s s' : Stmt) : Bool := (match vIfS s with
    | some (e, [r], []) => tstRB N sc e && retB1 r
    | _ => false) && retB2 N sc s'
def rfT (N : List Str) (sc : Scope) : List (List (Str × Xc)) → List Stmt → Bool
  | [], [s, s'] => endRB N sc s s'
  | ch :: r, s :: ss => (match vAsg s with
    | some (t, v, _) => tgB N sc 1 t && (match vBin v with
      | some (a, o, b) => decide (o = .Add) && varB N sc 1 a && (match vList b with
        | some es => lisB N sc 0 ch es
        | none => false)
      | none => false)
    | none => false) && rfT N sc r ss
  | _, _ => false
def rfB (N : List Str) (sc : Scope) : List (List (Str × Xc)) → List Stmt → Bool
  | ch :: r, s :: ss => (match vAsg s with
    | some (t, v, _) => tgB N sc 1 t && (match vList v with
        | some es => lisB N sc 0 ch es
        | none => false)
    | none => false) && rfT N sc r ss
  | _, _ => false
/-! ### try, an except suite -/
def vTry : Stmt → Option (List Stmt × Str × Str × Stmt)
  | .Try body [.ExceptHandler (some (.Name x _)) (some n) [s] _] [] [] _ => some (body, x, n, s)
  | _ => none
theorem vTry_eq {s : Stmt} {q : List Stmt × Str × Str × Stmt} (h : vTry s = some q) : ∃ p1 p2 p, s = .Try q.1 [.ExceptHandler (some (.Name q.2.1 p1)) (some q.2.2.1) [q.2.2.2] p2] [] [] p := by
  unfold vTry at h
  split at h
  · cases h; exact ⟨_, _, _, rfl⟩
  · cases h
def strB (s : List Nat) (e : Expr) : Bool := match vCst e with
  | some (.str x) => decide (x = ⟨s.toArray⟩) && decide (s.length ≤ LIM) && s.all (fun c => decide (c < 1114112))
  | _ => false
def hdB (C : MC) (h : Nat) : Hd → Stmt → Bool
  | .ref x _, s => (match vRet s with
    | some (some e) => (match vCall e with
      | some (y, [z]) => (y == x) && glB C.sc y && dbB y && varB C.N C.sc h z
      | _ => false)
    | _ => false)
  | .yes, s => (match vRet s with
    | some (some e) => isXB C.N C.sc h "ValueError" e
    | _ => false)
  | .two x _ a b, s => (match vRet s with
    | some (some e) => (match vIf e with
      | some (t, p, q) => isXB C.N C.sc h x t && strB a p && strB b q
      | _ => false)
    | _ => false)
def ndHd (al : List Xc) : Hd → List Nd
  | .ref x fl => [.xf al x fl]
  | .yes => []
  | .two x c _ _ => [.xt al x c]
mutual
def slS : S → List Nat
  | .a tg _ => slT tg
  | .m i _ => [i]
  | .mv i j => [i, j]
  | .iff _ b c => slB b ++ slB c
  | .fr tg _ b => slT tg ++ slB b
  | .frm _ tg b => slT tg ++ slB b
  | .wh _ b => slB b
  | .tr b _ _ _ h _ => h :: slB b
  | _ => []
def slB : SL → List Nat
  | .nil => []
  | .cons s ss => slS s ++ slB ss
end
mutual
def mS (C : MC) : S → Stmt → Bool
  | .a tg p, s => (match vAsg s with
    | some (t, v, _) => mT1 C tg t && okE v && mE C p v && decide (mdP C.mu p ≤ 1) && (match tg with
      | .one _ => noLc v || isCp p
      | .many _ => noLc v && noTup v)
    | none => false)
  | .m i p, s => (match vAsg s with
    | some (t, v, _) => (match vName t with
      | some x => nthB C.N i x && locB C x && decide (i ∈ C.mu) && okE v && mE C p v && decide (mdP C.mu p ≤ 1) && (!fresh p || decide (mdP C.mu p = 1)) && (noLc v || isCp p)
      | none => false)
    | none => false)
  | .mv i j, s => (match vAsg s with
    | some (t, v, _) => (match vName t, vName v with
      | some x, some y => nthB C.N i x && locB C x && !(decide (i ∈ C.mu)) && nthB C.N j y && visB C.sc y && dbB y && decide (j ∈ C.mu)
      | _, _ => false)
    | none => false)
  | .ap i p, s => (match vEx s with
    | some (e, _) => mMet C i "append" e fun y => mE C p y && decide (mdP C.mu p ≤ 1)
    | none => false)
  | .ext i p, s => (match vEx s with
    | some (e, _) => mMet C i "extend" e fun y => mE C p y
    | none => false)
  | .rm i p, s => (match vEx s with
    | some (e, _) => mMet C i "remove" e fun y => mE C p y
    | none => false)
  | .ixs i k p, s => (match vAsg s with
    | some (t, v, _) => (match vSub t with
      | some (a, b) => (match vName a with
        | some x => nthB C.N i x && visB C.sc x && dbB x && decide (i ∈ C.mu) && okE b && okE v && noLc v && mE C p v && decide (mdP C.mu p ≤ 1) && mE C k b
        | none => false)
      | none => false)
    | none => false)
  | .e p, s => (match vEx s with
    | some (e, _) => noLc e && okE e && mE C p e
    | none => false)
  | .iff t b c, s => (match vIfS s with
    | some (e, x, y) => mT C t e && mB C b x && mB C c y
    | none => false)
  | .fr tg it b, s => (match vFor s with
    | some (t, i, x) => mT1 C tg t && okE i && mI C it t i && fzI C.mu it && mB C b x
    | none => false)
  | .frm i tg b, s => (match vFor s with
    | some (t, e, x) => mT1 C tg t && (match vName e with
        | some y => nthB C.N i y && visB C.sc y && dbB y && decide (i ∈ C.mu)
        | none => false) && mB C b x && !(decide (i ∈ slB b)) && !(decide (i ∈ slT tg))
    | none => false)
  | .wh t b, s => (match vWh s with
    | some (e, x) => mT C t e && mB C b x
    | none => false)
  | .rt p, s => (match vRet s with
    | some (some e) => mE { C with mu := [] } p e && decide (mdP [] p ≤ 1)
    | _ => false)
  | .rn, s => (match vRet s with
    | some none => true
    | _ => false)
  | .ps, s => vPs s
  | .rs x _, s => (match vRs s with
    | some y => (y == x) && glB C.sc x && dbB x
    | none => false)
  | .tr b cx _ _ h hd, s => (match vTry s with
    | some (body, x, n, su) => nthB C.N h n && decide (C.sc.names.lookup n = some .local) && !(decide (h ∈ C.mu)) && (x == cx) && glB C.sc cx && dbB cx && mB C b body && hdB C h hd su
    | none => false)
  | .sa o x k p, s => (match vAsg s with
    | some (t, v, _) => (match vAttr t with
      | some q => (q.2 == x) && decide (AT[k]? = some x) && noLc v && okE v && mE C p v && decide (mdP C.mu p ≤ 1) && mE C o q.1
      | none => false)
    | none => false)
def mB (C : MC) : SL → List Stmt → Bool
  | .nil, [] => true
  | .cons s ss, x :: xs => mS C s x && mB C ss xs
  | _, _ => false
end
mutual
def ndS : S → List Nd
  | .a _ p => ndP p
  | .m _ p => ndP p
  | .mv _ _ => []
  | .ap _ p => ndP p
  | .ext _ p => ndP p
  | .rm _ p => ndP p
  | .ixs _ k p => ndP p ++ ndP k
  | .e p => ndP p
  | .iff t b c => ndP t ++ (ndB b ++ ndB c)
  | .fr _ it b => ndI it ++ ndB b
  | .frm _ _ b => ndB b
  | .wh t b => ndP t ++ ndB b
  | .rt p => ndP p
  | .rn => []
  | .ps => []
  | .rs x c => [.rs x c]
  | .tr b cx cl al _ hd => .xc al cx cl :: (ndHd al hd ++ ndB b)
  | .sa o x k p => .at x k :: (ndP o ++ ndP p)
def ndB : SL → List Nd
  | .nil => []
  | .cons s ss => ndS s ++ ndB ss
end
end BX

set_option Elab.async false
set_option linter.all false
set_option maxRecDepth 100000
/-! BT0: a def's names. -/
namespace BX
open PySem PySem.Spec PyProof.Rows L2
/-! ### a def -/
def fsB (N ps : List Str) (sc : Scope) : Bool := decide (sc.kind = .function) && !sc.isCoroutine && !sc.isGenerator && decide N.Nodup && decide (N.take ps.length = ps) && ps.all (fun x => match sc.names.lookup x with
    | some .local => true
    | some .cell => true
    | _ => false) && sc.names.all fun y => !(decide (y.2 = .free))
theorem fsB_ok {N ps : List Str} {sc : Scope} (h : fsB N ps sc = true) : FnScope N ps sc := by
  unfold fsB at h
  obtain ⟨h1, h2⟩ := ex_and h
  obtain ⟨h3, h4⟩ := ex_and h1
  obtain ⟨h5, h6⟩ := ex_and h3
  obtain ⟨h7, h8⟩ := ex_and h5
  obtain ⟨h9, h10⟩ := ex_and h7
  obtain ⟨h11, h12⟩ := ex_and h9
  refine ⟨of_decide_eq_true h11, by simpa using h12, by simpa using h10, of_decide_eq_true h8, of_decide_eq_true h6, fun x hx => ?_, fun y hy => ?_⟩
  · have := List.all_eq_true.mp h4 x hx
    split at this
    · rename_i e; exact .inl e
    · rename_i e; exact .inr e
    · cases this
  · have := List.all_eq_true.mp h2 y hy
    simpa using this
end BX

set_option Elab.async false
set_option linter.all false
set_option maxRecDepth 100000
/-! BT1: what an except suite does. -/
namespace BX
open PySem PySem.Spec PyProof.Rows L2
/-! ### isinstance of the exception that is handled -/
theorem call_isX {X : Cx} {a D : Addr} {oe : Obj} (hp : (a, oe) ∈ X.pn) (C : ExcC X.K D) (hz : Zc (.ref D) none oe) (hf : ∃ vs, oe.data = .fields vs) : CallR X (.builtin "isinstance") (rIsE X.K D a) := by
  intro pins s σ H xs us Q I r h
  obtain ⟨c, cv, b, rfl, hcv, e, q⟩ := h
  cases r with
  | cons rx rr =>
    cases rr with
    | cons rt rr =>
      cases rr
      cases rx
      have ec := hcv _ rt
      subst ec
      obtain ⟨hget, _⟩ := I.pin (a, oe) (List.mem_append.mpr (.inl hp))
      obtain ⟨vs, hv⟩ := hf
      have J : PySem.W.InstAt s.heap a oe D none := by
        obtain ⟨oc, od, oda, osl⟩ := oe
        obtain ⟨h1, h2⟩ := hz
        dsimp only at h1 h2 hv
        subst h1 h2 hv
        exact ⟨hget, rfl, rfl, trivial⟩
      exact PySem.W.kia_one (PySem.W.handS_kitx_exc C.hg C.hk C.hs C.hd C.ha C.hn C.ht C.hm) I.kIn J e (fun z => nomatch z) fun tk => ⟨.bl b, H, I.kept (t' := tk) fun _ _ z => z, rfl, q⟩
end BX

set_option Elab.async false
set_option linter.all false
set_option maxRecDepth 100000
/-! BT2: the def that tells which refusal it is. -/
namespace BX
open PySem PySem.Spec PyProof.Rows L2
/-- a context in which the exception at a is handled -/
structure HX (T : Rt) (N : List Str) (sc : Scope) (c : Xc) (a : Addr) (oe : Obj) (X : Cx) : Prop where
  K : X.K = T.K
  mg : X.mg = T.mg
  xN : X.N = N
  nd : N.Nodup
  sc : X.env.scope = sc
  u : X.A.units + 65 < cLine
  pin : (a, oe) ∈ X.pn
  z : Zc (.ref (T.ca c)) none oe
  f : ∃ vs, oe.data = .fields vs
structure XcF (T : Rt) (al : List Xc) : Prop where
  exc : ∀ c ∈ al, ExcC T.K (T.ca c)
  val : ∀ c ∈ al, PySem.W.kitOne T.K (.ref (T.ca c)) (.type "ValueError") = some true
  mi : T.mg "isinstance" = none
  mv : T.mg "ValueError" = none
def XcN (T : Rt) (al : List Xc) (x : Str) (C : Xc) : Prop := T.mg x = some (.ref (T.ca C)) ∧ ∀ c ∈ al, PySem.W.kitOne T.K (.ref (T.ca c)) (.ref (T.ca C)) = some (isX c C)
/-! ### the readings -/
section
variable {T : Rt} {N : List Str} {sc : Scope} {c : Xc} {a : Addr} {oe : Obj} {X : Cx} {al : List Xc}
theorem HX.vis (h : HX T N sc c a oe X) {x : Str} (g : visB sc x = true) : Vis X.env.scope x := by
  rw [h.sc]
  unfold visB at g
  unfold Vis
  split at g <;> first | (cases g; done) | (rename_i e; rw [e]; simp)
theorem HX.gl (h : HX T N sc c a oe X) {x : Str} (g : glB sc x = true) : Gl X x := by
  show X.env.scope.names.lookup x = some .globalImplicit
  rw [h.sc]
  unfold glB at g
  split at g
  · rename_i e
    exact e
  · cases g
theorem h_var (h : HX T N sc c a oe X) {i : Nat} {e : Expr} (g : varB N sc i e = true) : PE X e (tVar i) := by
  unfold varB at g
  split at g
  · rename_i u eu
    obtain ⟨p, rfl⟩ := vName_eq eu
    obtain ⟨g1, g2⟩ := ex_and g
    obtain ⟨g3, g4⟩ := ex_and g1
    exact pe_var (by rw [h.xN]; exact nthB_ok g3) (h.vis g4) (db1 g2) (db2 g2)
  · cases g
abbrev tIsR (K : PySem.W.Frag) (D a : Addr) (i : Nat) (cv : V) : TE := tCB (rIsE K D a) (tCons (tVar i) (tCons (tC cv) tNil))
theorem h_isX (h : HX T N sc c a oe X) (F : XcF T al) (hc : c ∈ al) {i : Nat} {cn : Str} {e : Expr} {cv : V} (g : isXB N sc i cn e = true) (hz : ∀ p, glB sc cn = true → dbB cn = true → PE X (.Name cn p) (tC cv)) : PE X e (tIsR T.K (T.ca c) a i cv) := by
  unfold isXB at g
  split at g
  · rename_i x y z ex
    obtain ⟨p1, p, rfl⟩ := vCall_eq ex
    obtain ⟨g1, g2⟩ := ex_and g
    obtain ⟨g3, g4⟩ := ex_and g1
    obtain ⟨g5, g6⟩ := ex_and g3
    split at g2
    · rename_i v ev
      obtain ⟨p2, rfl⟩ := vName_eq ev
      obtain ⟨k1, k2⟩ := ex_and g2
      obtain ⟨k3, k4⟩ := ex_and k1
      have e1 := beq_iff_eq.mp g5
      have e2 := beq_iff_eq.mp k3
      subst e2
      have py := h_var h g4
      have oy : okE y = true := by
        unfold varB at g4
        split at g4
        · rename_i u eu
          obtain ⟨p, rfl⟩ := vName_eq eu
          rfl
        · cases g4
      show PE X (.Call (.Name x p1) [y, .Name v p2] [] p) _
      rw [e1]
      rw [e1] at g6
      exact pe_callB (by rw [← h.K]; exact call_isX h.pin (by rw [h.K]; exact F.exc c hc) h.z h.f) (h.gl g6) (by rw [h.mg]; exact F.mi) boot_isinstance
        (pa_cons py (pa_cons (hz p2 k4 k2) pa_nil rfl) (okE_star oy _ _)) (by decide) (by decide) (okE_star oy _ _) rfl
    · cases g2
  · cases g
theorem isR_run {K : PySem.W.Frag} {D a : Addr} {i : Nat} {cv : V} {cvv : Value} {b : Bool} {σ : St} {H : Hp} {Q : VK} (hσ : σ[i]? = some (some (.ref a))) (hcv : ∀ u, RelV cv u → u = cvv) (e : PySem.W.kitOne K (.ref D) cvv = some b) (q : Q (.bl b) H) : tIsR K D a i cv σ H Q :=
  ⟨.ref a, hσ, cv, cvv, b, rfl, hcv, e, q⟩
def tLis (T : Rt) (D a : Addr) (i : Nat) : List (Str × Xc) → TA
  | [] => tNil
  | p :: r => tCons (tIsR T.K D a i (.ref (T.ca p.2))) (tLis T D a i r)
theorem h_lis (h : HX T N sc c a oe X) (F : XcF T al) (hc : c ∈ al) {i : Nat} : ∀ (ch : List (Str × Xc)) (es : List Expr), lisB N sc i ch es = true → (∀ p ∈ ch, XcN T al p.1 p.2) → PA X es (tLis T (T.ca c) a i ch)
  | [], [], _, _ => pa_nil
  | [], _ :: _, g, _ => by simp [lisB] at g
  | _ :: _, [], g, _ => by simp [lisB] at g
  | p :: r, e :: es, g, hn => by
    simp only [lisB] at g
    obtain ⟨g1, g2⟩ := ex_and g
    obtain ⟨g3, g4⟩ := ex_and g1
    exact pa_cons (h_isX h F hc g3 fun q k1 k2 => pe_glob (h.gl k1) (by rw [h.mg]; exact (hn p List.mem_cons_self).1) rfl (db1 k2)) (h_lis h F hc r es g2 fun p' hp' => hn p' (List.mem_cons_of_mem _ hp')) (okE_star g4 _ _)
abbrev flV (c : Xc) (ch : List (Str × Xc)) : List V := ch.map fun p => V.bl (isX c p.2)
theorem lis_run {σ : St} {H : Hp} {i : Nat} (hσ : σ[i]? = some (some (.ref a))) (hc : c ∈ al) : ∀ (ch : List (Str × Xc)) (Q : List V → Hp → Prop), (∀ p ∈ ch, XcN T al p.1 p.2) → Q (flV c ch) H → tLis T (T.ca c) a i ch σ H Q
  | [], Q, _, q => q
  | p :: r, Q, hn, q => isR_run hσ (fun u h => h) ((hn p List.mem_cons_self).2 c hc) (lis_run hσ hc r (fun xs H2 => Q (.bl (isX c p.2) :: xs) H2) (fun p' hp' => hn p' (List.mem_cons_of_mem _ hp')) q)
theorem rpl_fl {G : Hp} {μ : List Addr} : ∀ (ch : List (Str × Xc)), RpL T.K G μ (flD c (ch.map Prod.snd)) (flV c ch)
  | [] => RpL.nil
  | p :: r => RpL.cons (by simp only [Rp]) (rpl_fl r)
theorem h_tg (h : HX T N sc c a oe X) {i : Nat} {e : Expr} (g : tgB N sc i e = true) : ∃ x p, e = .Name x p ∧ PG X (.Name x p) (gName i) := by
  unfold tgB at g
  split at g
  · rename_i x ex
    obtain ⟨p, rfl⟩ := vName_eq ex
    obtain ⟨g1, g2⟩ := ex_and g
    have e' : X.env.scope.names.lookup x = some .local := by rw [h.sc]; exact of_decide_eq_true g2
    exact ⟨x, p, rfl, pg_name (by rw [h.xN]; exact h.nd) (by rw [h.xN]; exact nthB_ok g1) (.inl e') (.inr e')⟩
  · cases g
/-- x.m(True), x in slot 1 -/
theorem h_mc (h : HX T N sc c a oe X) {m : Str} {id : String} {r : V → List V → Hp → VK → Prop} {e : Expr} (g : mcB N sc m e = true) (slot : Slot "list" m id) (hty : typeOf (.builtin id) = pure (.type "method_descriptor")) (hm : MtR X id r) : PE X e (tBM T.K "list" r (tVar 1) (tCons (tC (.bl true)) tNil)) := by
  unfold mcB at g
  split at g
  · rename_i x m' y rows ex
    obtain ⟨p1, ap, cp, rfl, el⟩ := vMet_eq ex
    obtain ⟨g1, g2⟩ := ex_and g
    obtain ⟨g3, g4⟩ := ex_and g1
    obtain ⟨g5, g6⟩ := ex_and g3
    obtain ⟨g7, g8⟩ := ex_and g5
    obtain ⟨g9, g10⟩ := ex_and g7
    have em := beq_iff_eq.mp g6
    subst em
    split at g2
    · rename_i b ey
      obtain ⟨q, p, rfl⟩ := vCst_eq ey
      subst g2
      rw [← h.K]
      exact pe_bm PySem.F.plainAttrs_list slot hty hm (pe_var (by rw [h.xN]; exact nthB_ok g9) (h.vis g10) (db1 g8) (db2 g8)) (pa_cons pe_bl pa_nil rfl) rfl rfl (by rw [← el]; exact g4) rfl rfl
    · cases g2
  · cases g
theorem h_ret2 (h : HX T N sc c a oe X) {s : Stmt} (g : retB2 N sc s = true) : PS X s (tRet (tTupN (tCons (tC (.str ⟨REF.toArray⟩)) (tCons (tBM T.K "list" (rIdxD T.K) (tVar 1) (tCons (tC (.bl true)) tNil)) tNil)))) := by
  unfold retB2 at g
  split at g
  · rename_i e es
    obtain ⟨p, rfl⟩ := vRet_eq es
    split at g
    · rename_i x y et
      obtain ⟨q, p2, rfl⟩ := vTup_eq et
      obtain ⟨g1, g2⟩ := ex_and g
      unfold refStr at g1
      split at g1
      · rename_i z ez
        obtain ⟨q2, p3, rfl⟩ := vCst_eq ez
        have e1 := of_decide_eq_true g1
        subst e1
        have hy : okE y = true := by
          unfold mcB at g2
          split at g2
          · rename_i ex
            obtain ⟨p1, ap, cp, rfl, el⟩ := vMet_eq ex
            rfl
          · cases g2
        exact ps_ret (pe_tupN (pa_cons pe_str (pa_cons (h_mc h g2 PySem.F.slot_list_index PySem.F.type_list_index (by rw [← h.K]; exact p_idxD h.u)) pa_nil (okE_star hy _ _)) rfl))
      · cases g1
    · cases g
  · cases g
theorem h_ret1 {s : Stmt} (g : retB1 s = true) : PS X s (tRet (tTupN (tCons (tC (.str ⟨REF.toArray⟩)) (tCons (tUn (rU fun i => .int (-i)) (tC (.int 1))) tNil)))) := by
  unfold retB1 at g
  split at g
  · rename_i e es
    obtain ⟨p, rfl⟩ := vRet_eq es
    split at g
    · rename_i x y et
      obtain ⟨q, p2, rfl⟩ := vTup_eq et
      obtain ⟨g1, g2⟩ := ex_and g
      unfold refStr at g1
      split at g1
      · rename_i z ez
        obtain ⟨q2, p3, rfl⟩ := vCst_eq ez
        have e1 := of_decide_eq_true g1
        subst e1
        split at g2
        · rename_i o w eu
          obtain ⟨p4, rfl⟩ := vUn_eq eu
          obtain ⟨k1, k2⟩ := ex_and g2
          have e2 := of_decide_eq_true k1
          subst e2
          unfold oneB at k2
          split at k2
          · rename_i i ei
            obtain ⟨q3, p5, rfl⟩ := vCst_eq ei
            have e3 := of_decide_eq_true k2
            subst e3
            exact ps_ret (pe_tupN (pa_cons pe_str (pa_cons (pe_un un_neg pe_int) pa_nil rfl) rfl))
          · cases k2
        · cases g2
      · cases g1
    · cases g
  · cases g
theorem h_tst (h : HX T N sc c a oe X) (F : XcF T al) (hc : c ∈ al) {e : Expr} (g : tstRB N sc e = true) :
    PT X e (tOr (tTest (tOp rNe (tBM T.K "list" (rCntD T.K) (tVar 1) (tCons (tC (.bl true)) tNil)) (tC (.int 1)))) (tNot (tB (tIsR T.K (T.ca c) a 0 (.ty "ValueError"))))) := by
  unfold tstRB at g
  split at g
  · rename_i o x y ex
    obtain ⟨p, rfl⟩ := vBool_eq ex
    obtain ⟨g1, g2⟩ := ex_and g
    obtain ⟨g3, g4⟩ := ex_and g1
    have e1 := of_decide_eq_true g3
    subst e1
    split at g4
    · rename_i l op r ec
      obtain ⟨p2, rfl⟩ := vCmp_eq ec
      obtain ⟨k1, k2⟩ := ex_and g4
      obtain ⟨k3, k4⟩ := ex_and k1
      have e2 := of_decide_eq_true k3
      subst e2
      unfold oneB at k2
      split at k2
      · rename_i i ei
        obtain ⟨q3, p5, rfl⟩ := vCst_eq ei
        have e3 := of_decide_eq_true k2
        subst e3
        split at g2
        · rename_i o' z eu
          obtain ⟨p4, rfl⟩ := vUn_eq eu
          obtain ⟨m1, m2⟩ := ex_and g2
          have e4 := of_decide_eq_true m1
          subst e4
          have hz : tstE z = true := by
            unfold isXB at m2
            split at m2
            · rename_i ez
              obtain ⟨p1, p, rfl⟩ := vCall_eq ez
              rfl
            · cases m2
          refine (pw_or (pt_cmpR op_ne (h_mc h k4 PySem.F.slot_list_count PySem.F.type_list_count (by rw [← h.K]; exact p_cntD h.u)) pe_int rfl) (pw_or1 (pt_not (cut2 (h_isX h F hc m2 fun p k1 k2 => ?_) hz)))).pt
          exact pe_bltn (v := V.ty "ValueError") (h.gl k1) (by rw [h.mg]; exact F.mv) (by decide +kernel) rfl (by decide) (by decide)
        · cases g2
      · cases k2
    · cases g4
  · cases g
theorem one_run {v : V} {σ : St} {H : Hp} {Q : List V → Hp → Prop} (q : Q [v] H) : tCons (tC v) tNil σ H Q := q
theorem two_run {v : V} {t : TE} {σ : St} {H : Hp} {D : Ends} {u : TS} (q : t σ H fun x H1 => [v, x].length ≤ sizeLine ∧ NewT [v, x] H1 D.rt) : tSeq (tRet (tTupN (tCons (tC v) (tCons t tNil)))) u D σ H := q
theorem nxt_run {D : Ends} {u : TS} {σ : St} {H : Hp} (q : u D σ H) : tNext { D with nx := u D } σ H := q
/-- the tail: the test, the answers -/
theorem h_end (F : XcF T al) (hc : c ∈ al) {s s' : Stmt} (g : endRB N sc s s' = true) : ∃ t, (∀ X, HX T N sc c a oe X → PSs X [s, s'] t) ∧
    ∀ (D : Ends) (σ : St) (G H : Hp) (μ : List Addr) (st : Sto) (fl : List Xc) (l : Addr) (xs : List V), WOk T G H μ st → σ[0]? = some (some (.ref a)) → σ[1]? = some (some (.ref l)) → H l = some (.lst xs) → RpL T.K G μ (flD c fl) xs →
      (∀ d, refD c fl = some d → ∀ v G' H' μ', Ev G H μ G' H' μ' → WOk T G' H' μ' st → Rp T.K G' μ' d v → D.rt v H') → refD c fl ≠ none → t D σ H := by
  unfold endRB at g
  obtain ⟨g1, g2⟩ := ex_and g
  split at g1
  · rename_i e r ei
    obtain ⟨p, rfl⟩ := vIfS_eq ei
    obtain ⟨k1, k2⟩ := ex_and g1
    refine ⟨_, fun X h => pss_cons (ps_if (h_tst h F hc k1) (pss_cons (h_ret1 k2) pss_nil) pss_nil) (pss_cons (h_ret2 h g2) pss_nil), ?_⟩
    intro D σ G H μ st fl l xs w h0 h1 hH hx hq hne
    have hsh : ∀ fl : List Xc, shL 60 (flD c fl) = true := fun fl => by
      induction fl with
      | nil => rfl
      | cons C fl ih => simp only [flD, List.map_cons, shL, sh, Bool.true_and]; exact ih
    have tup : ∀ (d : BX.D) (v : V) (Q : VK), Rp T.K G μ d v → (∀ v' G' H' μ', Ev G H μ G' H' μ' → WOk T G' H' μ' st → Rp T.K G' μ' (.tup [.str REF, d]) v' → Q v' H') → ([V.str ⟨REF.toArray⟩, v].length ≤ sizeLine ∧ NewT [V.str ⟨REF.toArray⟩, v] H Q) := by
      intro d v Q r q
      refine ⟨by show 2 ≤ sizeLine; decide, fun p o hp ho => ?_⟩
      obtain ⟨e1, w1, r1⟩ := new_tup (ds := [.str REF, d]) w hp ho (show [V.str ⟨REF.toArray⟩, v].length ≤ LIM from by show 2 ≤ LIM; decide) (RpL.cons (show Rp T.K G μ (.str REF) (.str ⟨REF.toArray⟩) from (pk_str (by decide) (by decide) : Po T 0 H G H μ (.str REF) _)) (RpL.one r))
      exact q _ _ _ _ e1 w1 r1
    show tIfS _ _ _ _ σ H
    refine ⟨.ref l, h1, .inl ⟨rfl, xs, .inl (.inl hH)⟩, ?_⟩
    refine one_run ?_
    refine r_cnt (d := .bl true) w pk_bl hH hx rfl (hsh fl) ?_
    refine ⟨rfl, ?_⟩
    refine ⟨_, rfl, ?_⟩
    by_cases hk : (flD c fl).countP (fun x => eqD x (.bl true)) = 1
    · have e1 : (!decide (V.int ((flD c fl).countP (fun x => eqD x (.bl true)) : Nat) = V.int 1)) = false := by rw [hk]; rfl
      rw [e1]
      simp only [Bool.false_eq_true, if_false]
      refine isR_run h0 (fun u h => h) (F.val c hc) ⟨true, rfl, ?_⟩
      simp only [Bool.not_true, Bool.false_eq_true, if_false]
      refine nxt_run (two_run ?_)
      refine ⟨.ref l, h1, .inl ⟨rfl, xs, .inl (.inl hH)⟩, ?_⟩
      unfold refD at hq hne
      rw [if_pos hk] at hq hne
      cases hj : fstIx (.bl true) (flD c fl) 0 with
      | none => rw [hj] at hne; exact absurd rfl hne
      | some j =>
        rw [hj] at hq
        refine one_run ?_
        refine r_idx (d := .bl true) w pk_bl hH hx rfl (hsh fl) hj ?_
        exact tup (.int j) (.int j) _ (by simp only [Rp]) fun v' G' H' μ' e1 w1 r1 => hq _ rfl v' G' H' μ' e1 w1 r1
    · have e1 : (!decide (V.int ((flD c fl).countP (fun x => eqD x (.bl true)) : Nat) = V.int 1)) = true := by
        have : ¬ (V.int ((flD c fl).countP (fun x => eqD x (.bl true)) : Nat) = V.int 1) := fun z => hk (by have := V.int.inj z; omega)
        simp [this]
      rw [e1]
      simp only [if_true]
      show tRet _ _ σ H
      unfold refD at hq
      rw [if_neg hk] at hq
      refine ⟨1, rfl, ?_⟩
      exact tup (.int (-1)) (.int (-1)) _ (by simp only [Rp]) fun v' G' H' μ' e1 w1 r1 => hq _ rfl v' G' H' μ' e1 w1 r1
  · cases g1
end
end BX

set_option Elab.async false
set_option linter.all false
set_option maxRecDepth 100000
/-! BT3: that def, called in a suite. -/
namespace BX
open PySem PySem.Spec PyProof.Rows L2
section
variable {T : Rt} {N : List Str} {sc : Scope} {c : Xc} {a : Addr} {oe : Obj} {al : List Xc}
abbrev RfOk (T : Rt) (c : Xc) (a : Addr) (D : Ends) (t : TS) (fl0 fl : List Xc) : Prop := ∀ (σ : St) (G H : Hp) (μ : List Addr) (st : Sto) (l : Addr) (xs : List V), WOk T G H μ st → 1 < σ.length → σ[0]? = some (some (.ref a)) → σ[1]? = some (some (.ref l)) → H l = some (.lst xs) → RpL T.K G μ (flD c fl0) xs →
      (∀ d, refD c fl = some d → ∀ v G' H' μ', Ev G H μ G' H' μ' → WOk T G' H' μ' st → Rp T.K G' μ' d v → D.rt v H') → t D σ H
theorem flD_app (fl fl' : List Xc) : flD c (fl ++ fl') = flD c fl ++ flD c fl' := by simp [flD]
theorem flD_len (fl : List Xc) : (flD c fl).length = fl.length := by simp [flD]
theorem rf_tail (F : XcF T al) (hc : c ∈ al) : ∀ (chs : List (List (Str × Xc))) (ss : List Stmt), rfT N sc chs ss = true → (∀ ch ∈ chs, ∀ p ∈ ch, XcN T al p.1 p.2) → ∃ t, (∀ X, HX T N sc c a oe X → PSs X ss t) ∧
    ∀ (D : Ends) (fl : List Xc), fl.length + chs.flatten.length ≤ LIM → refD c (fl ++ chs.flatten.map Prod.snd) ≠ none → RfOk T c a D t fl (fl ++ chs.flatten.map Prod.snd)
  | [], [s, s'], g, hn => by
    simp only [rfT] at g
    obtain ⟨t, p, q⟩ := h_end (a := a) (oe := oe) F hc g
    refine ⟨t, p, fun D fl hl hne σ G H μ st l xs w h0 h1 h2 h3 h4 hq => ?_⟩
    simp only [List.flatten_nil, List.map_nil, List.append_nil] at hne hq
    exact q D σ G H μ st fl l xs w h1 h2 h3 h4 hq hne
  | [], [], g, _ => by simp [rfT] at g
  | [], [_], g, _ => by simp [rfT] at g
  | [], _ :: _ :: _ :: _, g, _ => by simp [rfT] at g
  | _ :: _, [], g, _ => by simp [rfT] at g
  | ch :: r, s :: ss, g, hn => by
    simp only [rfT] at g
    obtain ⟨g1, g2⟩ := ex_and g
    obtain ⟨u, pu, qu⟩ := rf_tail F hc r ss g2 fun ch' h' => hn ch' (List.mem_cons_of_mem _ h')
    split at g1
    · rename_i t v pos es
      have e := vAsg_eq es
      subst e
      obtain ⟨k1, k2⟩ := ex_and g1
      split at k2
      · rename_i x o b eb
        obtain ⟨p, rfl⟩ := vBin_eq eb
        obtain ⟨m1, m2⟩ := ex_and k2
        obtain ⟨m3, m4⟩ := ex_and m1
        have e1 := of_decide_eq_true m3
        subst e1
        split at m2
        · rename_i es' el
          obtain ⟨p2, rfl⟩ := vList_eq el
          refine ⟨tSeq (tAsg (tOp rCat (tVar 1) (tLst (tLis T (T.ca c) a 0 ch))) (gName 1)) u, fun X h => ?_, fun D fl hl hne σ G H μ st l xs w h0 h1 h2 h3 h4 hq => ?_⟩
          · obtain ⟨x', p', rfl, pg⟩ := h_tg h k1
            exact pss_cons (ps_asg (pe_op op_cat (h_var h m4) (pe_lst (h_lis h F hc ch es' m2 (hn ch List.mem_cons_self)))) pg (sws (sw_no rfl _ _ _)) (ss_name _) rfl) (pu X h)
          · have hfl : fl.length + (ch.length + r.flatten.length) ≤ LIM := by rw [List.flatten_cons, List.length_append] at hl; exact hl
            have hx := h4.length
            rw [flD_len] at hx
            have hcl : (flV c ch).length = ch.length := by simp
            show tAsg _ _ _ σ H
            refine ⟨.ref l, h2, ?_⟩
            show tLis T (T.ca c) a 0 ch σ H _
            refine lis_run h1 hc ch _ (hn ch List.mem_cons_self) ⟨by rw [limS, hcl]; omega, fun p3 hp3 => ?_⟩
            have nl : l ≠ p3 := fun z => by rw [z] at h3; rw [hp3] at h3; cases h3
            obtain ⟨e1, w1⟩ := new_lst w hp3 (flV c ch)
            refine ⟨l, p3, xs, flV c ch, rfl, rfl, by rw [upd_ne nl]; exact h3, upd_same, by rw [limS, hcl]; omega, fun p4 hp4 => ?_⟩
            obtain ⟨e2, w2⟩ := new_lst w1 hp4 (xs ++ flV c ch)
            have efl : fl ++ ((ch :: r).flatten.map Prod.snd) = (fl ++ ch.map Prod.snd) ++ r.flatten.map Prod.snd := by simp
            rw [efl] at hq hne
            refine qu D (fl ++ ch.map Prod.snd) (by rw [List.length_append, List.length_map]; omega) hne (σ.set 1 (some (.ref p4))) G _ μ st p4 (xs ++ flV c ch) w2 (by rw [List.length_set]; exact h0) (by rw [List.getElem?_set_ne (by decide)]; exact h1) (List.getElem?_set_self h0) upd_same ?_ fun d hd v G' H' μ' e3 w3 r3 => hq d hd v G' H' μ' ((e1.trans e2).trans e3) w3 r3
            rw [flD_app]
            exact h4.append (rpl_fl ch)
        · cases m2
      · cases k2
    · cases g1
theorem rf_body (F : XcF T al) (hc : c ∈ al) {chs : List (List (Str × Xc))} {ss : List Stmt} (g : rfB N sc chs ss = true) (hn : ∀ ch ∈ chs, ∀ p ∈ ch, XcN T al p.1 p.2) (hl : chs.flatten.length ≤ LIM) (hne : refD c (chs.flatten.map Prod.snd) ≠ none) : ∃ t, (∀ X, HX T N sc c a oe X → PSs X ss t) ∧
    ∀ (D : Ends) (σ : St) (G H : Hp) (μ : List Addr) (st : Sto), WOk T G H μ st → 1 < σ.length → σ[0]? = some (some (.ref a)) →
      (∀ d, refD c (chs.flatten.map Prod.snd) = some d → ∀ v G' H' μ', Ev G H μ G' H' μ' → WOk T G' H' μ' st → Rp T.K G' μ' d v → D.rt v H') → t D σ H := by
  unfold rfB at g
  split at g
  · rename_i ch r s ss'
    obtain ⟨g1, g2⟩ := ex_and g
    obtain ⟨u, pu, qu⟩ := rf_tail (a := a) (oe := oe) F hc r ss' g2 fun ch' h' => hn ch' (List.mem_cons_of_mem _ h')
    split at g1
    · rename_i t v pos es
      have e := vAsg_eq es
      subst e
      obtain ⟨k1, k2⟩ := ex_and g1
      split at k2
      · rename_i es' el
        obtain ⟨p2, rfl⟩ := vList_eq el
        refine ⟨tSeq (tAsg (tLst (tLis T (T.ca c) a 0 ch)) (gName 1)) u, fun X h => ?_, fun D σ G H μ st w h0 h1 hq => ?_⟩
        · obtain ⟨x', p', rfl, pg⟩ := h_tg h k1
          exact pss_cons (ps_asg (pe_lst (h_lis h F hc ch es' k2 (hn ch List.mem_cons_self))) pg (sws (sw_no rfl _ _ _)) (ss_name _) rfl) (pu X h)
        · have hfl : ch.length + r.flatten.length ≤ LIM := by rw [List.flatten_cons, List.length_append] at hl; exact hl
          have hcl : (flV c ch).length = ch.length := by simp
          show tAsg _ _ _ σ H
          show tLis T (T.ca c) a 0 ch σ H _
          refine lis_run h1 hc ch _ (hn ch List.mem_cons_self) ⟨by rw [limS, hcl]; omega, fun p3 hp3 => ?_⟩
          obtain ⟨e1, w1⟩ := new_lst w hp3 (flV c ch)
          have efl : (ch :: r).flatten.map Prod.snd = ch.map Prod.snd ++ r.flatten.map Prod.snd := by simp
          rw [efl] at hq hne
          exact qu D (ch.map Prod.snd) (by rw [List.length_map]; omega) hne (σ.set 1 (some (.ref p3))) G _ μ st p3 (flV c ch) w1 (by rw [List.length_set]; exact h0) (by rw [List.getElem?_set_ne (by decide)]; exact h1) (List.getElem?_set_self h0) upd_same (rpl_fl ch) fun d hd v G' H' μ' e3 w3 r3 => hq d hd v G' H' μ' (e1.trans e3) w3 r3
      · cases k2
    · cases g1
  · cases g
end
end BX

set_option Elab.async false
set_option linter.all false
set_option maxRecDepth 100000
/-! BT4: a def called where an exception is handled; the suites. -/
namespace BX
open PySem PySem.Spec PyProof.Rows L2
open L2H (RoomH PinOk cxH inv_startH)
abbrev E0 : XK := fun _ _ _ => False
/-- what the def that tells the refusal promises -/
structure FnX (T : Rt) (al fl : List Xc) (f : Addr) (fd : FuncData) (ps : List Str) : Prop where
  len : ps.length = 1
  run : ∀ (A : Around) (outer : List PySem.Env) (s : Shared) (H : Hp) (args : Args) (p : Addr × Obj) (c : Xc) (Q : VK) (G : Hp) (μ : List Addr) (st : Sto), c ∈ al → RoomH 1 A → PinOk outer H s p → Zc (.ref (T.ca c)) none p.2 → (∃ vs, p.2.data = .fields vs) → Env0 T.P T.w T.K T.mg T.base A outer s H →
    BindsTo s fd args (ps.zip [.ref p.1]) → WOk T G H μ st → refD c fl ≠ none → (∀ d, refD c fl = some d → ∀ v G' H' μ', Ev G H μ G' H' μ' → WOk T G' H' μ' st → Rp T.K G' μ' d v → Q v H') →
    codeAny (model T.P T.w) A (.call (.ref f) args) (CR (L2.CX T.P T.w) outer T.P T.w H s Q E0) s
theorem fnx_of {T : Rt} {al : List Xc} {chs : List (List (Str × Xc))} {f : Addr} {name qual : Str} {params : Arguments} {body : List Stmt} {scope : Scope} {dV kV doc pm cdv ct oc : Value} {an od : Option Addr} {osl : Array (Option Value)} {N ps : List Str}
    (lk : T.K.lookup f = some ⟨oc, od, .func (PySem.W.fnOf name qual params body scope dV kV doc pm an cdv ct), osl⟩) (hcd : PySem.W.codeIn T.K cdv qual = true) (hS : fsB N ps scope = true) (hlen : ps.length = 1) (hN : 2 ≤ N.length)
    (F : XcF T al) (g : rfB N scope chs body = true) (hn : ∀ ch ∈ chs, ∀ p ∈ ch, XcN T al p.1 p.2) (hl : chs.flatten.length ≤ LIM) :
    FnX T al (chs.flatten.map Prod.snd) f (PySem.W.fnOf name qual params body scope dV kV doc pm an cdv ct) ps := by
  have S := fsB_ok hS
  refine ⟨hlen, fun A outer s H args p c Q G μ st hc hr hpin hz hf e0 hb w hne hq => ?_⟩
  have KX : T.K.In s.heap := e0.mod.kin.keeps fun b o e => (e0.bs b o e).1
  have lim : s.heap.NoLimit := e0.mod.nolimit.keeps fun b o e => (e0.bs b o e).1
  have hkind : ∀ y ∈ ps.zip [Value.ref p.1], scope.names.lookup y.1 = some .local ∨ (scope.names.lookup y.1 = some .cell ∧ ((cellsFrom (s.heap.objs.size + 1) scope.names []).lookup y.1).isSome = true) := fun ⟨n, v⟩ hy => by
    rcases S.par n (List.of_mem_zip hy).1 with q | q
    · exact .inl q
    · exact .inr ⟨q, PySem.W.cellsFrom_some _ _ _ (.inl q)⟩
  refine codeAny_call_function hr.depth (KX _ _ lk) rfl S.co S.gen rfl (PySem.W.codeRec_of KX hcd) (hb _ _ _ _ ?_)
  refine wpAny_newFunctionEnv_cells S.kind hkind fun env he s1 x => ?_
  subst he
  refine ⟨lim.keeps x.toInCall.keep, codeAny_func ?_⟩
  obtain ⟨a, oe⟩ := p
  obtain ⟨t, ht, qt⟩ := rf_body (a := a) (oe := oe) (N := N) (sc := scope) F hc g hn hl hne
  have hr' := hr.deeper (k := 0) (envOfC qual scope s.heap.objs.size f cdv)
  have hx : HX T N scope c a oe (cxH (L2.CX T.P T.w) T.P T.w T.K T.mg T.base N qual scope f cdv A outer s H E0 (a, oe)) :=
    ⟨rfl, rfl, rfl, S.nd, rfl, by have := hr'.un; show (A.deeper _).units + 65 < cLine; omega, by simp [cxH], hz, hf⟩
  have I : Inv (cxH (L2.CX T.P T.w) T.P T.w T.K T.mg T.base N qual scope f cdv A outer s H E0 (a, oe)) [] (L2.start N [.ref a]) H s1 := inv_startH S hpin e0 hlen.symm (.cons rfl .nil) x
  have hsl : (L2.start N [V.ref a]).length = N.length := by
    unfold L2.start
    rw [List.length_append, List.length_map, List.length_replicate]
    simp only [List.length_cons, List.length_nil]
    omega
  refine wpAny_mono ((ht _ hx).run [] s1 (L2.start N [.ref a]) H { nx := fun _ H' => Q .non H', rt := Q } I (qt _ _ G H μ st w (by rw [hsl]; omega) rfl hq)) (fun fl s' hs => ?_) fun e s' hs => hs
  have fin : ∀ {σ' : St} {H' : Hp} {v : V} {u : Value}, Inv (cxH (L2.CX T.P T.w) T.P T.w T.K T.mg T.base N qual scope f cdv A outer s H E0 (a, oe)) [] σ' H' s' → RelV v u → Q v H' → CE outer T.P T.w H s Q u s' :=
    fun {σ' H' v u} J rv q => ⟨v, H', J.os, J.bare, J.base, J.hok, rv, q⟩
  cases fl with
  | ret u =>
    obtain ⟨v, σ', H', J, rv, q⟩ := hs
    exact fin J rv q
  | next =>
    obtain ⟨σ', H', J, q⟩ := hs
    exact fin (v := V.non) (u := Value.none) J rfl q
  | brk =>
    obtain ⟨_, _, _, q⟩ := hs
    exact False.elim q
  | cont =>
    obtain ⟨_, _, _, q⟩ := hs
    exact False.elim q
/-- it, by its name -/
def FxIn (T : Rt) (al : List Xc) (x : Str) (fl : List Xc) : Prop := ∃ f fd ps, T.mg x = some (.ref f) ∧ PySem.W.keepIn T.K (.ref f) = true ∧ Binds T.K fd ps [] ∧ FnX T al fl f fd ps
section
variable {T : Rt} {N : List Str} {sc : Scope} {c : Xc} {a : Addr} {oe : Obj} {X : Cx} {al fl : List Xc}
/-- an answer that is laid anew -/
abbrev AnsQ (T : Rt) (d : Option D) (H : Hp) (Q : VK) : Prop := ∃ G μ st, WOk T G H μ st ∧ d ≠ none ∧ ∀ d', d = some d' → ∀ v G' H' μ', Ev G H μ G' H' μ' → WOk T G' H' μ' st → Rp T.K G' μ' d' v → Q v H'
def tRef (T : Rt) (c : Xc) (fl : List Xc) (a : Addr) (i : Nat) : TE := fun σ H Q => σ[i]? = some (some (.ref a)) ∧ AnsQ T (refD c fl) H Q
theorem h_call (h : HX T N sc c a oe X) (hP : X.prog = T.P) (hw : X.w = T.w) (hb0 : X.base = T.base) (hr : RoomH 1 X.A) (tk : Takes X (fun _ _ _ _ => False)) (hc : c ∈ al) {x : Str} (F : FxIn T al x fl) (hg : glB sc x = true) (hd : dbB x = true) {i : Nat} {e : Expr} (he : varB N sc i e = true) {q p : Pos} :
    PE X (.Call (.Name x q) [e] [] p) (tRef T c fl a i) := by
  obtain ⟨f, fd, ps, m1, m2, m3, F⟩ := F
  have pa : PA X [e] (tCons (tVar i) tNil) := by
    have pe := h_var h he
    unfold varB at he
    split at he
    · rename_i u eu
      obtain ⟨p, rfl⟩ := vName_eq eu
      exact pa_cons pe pa_nil rfl
    · cases he
  have hst : starEach [e] X.env = (false, eval e X.env) :: starEach [] X.env := by
    unfold varB at he
    split at he
    · rename_i u eu
      obtain ⟨p, rfl⟩ := vName_eq eu
      rfl
    · cases he
  refine ⟨fun pins s σ H Q I hq => ?_⟩
  obtain ⟨h1, G, μ, st, w, hne, q2⟩ := hq
  refine wpAny_Call_Name_kw (ld_glob I (h.gl hg) (by rw [h.mg]; exact m1) ?_ (db1 hd))
  refine PySem.W.callWith_K (h₀ := X.base) I.ok.mod.kin (by rw [h.K]; exact m2) (thn (pa.run p pins s σ H (fun vs H1 => vs = [.ref a] ∧ H1 = H) I ⟨.ref a, h1, rfl, rfl⟩) fun us s1 ⟨vs, H1, I1, r, ⟨e1, e2⟩⟩ => ⟨I1.kIn, ?_⟩) hst rfl
  subst e1 e2
  obtain ⟨u, rfl, ru⟩ := r.one
  have ru' : u = Value.ref a := ru
  subst ru'
  have P1 := I1.pin (a, oe) (List.mem_append_left _ h.pin)
  have hpin : PinOk X.stack H1 s1 (a, oe) := ⟨P1.1, P1.2.1, fun hm => (List.mem_cons.mp (I1.stkSub a hm)).elim P1.2.2.1 P1.2.2.2.1, P1.2.2.2.2⟩
  have b := m3 s1 [.ref a] (by rw [← h.K]; exact I1.kIn) (by rw [List.append_nil, F.len]; rfl)
  rw [List.append_nil] at b
  have e0 := I1.env0
  rw [hP, hw, h.K, h.mg, hb0] at e0
  have key := F.run X.A X.stack s1 H1 ⟨[.ref a], []⟩ (a, oe) c Q G μ st hc hr hpin h.z h.f e0 b w hne q2
  rw [← hP, ← hw] at key
  refine wpAny_call (codeAny_mono key fun r s' hq => ?_)
  cases r with
  | error e => exact passAt tk σ pins H1 s1 e s' I1 hq
  | ok fl =>
    cases fl with
    | ret u => exact I1.after hq
    | next => exact False.elim hq
    | brk => exact False.elim hq
    | cont => exact False.elim hq
end
end BX

set_option Elab.async false
set_option linter.all false
set_option maxRecDepth 100000
/-! BT5: contexts of statements, what they need; try. -/
namespace BX
open PySem PySem.Spec PyProof.Rows L2
/-- the context of a def's body, or of a try's -/
structure CxtS (T : Rt) (k : Nat) (C : MC) (W : WX) (X : Cx) : Prop where
  m : CxtM T k C W X
  po : PassesOwn (model X.prog X.w) X.A X.env X.xe
  kind : C.sc.kind = .function
  stk : X.stack = X.env :: X.outer
  fra : X.env.frame = some X.env.locals
abbrev OkS (T : Rt) (k : Nat) (C : MC) (W : WX) (s : S) (x : Stmt) : Prop := ∃ t, RdS T C.mu C.N.length W (slS s) t (evS s) ∧ ∀ X, CxtS T k C W X → PS X x t
abbrev OkB (T : Rt) (k : Nat) (C : MC) (W : WX) (s : SL) (x : List Stmt) : Prop := ∃ t, RdS T C.mu C.N.length W (slB s) t (evB s) ∧ ∀ X, CxtS T k C W X → PSs X x t
/-- an exception's class -/
structure XcOk (T : Rt) (c : Xc) : Prop where
  base : ∃ B newId initId bmB, ExcBaseFacts B newId initId bmB ∧ PySem.W.excIn T.K (T.ca c) bmB newId = true
  keep : PySem.W.keepIn T.K (.ref (T.ca c)) = true
  sub : PySem.W.subIn T.K (.ref (T.ca c)) (.type "BaseException") = some true
  ty : PySem.W.typeIn T.K (.ref (T.ca c)) = some (.type "type")
def NdX (T : Rt) (k : Nat) : Nd → Prop
  | .rs x c => T.mg x = some (.ref (T.ca c)) ∧ XcOk T c
  | .xc al x cl => XcF T al ∧ T.mg x = some (.ref (T.ca cl)) ∧ ∀ c ∈ al, PySem.W.exmOne T.K (.ref (T.ca c)) (.ref (T.ca cl)) = some (isX c cl)
  | .xf al x fl => FxIn T al x fl ∧ 1 ≤ k
  | .xt al x C => XcN T al x C
  | q => NdOk T k q
def NdsX (T : Rt) (k : Nat) (l : List Nd) : Prop := ∀ q ∈ l, NdX T k q
variable {T : Rt} {k : Nat}
theorem NdsX.app {a b : List Nd} (h : NdsX T k (a ++ b)) : NdsX T k a ∧ NdsX T k b := ⟨fun q hq => h q (List.mem_append_left _ hq), fun q hq => h q (List.mem_append_right _ hq)⟩
theorem NdX.ok {q : Nd} (h : NdX T k q) : NdOk T k q := by
  cases q with
  | rs x c => trivial
  | xc al x c => trivial
  | xf al x c => trivial
  | xt al x c => trivial
  | _ => exact h
theorem NdsX.ok {a : List Nd} (h : NdsX T k a) : Nds T k a := fun q hq => (h q hq).ok
/-- name = value, whatever the value -/
theorem s_asg1 {C : MC} {W : WX} {X : Cx} {i : Nat} {x : Str} {px pos : Pos} {p : P} {v : Expr} {t : TE} (c : CxtS T k C W X) (h1 : nthB C.N i x = true) (h2 : locB C x = true) (hn : noLc v = true) (pe : PE X v t) : PS X (.Assign [.Name x px] v pos) (tAsg t (gName i)) :=
  ps_asg pe (s_loc c.m h1 h2) (sws (sw_no hn _ _ _)) (ss_name _) rfl
/-- the same of a comprehension -/
theorem s_asgc {C : MC} {W : WX} {i : Nat} {x : Str} {px pos : Pos} {p : P} {v : Expr} (h1 : nthB C.N i x = true) (h2 : locB C x = true) (hp : isCp p = true) (h : mE C p v = true) (hn : Nds T k (ndP p)) :
    ∃ t, RdE T C.mu C.N.length W 1 t (ev p) ∧ ∀ X, CxtS T k C W X → PS X (.Assign [.Name x px] v pos) (tAsg t (gName i)) := by
  cases p with
  | cp e0 tg it cn own =>
    simp only [mE] at h
    split at h
    · rename_i q ex
      obtain ⟨p, rfl⟩ := vLc_eq ex
      obtain ⟨elt, ⟨target, iter, ifs, asy⟩, scope⟩ := q
      obtain ⟨k1, g9⟩ := ex_and h
      obtain ⟨k2, g8⟩ := ex_and k1
      obtain ⟨k3, g7⟩ := ex_and k2
      obtain ⟨k4, g6⟩ := ex_and k3
      obtain ⟨k5, g5⟩ := ex_and k4
      obtain ⟨k6, g4⟩ := ex_and k5
      obtain ⟨k7, g3⟩ := ex_and k6
      obtain ⟨g1, g2⟩ := ex_and k7
      have g1' : asy = 0 := of_decide_eq_true g1
      subst g1'
      obtain ⟨n1, n2⟩ := Nds.app (show Nds T k (ndP e0 ++ (ndI it ++ ndQ cn)) from hn)
      obtain ⟨n3, n4⟩ := Nds.app n2
      obtain ⟨wi, g, tt, te, hr, hX⟩ := s_cp (cn := cn) (it := it) (mI_ok it C target iter W g5 n3) (mC_ok cn (C.blk scope) ifs W0 g7 n4) (mE_ok e0 (C.blk scope) elt W0 g8 n1) (of_decide_eq_true g9) (mI_z g5) g6 g4 g3
      refine ⟨_, hr, fun X c => ?_⟩
      obtain ⟨x1, x2, x3, x4, x5⟩ := hX X c.m
      have hk : X.env.scope.kind = .function := by rw [c.m.c.sc]; exact c.kind
      cases hs : swB X.env.scope scope x px p with
      | true =>
        have hl : X.env.scope.names.lookup x = some .local := by
          unfold swB at hs
          exact of_decide_eq_true (ex_and (ex_and hs).1).1
        have hi : X.N[i]? = some x := by rw [c.m.c.xN]; exact nthB_ok h1
        have := ps_setLc (py := px) (pos := p) (spos := pos) c.m.c.calm (nd_of c.m) hi hl (by rw [sw_eq hk, hs]) x1 x2 x3 x4 x5 (fun x => okE_fs g2 X.env x)
        rw [own_snd] at this
        exact this
      | false =>
        have pe := pe_lc (pos := p) c.m.c.calm (nd_of c.m) x1 x2 x3 x4 x5 (fun x => okE_fs g2 X.env x)
        rw [own_snd] at pe
        exact ps_asg pe (s_loc c.m h1 h2) (sws (by rw [sw_eq hk, hs])) (ss_name _) rfl
    · cases h
  | _ => cases hp
theorem s_met {C : MC} {W : WX} {X : Cx} {i : Nat} {m : Str} {e : Expr} {f : Expr → Bool} {pos : Pos} {id : String} {r : V → List V → Hp → VK → Prop} {T' : String} (c : CxtM T k C W X) (h : mMet C i m e f = true) (pa : PlainAttrs T') (slot : Slot T' m id) (hty : typeOf (.builtin id) = pure (.type "method_descriptor")) (hm : MtR X id r) (t : TE)
    (he : ∀ y, f y = true → PE X y t) : PE X e (tBM X.K T' r (tVar i) (tCons t tNil)) := by
  unfold mMet at h
  split at h
  · rename_i q ex
    obtain ⟨p1, ap, cp, rfl, el⟩ := vMet_eq ex
    obtain ⟨h1, h2⟩ := ex_and h
    obtain ⟨h3, h4⟩ := ex_and h1
    obtain ⟨h5, h6⟩ := ex_and h3
    obtain ⟨h7, h8⟩ := ex_and h5
    obtain ⟨h9, h10⟩ := ex_and h7
    obtain ⟨h11, h12⟩ := ex_and h9
    obtain ⟨h13, h14⟩ := ex_and h11
    have em := beq_iff_eq.mp h8
    rw [em]
    refine pe_bm pa slot hty hm (s_var c h13 h14 h12) (pa_cons (he _ h2) pa_nil (star1 h6 _)) rfl ?_ (by rw [← el]; exact h4) (okE_star h6 _ _) rfl
    rw [star1 h6]
    rfl
  · cases h
theorem mMet_f {C : MC} {i : Nat} {m : Str} {e : Expr} {f : Expr → Bool} (h : mMet C i m e f = true) : i ∈ C.mu ∧ ∃ y, f y = true := by
  unfold mMet at h
  split at h
  · rename_i q ex
    obtain ⟨h1, h2⟩ := ex_and h
    obtain ⟨h3, h4⟩ := ex_and h1
    obtain ⟨h5, h6⟩ := ex_and h3
    obtain ⟨h7, h8⟩ := ex_and h5
    obtain ⟨h9, h10⟩ := ex_and h7
    exact ⟨of_decide_eq_true h10, _, h2⟩
  · cases h
theorem mMet_y {C : MC} {i : Nat} {m : Str} {e : Expr} {f : Expr → Bool} (h : mMet C i m e f = true) : ∃ q, vMet e = some q ∧ f q.2.2.1 = true ∧ i ∈ C.mu := by
  unfold mMet at h
  split at h
  · rename_i q ex
    obtain ⟨h1, h2⟩ := ex_and h
    obtain ⟨h3, h4⟩ := ex_and h1
    obtain ⟨h5, h6⟩ := ex_and h3
    obtain ⟨h7, h8⟩ := ex_and h5
    obtain ⟨h9, h10⟩ := ex_and h7
    exact ⟨q, ex, h2, of_decide_eq_true h10⟩
  · cases h
theorem s_met2 {C : MC} {W : WX} {X : Cx} {i : Nat} {m : Str} {e : Expr} {f : Expr → Bool} {q : Str × Str × Expr × Bool} {id : String} {r : V → List V → Hp → VK → Prop} {T' : String} (c : CxtM T k C W X) (h : mMet C i m e f = true) (hq : vMet e = some q) (pa : PlainAttrs T') (slot : Slot T' m id) (hty : typeOf (.builtin id) = pure (.type "method_descriptor")) (hm : MtR X id r) (t : TE)
    (he : PE X q.2.2.1 t) : PE X e (tBM X.K T' r (tVar i) (tCons t tNil)) := by
  unfold mMet at h
  rw [hq] at h
  obtain ⟨p1, ap, cp, rfl, el⟩ := vMet_eq hq
  simp only at h
  obtain ⟨h1, h2⟩ := ex_and h
  obtain ⟨h3, h4⟩ := ex_and h1
  obtain ⟨h5, h6⟩ := ex_and h3
  obtain ⟨h7, h8⟩ := ex_and h5
  obtain ⟨h9, h10⟩ := ex_and h7
  obtain ⟨h11, h12⟩ := ex_and h9
  obtain ⟨h13, h14⟩ := ex_and h11
  have em := beq_iff_eq.mp h8
  rw [em]
  refine pe_bm pa slot hty hm (s_var c h13 h14 h12) (pa_cons he pa_nil (star1 h6 _)) rfl ?_ (by rw [← el]; exact h4) (okE_star h6 _ _) rfl
  rw [star1 h6]
  rfl
theorem mMet_lc {C : MC} {i : Nat} {m : Str} {e : Expr} {f : Expr → Bool} (h : mMet C i m e f = true) : noLc e = true := by
  unfold mMet at h
  split at h
  · rename_i q ex
    obtain ⟨p1, ap, cp, rfl, el⟩ := vMet_eq ex
    rfl
  · cases h
theorem rd_rs {mu : List Nat} {n : Nat} {W : WX} {c : Xc} : RdS T mu n W [] (fun _ σ H => W (.ref (T.ca c)) none σ H) (fun _ => exc c) := by
  intro E ρ σ G H μ st D er hres
  exact (show WS T W n E c st from hres) σ G H μ er.ls er.en er.w
theorem s_rs {C : MC} {W : WX} {X : Cx} {x m : Str} {c : Xc} {p1 p2 p3 p : Pos} {j : Nat} (cx : CxtM T k C W X) (hg : glB C.sc x = true) (hd : dbB x = true) (hx : T.mg x = some (.ref (T.ca c)) ∧ XcOk T c) :
    PS X (.Raise (some (.Call (.Name x p1) [.Constant (.str m) j p2] [] p3)) none p) (fun _ σ H => W (.ref (T.ca c)) none σ H) := by
  obtain ⟨h1, ⟨B, newId, initId, bmB, F, q⟩, h3, h4, h5⟩ := hx
  exact ps_raise cx.c.calm cx.c.tk (pmk_own F (by rw [cx.c.K]; exact q) (by rw [cx.c.mg]; exact h1) (by rw [cx.c.K]; exact h3) (raises_own (by rw [cx.c.K]; exact h4) (by rw [cx.c.K]; exact h5)) (cx.c.gl hg) (db1 hd))
end BX

set_option Elab.async false
set_option linter.all false
set_option maxRecDepth 100000
/-! BT6: try: .. except x as n: one statement. -/
namespace BX
open PySem PySem.Spec PyProof.Rows L2
variable {T : Rt} {k : Nat}
theorem PS.imp {X : Cx} {s : Stmt} {t t' : TS} (h : PS X s t) (i : ∀ D σ H, t' D σ H → t D σ H) : PS X s t' := ⟨fun pins s σ H D I q => h.run pins s σ H D I (i D σ H q)⟩
theorem strB_eq {s : List Nat} {e : Expr} (h : strB s e = true) : (∃ k p, e = .Constant (.str ⟨s.toArray⟩) k p) ∧ s.length ≤ LIM ∧ ∀ c ∈ s, c < 1114112 := by
  unfold strB at h
  split at h
  · rename_i x ex
    obtain ⟨q, p, rfl⟩ := vCst_eq ex
    obtain ⟨h1, h2⟩ := ex_and h
    obtain ⟨h3, h4⟩ := ex_and h1
    have e1 := of_decide_eq_true h3
    subst e1
    exact ⟨⟨q, p, rfl⟩, of_decide_eq_true h4, fun c hc => of_decide_eq_true (List.all_eq_true.mp h2 c hc)⟩
  · cases h
theorem ans_c {d : D} {H : Hp} {Q : VK} {v : V} (h : AnsQ T (some d) H Q) (hr : ∀ G μ, Rp T.K G μ d v) : Q v H := by
  obtain ⟨G, μ, st, w, _, q⟩ := h
  exact q d rfl v G H μ (Ev.refl _ _ _) w (hr G μ)
theorem isX_tst {N : List Str} {sc : Scope} {i : Nat} {cn : Str} {e : Expr} (g : isXB N sc i cn e = true) : tstE e = true := by
  unfold isXB at g
  split at g
  · rename_i ez
    obtain ⟨p1, p, rfl⟩ := vCall_eq ez
    rfl
  · cases g
/-- the suite's statement -/
theorem s_suite {C : MC} {W : WX} {X : Cx} {h : Nat} {hd : Hd} {s : Stmt} {al : List Xc} {c : Xc} {a : Addr} {oe : Obj} {pn : List (Addr × Obj)} (cx : CxtS T k C W X) (g : hdB C h hd s = true) (F : XcF T al) (hn : NdsX T k (ndHd al hd)) (hc : c ∈ al)
    (hz : Zc (.ref (T.ca c)) none oe) (hf : ∃ vs, oe.data = .fields vs) : PS (X.suite a ((a, oe) :: pn)) s (fun D σ H => σ[h]? = some (some (.ref a)) ∧ AnsQ T (hdD c hd) H D.rt) := by
  have hx : HX T C.N C.sc c a oe (X.suite a ((a, oe) :: pn)) :=
    ⟨cx.m.c.K, cx.m.c.mg, cx.m.c.xN, cx.m.c.nd, cx.m.c.sc, by have := cx.m.c.u; exact this, by simp, hz, hf⟩
  cases hd with
  | ref x fl =>
    simp only [hdB] at g
    split at g
    · rename_i e es
      obtain ⟨p, rfl⟩ := vRet_eq es
      split at g
      · rename_i y z ec
        obtain ⟨p1, p2, rfl⟩ := vCall_eq ec
        obtain ⟨g1, g2⟩ := ex_and g
        obtain ⟨g3, g4⟩ := ex_and g1
        obtain ⟨g5, g6⟩ := ex_and g3
        have e1 := beq_iff_eq.mp g5
        obtain ⟨n1, n2⟩ := (show NdX T k (.xf al x fl) from hn _ (by simp [ndHd]))
        have r := cx.m.c.room
        have hr : L2H.RoomH 1 (X.suite a ((a, oe) :: pn)).A := ⟨by have := r.dp; show X.A.depth + 3 * 1 + 5 < _; omega, by have := r.un; show X.A.units + 16 * 1 + 200 < _; omega⟩
        have tk : Takes (X.suite a ((a, oe) :: pn)) (fun _ _ _ _ => False) := fun u s' xx => by
          obtain ⟨_, _, _, _, _, _, _, _, _, _, _, _, _, _, _, _, z⟩ := xx
          exact z.elim
        refine PS.imp (ps_ret (h_call hx cx.m.c.prog cx.m.c.w cx.m.c.base hr tk hc (x := y) (fl := fl) (by rw [e1]; exact n1) g6 g4 g2)) fun D σ H q => q
      · cases g
    · cases g
  | yes =>
    simp only [hdB] at g
    split at g
    · rename_i e es
      obtain ⟨p, rfl⟩ := vRet_eq es
      refine PS.imp (ps_ret (h_isX hx F hc g fun p k1 k2 => pe_bltn (v := V.ty "ValueError") (hx.gl k1) (by rw [hx.mg]; exact F.mv) (by decide +kernel) rfl (by decide) (by decide))) fun D σ H q => ?_
      exact isR_run q.1 (fun u h => h) (F.val c hc) (ans_c q.2 fun G μ => by simp only [Rp])
    · cases g
  | two x C' sa sb =>
    simp only [hdB] at g
    split at g
    · rename_i e es
      obtain ⟨p, rfl⟩ := vRet_eq es
      split at g
      · rename_i t u v ei
        obtain ⟨p2, rfl⟩ := vIf_eq ei
        obtain ⟨g1, g2⟩ := ex_and g
        obtain ⟨g3, g4⟩ := ex_and g1
        obtain ⟨⟨q1, p3, ee⟩, l1, c1⟩ := strB_eq g4
        subst ee
        obtain ⟨⟨q2, p4, ee⟩, l2, c2⟩ := strB_eq g2
        subst ee
        obtain ⟨n1, n2⟩ := (show NdX T k (.xt al x C') from hn _ (by simp [ndHd]))
        refine PS.imp (ps_ret (pe_ifExp (cut2 (h_isX (cv := .ref (T.ca C')) hx F hc g3 fun p k1 k2 => pe_glob (hx.gl k1) (by rw [hx.mg]; exact n1) rfl (db1 k2)) (isX_tst g3)) pe_str pe_str)) fun D σ H q => ?_
        refine isR_run q.1 (fun u h => h) (n2 c hc) ⟨_, rfl, ?_⟩
        have q2 := q.2
        simp only [hdD] at q2
        cases hb : isX c C' with
        | true =>
          rw [hb] at q2
          exact ans_c q2 fun G μ => (pk_str l1 c1 : Po T 0 H G H μ (.str sa) _)
        | false =>
          rw [hb] at q2
          exact ans_c q2 fun G μ => (pk_str l2 c2 : Po T 0 H G H μ (.str sb) _)
      · cases g
    · cases g
theorem EndsP.few {mu : List Nat} {n : Nat} {E : EW} {G : Hp} {μ : List Addr} {σ : St} {as as' : List Nat} {D : Ends} {q : Fl × Env} {s : Sto} (i : ∀ j, j ∈ as → j ∈ as') (h : EndsP T mu n E G μ σ as' D q s) : EndsP T mu n E G μ σ as D q s := by
  obtain ⟨fl, ρ⟩ := q
  cases fl with
  | rt d => exact h
  | nx => exact fun σ' G' H' μ' e g m z => h σ' G' H' μ' e g m fun j hj => z j fun hj' => hj (i j hj')
  | bk => exact fun σ' G' H' μ' e g m z => h σ' G' H' μ' e g m fun j hj => z j fun hj' => hj (i j hj')
  | ct => exact fun σ' G' H' μ' e g m z => h σ' G' H' μ' e g m fun j hj => z j fun hj' => hj (i j hj')
theorem rd_try {mu : List Nat} {n : Nat} {W : WX} {as : List Nat} {tb : WX → TS} {f : Env → MF} {al : List Xc} {cl : Xc} {hd : Hd} {h : Nat} (hh : h < n) (hb : ∀ W, RdS T mu n W as (tb W) f) (hx : ∀ c ∈ al, PySem.W.exmOne T.K (.ref (T.ca c)) (.ref (T.ca cl)) = some (isX c cl)) :
    RdS T mu n W (h :: as) (fun D σ H => tb (wAs T.K (.ref (T.ca cl)) h (fun a cls d D σ H => ∃ c ∈ al, cls = .ref (T.ca c) ∧ d = none ∧ σ[h]? = some (some (.ref a)) ∧ AnsQ T (hdD c hd) H D.rt) W D) D σ H) (fun ρ => tryM f (hsM al cl hd) ρ) := by
  intro E ρ σ G H μ st D er hres
  refine hb _ E ρ σ G H μ st D er ?_
  replace hres : Res (match f ρ st with
    | .ex c s' => (match hsM al cl hd c with
      | some d => .ok (.rt d, ρ) s'
      | none => .bad)
    | r => r) (EndsP T mu n E G μ σ (h :: as) D) (WS T W n E) := hres
  cases e : f ρ st with
  | bad => rw [e] at hres; exact hres.elim
  | ok q s' =>
    rw [e] at hres
    exact EndsP.few (fun j hj => List.mem_cons_of_mem _ hj) hres
  | ex c s' =>
    rw [e] at hres
    cases e2 : hsM al cl hd c with
    | none => simp only [e2] at hres; exact hres.elim
    | some d =>
      simp only [e2] at hres
      unfold hsM at e2
      split at e2
      · rename_i hcc
        rw [Bool.and_eq_true] at hcc
        have hc : c ∈ al := by simpa using hcc.1
        show WS T _ n E c s'
        intro σ' G' H' μ' hl ev w
        refine ⟨true, by rw [hx c hc, hcc.2], fun _ a ha => ⟨c, hc, rfl, rfl, List.getElem?_set_self (by rw [hl]; exact hh), G', μ', s', w, by rw [e2]; simp, fun d' hd' v G2 H2 μ2 ev2 w2 r2 => ?_⟩, fun z => nomatch z⟩
        rw [e2] at hd'
        cases hd'
        exact hres v G2 H2 μ2 (ev.trans ev2) w2 r2
      · cases e2
theorem s_try {C : MC} {W : WX} {X : Cx} {h : Nat} {hd : Hd} {body : List Stmt} {su : Stmt} {x nn : Str} {p1 p2 p : Pos} {al : List Xc} {cl : Xc} {tb : WX → TS} (cx : CxtS T k C W X) (g1 : nthB C.N h nn = true) (g2 : C.sc.names.lookup nn = some .local) (g3 : glB C.sc x = true) (g4 : dbB x = true)
    (hx : T.mg x = some (.ref (T.ca cl))) (F : XcF T al) (hn : NdsX T k (ndHd al hd)) (g : hdB C h hd su = true) (hb : ∀ W X, CxtS T k C W X → PSs X body (tb W)) :
    PS X (.Try body [.ExceptHandler (some (.Name x p1)) (some nn) [su] p2] [] [] p) (fun D σ H => tb (wAs T.K (.ref (T.ca cl)) h (fun a cls d D σ H => ∃ c ∈ al, cls = .ref (T.ca c) ∧ d = none ∧ σ[h]? = some (some (.ref a)) ∧ AnsQ T (hdD c hd) H D.rt) W D) D σ H) := by
  rw [← cx.m.c.K]
  refine ps_try_as cx.stk cx.fra (by rw [cx.m.c.xN]; exact cx.m.c.nd) (by rw [cx.m.c.xN]; exact nthB_ok g1) (by show X.env.scope.names.lookup nn = _; rw [cx.m.c.sc]; exact g2) ⟨cx.m.c.gl g3, db1 g4, .inl (by rw [cx.m.c.mg]; exact hx)⟩ cx.m.c.tk (fun W' pn xe tk po => hb W' _ ?_) (fun a oe cls d pn hz hf => ?_)
  · exact ⟨⟨⟨cx.m.c.prog, cx.m.c.w, cx.m.c.K, cx.m.c.mg, cx.m.c.base, cx.m.c.xN, cx.m.c.nd, cx.m.c.sc, cx.m.c.calm, cx.m.c.room, tk⟩, cx.m.fn⟩, po, cx.kind, cx.stk, cx.fra⟩
  · refine ⟨fun pins s σ H D I q => ?_⟩
    obtain ⟨c, hc, rfl, rfl, q1, q2⟩ := q
    exact (pss_cons (s_suite (a := a) (oe := oe) (pn := pn) cx g F hn hc hz hf) pss_nil).run pins s σ H D I ⟨q1, q2⟩
end BX

set_option Elab.async false
set_option linter.all false
set_option maxRecDepth 100000
/-! BS17: statements, all together. -/
namespace BX
open PySem PySem.Spec PyProof.Rows L2
variable {T : Rt} {k : Nat}
theorem nodup_name {C : MC} {t v : Expr} {tg : Tg} (h : mT1 C tg t = true) (hw : (match tg with
      | .one _ => true
      | .many _ => noTup v) = true) (env : PySem.Env) : swappedStores [t] v env = pure none ∧ (assignEach [t] env).map (·.2) = [assign t env] := by
  cases tg with
  | one i =>
    simp only [mT1, mTg] at h
    obtain ⟨h1, _⟩ := ex_and h
    split at h1
    · rename_i x ex
      obtain ⟨p, rfl⟩ := vName_eq ex
      exact ⟨ss_name _, rfl⟩
    · cases h1
  | many is =>
    simp only [mT1] at h
    split at h
    · rename_i es ee
      obtain ⟨kk, p, rfl⟩ := vTup_eq ee
      exact ⟨ss_tup hw _, rfl⟩
    · cases h
theorem tg_name {C : MC} {i : Nat} {t : Expr} (h : mT1 C (.one i) t = true) : ∃ x p, t = .Name x p ∧ nthB C.N i x = true ∧ locB C x = true ∧ i ∉ C.mu := by
  simp only [mT1, mTg] at h
  obtain ⟨h1, _⟩ := ex_and h
  split at h1
  · rename_i x ex
    obtain ⟨p, rfl⟩ := vName_eq ex
    obtain ⟨h3, h4⟩ := ex_and h1
    obtain ⟨h5, h6⟩ := ex_and h3
    exact ⟨x, p, rfl, h5, h6, by simpa using h4⟩
  · cases h1
theorem okE_as {b : Expr} (h : okE b = true) (o : Expr) (p : Pos) (env : PySem.Env) (v : Value) : assign (.Subscript o b p) env v = (do
      let ov ← holding [v] (eval o env)
      let iv ← holding [v, ov] (eval b env)
      standAt p
      holding [v, ov, iv] (setItem ov iv v)
      release [v, ov, iv] []) := by
  cases b <;> first | rfl | (simp [okE] at h; done)
set_option maxHeartbeats 2000000 in
mutual
theorem mS_ok : ∀ (s : S) (C : MC) (x : Stmt) (W : WX), mS C s x = true → NdsX T k (ndS s) → OkS T k C W s x
  | .a tg p, C, s, W, h, hn => by
    simp only [mS] at h
    split at h
    · rename_i t v pos ev'
      have es := vAsg_eq ev'
      subst es
      obtain ⟨h1, h2⟩ := ex_and h
      obtain ⟨h3, h4⟩ := ex_and h1
      obtain ⟨h5, h6⟩ := ex_and h3
      obtain ⟨h7, h8⟩ := ex_and h5
      have nn : Nds T k (ndP p) := NdsX.ok hn
      cases tg with
      | one i =>
        obtain ⟨x, px, rfl, k1, k2, k3⟩ := tg_name h7
        cases hl : noLc v with
        | true =>
          obtain ⟨t, r, pe⟩ := mE_ok p C v W h6 nn
          exact ⟨tAsg t (gName i), (rd_asg (md := 0) (r.zero (of_decide_eq_true h4)) (rd_gone k3)).as fun _ => rfl, fun X c => s_asg1 (p := p) c k1 k2 hl (pe X c.m)⟩
        | false =>
          have hp : isCp p = true := by
            have h2' : (noLc v || isCp p) = true := h2
            rw [hl, Bool.false_or] at h2'
            exact h2'
          obtain ⟨t, r, ps⟩ := s_asgc (T := T) (k := k) (W := W) (px := px) (pos := pos) k1 k2 hp h6 nn
          exact ⟨tAsg t (gName i), (rd_asg (md := 0) (r.zero (Nat.le_refl 1)) (rd_gone k3)).as fun _ => rfl, ps⟩
      | many is =>
        obtain ⟨k1, k2⟩ := ex_and (show (noLc v && noTup v) = true from h2)
        obtain ⟨t', r, pe⟩ := mE_ok p C v W h6 nn
        obtain ⟨g, rg, pg⟩ := s_tg (T := T) (k := k) h7
        refine ⟨tAsg t' g, (rd_asg (md := 0) (r.zero (of_decide_eq_true h4)) rg).as fun _ => rfl, fun X c => ?_⟩
        obtain ⟨n1, n2⟩ := nodup_name (v := v) h7 k2 X.env
        exact ps_asg (pe X c.m) (pg W X c.m) (sws (sw_no k1 _ _ _)) n1 n2
    · cases h
  | .m i p, C, s, W, h, hn => by
    simp only [mS] at h
    split at h
    · rename_i t v pos ev'
      have es := vAsg_eq ev'
      subst es
      split at h
      · rename_i x ex
        obtain ⟨px, rfl⟩ := vName_eq ex
        obtain ⟨h1, h2⟩ := ex_and h
        obtain ⟨h3, h4⟩ := ex_and h1
        obtain ⟨h5, h6⟩ := ex_and h3
        obtain ⟨h7, h8⟩ := ex_and h5
        obtain ⟨h9, h10⟩ := ex_and h7
        obtain ⟨h11, h12⟩ := ex_and h9
        obtain ⟨h13, h14⟩ := ex_and h11
        have nn : Nds T k (ndP p) := NdsX.ok hn
        have hf : fresh p = true → mdP C.mu p = 1 := fun z => by
          rw [z] at h4
          simpa using h4
        have hi : i ∈ C.mu := of_decide_eq_true h12
        cases hl : noLc v with
        | true =>
          obtain ⟨t, r, pe⟩ := mE_ok p C v W h8 nn
          exact ⟨tAsg t (gName i), (rd_m hi r (of_decide_eq_true h6) hf).as fun _ => rfl, fun X c => s_asg1 (p := p) c h13 h14 hl (pe X c.m)⟩
        | false =>
          have hp : isCp p = true := by
            rw [hl, Bool.false_or] at h2
            exact h2
          obtain ⟨t, r, ps⟩ := s_asgc (T := T) (k := k) (W := W) (px := px) (pos := pos) h13 h14 hp h8 nn
          exact ⟨tAsg t (gName i), (rd_m hi r (Nat.le_refl 1) fun _ => rfl).as fun _ => rfl, ps⟩
      · cases h
    · cases h
  | .mv i j, C, s, W, h, hn => by
    simp only [mS] at h
    split at h
    · rename_i t v pos ev'
      have es := vAsg_eq ev'
      subst es
      split at h
      · rename_i x y ex ey
        obtain ⟨px, rfl⟩ := vName_eq ex
        obtain ⟨py, rfl⟩ := vName_eq ey
        obtain ⟨h1, h2⟩ := ex_and h
        obtain ⟨h3, h4⟩ := ex_and h1
        obtain ⟨h5, h6⟩ := ex_and h3
        obtain ⟨h7, h8⟩ := ex_and h5
        obtain ⟨h9, h10⟩ := ex_and h7
        obtain ⟨h11, h12⟩ := ex_and h9
        exact ⟨_, (rd_mv (of_decide_eq_true h2) (by simpa using h10)).as fun _ => rfl, fun X c => s_asg1 (p := .cN) c h11 h12 rfl (s_var c.m h8 h6 h4)⟩
      · cases h
    · cases h
  | .ap i p, C, s, W, h, hn => by
    simp only [mS] at h
    split at h
    · rename_i e pos ev'
      have es := vEx_eq ev'
      subst es
      obtain ⟨q, hq, hf, hi⟩ := mMet_y h
      obtain ⟨h1, h2⟩ := ex_and hf
      obtain ⟨t, r, pe⟩ := mE_ok p C q.2.2.1 W h1 (NdsX.ok hn)
      refine ⟨_, (rd_chg (r := rAppend) (g := appD) hi (r.zero (of_decide_eq_true h2)) fun H0 G H μ st d v a ds ys xs Q w p1 hH hl hx e q => r_app p1 hH hl hx e q).as fun _ => rfl, fun X c => ?_⟩
      rw [← c.m.c.K]
      exact ps_expr (s_met2 c.m h hq PySem.F.plainAttrs_list PySem.F.slot_list_append PySem.F.type_list_append mt_append t (pe X c.m)) (sw_no (mMet_lc h) _ _ _)
    · cases h
  | .ext i p, C, s, W, h, hn => by
    simp only [mS] at h
    split at h
    · rename_i e pos ev'
      have es := vEx_eq ev'
      subst es
      obtain ⟨q, hq, hf, hi⟩ := mMet_y h
      obtain ⟨t, r, pe⟩ := mE_ok p C q.2.2.1 W hf (NdsX.ok hn)
      refine ⟨_, (rd_chg (r := rExtend) (g := extD) hi r fun H0 G H μ st d v a ds ys xs Q w p1 hH hl hx e q => r_ext w p1 hH hl hx e q).as fun _ => rfl, fun X c => ?_⟩
      rw [← c.m.c.K]
      exact ps_expr (s_met2 c.m h hq PySem.F.plainAttrs_list PySem.F.slot_list_extend PySem.F.type_list_extend mt_extend t (pe X c.m)) (sw_no (mMet_lc h) _ _ _)
    · cases h
  | .rm i p, C, s, W, h, hn => by
    simp only [mS] at h
    split at h
    · rename_i e pos ev'
      have es := vEx_eq ev'
      subst es
      obtain ⟨q, hq, hf, hi⟩ := mMet_y h
      obtain ⟨t, r, pe⟩ := mE_ok p C q.2.2.1 W hf (NdsX.ok hn)
      refine ⟨_, (rd_chg (r := rRemD T.K) (g := remD) hi r fun H0 G H μ st d v a ds ys xs Q w p1 hH hl hx e q => r_rem w p1 hH hl hx e q).as fun _ => rfl, fun X c => ?_⟩
      rw [← c.m.c.K]
      exact ps_expr (s_met2 c.m h hq PySem.F.plainAttrs_list PySem.F.slot_list_remove PySem.F.type_list_remove (p_remD c.m.c.u) t (pe X c.m)) (sw_no (mMet_lc h) _ _ _)
    · cases h
  | .ixs i kk p, C, s, W, h, hn => by
    simp only [mS] at h
    split at h
    · rename_i t v pos ev'
      have es := vAsg_eq ev'
      subst es
      split at h
      · rename_i a b eb
        obtain ⟨pb, ee⟩ := vSub_eq eb
        subst ee
        split at h
        · rename_i x ex
          obtain ⟨px, ee⟩ := vName_eq ex
          subst ee
          obtain ⟨h1, h2⟩ := ex_and h
          obtain ⟨h3, h4⟩ := ex_and h1
          obtain ⟨h5, h6⟩ := ex_and h3
          obtain ⟨h7, h8⟩ := ex_and h5
          obtain ⟨h9, h10⟩ := ex_and h7
          obtain ⟨h11, h12⟩ := ex_and h9
          obtain ⟨h13, h14⟩ := ex_and h11
          obtain ⟨h15, h16⟩ := ex_and h13
          obtain ⟨h17, h18⟩ := ex_and h15
          obtain ⟨n1, n2⟩ := NdsX.app (show NdsX T k (ndP p ++ ndP kk) from hn)
          obtain ⟨t, r, pe⟩ := mE_ok p C v W h6 n1.ok
          obtain ⟨u, ru, pu⟩ := mE_ok kk C b W h2 n2.ok
          refine ⟨_, (rd_ixs (of_decide_eq_true h14) (r.zero (of_decide_eq_true h4)) ru).as fun _ => rfl, fun X c => ?_⟩
          exact ps_asg (pe X c.m) (pg_sub (s_var c.m h17 h18 h16) (pu X c.m) set_list (fun v => okE_as h12 _ _ _ v)) (sws (sw_no h8 _ _ _)) (ss_sub _) rfl
        · cases h
      · cases h
    · cases h
  | .e p, C, s, W, h, hn => by
    simp only [mS] at h
    split at h
    · rename_i e pos ev'
      have es := vEx_eq ev'
      subst es
      obtain ⟨h1, h2⟩ := ex_and h
      obtain ⟨h3, h4⟩ := ex_and h1
      obtain ⟨t, r, pe⟩ := mE_ok p C e W h2 (NdsX.ok hn)
      exact ⟨_, (rd_drop r).as fun _ => rfl, fun X c => ps_expr (pe X c.m) (sw_no h3 _ _ _)⟩
    · cases h
  | .iff t b d, C, s, W, h, hn => by
    simp only [mS] at h
    split at h
    · rename_i e x y ev'
      obtain ⟨p, rfl⟩ := vIfS_eq ev'
      obtain ⟨h1, h2⟩ := ex_and h
      obtain ⟨h3, h4⟩ := ex_and h1
      obtain ⟨n1, n2⟩ := NdsX.app (show NdsX T k (ndP t ++ (ndB b ++ ndB d)) from hn)
      obtain ⟨n3, n4⟩ := n2.app
      obtain ⟨tc, rc, pc⟩ := mT_ok t C e W h3 n1.ok
      obtain ⟨tb, rb, pb⟩ := mB_ok b C x W h4 n3
      obtain ⟨td, rd, pd⟩ := mB_ok d C y W h2 n4
      exact ⟨_, (rd_if' rc rb rd).as fun _ => rfl, fun X c => ps_if (pc X c.m) (pb X c) (pd X c)⟩
    · cases h
  | .fr tg it b, C, s, W, h, hn => by
    simp only [mS] at h
    split at h
    · rename_i t i x ev'
      obtain ⟨p, rfl⟩ := vFor_eq ev'
      obtain ⟨h1, h2⟩ := ex_and h
      obtain ⟨h3, h4⟩ := ex_and h1
      obtain ⟨h5, h6⟩ := ex_and h3
      obtain ⟨h7, h8⟩ := ex_and h5
      obtain ⟨n1, n2⟩ := NdsX.app (show NdsX T k (ndI it ++ ndB b) from hn)
      obtain ⟨wi, ri, pi⟩ := mI_ok it C t i W h6 n1.ok
      obtain ⟨g, rg, pg⟩ := s_tgz (T := T) (k := k) h7 (mI_z h6)
      obtain ⟨tb, rb, pb⟩ := mB_ok b C x W h2 n2
      rw [h4] at ri
      exact ⟨_, (rd_for ri rg rb).as fun _ => rfl, fun X c => ps_for c.po c.m.c.calm (pi X c.m) (pg W X c.m) (pb X c) (fun y => okE_fs h8 X.env y)⟩
    · cases h
  | .frm i tg b, C, s, W, h, hn => by
    simp only [mS] at h
    split at h
    · rename_i t e x ev'
      obtain ⟨p, rfl⟩ := vFor_eq ev'
      obtain ⟨h1, h2⟩ := ex_and h
      obtain ⟨h3, h4⟩ := ex_and h1
      obtain ⟨h5, h6⟩ := ex_and h3
      obtain ⟨h7, h8⟩ := ex_and h5
      split at h8
      · rename_i y ey
        obtain ⟨py, rfl⟩ := vName_eq ey
        obtain ⟨k1, k2⟩ := ex_and h8
        obtain ⟨k3, k4⟩ := ex_and k1
        obtain ⟨k5, k6⟩ := ex_and k3
        obtain ⟨g, rg, pg⟩ := s_tg (T := T) (k := k) h7
        obtain ⟨tb, rb, pb⟩ := mB_ok b C x W h6 hn
        refine ⟨_, (rd_frm (F := FUEL) (of_decide_eq_true k2) rg rb (by simpa using h4) (by simpa using h2)).as fun _ => rfl, fun X c => ?_⟩
        rw [← c.m.c.K]
        exact ps_for c.po c.m.c.calm (pi_list (s_var c.m k5 k6 k4)) (pg W X c.m) (pb X c) (fun y => okE_fs rfl X.env y)
      · cases h8
    · cases h
  | .wh t b, C, s, W, h, hn => by
    simp only [mS] at h
    split at h
    · rename_i e x ev'
      obtain ⟨p, rfl⟩ := vWh_eq ev'
      obtain ⟨h1, h2⟩ := ex_and h
      obtain ⟨n1, n2⟩ := NdsX.app (show NdsX T k (ndP t ++ ndB b) from hn)
      obtain ⟨tc, rc, pc⟩ := mT_ok t C e W h1 n1.ok
      obtain ⟨tb, rb, pb⟩ := mB_ok b C x W h2 n2
      exact ⟨_, (rd_while rc rb).as fun _ => rfl, fun X c => ps_while c.po (pc X c.m) (pb X c)⟩
    · cases h
  | .rt p, C, s, W, h, hn => by
    simp only [mS] at h
    split at h
    · rename_i e ev'
      obtain ⟨pp, rfl⟩ := vRet_eq ev'
      obtain ⟨h1, h2⟩ := ex_and h
      obtain ⟨t, r, pe⟩ := mE_ok p { C with mu := [] } e W h1 (NdsX.ok hn)
      exact ⟨_, (rd_ret r (of_decide_eq_true h2)).as fun _ => rfl, fun X c => ps_ret (pe X ⟨⟨c.m.c.prog, c.m.c.w, c.m.c.K, c.m.c.mg, c.m.c.base, c.m.c.xN, c.m.c.nd, c.m.c.sc, c.m.c.calm, c.m.c.room, c.m.c.tk⟩, c.m.fn⟩)⟩
    · cases h
  | .rn, C, s, W, h, hn => by
    simp only [mS] at h
    split at h
    · rename_i ev'
      obtain ⟨pp, rfl⟩ := vRet_eq ev'
      exact ⟨_, rd_retN.as fun _ => rfl, fun X c => ps_retN⟩
    · cases h
  | .ps, C, s, W, h, hn => by
    simp only [mS] at h
    obtain ⟨pp, rfl⟩ := vPs_eq h
    exact ⟨_, rd_next.as fun _ => rfl, fun X c => ps_pass⟩
  | .rs x xc, C, s, W, h, hn => by
    simp only [mS] at h
    split at h
    · rename_i y ev'
      obtain ⟨p1, m, j, p2, p3, p, rfl⟩ := vRs_eq ev'
      obtain ⟨h1, h2⟩ := ex_and h
      obtain ⟨h3, h4⟩ := ex_and h1
      have e := beq_iff_eq.mp h3
      subst e
      exact ⟨_, (rd_rs (c := xc)).as fun _ => rfl, fun X c => s_rs c.m h4 h2 (show NdX T k (.rs y xc) from hn _ (by simp [ndS]))⟩
    · cases h
  | .tr b cx cl al hs hd, C, s, W, h, hn => by
    simp only [mS] at h
    split at h
    · rename_i body x nn su ev'
      obtain ⟨p1, p2, p, rfl⟩ := vTry_eq ev'
      obtain ⟨h1, h2⟩ := ex_and h
      obtain ⟨h3, h4⟩ := ex_and h1
      obtain ⟨h5, h6⟩ := ex_and h3
      obtain ⟨h7, h8⟩ := ex_and h5
      obtain ⟨h9, h10⟩ := ex_and h7
      obtain ⟨h11, h12⟩ := ex_and h9
      obtain ⟨h13, h14⟩ := ex_and h11
      have e := beq_iff_eq.mp h10
      subst e
      obtain ⟨F, hx, he⟩ := (show NdX T k (.xc al x cl) from hn _ (by simp [ndS]))
      obtain ⟨n1, n2⟩ := NdsX.app (show NdsX T k (ndHd al hd ++ ndB b) from fun q hq => hn q (by simp only [ndS]; exact List.mem_cons_of_mem _ hq))
      have hl : hs < C.N.length := (List.getElem?_eq_some_iff.mp (nthB_ok h13)).1
      have hb := fun W => mB_ok b C body W h4 n2
      exact ⟨_, (rd_try (tb := fun W => (hb W).choose) hl (fun W => (hb W).choose_spec.1) he).as fun _ => rfl, fun X c => s_try c h13 (of_decide_eq_true h14) h8 h6 hx F n1 h2 fun W X c => (hb W).choose_spec.2 X c⟩
    · cases h
  | .sa o x i p, C, s, W, h, hn => by
    simp only [mS] at h
    split at h
    · rename_i t v pos ev'
      have es := vAsg_eq ev'
      subst es
      split at h
      · rename_i q eq'
        obtain ⟨pa, ee⟩ := vAttr_eq eq'
        subst ee
        obtain ⟨h1, h2⟩ := ex_and h
        obtain ⟨h3, h4⟩ := ex_and h1
        obtain ⟨h5, h6⟩ := ex_and h3
        obtain ⟨h7, h8⟩ := ex_and h5
        obtain ⟨h9, h10⟩ := ex_and h7
        obtain ⟨h11, h12⟩ := ex_and h9
        have eq := beq_iff_eq.mp h11
        obtain ⟨n1, n2⟩ := NdsX.app (show NdsX T k (ndP o ++ ndP p) from fun z hz => hn z (by simp only [ndS]; exact List.mem_cons_of_mem _ hz))
        obtain ⟨to, ro, po⟩ := mE_ok o C q.1 W h2 n1.ok
        obtain ⟨t, r, pe⟩ := mE_ok p C v W h6 n2.ok
        refine ⟨_, (rd_sa (of_decide_eq_true h12) (r.zero (of_decide_eq_true h4)) ro).as fun _ => rfl, fun X c => ?_⟩
        rw [eq, ← c.m.c.K]
        exact ps_fld (po X c.m) (pe X c.m) (sw_no h10 _ _ _)
      · cases h
    · cases h
theorem mB_ok : ∀ (b : SL) (C : MC) (xs : List Stmt) (W : WX), mB C b xs = true → NdsX T k (ndB b) → OkB T k C W b xs
  | .nil, C, [], W, h, hn => ⟨tNext, rd_next.as fun _ => rfl, fun X c => pss_nil⟩
  | .nil, C, _ :: _, W, h, hn => by simp [mB] at h
  | .cons _ _, C, [], W, h, hn => by simp [mB] at h
  | .cons s ss, C, x :: xs, W, h, hn => by
    simp only [mB] at h
    obtain ⟨h1, h2⟩ := ex_and h
    obtain ⟨n1, n2⟩ := NdsX.app (show NdsX T k (ndS s ++ ndB ss) from hn)
    obtain ⟨t, r, ps⟩ := mS_ok s C x W h1 n1
    obtain ⟨u, ru, pu⟩ := mB_ok ss C xs W h2 n2
    exact ⟨_, (rd_seq r ru).as fun _ => rfl, fun X c => pss_cons (ps X c) (pu X c)⟩
end
/-! ### a def -/
theorem start_env {K : PySem.W.Frag} {G : Hp} {μ : List Addr} {N : List Str} {ds : List D} {vs : List V} (r : RpL K G μ ds vs) {i : Nat} {d : D} (h : (ds.map some ++ List.replicate (N.length - ds.length) none)[i]? = some (some d)) : ∃ v, (L2.start N vs)[i]? = some (some v) ∧ Rp K G μ d v := by
  have hl := r.length
  unfold L2.start
  rcases Nat.lt_or_ge i ds.length with hi | hi
  · rw [List.getElem?_append_left (by simpa using hi), List.getElem?_map] at h
    cases e : ds[i]? with
    | none => rw [e] at h; cases h
    | some d' =>
      rw [e] at h
      cases h
      obtain ⟨v, h1, h2⟩ := r.get e
      exact ⟨v, by rw [List.getElem?_append_left (by rw [List.length_map]; omega), List.getElem?_map, h1]; rfl, h2⟩
  · rw [List.getElem?_append_right (by simpa using hi), List.getElem?_replicate] at h
    split at h <;> cases h
theorem mkF_ok {ar n : Nat} {b : SL} {ds : List D} {st : Sto} {kk : D → Sto → Prop} {x : Xc → Sto → Prop} (h : Res (mkF ar n b ds st) kk x) : ds.length = ar ∧ Res (bnd (evB b (ds.map some ++ List.replicate (n - ar) none)) (fun q => match q.1 with
    | .nx => ret .non
    | .rt d => ret d
    | _ => bad) st) kk x := by
  unfold mkF at h
  by_cases e : ds.length = ar
  · rw [if_pos e] at h
    exact ⟨e, h⟩
  · rw [if_neg e] at h
    exact h.elim
/-- a def of the text keeps its promise -/
theorem def_ok {f : Addr} {name qual : Str} {params : Arguments} {body : List Stmt} {scope : Scope} {dV kV doc pm cdv ct oc : Value} {an od : Option Addr} {osl : Array (Option Value)} {N ps : List Str} {mu : List Nat} {b : SL}
    (lk : T.K.lookup f = some ⟨oc, od, .func (PySem.W.fnOf name qual params body scope dV kV doc pm an cdv ct), osl⟩) (hcd : PySem.W.codeIn T.K cdv qual = true) (S : fsB N ps scope = true) (hmu : (mu.all fun i => decide (ps.length ≤ i)) = true)
    (hb : mB ⟨N, scope, fun _ => true, mu⟩ b body = true) (hn : NdsX T k (ndB b)) :
    FnOk T.P T.w T.K T.mg T.base (L2.CX T.P T.w) (k + 1) f (PySem.W.fnOf name qual params body scope dV kV doc pm an cdv ct) ps (spOf T (mkF ps.length N.length b)) := by
  have S' := fsB_ok S
  refine fn_of lk hcd S' (fun vs H Q E ⟨G, μ, st, ds, w, r, h⟩ => ?_) (fun A outer s H vs Q E hr ⟨G, μ, st, ds, w, r, h⟩ => ?_)
  · rw [← r.length]
    exact (mkF_ok h).1
  · obtain ⟨e, h⟩ := mkF_ok h
    obtain ⟨t, rt, pt⟩ := mB_ok (T := T) (k := k) b ⟨N, scope, fun _ => true, mu⟩ body (fun cls d _ H => E cls d H) hb hn
    refine ⟨t, pt _ ⟨⟨⟨rfl, rfl, rfl, rfl, rfl, rfl, S'.nd, rfl, rfl, hr, takes_of rfl rfl rfl rfl⟩, fun _ _ => rfl⟩, passes_of rfl, S'.kind, rfl, rfl⟩, ?_⟩
    have hpl : ps.length ≤ N.length := by have := congrArg List.length S'.pre; rw [List.length_take] at this; omega
    have er : Er T mu N.length ⟨G, H, μ⟩ (ds.map some ++ List.replicate (N.length - ps.length) none) (L2.start N vs) G H μ st := by
      have hpar : ∀ (i : Nat) (d : D), i ∈ mu → (ds.map some ++ List.replicate (N.length - ps.length) none)[i]? ≠ some (some d) := fun i d hi h => by
        have hge := of_decide_eq_true (List.all_eq_true.mp hmu i hi)
        rw [List.getElem?_append_right (by rw [List.length_map]; omega), List.getElem?_replicate] at h
        split at h <;> cases h
      refine ⟨w, Ev.refl _ _ _, ?_, ?_, fun i d _ h => ?_, fun i d hi h => absurd h (hpar i d hi), fun i j d e v hi _ _ _ _ h _ _ => absurd h (hpar i d hi)⟩
      · rw [List.length_append, List.length_map, List.length_replicate]
        omega
      · unfold L2.start
        rw [List.length_append, List.length_map, List.length_replicate, ← r.length]
        omega
      · exact start_env (N := N) r (by rw [e]; exact h)
    refine rt _ _ _ G H μ st _ er (h.bnd.mono (fun q s1 h1 => ?_) fun c s1 h1 => ?_)
    · obtain ⟨fl, ρ1⟩ := q
      cases fl with
      | nx => exact fun σ' G' H' μ' er' _ _ _ => h1 .non G' H' μ' er'.en er'.w rp_non
      | rt d => exact fun v G' H' μ' e w r => h1 v G' H' μ' e w r
      | bk => exact h1.elim
      | ct => exact h1.elim
    · exact fun σ' G' H' μ' _ e w => h1 G' H' μ' e w
end BX

set_option Elab.async false
set_option linter.all false
set_option maxRecDepth 100000
/-! BT7: defs of the text by name; the end. -/
namespace BX
open PySem PySem.Spec PyProof.Rows L2
/-- a def of the top, as the top has left it -/
structure DefK (K : PySem.W.Frag) (x : Str) (st : Stmt) (f : Addr) : Prop where
  ex : ∃ (oc : Value) (od : Option Addr) (kV doc pm : Value) (an : Option Addr) (cdv ct : Value) (osl : Array (Option Value)), K.lookup f = some ⟨oc, od, .func (PySem.W.fnOf x x (defArgs st) (defBody st) (defScope st) .none kV doc pm an cdv ct), osl⟩ ∧ PySem.W.codeIn K cdv x = true
  kp : PySem.W.keepIn K (.ref f) = true
  ns : PySem.W.nsIn K mainGlobals x = some (some (.ref f))
theorem defk {K : PySem.W.Frag} {x : Str} {st : Stmt} {f : Addr} {oc : Value} {od an : Option Addr} {osl : Array (Option Value)} {kV doc pm cdv ct : Value} (ns : PySem.W.nsIn K mainGlobals x = some (some (.ref f)))
    (l : K.lookup f = some ⟨oc, od, .func (PySem.W.fnOf x x (defArgs st) (defBody st) (defScope st) .none kV doc pm an cdv ct), osl⟩) (c : PySem.W.codeIn K cdv x = true) (k : PySem.W.keepIn K (.ref f) = true) : DefK K x st f := ⟨⟨oc, od, kV, doc, pm, an, cdv, ct, osl, l, c⟩, k, ns⟩
/-- the parameters are bound by place -/
def BindOk (x : Str) (st : Stmt) (ps : List Str) : Prop := ∀ (kV doc pm : Value) (an : Option Addr) (cdv ct : Value) (us : List Value), us.length = ps.length → bindArgs (PySem.W.fnOf x x (defArgs st) (defBody st) (defScope st) .none kV doc pm an cdv ct) ⟨us, []⟩ = pure (ps.zip us)
section
variable {T : Rt} {k : Nat}
theorem FnOk.imp {P : Program} {w : World} {K : PySem.W.Frag} {mg : Str → Option Value} {base : Heap} {CX : CXT} {k : Nat} {f : Addr} {fd : FuncData} {ps : List Str} {sp sp' : Sp} (h : FnOk P w K mg base CX k f fd ps sp) (i : ∀ vs H Q E, sp' vs H Q E → sp vs H Q E) : FnOk P w K mg base CX k f fd ps sp' :=
  ⟨fun vs H Q E z => h.len vs H Q E (i _ _ _ _ z), fun A outer s H args us vs Q E r e b v z => h.run A outer s H args us vs Q E r e b v (i _ _ _ _ z)⟩
theorem FnOk.up {P : Program} {w : World} {K : PySem.W.Frag} {mg : Str → Option Value} {base : Heap} {CX : CXT} {k j : Nat} {f : Addr} {fd : FuncData} {ps : List Str} {sp : Sp} (h : FnOk P w K mg base CX k f fd ps sp) (l : k ≤ j) : FnOk P w K mg base CX j f fd ps sp :=
  ⟨h.len, fun A outer s H args us vs Q E r e b v z => h.run A outer s H args us vs Q E (r.mono l) e b v z⟩
theorem FnIn.up {j : Nat} {x : Str} {F : List D → M D} (h : FnIn T k x F) (l : k ≤ j) : FnIn T j x F := by
  obtain ⟨f, fd, ps, h1, h2, h3, h4⟩ := h
  exact ⟨f, fd, ps, h1, h2, h3, FnOk.up h4 l⟩
/-- a def's text, matched -/
structure Mt1 (x : Str) (st : Stmt) (N ps : List Str) (mu : List Nat) (b : SL) : Prop where
  bd : BindOk x st ps
  sc : fsB N ps (defScope st) = true
  hmu : (mu.all fun i => decide (ps.length ≤ i)) = true
  tx : mB ⟨N, defScope st, fun _ => true, mu⟩ b (defBody st) = true
theorem fn_ok {x : Str} {st : Stmt} {f : Addr} {N ps : List Str} {mu : List Nat} {b : SL} (d : DefK T.K x st f) (m : Mt1 x st N ps mu b) (hn : NdsX T k (ndB b)) :
    ∃ fd, Binds T.K fd ps [] ∧ FnOk T.P T.w T.K T.mg T.base (L2.CX T.P T.w) (k + 1) f fd ps (spOf T (mkF ps.length N.length b)) := by
  obtain ⟨oc, od, kV, doc, pm, an, cdv, ct, osl, l, c⟩ := d.ex
  exact ⟨_, .all (m.bd kV doc pm an cdv ct), def_ok l c m.sc m.hmu m.tx hn⟩
theorem fn_in {x : Str} {st : Stmt} {N ps : List Str} {mu : List Nat} {b : SL} (hm : ∀ f, PySem.W.nsIn T.K mainGlobals x = some (some (.ref f)) → T.mg x = some (.ref f)) (d : ∃ f, DefK T.K x st f) (m : Mt1 x st N ps mu b) (hn : NdsX T k (ndB b)) : FnIn T (k + 1) x (mkF ps.length N.length b) := by
  obtain ⟨f, d⟩ := d
  obtain ⟨fd, h1, h2⟩ := fn_ok d m hn
  exact ⟨f, fd, ps, hm f d.ns, d.kp, h1, h2⟩
/-- the needs one by one -/
def NdL (T : Rt) (k : Nat) : List Nd → Prop
  | [] => True
  | q :: r => NdX T k q ∧ NdL T k r
theorem nds_of {l : List Nd} (h : NdL T k l) : NdsX T k l := by
  induction l with
  | nil => intro q hq; cases hq
  | cons q r ih =>
    intro p hp
    rcases List.mem_cons.mp hp with e | e
    · rw [e]; exact h.1
    · exact ih h.2 p e
/-- the law's promise -/
def spLaw (K : PySem.W.Frag) : Sp := fun vs H Q _ => ∃ (a : Addr) (ns : List Int), vs = [.ref a] ∧ SqL K H a (ns.map V.int) ∧ ns.length ≤ 63 ∧ Only H ∧ ∀ H', Q (.bl true) H'
theorem law_of {f : Addr} {fd : FuncData} {ps : List Str} {F : List D → M D} (hF : ∀ ns : List Int, ns.length ≤ 63 → ∃ s, F [.scr ns] [] = .ok (.bl true) s) (h : FnOk T.P T.w T.K T.mg T.base (L2.CX T.P T.w) k f fd ps (spOf T F)) :
    FnOk T.P T.w T.K T.mg T.base (L2.CX T.P T.w) k f fd ps (spLaw T.K) := by
  refine FnOk.imp h fun vs H Q E z => ?_
  obtain ⟨a, ns, rfl, hS, hl, hO, hq⟩ := z
  obtain ⟨s, e⟩ := hF ns hl
  refine ⟨H, [], [], [.scr ns], ⟨fun ob hob => by simp at hob, Sub.refl _, List.nodup_nil, rfl, fun n a ob h1 h2 => by simp at h1⟩, RpL.one (by simp only [Rp]; exact ⟨a, rfl, hS, Nat.le_trans hl (by decide)⟩), ?_⟩
  rw [e]
  intro v G' H' μ' _ _ r
  have r' : v = .bl true := by simpa only [Rp] using r
  subst r'
  exact hq H'
/-! ### exceptions -/
structure XcK (K : PySem.W.Frag) (x : Str) (C : Addr) : Prop where
  ns : PySem.W.nsIn K mainGlobals x = some (some (.ref C))
  ex : PySem.W.excIn K C [.type "ValueError", .type "Exception", .type "BaseException", .type "object"] "ValueError.__new__" = true
  kp : PySem.W.keepIn K (.ref C) = true
  sb : PySem.W.subIn K (.ref C) (.type "BaseException") = some true
  ty : PySem.W.typeIn K (.ref C) = some (.type "type")
theorem XcK.ok {x : Str} {c : Xc} (h : XcK T.K x (T.ca c)) : XcOk T c := ⟨⟨_, _, _, _, PySem.F.excBase_ValueError, h.ex⟩, h.kp, h.sb, h.ty⟩
/-- .. asked for by isinstance, by an except clause -/
structure XcI (K : PySem.W.Frag) (C : Addr) : Prop where
  e : ExcC K C
  ve : PySem.W.subIn K (.ref C) (.type "ValueError") = some true
theorem kit_ve {K : PySem.W.Frag} {C : Addr} (h : PySem.W.subIn K (.ref C) (.type "ValueError") = some true) : PySem.W.kitOne K (.ref C) (.type "ValueError") = some true := by
  unfold PySem.W.kitOne PySem.W.kitCls
  rw [if_neg (by simp)]
  show (if PySem.W.kitMeta "ValueError" = true then PySem.W.subIn K (.ref C) (.type "ValueError") else none) = some true
  rw [if_pos (by decide +kernel)]
  exact h
theorem kit_ref {K : PySem.W.Frag} {C D : Addr} {b : Bool} (hd : PySem.W.hasDictIn K D = true) (ht : PySem.W.typeIn K (.ref D) = some (.type "type")) (h : PySem.W.subIn K (.ref C) (.ref D) = some b) (hb : C = D → b = true) : PySem.W.kitOne K (.ref C) (.ref D) = some b := by
  obtain ⟨cd, hc, _⟩ := PySem.W.any_some hd
  unfold PySem.W.kitOne PySem.W.kitCls
  by_cases e : ((Value.ref C == Value.ref D) = true)
  · rw [if_pos e]
    have e' : C = D := Value.ref.inj (beq_iff_eq.mp e)
    rw [hb e']
  · rw [if_neg e]
    have e2 : ((PySem.W.clsIn K D).isSome && PySem.W.typeIn K (.ref D) == some (.type "type")) = true := by rw [hc, ht] <;> rfl
    show (if ((PySem.W.clsIn K D).isSome && PySem.W.typeIn K (.ref D) == some (.type "type")) = true then PySem.W.subIn K (.ref C) (.ref D) else none) = some b
    rw [if_pos e2]
    exact h
end
end BX

set_option Elab.async false
set_option linter.all false
set_option maxRecDepth 100000
/-! BT8: defs by recursion; the def that tells the refusal. -/
namespace BX
open PySem PySem.Spec PyProof.Rows L2
variable {T : Rt} {k : Nat}
theorem fn_bad {x : Str} {st : Stmt} {ps : List Str} (hm : ∀ f, PySem.W.nsIn T.K mainGlobals x = some (some (.ref f)) → T.mg x = some (.ref f)) (d : ∃ f, DefK T.K x st f) (bd : BindOk x st ps) : FnIn T k x (fun _ => bad) := by
  obtain ⟨f, d⟩ := d
  obtain ⟨oc, od, kV, doc, pm, an, cdv, ct, osl, l, c⟩ := d.ex
  refine ⟨f, _, ps, hm f d.ns, d.kp, .all (bd kV doc pm an cdv ct), ?_⟩
  have no : ∀ vs H Q E, ¬ spOf T (fun _ => bad) vs H Q E := fun vs H Q E z => by
    obtain ⟨_, _, _, _, _, _, z⟩ := z
    exact z
  exact ⟨fun vs H Q E h => absurd h (no vs H Q E), fun A outer s H args us vs Q E _ _ _ _ h => absurd h (no vs H Q E)⟩
theorem fx_in {x : Str} {st : Stmt} {N ps : List Str} {al : List Xc} {chs : List (List (Str × Xc))} (hm : ∀ f, PySem.W.nsIn T.K mainGlobals x = some (some (.ref f)) → T.mg x = some (.ref f)) (d : ∃ f, DefK T.K x st f) (bd : BindOk x st ps) (S : fsB N ps (defScope st) = true)
    (hl : ps.length = 1) (hN : 2 ≤ N.length) (F : XcF T al) (g : rfB N (defScope st) chs (defBody st) = true) (hn : ∀ ch ∈ chs, ∀ p ∈ ch, XcN T al p.1 p.2) (hc : chs.flatten.length ≤ LIM) : FxIn T al x (chs.flatten.map Prod.snd) := by
  obtain ⟨f, d⟩ := d
  obtain ⟨oc, od, kV, doc, pm, an, cdv, ct, osl, l, c⟩ := d.ex
  exact ⟨f, _, ps, hm f d.ns, d.kp, .all (bd kV doc pm an cdv ct), fnx_of l c S hl hN F g hn hc⟩
end BX

set_option Elab.async false
set_option linter.all false
set_option maxRecDepth 100000
/-! BO4: methods of the text's classes. -/
namespace BX
open PySem PySem.Spec PyProof.Rows L2
/-- a method, as the top has left it -/
structure MethK (K : PySem.W.Frag) (C : Addr) (x q : Str) (st : Stmt) (f : Addr) : Prop where
  ex : ∃ (oc : Value) (od : Option Addr) (kV doc pm : Value) (an : Option Addr) (cdv ct : Value) (osl : Array (Option Value)), K.lookup f = some ⟨oc, od, .func (PySem.W.fnOf x q (defArgs st) (defBody st) (defScope st) .none kV doc pm an cdv ct), osl⟩ ∧ PySem.W.codeIn K cdv q = true
  m : Meth K C x f
theorem methk {K : PySem.W.Frag} {C f : Addr} {x q : Str} {st : Stmt} {oc : Value} {od an : Option Addr} {osl : Array (Option Value)} {kV doc pm cdv ct : Value} (a : PySem.W.findIn K (.ref C) x = some (some (.ref f)))
    (l : K.lookup f = some ⟨oc, od, .func (PySem.W.fnOf x q (defArgs st) (defBody st) (defScope st) .none kV doc pm an cdv ct), osl⟩) (c : PySem.W.codeIn K cdv q = true) (i : PySem.W.isFn K (.ref f) = true) (k : PySem.W.keepIn K (.ref f) = true) : MethK K C x q st f := ⟨⟨oc, od, kV, doc, pm, an, cdv, ct, osl, l, c⟩, a, i, k⟩
/-- a class, as the top has left it -/
structure ClsK (K : PySem.W.Frag) (C : Addr) : Prop where
  ok : OkCl K C
  mks : PySem.W.makesIn K C = true
  kp : PySem.W.keepIn K (.ref C) = true
theorem clsk {K : PySem.W.Frag} {C : Addr} (pg : PySem.W.plainGet K C Str.empty = true) (hd : PySem.W.hasDictIn K C = true) (po : PySem.W.plainOver K C = true) (sa : PySem.W.findIn K (.ref C) "__setattr__" = some (some (.builtin "object.__setattr__"))) (mk : PySem.W.makesIn K C = true) (kp : PySem.W.keepIn K (.ref C) = true)
    (n0 : PySem.W.findIn K (.ref C) "book" = some none) (n1 : PySem.W.findIn K (.ref C) "digits" = some none) (n2 : PySem.W.findIn K (.ref C) "rests" = some none) (n3 : PySem.W.findIn K (.ref C) "last" = some none) (n4 : PySem.W.findIn K (.ref C) "over" = some none)
    (n5 : PySem.W.findIn K (.ref C) "alarms" = some none) (n6 : PySem.W.findIn K (.ref C) "ticks" = some none) (n7 : PySem.W.findIn K (.ref C) "loop" = some none) (n8 : PySem.W.findIn K (.ref C) "many" = some none) (n9 : PySem.W.findIn K (.ref C) "pulled" = some none)
    (n10 : PySem.W.findIn K (.ref C) "moment" = some none) (n11 : PySem.W.findIn K (.ref C) "past" = some none) (n12 : PySem.W.findIn K (.ref C) "later" = some none) (n13 : PySem.W.findIn K (.ref C) "office" = some none) (n14 : PySem.W.findIn K (.ref C) "noted" = some none) : ClsK K C := by
  refine ⟨⟨⟨pg, hd, po, sa⟩, fun x hx => ?_⟩, mk, kp⟩
  simp only [AT, List.mem_cons, List.not_mem_nil, or_false] at hx
  rcases hx with rfl | rfl | rfl | rfl | rfl | rfl | rfl | rfl | rfl | rfl | rfl | rfl | rfl | rfl | rfl <;> assumption
/-- the parameters are bound by place -/
def BindOkM (x q : Str) (st : Stmt) (ps : List Str) : Prop := ∀ (kV doc pm : Value) (an : Option Addr) (cdv ct : Value) (us : List Value), us.length = ps.length → bindArgs (PySem.W.fnOf x q (defArgs st) (defBody st) (defScope st) .none kV doc pm an cdv ct) ⟨us, []⟩ = pure (ps.zip us)
structure Mt2 (x q : Str) (st : Stmt) (N ps : List Str) (mu : List Nat) (b : SL) : Prop where
  bd : BindOkM x q st ps
  sc : fsB N ps (defScope st) = true
  hmu : (mu.all fun i => decide (ps.length ≤ i)) = true
  tx : mB ⟨N, defScope st, fun _ => true, mu⟩ b (defBody st) = true
/-- the j-th statement of a class's body -/
def inCls (st : Stmt) (j : Nat) : Stmt := match st with
  | .ClassDef _ _ _ body _ _ _ _ _ _ _ => body.getD j (.Pass ⟨0, 0, 0, 0⟩)
  | s => s
section
variable {T : Rt} {k : Nat}
theorem me_fn {x q : Str} {st : Stmt} {C f : Addr} {N ps : List Str} {mu : List Nat} {b : SL} (d : MethK T.K C x q st f) (m : Mt2 x q st N ps mu b) (hn : NdsX T k (ndB b)) :
    ∃ fd, Binds T.K fd ps [] ∧ FnOk T.P T.w T.K T.mg T.base (L2.CX T.P T.w) (k + 1) f fd ps (spOf T (mkF ps.length N.length b)) := by
  obtain ⟨oc, od, kV, doc, pm, an, cdv, ct, osl, l, c⟩ := d.ex
  exact ⟨_, .all (m.bd kV doc pm an cdv ct), def_ok l c m.sc m.hmu m.tx hn⟩
theorem me_in {c : Nat} {x q : Str} {st : Stmt} {N ps : List Str} {mu : List Nat} {b : SL} (cl : ClsK T.K (T.co c)) (d : ∃ f, MethK T.K (T.co c) x q st f) (m : Mt2 x q st N ps mu b) (hn : NdsX T k (ndB b)) : NdX T (k + 1) (.me c x (mkF ps.length N.length b)) := by
  obtain ⟨f, d⟩ := d
  obtain ⟨fd, h1, h2⟩ := me_fn d m hn
  exact ⟨f, fd, ps, cl.ok.cls, d.m, h1, h2⟩
theorem me_up {c j : Nat} {x : Str} {F : List D → M D} (h : NdX T k (.me c x F)) (l : k ≤ j) : NdX T j (.me c x F) := by
  obtain ⟨f, fd, ps, h1, h2, h3, h4⟩ := h
  exact ⟨f, fd, ps, h1, h2, h3, FnOk.up h4 l⟩
theorem mk_in {c : Nat} {x q : Str} {st : Stmt} {N ps : List Str} {mu : List Nat} {b : SL} (hm : T.mg x = some (.ref (T.co c))) (cl : ClsK T.K (T.co c)) (d : ∃ f, MethK T.K (T.co c) "__init__" q st f) (m : Mt2 "__init__" q st N ps mu b) (hn : NdsX T k (ndB b)) : NdX T (k + 2) (.mk x c (mkF ps.length N.length b)) := by
  obtain ⟨f, d⟩ := d
  obtain ⟨fd, h1, h2⟩ := me_fn d m hn
  exact ⟨hm, cl.ok, f, fd, ps, k + 1, Nat.le_refl _, ⟨cl.mks, d.m.at_, d.m.fn, cl.kp⟩, h1, h2⟩
theorem mk_up {c j : Nat} {x : Str} {F : List D → M D} (h : NdX T k (.mk x c F)) (l : k ≤ j) : NdX T j (.mk x c F) := by
  obtain ⟨h1, h2, f, fd, ps, i, h3, h4⟩ := h
  exact ⟨h1, h2, f, fd, ps, i, Nat.le_trans h3 l, h4⟩
end
def coOf (a b c : Addr) : Nat → Addr
  | 0 => a
  | 1 => b
  | _ => c
end BX

set_option Elab.async false
set_option linter.all false
set_option maxRecDepth 100000
/-! BT9: the classes of exceptions as the top has left them. -/
namespace BX
open PySem PySem.Spec PyProof.Rows L2
/-- a class of exceptions that isinstance is asked of -/
structure XcA (K : PySem.W.Frag) (C : Addr) : Prop where
  hg : PySem.W.findIn K (.ref C) "__getattribute__" = some (some (.builtin "BaseException.__getattribute__"))
  hk : PySem.W.findIn K (.ref C) "__getattr__" = some none
  hd : PySem.W.hasDictIn K C = true
  ha : PySem.W.findIn K (.ref C) "__class__" = some (some (.builtin "object.__class__"))
  hm : PySem.W.mroIn K C (.type "object") = some true
  ve : PySem.W.subIn K (.ref C) (.type "ValueError") = some true
structure XcG (K : PySem.W.Frag) : Prop where
  hn : PySem.W.specialIn K (.builtin "object.__class__") "__get__" = some (some (.builtin "getset_descriptor.__get__"))
  ht : PySem.W.takesIn K (.builtin "object.__class__") = some true
theorem exc_of {K : PySem.W.Frag} {x : Str} {C : Addr} (k : XcK K x C) (a : XcA K C) (g : XcG K) : ExcC K C := ⟨a.hg, a.hk, k.sb, a.hd, a.ha, g.hn, g.ht, a.hm⟩
def caOf (tap num book line loop pull count text step : Addr) : Xc → Addr
  | .tap => tap
  | .num => num
  | .book => book
  | .line => line
  | .loop => loop
  | .pull => pull
  | .count => count
  | .text => text
  | .step => step
theorem gl_int {K : PySem.W.Frag} {h : Heap} {mg : Str → Option Value} {x : Str} {i : Int} {t : Tok} (X : K.In h) (G : h.Ns mainGlobals mg) (e : PySem.W.nsIn K mainGlobals x = some (some (.int i t))) : ∃ u v, mg x = some u ∧ RelV v u ∧ ∀ G μ, Rp K G μ (.int i) v :=
  ⟨_, .int i, PySem.W.mg_of X G e, ⟨t, rfl⟩, fun _ _ => by simp only [Rp]⟩
theorem walk {l : PySem.W.OpenLaw} {q : Program} {loose : List Str} {XP : (Str → Option Value) → Heap → Prop} {YP : World → Heap → Prop} {d : DefRec} {K : Params → PySem.W.Frag} {x : Str} (k : Nat) (hn : l.most = some 63) (hdf : d.params.defaults = []) (hr : Room k callerA)
    (hY : ∀ (w : World) (h : Heap), YP w h → (K w.params).In h)
    (F : ∀ (w : World) (mg : Str → Option Value) (fa : Addr) (h : Heap), (K w.params).In h → h.Ns mainGlobals mg → mg d.name = some (.ref fa) →
      ∃ fd : FuncData, (∀ (s : Shared) (u : Value), BindsTo s fd ⟨[u], []⟩ [(x, u)]) ∧ ∀ base : Heap, (K w.params).In base → base.Ns mainGlobals mg → FnOk l.prog w (K w.params) mg base (L2.CX l.prog w) k fa fd [x] (spLaw (K w.params))) :
    PySem.W.WalkO q loose XP YP l.row.toRowW d [] (fun f vs => PySem.call f vs) :=
  L2.walk_of (n := 63) (k := k) (x := x) (CX := fun w => L2.CX l.prog w) (sp := fun w => spLaw (K w.params)) hn (by decide) hdf hr hY F (fun w H a ns hl hO hS => ⟨a, ns, rfl, hS, hl, hO, fun _ => rfl⟩) fun w H s e s' h => by
    obtain ⟨_, _, _, _, _, _, _, _, _, _, _, _, z⟩ := h
    exact z
theorem cx_nil {P : Program} (w : World) (H : Hp) (s : Shared) (e : Value) (s' : Shared) (h : L2.CX P w [] H s (fun _ _ _ => False) e s') : False := by
  obtain ⟨_, _, _, _, _, _, _, _, _, _, _, _, z⟩ := h
  exact z
end BX

namespace BX
open PySem
def N_bits_of : List Str := ["number", "found", "digit"]
def B_bits_of : SL :=
      (.cons (.m 1 (.li .nil))
      (.cons (.fr (.one 2) (.e (.var 0)) (.cons (.ext 1 (.bin .mul (.bin .mul (.li (.cons (.cI 0) .nil)) (.bin .sub (.gl "DIGIT_REST" (.int 3)) (.cI 1))) (.b1 .int (.cmp .ne (.var 1) (.li .nil)))))
      (.cons (.ext 1 (.bin .mul (.li (.cons (.cI 1) (.cons (.cI 0) .nil))) (.var 2))) .nil)))
      (.cons (.rt (.bin .add (.var 1) (.bin .mul (.li (.cons (.cI 0) .nil)) (.bin .sub (.gl "ROUND_REST" (.int 7)) (.cI 1))))) .nil)))
def F_bits_of : List D → M D := mkF 1 3 B_bits_of
def N_is_count : List Str := ["thing", "low", "high"]
def B_is_count : SL :=
      (.cons (.rt (.an (.cons (.isi (.var 0) [.int]) (.cons (.no (.isi (.var 0) [.bool])) (.cons (.chn .le .le (.var 1) (.var 0) (.var 2)) .nil))))) .nil)
def F_is_count : List D → M D := mkF 3 3 B_is_count
def N_need_rounds : List Str := ["many"]
def B_need_rounds : SL :=
      (.cons (.iff (.no (.ca "is_count" F_is_count (.cons (.var 0) (.cons (.cI 1) (.cons (.gl "MOST_ROUNDS" (.int 4)) .nil))))) (.cons (.rs "NoCount" .count) .nil) .nil) .nil)
def F_need_rounds : List D → M D := mkF 1 1 B_need_rounds
def N_is_number : List Str := ["thing", "digit"]
def B_is_number : SL :=
      (.cons (.iff (.orr (.cons (.no (.isi (.var 0) [.tuple])) (.cons (.no (.chn .le .le (.cI 1) (.b1 .len (.var 0)) (.gl "MOST_DIGITS" (.int 3)))) .nil))) (.cons (.rt (.cB false)) .nil) .nil)
      (.cons (.rt (.b1 .all (.cp (.ca "is_count" F_is_count (.cons (.var 1) (.cons (.cI 1) (.cons (.gl "MOST_DIGIT" (.int 6)) .nil)))) (.one 1) (.e (.var 0)) .none [1]))) .nil))
def F_is_number : List D → M D := mkF 1 2 B_is_number
def B_need_number : SL :=
      (.cons (.iff (.no (.ca "is_number" F_is_number (.cons (.var 0) .nil))) (.cons (.rs "NoNumber" .num) .nil) .nil) .nil)
def F_need_number : List D → M D := mkF 1 1 B_need_number
def B_taps : SL :=
      (.cons (.e (.ca "need_number" F_need_number (.cons (.var 0) .nil)))
      (.cons (.e (.ca "need_rounds" F_need_rounds (.cons (.var 1) .nil)))
      (.cons (.rt (.bin .mul (.ca "bits_of" F_bits_of (.cons (.var 0) .nil)) (.var 1))) .nil)))
def F_taps : List D → M D := mkF 2 2 B_taps
def B_long_of : SL :=
      (.cons (.e (.ca "need_number" F_need_number (.cons (.var 0) .nil)))
      (.cons (.e (.ca "need_rounds" F_need_rounds (.cons (.var 1) .nil)))
      (.cons (.rt (.bin .mul (.b1 .len (.ca "bits_of" F_bits_of (.cons (.var 0) .nil))) (.var 1))) .nil)))
def F_long_of : List D → M D := mkF 2 2 B_long_of
def N_l_cell : List Str := ["_law_script", "_law_k"]
def B_l_cell : SL :=
      (.cons (.iff (.cmp .eq (.var 0) (.li .nil)) (.cons (.rt (.bin .mul (.cI 7) (.var 1))) .nil) .nil)
      (.cons (.rt (.bin .add (.ix (.var 0) (.bin .mod (.var 1) (.b1 .len (.var 0)))) (.bin .mul (.cI 6553) (.bin .fdiv (.var 1) (.b1 .len (.var 0)))))) .nil))
def F_l_cell : List D → M D := mkF 2 2 B_l_cell
def N_l_drawn : List Str := ["_law_script", "_law_k", "_law_many", "_law_cell_here"]
def B_l_drawn : SL :=
      (.cons (.a (.one 3) (.bin .mod (.bin .add (.bin .mul (.bin .mod (.ca "_law_cell" F_l_cell (.cons (.var 0) (.cons (.var 1) .nil))) (.cI 2147483563)) (.cI 69069)) (.bin .mul (.cI 104723) (.bin .add (.var 1) (.cI 1)))) (.cI 2147483563)))
      (.cons (.a (.one 3) (.bin .mod (.bin .add (.bin .mul (.var 3) (.var 3)) (.bin .fdiv (.var 3) (.cI 3))) (.cI 2147483399)))
      (.cons (.rt (.bin .mod (.bin .fdiv (.bin .mod (.bin .add (.bin .mul (.var 3) (.var 3)) (.bin .fdiv (.var 3) (.cI 7))) (.cI 2147483647)) (.cI 11)) (.var 2))) .nil)))
def F_l_drawn : List D → M D := mkF 3 4 B_l_drawn
def B_l_number : SL :=
      (.cons (.a (.one 2) (.bin .add (.cI 1) (.ca "_law_drawn" F_l_drawn (.cons (.var 0) (.cons (.var 1) (.cons (.cI 3) .nil))))))
      (.cons (.rt (.b1 .tuple (.cp (.bin .add (.cI 1) (.ca "_law_drawn" F_l_drawn (.cons (.var 0) (.cons (.bin .add (.bin .add (.var 1) (.cI 1)) (.var 3)) (.cons (.cI 3) .nil))))) (.one 3) (.r1 (.var 2)) .none [3]))) .nil))
def F_l_number : List D → M D := mkF 2 4 B_l_number
def N_l_each : List Str := ["_law_thing", "_law_found", "_law_place", "_law_part"]
def B_l_each (R : List D → M D) : SL :=
      (.cons (.iff (.isi (.var 0) [.int]) (.cons (.rt (.li (.cons .cN (.cons (.cB true) (.cons (.bin .sub (.var 0) (.cI 1)) (.cons (.bin .add (.var 0) (.cI 1)) (.cons (.cI 1000) .nil))))))) .nil) .nil)
      (.cons (.iff (.no (.isi (.var 0) [.tuple])) (.cons (.rt (.li (.cons .cN (.cons (.cS []) (.cons (.cS [65]) .nil))))) .nil) .nil)
      (.cons (.a (.one 1) (.li (.cons .cN (.cons (.b1 .list (.var 0)) (.cons (.bin .add (.var 0) (.sl (.var 0) (.some (.neg (.cI 1))) .none)) (.cons (.sl (.var 0) (.some (.cI 1)) .none) .nil))))))
      (.cons (.fr (.one 2) (.r1 (.b1 .len (.var 0))) (.cons (.a (.one 1) (.bin .add (.var 1) (.cp (.bin .add (.bin .add (.sl (.var 0) .none (.some (.var 2))) (.tu (.cons (.var 3) .nil))) (.sl (.var 0) (.some (.bin .add (.var 2) (.cI 1))) .none)) (.one 3) (.e (.ca "_law_each" R (.cons (.ix (.var 0) (.var 2)) .nil))) .none [3]))) .nil))
      (.cons (.rt (.var 1)) .nil)))))
def F_l_each : Nat → List D → M D
  | 0 => fun _ => bad
  | n + 1 => mkF 1 4 (B_l_each (F_l_each n))
def B_cut_ahead : SL :=
      (.cons (.m 1 (.li .nil))
      (.cons (.fr (.many [2, 3]) (.en (.var 0)) (.cons (.ext 1 (.cp (.bin .add (.tu (.cons (.var 4) .nil)) (.sl (.var 0) (.some (.bin .add (.var 2) (.cI 1))) .none)) (.one 4) (.r2 (.cI 1) (.bin .add (.var 3) (.cI 1))) .none [4])) .nil))
      (.cons (.rt (.var 1)) .nil)))
def F_cut_ahead : List D → M D := mkF 1 5 B_cut_ahead
def B_parts_of : SL :=
      (.cons (.e (.ca "need_number" F_need_number (.cons (.var 0) .nil)))
      (.cons (.m 1 (.li .nil))
      (.cons (.fr (.one 2) (.e (.ca "cut_ahead" F_cut_ahead (.cons (.var 0) .nil))) (.cons (.ext 1 (.cp (.rv (.var 3)) (.one 3) (.e (.ca "cut_ahead" F_cut_ahead (.cons (.rv (.var 2)) .nil))) .none [3])) .nil))
      (.cons (.rt (.b1 .sortedSet (.var 1))) .nil))))
def F_parts_of : List D → M D := mkF 1 4 B_parts_of
def B_is_round : SL :=
      (.cons (.iff (.orr (.cons (.no (.isi (.var 0) [.tuple])) (.cons (.no (.chn .le .le (.cI 1) (.b1 .len (.var 0)) (.gl "MOST_HEARD" (.int 99)))) .nil))) (.cons (.rt (.cB false)) .nil) .nil)
      (.cons (.rt (.b1 .all (.cp (.ca "is_count" F_is_count (.cons (.var 1) (.cons (.cI 1) (.cons (.gl "MOST_HEARD" (.int 99)) .nil)))) (.one 1) (.e (.var 0)) .none [1]))) .nil))
def F_is_round : List D → M D := mkF 1 2 B_is_round
def B_need_round : SL :=
      (.cons (.iff (.no (.ca "is_round" F_is_round (.cons (.var 0) .nil))) (.cons (.rs "NoNumber" .num) .nil) .nil) .nil)
def F_need_round : List D → M D := mkF 1 1 B_need_round
def B_late : SL :=
      (.cons (.e (.ca "need_number" F_need_number (.cons (.var 0) .nil)))
      (.cons (.e (.ca "need_round" F_need_round (.cons (.var 1) .nil)))
      (.cons (.rt (.cmp .isin (.var 1) (.ca "cut_ahead" F_cut_ahead (.cons (.var 0) .nil)))) .nil)))
def F_late : List D → M D := mkF 2 2 B_late
def B_is_book : SL :=
      (.cons (.iff (.orr (.cons (.no (.isi (.var 0) [.tuple])) (.cons (.no (.chn .le .le (.cI 1) (.b1 .len (.var 0)) (.gl "MOST_NUMBERS" (.int 8)))) .nil))) (.cons (.rt (.cB false)) .nil) .nil)
      (.cons (.iff (.no (.b1 .all (.cp (.ca "is_number" F_is_number (.cons (.var 1) .nil)) (.one 1) (.e (.var 0)) .none [1]))) (.cons (.rt (.cB false)) .nil) .nil)
      (.cons (.rt (.b1 .all (.cp (.cmp .lt (.var 1) (.var 2)) (.many [1, 2]) (.zp (.var 0) (.sl (.var 0) (.some (.cI 1)) .none)) .none [1, 2]))) .nil)))
def F_is_book : List D → M D := mkF 1 3 B_is_book
def B_need_book : SL :=
      (.cons (.iff (.no (.ca "is_book" F_is_book (.cons (.var 0) .nil))) (.cons (.rs "NoBook" .book) .nil) .nil) .nil)
def F_need_book : List D → M D := mkF 1 1 B_need_book
def B_could_be : SL :=
      (.cons (.e (.ca "need_book" F_need_book (.cons (.var 0) .nil)))
      (.cons (.e (.ca "need_round" F_need_round (.cons (.var 1) .nil)))
      (.cons (.rt (.cp (.var 2) (.one 2) (.e (.var 0)) (.some (.cmp .isin (.var 1) (.ca "parts_of" F_parts_of (.cons (.var 2) .nil)))) [2])) .nil)))
def F_could_be : List D → M D := mkF 2 3 B_could_be
def B_meant : SL :=
      (.cons (.e (.ca "need_book" F_need_book (.cons (.var 0) .nil)))
      (.cons (.iff (.no (.isi (.var 1) [.list, .tuple])) (.cons (.rs "NoNumber" .num) .nil) .nil)
      (.cons (.fr (.one 2) (.e (.var 1)) (.cons (.e (.ca "need_round" F_need_round (.cons (.var 2) .nil))) .nil))
      (.cons (.fr (.many [3, 2]) (.en (.var 1)) (.cons (.iff (.an (.cons (.cmp .isin (.var 2) (.var 0)) (.cons (.cmp .isin (.var 2) (.sl (.var 1) .none (.some (.var 3)))) .nil))) (.cons (.rt (.var 2)) .nil) .nil) .nil))
      (.cons (.a (.one 4) (.cp (.var 5) (.one 5) (.e (.var 0)) (.some (.b1 .all (.cp (.cmp .isin (.var 2) (.ca "parts_of" F_parts_of (.cons (.var 5) .nil))) (.one 2) (.e (.var 1)) .none [2]))) [5]))
      (.cons (.rt (.ife (.an (.cons (.cmp .eq (.b1 .len (.var 4)) (.cI 1)) (.cons (.cmp .gt (.b1 .len (.var 1)) (.cI 0)) .nil))) (.ix (.var 4) (.cI 0)) .cN)) .nil))))))
def F_meant : List D → M D := mkF 2 6 B_meant
def B_l_book : SL :=
      (.cons (.a (.one 3) (.cp (.ca "_law_number" F_l_number (.cons (.var 0) (.cons (.bin .add (.bin .add (.var 1) (.cI 1)) (.bin .mul (.cI 5) (.var 4))) .nil))) (.one 4) (.r1 (.bin .add (.cI 1) (.ca "_law_drawn" F_l_drawn (.cons (.var 0) (.cons (.var 1) (.cons (.var 2) .nil)))))) .none [4]))
      (.cons (.rt (.b1 .tuple (.b1 .sortedSet (.var 3)))) .nil))
def F_l_book : List D → M D := mkF 3 5 B_l_book
def N_runs_of : List Str := ["loop", "many", "pulls", "found", "free", "ends", "moment", "place", "start"]
def B_runs_of : SL :=
      (.cons (.m 3 (.li .nil))
      (.cons (.a (.one 4) (.cI 0))
      (.cons (.m 5 (.bin .mul (.li (.cons (.cI 0) .nil)) (.b1 .len (.var 0))))
      (.cons (.fr (.many [6, 7]) (.e (.b1 .sorted (.var 2))) (.cons (.iff (.cmp .le (.ix (.var 5) (.var 7)) (.var 6)) (.cons (.a (.one 8) (.b2 .max (.var 4) (.var 6)))
      (.cons (.a (.one 4) (.bin .add (.var 8) (.bin .mul (.b1 .len (.ca "bits_of" F_bits_of (.cons (.ix (.var 0) (.var 7)) .nil))) (.var 1))))
      (.cons (.ixs 5 (.var 7) (.var 4))
      (.cons (.ap 3 (.tu (.cons (.var 8) (.cons (.var 4) (.cons (.var 7) .nil))))) .nil)))) .nil) .nil))
      (.cons (.rt (.var 3)) .nil)))))
def F_runs_of : List D → M D := mkF 3 9 B_runs_of
def N_is_pull : List Str := ["loop", "thing"]
def B_is_pull : SL :=
      (.cons (.iff (.orr (.cons (.no (.isi (.var 1) [.tuple])) (.cons (.cmp .ne (.b1 .len (.var 1)) (.cI 2)) .nil))) (.cons (.rt (.cB false)) .nil) .nil)
      (.cons (.rt (.an (.cons (.ca "is_count" F_is_count (.cons (.ix (.var 1) (.cI 0)) (.cons (.cI 0) (.cons (.gl "MOST_MOMENT" (.int 300)) .nil)))) (.cons (.ca "is_count" F_is_count (.cons (.ix (.var 1) (.cI 1)) (.cons (.cI 0) (.cons (.bin .sub (.b1 .len (.var 0)) (.cI 1)) .nil)))) .nil)))) .nil))
def F_is_pull : List D → M D := mkF 2 2 B_is_pull
def N_need_pulls : List Str := ["loop", "pulls", "one"]
def B_need_pulls : SL :=
      (.cons (.iff (.orr (.cons (.no (.isi (.var 1) [.tuple])) (.cons (.cmp .gt (.b1 .len (.var 1)) (.gl "MOST_PULLS" (.int 8))) (.cons (.no (.b1 .all (.cp (.ca "is_pull" F_is_pull (.cons (.var 0) (.cons (.var 2) .nil))) (.one 2) (.e (.var 1)) .none [2]))) .nil)))) (.cons (.rs "NoPull" .pull) .nil) .nil)
      (.cons (.iff (.cmp .ne (.b1 .lenSet (.var 1)) (.b1 .len (.var 1))) (.cons (.rs "NoPull" .pull) .nil) .nil) .nil))
def F_need_pulls : List D → M D := mkF 2 3 B_need_pulls
def N_is_loop : List Str := ["thing", "one"]
def B_is_loop : SL :=
      (.cons (.iff (.orr (.cons (.no (.isi (.var 0) [.tuple])) (.cons (.no (.chn .le .le (.cI 1) (.b1 .len (.var 0)) (.gl "MOST_BOXES" (.int 6)))) (.cons (.no (.b1 .all (.cp (.ca "is_number" F_is_number (.cons (.var 1) .nil)) (.one 1) (.e (.var 0)) .none [1]))) .nil)))) (.cons (.rt (.cB false)) .nil) .nil)
      (.cons (.rt (.cmp .eq (.b1 .lenSet (.var 0)) (.b1 .len (.var 0)))) .nil))
def F_is_loop : List D → M D := mkF 1 2 B_is_loop
def N_need_loop : List Str := ["loop"]
def B_need_loop : SL :=
      (.cons (.iff (.no (.ca "is_loop" F_is_loop (.cons (.var 0) .nil))) (.cons (.rs "NoLoop" .loop) .nil) .nil) .nil)
def F_need_loop : List D → M D := mkF 1 1 B_need_loop
def N_runs : List Str := ["loop", "many", "pulls"]
def B_runs : SL :=
      (.cons (.e (.ca "need_loop" F_need_loop (.cons (.var 0) .nil)))
      (.cons (.e (.ca "need_rounds" F_need_rounds (.cons (.var 1) .nil)))
      (.cons (.e (.ca "need_pulls" F_need_pulls (.cons (.var 0) (.cons (.var 2) .nil))))
      (.cons (.rt (.ca "runs_of" F_runs_of (.cons (.var 0) (.cons (.var 1) (.cons (.var 2) .nil))))) .nil))))
def F_runs : List D → M D := mkF 3 3 B_runs
def N_idle_pulls : List Str := ["loop", "many", "pulls", "some", "found", "ends", "moment", "place", "start", "end", "box"]
def B_idle_pulls : SL :=
      (.cons (.a (.one 3) (.ca "runs" F_runs (.cons (.var 0) (.cons (.var 1) (.cons (.var 2) .nil)))))
      (.cons (.m 4 (.li .nil))
      (.cons (.m 5 (.bin .mul (.li (.cons (.cI 0) .nil)) (.b1 .len (.var 0))))
      (.cons (.fr (.many [6, 7]) (.e (.b1 .sorted (.var 2))) (.cons (.iff (.cmp .le (.ix (.var 5) (.var 7)) (.var 6)) (.cons (.ixs 5 (.var 7) (.ix (.cp (.var 9) (.many [8, 9, 10]) (.e (.var 3)) (.some (.an (.cons (.cmp .eq (.var 10) (.var 7)) (.cons (.cmp .gt (.var 9) (.var 6)) .nil)))) [8, 9, 10]) (.cI 0))) .nil) (.cons (.ap 4 (.tu (.cons (.var 6) (.cons (.var 7) .nil)))) .nil)) .nil))
      (.cons (.rt (.var 4)) .nil)))))
def F_idle_pulls : List D → M D := mkF 3 11 B_idle_pulls
def N_longest_wait : List Str := ["loop", "many", "pulls", "some", "idle", "taken", "waits", "pull", "one"]
def B_longest_wait : SL :=
      (.cons (.a (.one 3) (.ca "runs" F_runs (.cons (.var 0) (.cons (.var 1) (.cons (.var 2) .nil)))))
      (.cons (.a (.one 4) (.ca "idle_pulls" F_idle_pulls (.cons (.var 0) (.cons (.var 1) (.cons (.var 2) .nil)))))
      (.cons (.a (.one 5) (.cp (.var 7) (.one 7) (.e (.b1 .sorted (.var 2))) (.some (.cmp .notin (.var 7) (.var 4))) [7]))
      (.cons (.a (.one 6) (.cp (.bin .sub (.ix (.var 8) (.cI 0)) (.ix (.var 7) (.cI 0))) (.many [8, 7]) (.zp (.var 3) (.var 5)) .none [8, 7]))
      (.cons (.rt (.b2 .maxD (.var 6) .cN)) .nil)))))
def F_longest_wait : List D → M D := mkF 3 9 B_longest_wait
def N_line : List Str := ["loop", "many", "pulls", "until", "some", "found", "start", "end", "place", "bits", "tick"]
def B_line : SL :=
      (.cons (.a (.one 4) (.ca "runs" F_runs (.cons (.var 0) (.cons (.var 1) (.cons (.var 2) .nil)))))
      (.cons (.iff (.no (.ca "is_count" F_is_count (.cons (.var 3) (.cons (.cI 0) (.cons (.bin .mul (.gl "MOST_MOMENT" (.int 300)) (.cI 2)) .nil))))) (.cons (.rs "NoCount" .count) .nil) .nil)
      (.cons (.m 5 (.bin .mul (.li (.cons (.cI 0) .nil)) (.var 3)))
      (.cons (.fr (.many [6, 7, 8]) (.e (.var 4)) (.cons (.a (.one 9) (.bin .mul (.ca "bits_of" F_bits_of (.cons (.ix (.var 0) (.var 8)) .nil)) (.var 1)))
      (.cons (.fr (.one 10) (.r2 (.var 6) (.b2 .min (.var 7) (.var 3))) (.cons (.ixs 5 (.var 10) (.ix (.var 9) (.bin .sub (.var 10) (.var 6)))) .nil)) .nil)))
      (.cons (.rt (.b1 .tuple (.var 5))) .nil)))))
def F_line : List D → M D := mkF 4 11 B_line
def N_l_told_4 : List Str := ["_law_way", "_law_loop_here", "_law_many", "_law_pulls_here", "_law_until", "_law_e"]
def B_l_told_4 : SL :=
      (.cons (.tr (.cons (.iff (.cmp .eq (.var 0) (.cI 3)) (.cons (.rt (.ca "line" F_line (.cons (.var 1) (.cons (.var 2) (.cons (.var 3) (.cons (.var 4) .nil)))))) .nil) .nil)
      (.cons (.rt (.pk [("runs", F_runs), ("idle_pulls", F_idle_pulls), ("longest_wait", F_longest_wait)] (.var 0) (.cons (.var 1) (.cons (.var 2) (.cons (.var 3) .nil))))) .nil)) "TapError" .tap [.num, .book, .line, .loop, .pull, .count, .text] 5 (.ref "_law_refused" [.num, .book, .line, .loop, .pull, .count, .text])) .nil)
def F_l_told_4 : List D → M D := mkF 5 6 B_l_told_4
def N_l_is_loop : List Str := ["_law_thing", "_law_one", "_law_digit"]
def B_l_is_loop : SL :=
      (.cons (.iff (.orr (.cons (.no (.isi (.var 0) [.tuple])) (.cons (.no (.chn .le .le (.cI 1) (.b1 .len (.var 0)) (.cI 6))) .nil))) (.cons (.rt (.cB false)) .nil) .nil)
      (.cons (.fr (.one 1) (.e (.var 0)) (.cons (.iff (.orr (.cons (.no (.isi (.var 1) [.tuple])) (.cons (.no (.chn .le .le (.cI 1) (.b1 .len (.var 1)) (.cI 3))) (.cons (.cmp .gt (.mt .count (.var 0) (.var 1)) (.cI 1)) .nil)))) (.cons (.rt (.cB false)) .nil) .nil)
      (.cons (.fr (.one 2) (.e (.var 1)) (.cons (.iff (.orr (.cons (.isi (.var 2) [.bool]) (.cons (.no (.isi (.var 2) [.int])) (.cons (.no (.chn .le .le (.cI 1) (.var 2) (.cI 6))) .nil)))) (.cons (.rt (.cB false)) .nil) .nil) .nil)) .nil)))
      (.cons (.rt (.cB true)) .nil)))
def F_l_is_loop : List D → M D := mkF 1 3 B_l_is_loop
def N_l_bits_1 : List Str := ["_law_number", "_law_found", "_law_k", "_law_digit", "_law_turn"]
def B_l_bits_1 : SL :=
      (.cons (.a (.one 1) (.li .nil))
      (.cons (.fr (.many [2, 3]) (.en (.var 0)) (.cons (.a (.one 1) (.bin .add (.bin .add (.var 1) (.bin .mul (.li (.cons (.cI 0) (.cons (.cI 0) (.cons (.cI 0) .nil)))) (.b1 .int (.cmp .gt (.var 2) (.cI 0))))) (.li (.cons (.cI 1) .nil))))
      (.cons (.fr (.one 4) (.r1 (.bin .sub (.var 3) (.cI 1))) (.cons (.a (.one 1) (.bin .add (.var 1) (.li (.cons (.cI 0) (.cons (.cI 1) .nil))))) .nil)) .nil)))
      (.cons (.rt (.bin .add (.var 1) (.li (.cons (.cI 0) (.cons (.cI 0) (.cons (.cI 0) (.cons (.cI 0) (.cons (.cI 0) (.cons (.cI 0) (.cons (.cI 0) .nil)))))))))) .nil)))
def F_l_bits_1 : List D → M D := mkF 1 5 B_l_bits_1
def N_l_runs : List Str := ["_law_loop_here", "_law_many", "_law_pulls_here", "_law_found", "_law_idle", "_law_waiting", "_law_tick", "_law_here", "_law_place", "_law_long"]
def B_l_runs : SL :=
      (.cons (.m 3 (.li .nil))
      (.cons (.m 4 (.li .nil))
      (.cons (.m 5 (.li .nil))
      (.cons (.a (.one 6) (.cI 0))
      (.cons (.wh (.orr (.cons (.cmp .lt (.var 6) (.cI 301)) (.cons (.cmp .ne (.var 5) (.li .nil)) .nil))) (.cons (.iff (.an (.cons (.cmp .ne (.var 3) (.li .nil)) (.cons (.cmp .gt (.ix (.ix (.var 3) (.neg (.cI 1))) (.cI 1)) (.var 6)) .nil))) (.cons (.a (.one 7) (.ix (.ix (.var 3) (.neg (.cI 1))) (.cI 2))) .nil) (.cons (.a (.one 7) .cN) .nil))
      (.cons (.fr (.one 8) (.r1 (.b1 .len (.var 0))) (.cons (.iff (.cmp .isin (.tu (.cons (.var 6) (.cons (.var 8) .nil))) (.var 2)) (.cons (.iff (.orr (.cons (.cmp .eq (.var 8) (.var 7)) (.cons (.cmp .isin (.var 8) (.var 5)) .nil))) (.cons (.ap 4 (.tu (.cons (.var 6) (.cons (.var 8) .nil)))) .nil) (.cons (.ap 5 (.var 8)) .nil)) .nil) .nil) .nil))
      (.cons (.iff (.an (.cons (.cmp .is_ (.var 7) .cN) (.cons (.cmp .ne (.var 5) (.li .nil)) .nil))) (.cons (.a (.one 9) (.bin .mul (.b1 .len (.ca "_law_bits" F_l_bits_1 (.cons (.ix (.var 0) (.ix (.var 5) (.cI 0))) .nil))) (.var 1)))
      (.cons (.ap 3 (.tu (.cons (.var 6) (.cons (.bin .add (.var 6) (.var 9)) (.cons (.ix (.var 5) (.cI 0)) .nil)))))
      (.cons (.m 5 (.sl (.var 5) (.some (.cI 1)) .none)) .nil))) .nil)
      (.cons (.a (.one 6) (.bin .add (.var 6) (.cI 1))) .nil)))))
      (.cons (.rt (.tu (.cons (.var 3) (.cons (.var 4) .nil)))) .nil))))))
def F_l_runs : List D → M D := mkF 3 10 B_l_runs
def N_l_is_told : List Str := ["_law_loop_here", "_law_many", "_law_pulls_here", "_law_until", "_law_some", "_law_idle", "_law_taken", "_law_waits", "_law_ticks", "_law_tick", "_law_start", "_law_end", "_law_place", "_law_bits_here", "_law_due", "_law_pull", "_law_run", "_law_way"]
def B_l_is_told : SL :=
      (.cons (.a (.many [4, 5]) (.ca "_law_runs" F_l_runs (.cons (.var 0) (.cons (.var 1) (.cons (.var 2) .nil)))))
      (.cons (.a (.one 6) (.b1 .sorted (.cp (.var 15) (.one 15) (.e (.var 2)) (.some (.cmp .notin (.var 15) (.var 5))) [15])))
      (.cons (.a (.one 7) (.cp (.bin .sub (.ix (.var 16) (.cI 0)) (.ix (.var 15) (.cI 0))) (.many [16, 15]) (.zp (.var 4) (.var 6)) .none [16, 15]))
      (.cons (.m 8 (.li .nil))
      (.cons (.fr (.one 9) (.r1 (.var 3)) (.cons (.ap 8 (.cI 0))
      (.cons (.fr (.many [10, 11, 12]) (.e (.var 4)) (.cons (.iff (.chn .le .lt (.var 10) (.var 9) (.var 11)) (.cons (.a (.one 13) (.ca "_law_bits" F_l_bits_1 (.cons (.ix (.var 0) (.var 12)) .nil)))
      (.cons (.ixs 8 (.neg (.cI 1)) (.ix (.var 13) (.bin .mod (.bin .sub (.var 9) (.var 10)) (.b1 .len (.var 13))))) .nil)) .nil) .nil)) .nil)))
      (.cons (.a (.one 14) (.li (.cons (.var 4) (.cons (.b1 .sorted (.var 5)) (.cons (.ife (.cmp .ne (.var 7) (.li .nil)) (.b1 .max (.var 7)) .cN) (.cons (.b1 .tuple (.var 8)) .nil))))))
      (.cons (.rt (.cmp .eq (.cp (.ca "_law_told" F_l_told_4 (.cons (.var 17) (.cons (.var 0) (.cons (.var 1) (.cons (.var 2) (.cons (.var 3) .nil)))))) (.one 17) (.r1 (.cI 4)) .none [17]) (.var 14))) .nil)))))))
def F_l_is_told : List D → M D := mkF 4 18 B_l_is_told
def N_l_pulls : List Str := ["_law_script", "_law_at", "_law_loop_here", "_law_most", "_law_found", "_law_k", "_law_here", "_law_moment", "_law_pull"]
def B_l_pulls : SL :=
      (.cons (.a (.one 4) (.li .nil))
      (.cons (.fr (.one 5) (.r1 (.ca "_law_drawn" F_l_drawn (.cons (.var 0) (.cons (.var 1) (.cons (.bin .add (.var 3) (.cI 1)) .nil))))) (.cons (.a (.one 6) (.bin .add (.bin .add (.var 1) (.cI 1)) (.bin .mul (.cI 3) (.var 5))))
      (.cons (.a (.one 7) (.ca "_law_drawn" F_l_drawn (.cons (.var 0) (.cons (.var 6) (.cons (.ix (.li (.cons (.cI 4) (.cons (.cI 40) (.cons (.cI 130) .nil)))) (.ca "_law_drawn" F_l_drawn (.cons (.var 0) (.cons (.bin .add (.var 6) (.cI 1)) (.cons (.cI 3) .nil))))) .nil)))))
      (.cons (.a (.one 8) (.tu (.cons (.var 7) (.cons (.ca "_law_drawn" F_l_drawn (.cons (.var 0) (.cons (.bin .add (.var 6) (.cI 2)) (.cons (.b1 .len (.var 2)) .nil)))) .nil))))
      (.cons (.a (.one 4) (.bin .add (.var 4) (.bin .mul (.li (.cons (.var 8) .nil)) (.b1 .int (.cmp .notin (.var 8) (.var 4)))))) .nil)))))
      (.cons (.rt (.b1 .tuple (.var 4))) .nil)))
def F_l_pulls : List D → M D := mkF 4 9 B_l_pulls
def N_l_loop : List Str := ["_law_script", "_law_at", "_law_found", "_law_k", "_law_number"]
def B_l_loop : SL :=
      (.cons (.a (.one 2) (.li .nil))
      (.cons (.fr (.one 3) (.r1 (.bin .add (.cI 1) (.ca "_law_drawn" F_l_drawn (.cons (.var 0) (.cons (.var 1) (.cons (.cI 5) .nil)))))) (.cons (.a (.one 4) (.tu (.cons (.bin .add (.cI 1) (.ca "_law_drawn" F_l_drawn (.cons (.var 0) (.cons (.bin .add (.bin .add (.var 1) (.cI 1)) (.bin .mul (.cI 3) (.var 3))) (.cons (.cI 3) .nil))))) (.cons (.bin .add (.cI 1) (.ca "_law_drawn" F_l_drawn (.cons (.var 0) (.cons (.bin .add (.bin .add (.var 1) (.cI 2)) (.bin .mul (.cI 3) (.var 3))) (.cons (.cI 2) .nil))))) .nil))))
      (.cons (.a (.one 4) (.sl (.var 4) .none (.some (.bin .add (.cI 1) (.ca "_law_drawn" F_l_drawn (.cons (.var 0) (.cons (.bin .add (.bin .add (.var 1) (.cI 3)) (.bin .mul (.cI 3) (.var 3))) (.cons (.cI 2) .nil))))))))
      (.cons (.a (.one 2) (.bin .add (.var 2) (.bin .mul (.li (.cons (.var 4) .nil)) (.b1 .int (.cmp .notin (.var 4) (.var 2)))))) .nil))))
      (.cons (.rt (.b1 .tuple (.var 2))) .nil)))
def F_l_loop : List D → M D := mkF 2 5 B_l_loop
def N_law_k20 : List Str := ["_law_script", "_law_loop_here", "_law_many", "_law_known", "_law_rows", "_law_pulls_here", "_law_some", "_law_thing", "_law_due", "_law_odd", "_law_pull", "_law_bads", "_law_bad", "_law_k", "_law_way"]
def B_law_k20 : SL :=
      (.cons (.a (.one 1) (.ca "_law_loop" F_l_loop (.cons (.var 0) (.cons (.cI 0) .nil))))
      (.cons (.a (.one 2) (.bin .add (.cI 1) (.ca "_law_drawn" F_l_drawn (.cons (.var 0) (.cons (.cI 20) (.cons (.cI 2) .nil))))))
      (.cons (.iff (.no (.ca "_law_is_told" F_l_is_told (.cons (.var 1) (.cons (.var 2) (.cons (.ca "_law_pulls" F_l_pulls (.cons (.var 0) (.cons (.cI 30) (.cons (.var 1) (.cons (.cI 6) .nil))))) (.cons (.ca "_law_drawn" F_l_drawn (.cons (.var 0) (.cons (.cI 21) (.cons (.cI 120) .nil)))) .nil)))))) (.cons (.rt (.cB false)) .nil) .nil)
      (.cons (.a (.one 3) (.tu (.cons (.tu (.cons (.cI 2) (.cons (.cI 1) .nil))) (.cons (.tu (.cons (.cI 1) .nil)) .nil))))
      (.cons (.a (.one 4) (.li (.cons (.tu (.cons (.tu (.cons (.cI 5) (.cons (.cI 1) .nil))) (.cons (.tu (.cons (.cI 5) (.cons (.cI 0) .nil))) (.cons (.tu (.cons (.cI 0) (.cons (.cI 1) .nil))) (.cons (.tu (.cons (.cI 40) (.cons (.cI 0) .nil))) .nil))))) (.cons (.tu .nil) (.cons (.tu (.cons (.tu (.cons (.cI 300) (.cons (.cI 0) .nil))) (.cons (.tu (.cons (.cI 300) (.cons (.cI 1) .nil))) .nil))) .nil)))))
      (.cons (.fr (.one 5) (.e (.bin .add (.var 4) (.li (.cons (.tu (.cons (.tu (.cons (.cI 0) (.cons (.cI 0) .nil))) (.cons (.tu (.cons (.cI 13) (.cons (.cI 0) .nil))) (.cons (.tu (.cons (.cI 14) (.cons (.cI 0) .nil))) (.cons (.tu (.cons (.cI 27) (.cons (.cI 0) .nil))) (.cons (.tu (.cons (.cI 28) (.cons (.cI 0) .nil))) .nil)))))) .nil)))) (.cons (.iff (.no (.ca "_law_is_told" F_l_is_told (.cons (.var 3) (.cons (.cI 1) (.cons (.var 5) (.cons (.cI 60) .nil)))))) (.cons (.rt (.cB false)) .nil) .nil) .nil))
      (.cons (.iff (.no (.ca "_law_is_told" F_l_is_told (.cons (.var 3) (.cons (.cI 1) (.cons (.b1 .tuple (.cp (.tu (.cons (.bin .mul (.cI 30) (.bin .fdiv (.var 13) (.cI 2))) (.cons (.bin .mod (.var 13) (.cI 2)) .nil))) (.one 13) (.r1 (.cI 8)) .none [13])) (.cons (.cI 9) .nil)))))) (.cons (.rt (.cB false)) .nil) .nil)
      (.cons (.iff (.cmp .ne (.ca "_law_told" F_l_told_4 (.cons (.cI 3) (.cons (.var 3) (.cons (.cI 1) (.cons (.tu .nil) (.cons (.cI 600) .nil)))))) (.bin .mul (.tu (.cons (.cI 0) .nil)) (.cI 600))) (.cons (.rt (.cB false)) .nil) .nil)
      (.cons (.a (.one 6) (.li (.cons (.var 1) (.cons (.b1 .list (.var 1)) (.cons (.bin .mul (.var 1) (.cI 7)) (.cons (.tu .nil) (.cons .cN (.cons (.tu (.cons (.tu (.cons (.cI 1) .nil)) (.cons (.tu (.cons (.cI 1) .nil)) .nil))) (.cons (.var 3) (.cons (.bin .add (.var 3) (.bin .mul (.tu (.cons (.tu (.cons (.cI 3) .nil)) .nil)) (.cI 2))) .nil))))))))))
      (.cons (.a (.one 6) (.bin .add (.var 6) (.li (.cons (.b1 .tuple (.cp (.tu (.cons (.bin .add (.var 13) (.cI 1)) .nil)) (.one 13) (.r1 (.cI 6)) .none [13])) .nil))))
      (.cons (.fr (.one 7) (.e (.bin .add (.bin .add (.var 6) (.li (.cons (.b1 .tuple (.cp (.tu (.cons (.bin .add (.bin .fdiv (.var 13) (.cI 6)) (.cI 1)) (.cons (.bin .add (.bin .mod (.var 13) (.cI 6)) (.cI 1)) .nil))) (.one 13) (.r1 (.cI 7)) .none [13])) .nil))) (.ca "_law_each" (F_l_each 30) (.cons (.var 3) .nil)))) (.cons (.a (.one 8) (.ca "_law_is_loop" F_l_is_loop (.cons (.var 7) .nil)))
      (.cons (.iff (.orr (.cons (.cmp .ne (.ca "is_loop" F_is_loop (.cons (.var 7) .nil)) (.var 8)) (.cons (.no (.isi (.ca "is_loop" F_is_loop (.cons (.var 7) .nil)) [.bool])) .nil))) (.cons (.rt (.cB false)) .nil) .nil)
      (.cons (.iff (.an (.cons (.no (.var 8)) (.cons (.cmp .ne (.cp (.ca "_law_told" F_l_told_4 (.cons (.var 14) (.cons (.var 7) (.cons (.cI 0) (.cons .cN (.cons .cN .nil)))))) (.one 14) (.r1 (.cI 4)) .none [14]) (.bin .mul (.li (.cons (.tu (.cons (.cS [114, 101, 102, 117, 115, 101, 100]) (.cons (.cI 3) .nil))) .nil)) (.cI 4))) .nil))) (.cons (.rt (.cB false)) .nil) .nil) .nil))))
      (.cons (.fr (.one 9) (.e (.tu (.cons (.cI 0) (.cons (.cI 5) (.cons .cN (.cons (.cB true) (.cons (.cS [49]) .nil))))))) (.cons (.iff (.cmp .ne (.cp (.ca "_law_told" F_l_told_4 (.cons (.var 14) (.cons (.var 1) (.cons (.var 9) (.cons .cN (.cons .cN .nil)))))) (.one 14) (.r1 (.cI 4)) .none [14]) (.bin .mul (.li (.cons (.tu (.cons (.cS [114, 101, 102, 117, 115, 101, 100]) (.cons (.cI 5) .nil))) .nil)) (.cI 4))) (.cons (.rt (.cB false)) .nil) .nil) .nil))
      (.cons (.a (.one 10) (.tu (.cons (.cI 5) (.cons (.cI 0) .nil))))
      (.cons (.a (.one 11) (.li (.cons .cN (.cons (.li (.cons (.var 10) .nil)) (.cons (.tu (.cons (.var 10) (.cons (.var 10) .nil))) (.cons (.tu (.cons (.tu (.cons (.cI 301) (.cons (.cI 0) .nil))) .nil)) (.cons (.tu (.cons (.tu (.cons (.neg (.cI 1)) (.cons (.cI 0) .nil))) .nil)) (.cons (.tu (.cons (.tu (.cons (.cI 0) (.cons (.b1 .len (.var 1)) .nil))) .nil)) (.cons (.tu (.cons (.tu (.cons (.cI 0) (.cons (.neg (.cI 1)) .nil))) .nil)) .nil)))))))))
      (.cons (.a (.one 11) (.bin .add (.var 11) (.li (.cons (.tu (.cons (.tu (.cons (.cB true) (.cons (.cI 0) .nil))) .nil)) (.cons (.tu (.cons (.tu (.cons (.cI 0) .nil)) .nil)) (.cons (.tu (.cons .cN .nil)) .nil))))))
      (.cons (.fr (.one 12) (.e (.bin .add (.var 11) (.li (.cons (.b1 .tuple (.cp (.tu (.cons (.var 13) (.cons (.cI 0) .nil))) (.one 13) (.r1 (.cI 9)) .none [13])) .nil)))) (.cons (.iff (.cmp .ne (.cp (.ca "_law_told" F_l_told_4 (.cons (.var 14) (.cons (.var 1) (.cons (.cI 1) (.cons (.var 12) (.cons .cN .nil)))))) (.one 14) (.r1 (.cI 4)) .none [14]) (.bin .mul (.li (.cons (.tu (.cons (.cS [114, 101, 102, 117, 115, 101, 100]) (.cons (.cI 4) .nil))) .nil)) (.cI 4))) (.cons (.rt (.cB false)) .nil) .nil) .nil))
      (.cons (.rt (.cmp .eq (.cp (.ca "_law_told" F_l_told_4 (.cons (.cI 3) (.cons (.var 1) (.cons (.cI 1) (.cons (.tu (.cons (.var 10) .nil)) (.cons (.var 9) .nil)))))) (.one 9) (.e (.tu (.cons (.neg (.cI 1)) (.cons (.cI 601) (.cons .cN (.cons (.cB true) .nil)))))) .none [9]) (.bin .mul (.li (.cons (.tu (.cons (.cS [114, 101, 102, 117, 115, 101, 100]) (.cons (.cI 5) .nil))) .nil)) (.cI 4)))) .nil)))))))))))))))))
def F_law_k20 : List D → M D := mkF 1 15 B_law_k20
def B_telling : SL :=
      (.cons (.e (.ca "need_book" F_need_book (.cons (.var 0) .nil)))
      (.cons (.iff (.orr (.cons (.no (.isi (.var 1) [.tuple])) (.cons (.cmp .notin (.var 1) (.var 0)) .nil))) (.cons (.rs "NoNumber" .num) .nil) .nil)
      (.cons (.m 2 (.li .nil))
      (.cons (.fr (.one 3) (.e (.var 0)) (.cons (.ext 2 (.ife (.cmp .ne (.var 3) (.var 1)) (.ca "parts_of" F_parts_of (.cons (.var 3) .nil)) (.li .nil))) .nil))
      (.cons (.rt (.cp (.var 4) (.one 4) (.e (.ca "parts_of" F_parts_of (.cons (.var 1) .nil))) (.some (.cmp .notin (.var 4) (.var 2))) [4])) .nil)))))
def F_telling : List D → M D := mkF 2 5 B_telling
def B_ticks_of : SL :=
      (.cons (.m 4 (.bin .mul (.li (.cons (.cI 0) .nil)) (.var 3)))
      (.cons (.fr (.many [5, 6, 7]) (.e (.var 2)) (.cons (.a (.one 8) (.bin .mul (.ca "bits_of" F_bits_of (.cons (.ix (.var 0) (.var 7)) .nil)) (.var 1)))
      (.cons (.fr (.one 9) (.r2 (.var 5) (.b2 .min (.var 6) (.var 3))) (.cons (.ixs 4 (.var 9) (.ix (.var 8) (.bin .sub (.var 9) (.var 5)))) .nil)) .nil)))
      (.cons (.rt (.b1 .tuple (.var 4))) .nil)))
def F_ticks_of : List D → M D := mkF 4 10 B_ticks_of
end BX

set_option Elab.async false
set_option linter.all false
set_option maxRecDepth 100000
set_option maxHeartbeats 0
namespace BX
open PySem
def N_refused : List Str := ["_law_e", "_law_flags"]
def C_refused : List (List (Str × Xc)) := [[("NoNumber", .num), ("NoBook", .book), ("NoLine", .line), ("NoLoop", .loop)], [("NoPull", .pull), ("NoCount", .count), ("NoText", .text)]]
end BX

set_option Elab.async false
set_option linter.all false
set_option maxRecDepth 100000
namespace BX.Q
theorem cell_ok (ns : List Int) (k : Int) (hl : ns.length ≤ 63) : ∃ x, F_l_cell [.scr ns, .int k] = ret (.int x) := by
  by_cases h : ns = []
  · subst h
    exact ⟨7 * k, rfl⟩
  · have hz : (ns.length : Int) ≠ 0 := by
      intro e
      exact h (List.length_eq_zero_iff.mp (by omega))
    have hpos : (0 : Int) < ns.length := by omega
    have h1 : 0 ≤ k.fmod ns.length := Int.fmod_nonneg_of_pos _ hpos
    have h2 : k.fmod ns.length < ns.length := Int.fmod_lt_of_pos _ hpos
    obtain ⟨y, hy⟩ : ∃ y, atI ns (k.fmod ns.length) = some y := by
      unfold atI ixN
      rw [if_pos h1, if_pos h2]
      have : (k.fmod ns.length).toNat < ns.length := by omega
      exact ⟨ns[(k.fmod ns.length).toNat], by simp [this]⟩
    refine ⟨y + 6553 * k.fdiv ns.length, ?_⟩
    have b1 : b1D .len (.scr ns) = ret (.int ns.length) := rfl
    have hm : mulD (.int 6553) (.int (k.fdiv ns.length)) = ret (.int (6553 * k.fdiv ns.length)) := inb_c (by decide)
    have hq : eqM false (.scr ns) (.lst []) = ret (.bl false) := by rw [eqM_scr]; simp [h]
    have hx : ixD (.scr ns) (.int (k.fmod ns.length)) = ret (.int y) := by
      show ofO ((atI ns (k.fmod ns.length)).map D.int) = _
      rw [hy]; rfl
    have s1 : evS (.iff (.cmp .eq (.var 0) (.li .nil)) (.cons (.rt (.bin .mul (.cI 7) (.var 1))) .nil) .nil) [some (.scr ns), some (.int k)] = ret (.nx, [some (.scr ns), some (.int k)]) := by
      show bnd (bnd (eqM false (.scr ns) (.lst [])) asB) _ = _
      rw [hq]; rfl
    have s2 : evS (.rt (.bin .add (.ix (.var 0) (.bin .mod (.var 1) (.b1 .len (.var 0)))) (.bin .mul (.cI 6553) (.bin .fdiv (.var 1) (.b1 .len (.var 0)))))) [some (.scr ns), some (.int k)] = ret (.rt (.int (y + 6553 * k.fdiv ns.length)), [some (.scr ns), some (.int k)]) := by
      show bnd (bnd (bnd (modD (.int k) (.int ns.length)) fun b => ixD (.scr ns) b) fun x => bnd (bnd (fdivD (.int k) (.int ns.length)) fun y => mulD (.int 6553) y) fun y => addD x y) _ = _
      rw [modD_ok hz, fdivD_ok hz (by omega)]
      show bnd (bnd (ixD (.scr ns) (.int (k.fmod ns.length))) fun x => bnd (mulD (.int 6553) (.int (k.fdiv ns.length))) fun y => addD x y) _ = _
      rw [hx, hm]; rfl
    show bnd (bnd (evS _ [some (.scr ns), some (.int k)]) _) _ = _
    rw [s1]
    show bnd (bnd (evS _ [some (.scr ns), some (.int k)]) _) _ = _
    rw [s2]; rfl
theorem drawn_ok (ns : List Int) (k m : Int) (hl : ns.length ≤ 63) (hm : 0 < m) : ∃ r, F_l_drawn [.scr ns, .int k, .int m] = ret (.int r) ∧ 0 ≤ r ∧ r < m := by
  obtain ⟨x, hx⟩ := cell_ok ns k hl
  obtain ⟨c1, e1⟩ : ∃ c1, c1 = (x.fmod 2147483563 * 69069 + 104723 * (k + 1)).fmod 2147483563 := ⟨_, rfl⟩
  have h1 : 0 ≤ c1 := by rw [e1]; exact Int.fmod_nonneg_of_pos _ (by decide)
  have h2 : c1 < 2147483563 := by rw [e1]; exact Int.fmod_lt_of_pos _ (by decide)
  obtain ⟨c2, e2⟩ : ∃ c2, c2 = (c1 * c1 + c1.fdiv 3).fmod 2147483399 := ⟨_, rfl⟩
  have h3 : 0 ≤ c2 := by rw [e2]; exact Int.fmod_nonneg_of_pos _ (by decide)
  have h4 : c2 < 2147483399 := by rw [e2]; exact Int.fmod_lt_of_pos _ (by decide)
  refine ⟨(((c2 * c2 + c2.fdiv 7).fmod 2147483647).fdiv 11).fmod m, ?_, Int.fmod_nonneg_of_pos _ hm, Int.fmod_lt_of_pos _ hm⟩
  have m1 : mulD (.int (x.fmod 2147483563)) (.int 69069) = ret (.int (x.fmod 2147483563 * 69069)) := inb_r (by decide)
  have m2 : mulD (.int 104723) (.int (k + 1)) = ret (.int (104723 * (k + 1))) := inb_c (by decide)
  have m3 : mulD (.int c1) (.int c1) = ret (.int (c1 * c1)) := inb_c (by omega)
  have m4 : mulD (.int c2) (.int c2) = ret (.int (c2 * c2)) := inb_c (by omega)
  show bnd (bnd (bnd (bnd (bnd (bnd (bnd (F_l_cell [.scr ns, .int k]) fun a => modD a (.int 2147483563)) fun a => mulD a (.int 69069)) fun a => bnd (mulD (.int 104723) (.int (k + 1))) fun b => addD a b) fun a => modD a (.int 2147483563)) fun d => ret (Fl.nx, [some (.scr ns), some (.int k), some (.int m), some d])) _) _ = _
  rw [hx]
  show bnd (bnd (bnd (bnd (bnd (bnd (modD (.int x) (.int 2147483563)) fun a => mulD a (.int 69069)) fun a => bnd (mulD (.int 104723) (.int (k + 1))) fun b => addD a b) fun a => modD a (.int 2147483563)) fun d => ret (Fl.nx, [some (.scr ns), some (.int k), some (.int m), some d])) _) _ = _
  rw [modD_ok (by decide)]
  show bnd (bnd (bnd (bnd (bnd (mulD (.int (x.fmod 2147483563)) (.int 69069)) fun a => bnd (mulD (.int 104723) (.int (k + 1))) fun b => addD a b) fun a => modD a (.int 2147483563)) fun d => ret (Fl.nx, [some (.scr ns), some (.int k), some (.int m), some d])) _) _ = _
  rw [m1, m2]
  show bnd (bnd (bnd (modD (.int (x.fmod 2147483563 * 69069 + 104723 * (k + 1))) (.int 2147483563)) fun d => ret (Fl.nx, [some (.scr ns), some (.int k), some (.int m), some d])) _) _ = _
  rw [modD_ok (by decide), ← e1]
  show bnd (bnd (bnd (bnd (bnd (mulD (.int c1) (.int c1)) fun a => bnd (fdivD (.int c1) (.int 3)) fun b => addD a b) fun a => modD a (.int 2147483399)) fun d => ret (Fl.nx, [some (.scr ns), some (.int k), some (.int m), some d])) _) _ = _
  rw [m3, fdivD_ok (by decide) (by decide)]
  show bnd (bnd (bnd (modD (.int (c1 * c1 + c1.fdiv 3)) (.int 2147483399)) fun d => ret (Fl.nx, [some (.scr ns), some (.int k), some (.int m), some d])) _) _ = _
  rw [modD_ok (by decide), ← e2]
  show bnd (bnd (bnd (bnd (bnd (bnd (bnd (mulD (.int c2) (.int c2)) fun a => bnd (fdivD (.int c2) (.int 7)) fun b => addD a b) fun a => modD a (.int 2147483647)) fun a => fdivD a (.int 11)) fun a => modD a (.int m)) fun d => ret (Fl.rt d, [some (D.scr ns), some (D.int k), some (D.int m), some (D.int c2)])) _) _ = _
  rw [m4, fdivD_ok (by decide) (by decide)]
  show bnd (bnd (bnd (bnd (bnd (modD (.int (c2 * c2 + c2.fdiv 7)) (.int 2147483647)) fun a => fdivD a (.int 11)) fun a => modD a (.int m)) fun d => ret (Fl.rt d, [some (D.scr ns), some (D.int k), some (D.int m), some (D.int c2)])) _) _ = _
  rw [modD_ok (by decide)]
  show bnd (bnd (bnd (bnd (fdivD (.int ((c2 * c2 + c2.fdiv 7).fmod 2147483647)) (.int 11)) fun a => modD a (.int m)) fun d => ret (Fl.rt d, [some (D.scr ns), some (D.int k), some (D.int m), some (D.int c2)])) _) _ = _
  rw [fdivD_ok (by decide) (by decide)]
  show bnd (bnd (bnd (modD (.int (((c2 * c2 + c2.fdiv 7).fmod 2147483647).fdiv 11)) (.int m)) fun d => ret (Fl.rt d, [some (D.scr ns), some (D.int k), some (D.int m), some (D.int c2)])) _) _ = _
  rw [modD_ok (by omega)]
  rfl
def numE : P := (.bin .add (.cI 1) (.ca "_law_drawn" F_l_drawn (.cons (.var 0) (.cons (.bin .add (.bin .add (.var 1) (.cI 1)) (.var 3)) (.cons (.cI 3) .nil)))))
theorem number_ok (ns : List Int) (k : Int) (hl : ns.length ≤ 63) : ∃ l : List Int, F_l_number [.scr ns, .int k] = ret (.tup (l.map .int)) ∧ 1 ≤ l.length ∧ l.length ≤ 3 ∧ ∀ i ∈ l, 1 ≤ i ∧ i ≤ 3 := by
  obtain ⟨r, e, h1, h2⟩ := drawn_ok ns k 3 hl (by decide)
  obtain ⟨ys, g1, g2, g3⟩ := cpM_all (P := fun _ y => ∃ i, y = .int i ∧ 1 ≤ i ∧ i ≤ 3) (c := fun _ => ret true) (e := fun ρ1 => ev numE ρ1) (tg := .one 3)
    (ρ := [some (.scr ns), some (.int k), some (.int (1 + r)), none]) (rngI 0 1 (1 + r).toNat) fun d hd => by
      obtain ⟨j, rfl, _, _⟩ := rngI_mem _ _ _ hd
      obtain ⟨x, e2, h3, h4⟩ := drawn_ok ns (k + 1 + j) 3 hl (by decide)
      refine ⟨_, .int (1 + x), rfl, rfl, ?_, 1 + x, rfl, by omega, by omega⟩
      show bnd (F_l_drawn [.scr ns, .int (k + 1 + j), .int 3]) (fun y => addD (.int 1) y) = _
      rw [e2]; rfl
  rw [rngI_len] at g2
  obtain ⟨l, rfl, hL⟩ := ints_of (p := fun i => 1 ≤ i ∧ i ≤ 3) fun y hy => (g3 y hy).elim fun _ z => z.2
  rw [List.length_map] at g2
  refine ⟨l, ?_, by omega, by omega, hL⟩
  show bnd (bnd (bnd (bnd (F_l_drawn [.scr ns, .int k, .int 3]) (fun y => addD (.int 1) y)) fun d => ret (Fl.nx, [some (D.scr ns), some (D.int k), some d, none])) _) _ = _
  rw [e]
  show bnd (bnd (bnd (bnd (bnd (rngM 0 (1 + r)) fun ds => bnd (cpM (fun _ => ret true) (fun ρ1 => ev numE ρ1) (.one 3) [some (D.scr ns), some (D.int k), some (D.int (1 + r)), none] ds) mkL) tupD) fun d => ret (Fl.rt d, [some (D.scr ns), some (D.int k), some (D.int (1 + r)), none])) _) _ = _
  rw [rngM_ok (by decide) (by decide) (by omega) (by omega), show (1 + r - 0) = 1 + r by omega]
  show bnd (bnd (bnd (bnd (bnd (cpM (fun _ => ret true) (fun ρ1 => ev numE ρ1) (.one 3) [some (D.scr ns), some (D.int k), some (D.int (1 + r)), none] (rngI 0 1 (1 + r).toNat)) mkL) tupD) fun d => ret (Fl.rt d, [some (D.scr ns), some (D.int k), some (D.int (1 + r)), none])) _) _ = _
  rw [g1]
  show bnd (bnd (bnd (bnd (mkL (l.map D.int)) tupD) fun d => ret (Fl.rt d, [some (D.scr ns), some (D.int k), some (D.int (1 + r)), none])) _) _ = _
  unfold mkL
  rw [if_pos (by rw [List.length_map]; show _ ≤ 16777216; omega)]
  rfl
end BX.Q

set_option Elab.async false
set_option linter.all false
set_option maxRecDepth 100000
set_option maxHeartbeats 0
/-! KC2: draws as functions; the numbers that are drawn, in rising order. -/
namespace BX.Q
open PySem
def drw (ns : List Int) (k m : Int) : Int := match F_l_drawn [.scr ns, .int k, .int m] [] with
  | .ok (.int r) _ => r
  | _ => 0
theorem drw_ok {ns : List Int} {k m : Int} (hl : ns.length ≤ 63) (hm : 0 < m) : F_l_drawn [.scr ns, .int k, .int m] = ret (.int (drw ns k m)) ∧ 0 ≤ drw ns k m ∧ drw ns k m < m := by
  obtain ⟨r, e, h1, h2⟩ := drawn_ok ns k m hl hm
  have : drw ns k m = r := by
    unfold drw
    rw [e]; rfl
  rw [this]
  exact ⟨e, h1, h2⟩
def lexN : List (List Int) := [[1], [1, 1], [1, 1, 1], [1, 1, 2], [1, 1, 3], [1, 2], [1, 2, 1], [1, 2, 2], [1, 2, 3], [1, 3], [1, 3, 1], [1, 3, 2], [1, 3, 3], [2], [2, 1], [2, 1, 1], [2, 1, 2], [2, 1, 3], [2, 2], [2, 2, 1], [2, 2, 2], [2, 2, 3], [2, 3], [2, 3, 1], [2, 3, 2], [2, 3, 3], [3], [3, 1], [3, 1, 1], [3, 1, 2], [3, 1, 3], [3, 2], [3, 2, 1], [3, 2, 2], [3, 2, 3], [3, 3], [3, 3, 1], [3, 3, 2], [3, 3, 3]]
/-- and some rounds that are no such -/
def lexX : List (List Int) := lexN ++ [[6, 6, 6, 6], [9], [1, 1, 1, 1], [9, 9]]
def dig (k : Nat) : List Int := lexX.getD k []
def num (k : Nat) : D := .tup ((dig k).map .int)
def R39 : List Nat := List.range 39
def R43 : List Nat := List.range 43
theorem r43 {k : Nat} (h : k < 43) : k ∈ R43 := List.mem_range.mpr h
theorem r39 {k : Nat} (h : k < 39) : k ∈ R39 := List.mem_range.mpr h
theorem lex_all {l : List Int} (h1 : 1 ≤ l.length) (h2 : l.length ≤ 3) (h : ∀ i ∈ l, 1 ≤ i ∧ i ≤ 3) : l ∈ lexN := by
  have key : ∀ i : Int, 1 ≤ i ∧ i ≤ 3 → i = 1 ∨ i = 2 ∨ i = 3 := fun i hi => by omega
  match l, h1, h2, h with
  | [a], _, _, h =>
    have ha := key a (h a (by simp))
    rcases ha with rfl | rfl | rfl <;> decide
  | [a, b], _, _, h =>
    have ha := key a (h a (by simp))
    have hb := key b (h b (by simp))
    rcases ha with rfl | rfl | rfl <;> rcases hb with rfl | rfl | rfl <;> decide
  | [a, b, c], _, _, h =>
    have ha := key a (h a (by simp))
    have hb := key b (h b (by simp))
    have hc := key c (h c (by simp))
    rcases ha with rfl | rfl | rfl <;> rcases hb with rfl | rfl | rfl <;> rcases hc with rfl | rfl | rfl <;> decide
theorem dig_of {l : List Int} (h : l ∈ lexN) : ∃ k, k < 39 ∧ dig k = l := by
  have e : (lexN.all fun l => R39.any fun k => decide (dig k = l)) = true := by decide +kernel
  obtain ⟨k, hk, hd⟩ := List.any_eq_true.mp (List.all_eq_true.mp e l h)
  exact ⟨k, List.mem_range.mp hk, of_decide_eq_true hd⟩
theorem numK_ex (ns : List Int) (k : Int) : ∃ j, ns.length ≤ 63 → j < 39 ∧ F_l_number [.scr ns, .int k] = ret (num j) := by
  by_cases hl : ns.length ≤ 63
  · obtain ⟨l, e, h1, h2, h3⟩ := number_ok ns k hl
    obtain ⟨j, hj, rfl⟩ := dig_of (lex_all h1 h2 h3)
    exact ⟨j, fun _ => ⟨hj, e⟩⟩
  · exact ⟨0, fun h => absurd h hl⟩
noncomputable def numK (ns : List Int) (k : Int) : Nat := Classical.choose (numK_ex ns k)
theorem numK_ok {ns : List Int} {k : Int} (hl : ns.length ≤ 63) : numK ns k < 39 ∧ F_l_number [.scr ns, .int k] = ret (num (numK ns k)) := Classical.choose_spec (numK_ex ns k) hl
/-! ### order -/
def ltI : List Int → List Int → Bool
  | [], [] => false
  | [], _ :: _ => true
  | _ :: _, [] => false
  | x :: a, y :: b => if x = y then ltI a b else decide (x < y)
theorem ltL_map : ∀ a b : List Int, ltL (a.map .int) (b.map .int) = ltI a b
  | [], [] => rfl
  | [], _ :: _ => rfl
  | _ :: _, [] => rfl
  | x :: a, y :: b => by
    simp only [List.map_cons, ltL, eqD, ltD, ltL_map a b, ltI]
    by_cases h : x = y <;> simp [h]
theorem t_lt : (R39.all fun i => R39.all fun j => (ltI (dig i) (dig j) == decide (i < j)) && (decide (dig i = dig j) == decide (i = j))) = true := by decide +kernel
theorem num_lt {i j : Nat} (hi : i < 39) (hj : j < 39) : ltD (num i) (num j) = decide (i < j) := by
  have h := List.all_eq_true.mp (List.all_eq_true.mp t_lt i (r39 hi)) j (r39 hj)
  simp only [Bool.and_eq_true, beq_iff_eq] at h
  unfold num
  simp only [ltD]
  rw [ltL_map]
  exact h.1
theorem dig_inj {i j : Nat} (hi : i < 39) (hj : j < 39) : (dig i = dig j) ↔ i = j := by
  have h := List.all_eq_true.mp (List.all_eq_true.mp t_lt i (r39 hi)) j (r39 hj)
  simp only [Bool.and_eq_true, beq_iff_eq] at h
  exact decide_eq_decide.mp h.2
theorem num_eq {i j : Nat} (hi : i < 39) (hj : j < 39) : eqD (num i) (num j) = decide (i = j) := by
  have := (GE.tup GE.int).eq (dig i) (dig j)
  unfold num
  rw [this]
  exact decide_eq_decide.mpr (dig_inj hi hj)
theorem t_eq43 : (R43.all fun i => R43.all fun j => (decide (dig i = dig j) == decide (i = j))) = true := by decide +kernel
theorem num_eq43 {i j : Nat} (hi : i < 43) (hj : j < 43) : eqD (num i) (num j) = decide (i = j) := by
  have := (GE.tup GE.int).eq (dig i) (dig j)
  unfold num
  rw [this]
  exact beq_iff_eq.mp (List.all_eq_true.mp (List.all_eq_true.mp t_eq43 i (r43 hi)) j (r43 hj))
theorem num_sh (n : Nat) (i : Nat) : sh (n + 1) (num i) = true := by
  unfold num
  simp only [sh]
  exact shL_ints n (dig i)
theorem alL_ints : ∀ a b : List Int, alL (a.map .int) (b.map .int) = true
  | [], _ => by simp [alL]
  | _ :: _, [] => by simp [alL]
  | x :: a, y :: b => by simp only [List.map_cons, alL, alD, alL_ints a b]; rfl
theorem num_al (i j : Nat) : alD (num i) (num j) = true := by
  unfold num
  simp only [alD]
  exact alL_ints _ _
theorem t_ne : (R39.all fun i => !(dig i).isEmpty) = true := by decide +kernel
theorem num_ne {i : Nat} (h : i < 39) : isTupNE (num i) = true := by
  have := List.all_eq_true.mp t_ne i (r39 h)
  unfold num
  cases e : dig i with
  | nil => rw [e] at this; simp at this
  | cons x r => rfl
/-! ### bits -/
def bitsT : List Int → List Int
  | [] => [0, 0, 0, 0, 0, 0]
  | d :: r => 0 :: 0 :: (rep d.toNat [1, 0] ++ bitsT r)
def bitsL (l : List Int) : List Int := (bitsT l).drop 2
def bits (k : Nat) : List Int := bitsL (dig k)
def bitsD (k : Nat) : D := .lst ((bits k).map .int)
theorem t_bits : (R39.all fun k => isV (F_bits_of [num k] []) (bitsD k)) = true := by decide +kernel
theorem bits_at {k : Nat} (h : k < 39) : F_bits_of [num k] [] = .ok (bitsD k) [] := isV_eq (List.all_eq_true.mp t_bits k (r39 h))
theorem t_need : (R39.all fun k => isV (F_need_number [num k] []) .non && isV (F_is_number [num k] []) (.bl true)) = true := by decide +kernel
theorem need_at {k : Nat} (h : k < 39) : F_need_number [num k] [] = .ok .non [] := isV_eq (by
  have := List.all_eq_true.mp t_need k (r39 h)
  simp only [Bool.and_eq_true] at this
  exact this.1)
theorem isnum_at {k : Nat} (h : k < 39) : F_is_number [num k] [] = .ok (.bl true) [] := isV_eq (by
  have := List.all_eq_true.mp t_need k (r39 h)
  simp only [Bool.and_eq_true] at this
  exact this.2)
theorem t_taps : (R39.all fun k => [1, 2, 3, 4].all fun m => isV (F_taps [num k, .int m] []) (.lst ((rep m.toNat (bits k)).map .int)) && isV (F_long_of [num k, .int m] []) (.int ((bits k).length * m))) = true := by decide +kernel
theorem taps_at {k : Nat} {m : Int} (h : k < 39) (hm : m ∈ [1, 2, 3, (4 : Int)]) : F_taps [num k, .int m] [] = .ok (.lst ((rep m.toNat (bits k)).map .int)) [] ∧ F_long_of [num k, .int m] [] = .ok (.int ((bits k).length * m)) [] := by
  have := List.all_eq_true.mp (List.all_eq_true.mp t_taps k (r39 h)) m hm
  simp only [Bool.and_eq_true] at this
  exact ⟨isV_eq this.1, isV_eq this.2⟩
/-! ### sorting by a key -/
def insK (κ : Nat → Nat) (x : Nat) : List Nat → List Nat
  | [] => [x]
  | y :: ys => if κ y < κ x then y :: insK κ x ys else x :: y :: ys
def isortK (κ : Nat → Nat) : List Nat → List Nat
  | [] => []
  | x :: xs => insK κ x (isortK κ xs)
theorem insK_perm (κ : Nat → Nat) (x : Nat) : ∀ ys, (insK κ x ys).Perm (x :: ys)
  | [] => .refl _
  | y :: ys => by
    unfold insK
    split
    · exact ((insK_perm κ x ys).cons y).trans (List.Perm.swap x y ys)
    · exact .refl _
theorem isortK_perm (κ : Nat → Nat) : ∀ xs, (isortK κ xs).Perm xs
  | [] => .refl _
  | x :: xs => (insK_perm κ x _).trans ((isortK_perm κ xs).cons x)
theorem insK_pw {κ : Nat → Nat} {x : Nat} : ∀ {ys : List Nat}, ys.Pairwise (fun a b => κ a ≤ κ b) → (insK κ x ys).Pairwise (fun a b => κ a ≤ κ b)
  | [], _ => by simp [insK]
  | y :: ys, p => by
    have p' := List.pairwise_cons.mp p
    unfold insK
    split
    · refine List.pairwise_cons.mpr ⟨fun z hz => ?_, insK_pw p'.2⟩
      rcases List.mem_cons.mp ((insK_perm κ x ys).mem_iff.mp hz) with rfl | hz
      · omega
      · exact p'.1 z hz
    · refine List.pairwise_cons.mpr ⟨fun z hz => ?_, p⟩
      rcases List.mem_cons.mp hz with rfl | hz
      · omega
      · have := p'.1 z hz
        omega
theorem isortK_pw (κ : Nat → Nat) : ∀ xs, (isortK κ xs).Pairwise (fun a b => κ a ≤ κ b)
  | [] => .nil
  | x :: xs => insK_pw (isortK_pw κ xs)
theorem isortK_uniq {κ : Nat → Nat} {xs ys : List Nat} (inj : ∀ a ∈ xs, ∀ b ∈ xs, κ a = κ b → a = b) (p : ys.Perm xs) (pw : ys.Pairwise (fun a b => κ a ≤ κ b)) : isortK κ xs = ys := by
  refine List.Perm.eq_of_pairwise (le := fun a b => κ a ≤ κ b) (fun a b ha hb h1 h2 => ?_) (isortK_pw κ xs) pw ((isortK_perm κ xs).trans p.symm)
  exact inj a ((isortK_perm κ xs).mem_iff.mp ha) b (p.mem_iff.mp hb) (Nat.le_antisymm h1 h2)
theorem isortK_of_perm {κ : Nat → Nat} {xs ys : List Nat} (inj : ∀ a ∈ xs, ∀ b ∈ xs, κ a = κ b → a = b) (p : ys.Perm xs) : isortK κ xs = isortK κ ys :=
  isortK_uniq inj ((isortK_perm κ ys).trans p) (isortK_pw κ ys)
theorem insD_mapK {e : Nat → D} {κ : Nat → Nat} {x : Nat} : ∀ (ys : List Nat), (∀ y ∈ ys, ltD (e y) (e x) = decide (κ y < κ x)) → insD (e x) (ys.map e) = (insK κ x ys).map e
  | [], _ => rfl
  | y :: ys, h => by
    simp only [List.map_cons, insD, insK, h y List.mem_cons_self, decide_eq_true_eq]
    split
    · rw [insD_mapK ys fun z hz => h z (List.mem_cons_of_mem _ hz)]; rfl
    · rfl
theorem isortD_mapK {e : Nat → D} {κ : Nat → Nat} : ∀ (xs : List Nat), (∀ x ∈ xs, ∀ y ∈ xs, ltD (e x) (e y) = decide (κ x < κ y)) → isortD (xs.map e) = (isortK κ xs).map e
  | [], _ => rfl
  | x :: xs, h => by
    simp only [List.map_cons, isortD, isortK]
    rw [isortD_mapK xs fun a ha b hb => h a (List.mem_cons_of_mem _ ha) b (List.mem_cons_of_mem _ hb)]
    exact insD_mapK _ fun y hy => h y (List.mem_cons_of_mem _ ((isortK_perm κ xs).mem_iff.mp hy)) x List.mem_cons_self
theorem okSort_mapN {e : Nat → D} {ks : List Nat} (h1 : ∀ k ∈ ks, sh 60 (e k) = true) (h2 : ∀ i j, alD (e i) (e j) = true) (h3 : ∀ k ∈ ks, isTupNE (e k) = true) : okSort (ks.map e) = true := by
  unfold okSort
  simp only [Bool.and_eq_true, Bool.or_eq_true, List.all_eq_true, List.mem_map, forall_exists_index, and_imp]
  refine ⟨⟨fun x k hk e' => by subst e'; exact h1 k hk, fun x k _ e1 y j _ e2 => by subst e1 e2; exact h2 k j⟩, .inl fun x k hk e' => by subst e'; exact h3 k hk⟩
theorem sortL_s {xs : List D} (s : Sto) (h : okSort xs = true) : b1D .sorted (.lst xs) s = .ok (.lst (isortD xs)) s := by
  simp only [b1D, sortD, items, h, if_true]
  rfl
theorem sortT_s {xs : List D} (s : Sto) (h : okSort xs = true) : b1D .sorted (.tup xs) s = .ok (.lst (isortD xs)) s := by
  simp only [b1D, sortD, items, h, if_true]
  rfl
end BX.Q

set_option Elab.async false
set_option linter.all false
set_option maxRecDepth 100000
/-! KS1: closed parts of a block, run by the kernel. -/
namespace BX.Q
open PySem
def frBody : SL → SL
  | .cons (.fr _ _ b) _ => b
  | _ => .nil
def okNx : R (Fl × Env) → Bool
  | .ok (.nx, _) [] => true
  | _ => false
def okRt : R (Fl × Env) → Bool
  | .ok (.rt (.bl true), _) [] => true
  | _ => false
theorem okNx_eq {r : R (Fl × Env)} (h : okNx r = true) : ∃ E, r = .ok (.nx, E) [] := by
  unfold okNx at h
  split at h
  · exact ⟨_, rfl⟩
  · cases h
theorem okRt_eq {r : R (Fl × Env)} (h : okRt r = true) : ∃ E, r = .ok (.rt (.bl true), E) [] := by
  unfold okRt at h
  split at h
  · exact ⟨_, rfl⟩
  · cases h
theorem non_le : ∀ (n : Nat) (ρ : Env), ρ.length = n → leE (List.replicate n none) ρ
  | 0, [], _ => trivial
  | n + 1, x :: r, h => ⟨.inl rfl, non_le n r (by simpa using h)⟩
/-- a closed part of a block, of which nothing is known after -/
theorem each_small {b : SL} {E ρ : Env} (h : okNx (evB b E []) = true) (hl : leE E ρ) : Meets (evB b ρ []) (.env (List.replicate ρ.length none) []) := by
  obtain ⟨E', e⟩ := okNx_eq h
  obtain ⟨ρ', e', _⟩ := run_small b e hl
  rw [e']
  refine Meets.env (non_le _ _ ?_)
  exact (evB_al b (wrB b) ρ (fun _ h => h) [] _ [] e').1
theorem rt_small {b : SL} {E ρ : Env} (h : okRt (evB b E []) = true) (hl : leE E ρ) : Meets (evB b ρ []) (.val (.bl true) []) := by
  obtain ⟨E', e⟩ := okRt_eq h
  obtain ⟨ρ', e', _⟩ := run_small b e hl
  rw [e']
  exact Meets.val
/-- one that writes none of the slots that are known -/
theorem each_keep {b : SL} {E E0 ρ : Env} (h : okNx (evB b E []) = true) (hl : leE E ρ) (hk : leE E0 (maskE (wrB b) 0 ρ)) : Meets (evB b ρ []) (.env E0 []) := by
  obtain ⟨E', e⟩ := okNx_eq h
  obtain ⟨ρ', e', _⟩ := run_small b e hl
  rw [e']
  have a := evB_al b (wrB b) ρ (fun _ h => h) [] _ [] e'
  exact Meets.env (hk.trans (maskE_le (wrB b) 0 leE.rfl a.1.symm fun j hj => a.2 j (by simpa using hj)))
theorem for_eachD (E : Env) {body ss : SL} {tg : Tg} {as : List D} {ρ : Env} {t : Tgt} {s : Sto} (h : leE E ρ)
    (hb : ∀ a ∈ as, ∃ ρ1, stT tg a E = some ρ1 ∧ Meets (evB body ρ1 s) (.env E s))
    (m : Meets (evB ss E s) t) : Meets (Rb (forM tg (evB body) as ρ s) (thenB ss)) t := by
  have := for_each (g := id) (as := as) E h hb m
  rwa [List.map_id] at this
end BX.Q

set_option Elab.async false
set_option linter.all false
set_option maxRecDepth 100000
set_option maxHeartbeats 0
/-! KB1: books, parts, by places of numbers. -/
namespace BX.Q
open PySem
local macro_rules | `(tactic| simp_arith [$as,*]) => `(tactic| simp only [↓x_var, ↓x_cI, ↓x_cB, ↓x_cN, ↓x_cS, ↓x_gl, ↓x_bin, ↓x_neg, ↓x_no, ↓x_an, ↓x_orr, ↓x_cmp, ↓x_chn, ↓x_ife, ↓x_ix, ↓x_sl, ↓x_rv, ↓x_li, ↓x_tu, ↓x_cp, ↓x_ca, ↓x_b1, ↓x_b2, ↓x_mt, ↓x_isi, ↓x_at, ↓x_me, ↓x_mk, ↓x_lr, ↓y_an, ↓y_orr, ↓y_no, ↓y_cmp, ↓y_chn, ↓y_var, ↓y_cB, ↓y_ca, ↓y_b1, ↓y_isi, ↓y_me, ↓z_an0, ↓z_an, ↓z_or0, ↓z_or, ↓w_an1, ↓w_an, ↓w_or1, ↓w_or, ↓l_nil, ↓l_cons, ↓q_none, ↓q_some, ↓c_none, ↓c_some, ↓i_e, ↓i_r1, ↓i_r2, ↓i_en, ↓i_zp, ↓b_nil, ↓b_cons, ↓s_a, ↓s_m, ↓s_mv, ↓s_ap, ↓s_ext, ↓s_rm, ↓s_ixs, ↓s_e, ↓s_iff, ↓s_fr, ↓s_frm, ↓s_wh, ↓s_rt, ↓s_rn, ↓s_ps, ↓s_rs, ↓s_tr, ↓s_sa, k2_s, neg_s, notM_s, notB_s, chM_s, kSl2_s, kSl_s, kCp_s, kC_s, kL_s, kQ_s, kR1_s, kR2_s, kEnL_s, kEnT_s, kMe_s, aO_s, asg_s, mMl_s, mMb_s, kMv_s, kAp_s, kAp2_s, kXt_s, kXt2_s, kRm_s, kRm2_s, kIx_s, kIx2_s, kIx3_s, kE_s, kRt_s, kFr_s, kSa3_s, kSa2_s, kSa_s, Rif_t, Rif_f, Rif_x, mkL_0, mkL_1, mkL_2, mkL_3, mkL_4, mkL_5, mkL_6, mkT_0, mkT_1, mkT_2, mkT_3, mkT_4, mkT_5, mkT_6, thenB_nx, thenB_rt, thenB_ct, Rb_ok, Rb_ex, ret_s, exc_s, Rn_ok, gO_s, lO_s, cO_e, sO_s, ofO_some, asB_s, asI_s, addI_s, subI_s, ltI_s, leI_s, gtI_s, geI_s, eqI_s, neI_s, isN_s, nisN_s, isNon_non, isNon_int, isNon_tup, Rt_ok, Rt_ex, hO_s, lenL_s, lenT_s, lenS_s, intB_s, tupL_s, tupT_s, lstL_s, lstT_s, sumL_s, sumT_s, allL_s, max2_s, min2_s, slL_s, slT_s, slS_s, rvL_s, rvT_s, ixL_e, ixT_e, itsL_s, itsT_s, seqL_s, seqT_s, seq2L_s, seq2T_s, isiT_s, isiL_s, isiI_s, noObj_tup, noObj_int, noObj_lst, isTy_tt, isTy_ii, isTy_bi, isTy_lt, isTy_ll, isTy_tl, List.any_cons, List.any_nil, Bool.or_false, Bool.false_or, Bool.or_true, Bool.true_or, List.getElem?_cons_zero, List.getElem?_cons_succ, List.set_cons_zero, List.set_cons_succ, stT, setAll, wipeE, Bool.not_true, Bool.not_false, decide_true, decide_false, Bool.false_eq_true, eq_self_iff_true, reduceIte, $as,*])
/-- the parts of each number -/
def ptT : List (List Nat) := [[0], [0, 1], [0, 1, 2], [0, 1, 2, 3, 5, 13], [0, 1, 2, 3, 4, 5, 9, 13, 26], [0, 1, 5, 13], [0, 1, 5, 6, 13, 14], [0, 1, 5, 6, 7, 13, 14, 18], [0, 1, 5, 6, 7, 8, 9, 13, 14, 18, 22, 26], [0, 1, 5, 9, 13, 26], [0, 1, 5, 9, 10, 13, 14, 26, 27], [0, 1, 5, 9, 10, 11, 13, 14, 18, 26, 27, 31], [0, 1, 5, 9, 10, 11, 12, 13, 14, 18, 22, 26, 27, 31, 35], [0, 13], [0, 1, 13, 14], [0, 1, 2, 13, 14, 15], [0, 1, 2, 3, 5, 13, 14, 15, 16], [0, 1, 2, 3, 4, 5, 9, 13, 14, 15, 16, 17, 26], [0, 1, 5, 13, 14, 18], [0, 1, 5, 6, 13, 14, 18, 19], [0, 1, 5, 6, 7, 13, 14, 18, 19, 20], [0, 1, 5, 6, 7, 8, 9, 13, 14, 18, 19, 20, 21, 22, 26], [0, 1, 5, 9, 13, 14, 18, 22, 26], [0, 1, 5, 9, 10, 13, 14, 18, 22, 23, 26, 27], [0, 1, 5, 9, 10, 11, 13, 14, 18, 22, 23, 24, 26, 27, 31], [0, 1, 5, 9, 10, 11, 12, 13, 14, 18, 22, 23, 24, 25, 26, 27, 31, 35], [0, 13, 26], [0, 1, 13, 14, 26, 27], [0, 1, 2, 13, 14, 15, 26, 27, 28], [0, 1, 2, 3, 5, 13, 14, 15, 16, 26, 27, 28, 29], [0, 1, 2, 3, 4, 5, 9, 13, 14, 15, 16, 17, 26, 27, 28, 29, 30], [0, 1, 5, 13, 14, 18, 26, 27, 31], [0, 1, 5, 6, 13, 14, 18, 19, 26, 27, 31, 32], [0, 1, 5, 6, 7, 13, 14, 18, 19, 20, 26, 27, 31, 32, 33], [0, 1, 5, 6, 7, 8, 9, 13, 14, 18, 19, 20, 21, 22, 26, 27, 31, 32, 33, 34], [0, 1, 5, 9, 13, 14, 18, 22, 26, 27, 31, 35], [0, 1, 5, 9, 10, 13, 14, 18, 22, 23, 26, 27, 31, 35, 36], [0, 1, 5, 9, 10, 11, 13, 14, 18, 22, 23, 24, 26, 27, 31, 35, 36, 37], [0, 1, 5, 9, 10, 11, 12, 13, 14, 18, 22, 23, 24, 25, 26, 27, 31, 35, 36, 37, 38]]
def pt (k : Nat) : List Nat := ptT.getD k []
/-- what can be heard of each when its beginning is not -/
def ltT : List (List Nat) := [[0], [0, 1], [0, 1, 2], [0, 3, 5, 13], [0, 4, 9, 13, 26], [0, 5, 13], [0, 1, 6, 14], [0, 5, 7, 13, 18], [0, 8, 9, 13, 22, 26], [0, 9, 13, 26], [0, 1, 10, 14, 27], [0, 5, 11, 13, 18, 31], [0, 9, 12, 13, 22, 26, 35], [0, 13], [0, 1, 14], [0, 1, 2, 15], [0, 3, 5, 13, 16], [0, 4, 9, 13, 17, 26], [0, 5, 13, 18], [0, 1, 6, 14, 19], [0, 5, 7, 13, 18, 20], [0, 8, 9, 13, 21, 22, 26], [0, 9, 13, 22, 26], [0, 1, 10, 14, 23, 27], [0, 5, 11, 13, 18, 24, 31], [0, 9, 12, 13, 22, 25, 26, 35], [0, 13, 26], [0, 1, 14, 27], [0, 1, 2, 15, 28], [0, 3, 5, 13, 16, 29], [0, 4, 9, 13, 17, 26, 30], [0, 5, 13, 18, 31], [0, 1, 6, 14, 19, 32], [0, 5, 7, 13, 18, 20, 33], [0, 8, 9, 13, 21, 22, 26, 34], [0, 9, 13, 22, 26, 35], [0, 1, 10, 14, 23, 27, 36], [0, 5, 11, 13, 18, 24, 31, 37], [0, 9, 12, 13, 22, 25, 26, 35, 38]]
def lat (k : Nat) : List Nat := ltT.getD k []
theorem t_pt : (R39.all fun k => isV (F_parts_of [num k] []) (.lst ((pt k).map num)) && (pt k).all (· < 39)) = true := by decide +kernel
theorem pt_at {k : Nat} (h : k < 39) : F_parts_of [num k] [] = .ok (.lst ((pt k).map num)) [] := isV_eq (by
  have := List.all_eq_true.mp t_pt k (r39 h)
  simp only [Bool.and_eq_true] at this
  exact this.1)
theorem pt_lt {k j : Nat} (h : k < 39) (hj : j ∈ pt k) : j < 39 := by
  have := List.all_eq_true.mp t_pt k (r39 h)
  simp only [Bool.and_eq_true] at this
  exact of_decide_eq_true (List.all_eq_true.mp this.2 j hj)
theorem t_lat : (R39.all fun k => R43.all fun j => isV (F_late [num k, num j] []) (.bl (decide (j ∈ lat k)))) = true := by decide +kernel
theorem lat_at {k j : Nat} (h : k < 39) (hj : j < 43) : F_late [num k, num j] [] = .ok (.bl (decide (j ∈ lat k))) [] := isV_eq (List.all_eq_true.mp (List.all_eq_true.mp t_lat k (r39 h)) j (r43 hj))
theorem t_nr : (R43.all fun k => isV (F_need_round [num k] []) .non) = true := by decide +kernel
theorem nr_at {k : Nat} (h : k < 43) : F_need_round [num k] [] = .ok .non [] := isV_eq (List.all_eq_true.mp t_nr k (r43 h))
theorem t_self : (R39.all fun k => decide (k ∈ pt k) && decide (k ∈ lat k)) = true := by decide +kernel
theorem pt_self {k : Nat} (h : k < 39) : k ∈ pt k := by
  have := List.all_eq_true.mp t_self k (r39 h)
  simp only [Bool.and_eq_true, decide_eq_true_eq] at this
  exact this.1
/-! ### in, among numbers -/
theorem anyN {x : Nat} (hx : x < 43) : ∀ {xs : List Nat}, (∀ k ∈ xs, k < 43) → ((xs.map num).any fun z => eqD z (num x)) = decide (x ∈ xs)
  | [], _ => by simp
  | y :: ys, h => by
    have ih := anyN hx (xs := ys) fun k hk => h k (List.mem_cons_of_mem _ hk)
    simp only [List.map_cons, List.any_cons, num_eq43 (h y List.mem_cons_self) hx, ih, List.mem_cons]
    by_cases a : y = x
    · subst a; simp
    · have a' : ¬ x = y := fun z => a z.symm
      simp [a, a']
theorem shL_num (n : Nat) (ks : List Nat) : shL (n + 1) (ks.map num) = true := by
  induction ks with
  | nil => simp [shL]
  | cons k r ih => simp only [List.map_cons, shL, ih, num_sh]; rfl
theorem inTn {x : Nat} {xs : List Nat} (hx : x < 43) (h : ∀ k ∈ xs, k < 43) : cmpD .isin (num x) (.tup (xs.map num)) [] = .ok (.bl (decide (x ∈ xs))) [] := by
  show (if (sh 60 (num x) && shL 60 (xs.map num)) = true then ret (D.bl (xor false ((xs.map num).any fun z => eqD z (num x)))) else bad) [] = _
  rw [if_pos (by rw [num_sh, shL_num]; rfl), anyN hx h, Bool.false_xor]; rfl
theorem ninTn {x : Nat} {xs : List Nat} (hx : x < 43) (h : ∀ k ∈ xs, k < 43) : cmpD .notin (num x) (.tup (xs.map num)) [] = .ok (.bl (!decide (x ∈ xs))) [] := by
  show (if (sh 60 (num x) && shL 60 (xs.map num)) = true then ret (D.bl (xor true ((xs.map num).any fun z => eqD z (num x)))) else bad) [] = _
  rw [if_pos (by rw [num_sh, shL_num]; rfl), anyN hx h, Bool.true_xor]; rfl
theorem inLn {x : Nat} {xs : List Nat} (hx : x < 43) (h : ∀ k ∈ xs, k < 43) : cmpD .isin (num x) (.lst (xs.map num)) [] = .ok (.bl (decide (x ∈ xs))) [] := by
  show (if (sh 60 (num x) && shL 60 (xs.map num)) = true then ret (D.bl (xor false ((xs.map num).any fun z => eqD z (num x)))) else bad) [] = _
  rw [if_pos (by rw [num_sh, shL_num]; rfl), anyN hx h, Bool.false_xor]; rfl
theorem ninLn {x : Nat} {xs : List Nat} (hx : x < 43) (h : ∀ k ∈ xs, k < 43) : cmpD .notin (num x) (.lst (xs.map num)) [] = .ok (.bl (!decide (x ∈ xs))) [] := by
  show (if (sh 60 (num x) && shL 60 (xs.map num)) = true then ret (D.bl (xor true ((xs.map num).any fun z => eqD z (num x)))) else bad) [] = _
  rw [if_pos (by rw [num_sh, shL_num]; rfl), anyN hx h, Bool.true_xor]; rfl
theorem num_inj {i j : Nat} (hi : i < 43) (hj : j < 43) (h : num i = num j) : i = j := by
  have := num_eq43 hi hj
  rw [h, num_eq43 hj hj] at this
  simpa using this
/-- lists of numbers compared -/
theorem eqLn : ∀ {xs ys : List Nat}, (∀ k ∈ xs, k < 43) → (∀ k ∈ ys, k < 43) → eqL (xs.map num) (ys.map num) = decide (xs = ys)
  | [], [], _, _ => by simp [eqL]
  | [], _ :: _, _, _ => by simp [eqL]
  | _ :: _, [], _, _ => by simp [eqL]
  | x :: xs, y :: ys, h, h' => by
    have ih := eqLn (xs := xs) (ys := ys) (fun k hk => h k (List.mem_cons_of_mem _ hk)) fun k hk => h' k (List.mem_cons_of_mem _ hk)
    simp only [List.map_cons, eqL, num_eq43 (h x List.mem_cons_self) (h' y List.mem_cons_self), ih, List.cons.injEq]
    by_cases a : x = y <;> by_cases b : xs = ys <;> simp [a, b]
theorem eqN_s {x y : Nat} (hx : x < 43) (hy : y < 43) (s : Sto) : cmpD .eq (num x) (num y) s = .ok (.bl (decide (x = y))) s := by
  show eqM false (num x) (num y) s = _
  unfold eqM
  rw [show nrm (num x) = num x from rfl, show nrm (num y) = num y from rfl, num_sh, num_sh, num_eq43 hx hy]
  cases decide (x = y) <;> rfl
theorem neN_s {x y : Nat} (hx : x < 43) (hy : y < 43) (s : Sto) : cmpD .ne (num x) (num y) s = .ok (.bl (!decide (x = y))) s := by
  show eqM true (num x) (num y) s = _
  unfold eqM
  rw [show nrm (num x) = num x from rfl, show nrm (num y) = num y from rfl, num_sh, num_sh, num_eq43 hx hy]
  cases decide (x = y) <;> rfl
theorem eqLN_s {xs ys : List Nat} (hx : ∀ k ∈ xs, k < 43) (hy : ∀ k ∈ ys, k < 43) (s : Sto) : cmpD .eq (.lst (xs.map num)) (.lst (ys.map num)) s = .ok (.bl (decide (xs = ys))) s := by
  show eqM false _ _ s = _
  unfold eqM
  rw [if_pos (by simp only [nrm, sh, shL_num]; rfl)]
  simp only [nrm, eqD, eqLn hx hy]
  cases decide (xs = ys) <;> rfl
theorem neLN_s {xs ys : List Nat} (hx : ∀ k ∈ xs, k < 43) (hy : ∀ k ∈ ys, k < 43) (s : Sto) : cmpD .ne (.lst (xs.map num)) (.lst (ys.map num)) s = .ok (.bl (!decide (xs = ys))) s := by
  show eqM true _ _ s = _
  unfold eqM
  rw [if_pos (by simp only [nrm, sh, shL_num]; rfl)]
  simp only [nrm, eqD, eqLn hx hy]
  cases decide (xs = ys) <;> rfl
theorem ltN_s {x y : Nat} (hx : x < 39) (hy : y < 39) (s : Sto) : cmpD .lt (num x) (num y) s = .ok (.bl (decide (x < y))) s := by
  have := num_lt hx hy
  unfold num at this
  simp only [ltD] at this
  show (if (shL 60 ((dig x).map .int) && shL 60 ((dig y).map .int) && alL ((dig x).map .int) ((dig y).map .int)) = true then ret (D.bl (ltL ((dig x).map .int) ((dig y).map .int))) else bad) s = _
  rw [if_pos (by simp only [shL_ints, alL_ints]; rfl), this]; rfl
/-! ### books -/
structure Book (b : List Nat) : Prop where
  lt : ∀ k ∈ b, k < 39
  pw : b.Pairwise (· < ·)
  ne : b ≠ []
  le : b.length ≤ 8
theorem Book.nd {b : List Nat} (h : Book b) : b.Nodup := h.pw.imp fun h => Nat.ne_of_lt h
theorem Book.l43 {b : List Nat} (h : Book b) : ∀ k ∈ b, k < 43 := fun k hk => Nat.lt_of_lt_of_le (h.lt k hk) (by decide)
def bkD (b : List Nat) : D := .tup (b.map num)
theorem zip_pw : ∀ {b : List Nat}, b.Pairwise (· < ·) → ∀ p ∈ b.zip (b.drop 1), p.1 < p.2
  | [], _, p, h => by simp at h
  | [x], _, p, h => by simp at h
  | x :: y :: r, hp, p, h => by
    have hp' := List.pairwise_cons.mp hp
    simp only [List.drop_succ_cons, List.drop_zero, List.zip_cons_cons, List.mem_cons] at h
    rcases h with rfl | h
    · exact hp'.1 y List.mem_cons_self
    · exact zip_pw hp'.2 p (by simpa using h)
theorem cut_drop1 {α : Type} (xs : List α) (h : xs ≠ []) : cut xs (some 1) none = xs.drop 1 := by
  have hl : 1 ≤ xs.length := by cases xs with
    | nil => exact absurd rfl h
    | cons => simp
  unfold cut bnN
  simp only []
  rw [if_neg (by decide), show min (1 : Int).toNat xs.length = 1 by simp; omega]
  rw [List.take_of_length_le (by rw [List.length_drop]; exact Nat.le_refl _)]
theorem isbook_at {b : List Nat} (h : Book b) : F_is_book [bkD b] [] = .ok (.bl true) [] := by
  refine mkF_val rfl ?_
  show Meets (evB B_is_book [some (.tup (b.map num)), none, none] []) _
  have hl : 1 ≤ b.length := List.length_pos_iff.mpr h.ne
  have c1 : (1 : Int) ≤ (b.length : Int) := by omega
  have c2 : (b.length : Int) ≤ 8 := by have := h.le; omega
  simp_arith [B_is_book, c1, c2, List.length_map]
  rw [cpM_e (f := fun _ => .bl true) (fun k hk => ⟨_, rfl, by simp_arith [isnum_at (h.lt k hk)]⟩)]
  rw [show (b.map fun _ => D.bl true) = (b.map fun _ => true).map .bl by rw [List.map_map]; rfl]
  simp_arith [mkL_s (xs := (b.map fun _ => true).map D.bl) [] (by rw [List.length_map, List.length_map]; have := h.le; omega), show (b.map fun _ => true).all id = true by simp]
  rw [cut_map, cut_drop1 b h.ne, zipL_map, cpM_e (f := fun _ => .bl true) (fun p hp => ⟨_, rfl, by
    have m := List.of_mem_zip (show (p.1, p.2) ∈ b.zip (b.drop 1) from hp)
    simp_arith [ltN_s (h.lt _ m.1) (h.lt _ (List.mem_of_mem_drop m.2)) [], zip_pw h.pw p hp]⟩)]
  rw [show ((b.zip (b.drop 1)).map fun _ => D.bl true) = ((b.zip (b.drop 1)).map fun _ => true).map .bl by rw [List.map_map]; rfl]
  simp_arith [mkL_s (xs := ((b.zip (b.drop 1)).map fun _ => true).map D.bl) [] (by rw [List.length_map, List.length_map, List.length_zip]; have := h.le; omega), show ((b.zip (b.drop 1)).map fun _ => true).all id = true by simp]
  exact Meets.val
theorem needbook_at {b : List Nat} (h : Book b) : F_need_book [bkD b] [] = .ok .non [] := by
  refine mkF_val rfl ?_
  show Meets (evB B_need_book [some (bkD b)] []) _
  simp_arith [B_need_book, isbook_at h]
  exact Meets.non
end BX.Q

set_option Elab.async false
set_option linter.all false
set_option maxRecDepth 100000
set_option maxHeartbeats 0
/-! KB2: books drawn; what rounds could be, and mean. -/
namespace BX.Q
open PySem
local macro_rules | `(tactic| simp_arith [$as,*]) => `(tactic| simp only [↓x_var, ↓x_cI, ↓x_cB, ↓x_cN, ↓x_cS, ↓x_gl, ↓x_bin, ↓x_neg, ↓x_no, ↓x_an, ↓x_orr, ↓x_cmp, ↓x_chn, ↓x_ife, ↓x_ix, ↓x_sl, ↓x_rv, ↓x_li, ↓x_tu, ↓x_cp, ↓x_ca, ↓x_b1, ↓x_b2, ↓x_mt, ↓x_isi, ↓x_at, ↓x_me, ↓x_mk, ↓x_lr, ↓y_an, ↓y_orr, ↓y_no, ↓y_cmp, ↓y_chn, ↓y_var, ↓y_cB, ↓y_ca, ↓y_b1, ↓y_isi, ↓y_me, ↓z_an0, ↓z_an, ↓z_or0, ↓z_or, ↓w_an1, ↓w_an, ↓w_or1, ↓w_or, ↓l_nil, ↓l_cons, ↓q_none, ↓q_some, ↓c_none, ↓c_some, ↓i_e, ↓i_r1, ↓i_r2, ↓i_en, ↓i_zp, ↓b_nil, ↓b_cons, ↓s_a, ↓s_m, ↓s_mv, ↓s_ap, ↓s_ext, ↓s_rm, ↓s_ixs, ↓s_e, ↓s_iff, ↓s_fr, ↓s_frm, ↓s_wh, ↓s_rt, ↓s_rn, ↓s_ps, ↓s_rs, ↓s_tr, ↓s_sa, k2_s, neg_s, notM_s, notB_s, chM_s, kSl2_s, kSl_s, kCp_s, kC_s, kL_s, kQ_s, kR1_s, kR2_s, kEnL_s, kEnT_s, kMe_s, aO_s, asg_s, mMl_s, mMb_s, kMv_s, kAp_s, kAp2_s, kXt_s, kXt2_s, kRm_s, kRm2_s, kIx_s, kIx2_s, kIx3_s, kE_s, kRt_s, kFr_s, kSa3_s, kSa2_s, kSa_s, Rif_t, Rif_f, Rif_x, mkL_0, mkL_1, mkL_2, mkL_3, mkL_4, mkL_5, mkL_6, mkT_0, mkT_1, mkT_2, mkT_3, mkT_4, mkT_5, mkT_6, thenB_nx, thenB_rt, thenB_ct, Rb_ok, Rb_ex, ret_s, exc_s, Rn_ok, gO_s, lO_s, cO_e, sO_s, ofO_some, asB_s, asI_s, addI_s, subI_s, ltI_s, leI_s, gtI_s, geI_s, eqI_s, neI_s, isN_s, nisN_s, isNon_non, isNon_int, isNon_tup, Rt_ok, Rt_ex, hO_s, lenL_s, lenT_s, lenS_s, intB_s, tupL_s, tupT_s, lstL_s, lstT_s, sumL_s, sumT_s, allL_s, max2_s, min2_s, slL_s, slT_s, slS_s, rvL_s, rvT_s, ixL_e, ixT_e, itsL_s, itsT_s, seqL_s, seqT_s, seq2L_s, seq2T_s, isiT_s, isiL_s, isiI_s, noObj_tup, noObj_int, noObj_lst, isTy_tt, isTy_ii, isTy_bi, isTy_lt, isTy_ll, isTy_tl, List.any_cons, List.any_nil, Bool.or_false, Bool.false_or, Bool.or_true, Bool.true_or, List.getElem?_cons_zero, List.getElem?_cons_succ, List.set_cons_zero, List.set_cons_succ, stT, setAll, wipeE, Bool.not_true, Bool.not_false, decide_true, decide_false, Bool.false_eq_true, eq_self_iff_true, reduceIte, $as,*])
def nubN : List Nat → List Nat
  | [] => []
  | x :: xs => if x ∈ xs then nubN xs else x :: nubN xs
theorem nubN_mem {x : Nat} : ∀ {xs : List Nat}, x ∈ nubN xs ↔ x ∈ xs
  | [] => Iff.rfl
  | y :: ys => by
    unfold nubN
    split
    · rename_i h
      rw [nubN_mem (xs := ys), List.mem_cons]
      exact ⟨.inr, fun z => z.elim (fun e => e ▸ h) id⟩
    · rw [List.mem_cons, List.mem_cons, nubN_mem (xs := ys)]
theorem nubN_nodup : ∀ xs : List Nat, (nubN xs).Nodup
  | [] => List.nodup_nil
  | y :: ys => by
    unfold nubN
    split
    · exact nubN_nodup ys
    · rename_i h
      exact List.nodup_cons.mpr ⟨fun z => h (nubN_mem.mp z), nubN_nodup ys⟩
theorem nubN_len : ∀ xs : List Nat, (nubN xs).length ≤ xs.length
  | [] => Nat.le_refl _
  | y :: ys => by
    unfold nubN
    have := nubN_len ys
    split
    · rw [List.length_cons]; omega
    · rw [List.length_cons, List.length_cons]; omega
theorem anyN' {x : Nat} (hx : x < 43) : ∀ {xs : List Nat}, (∀ k ∈ xs, k < 43) → (xs.map num).any (eqD (num x)) = decide (x ∈ xs)
  | [], _ => by simp
  | y :: ys, h => by
    have ih := anyN' hx (xs := ys) fun k hk => h k (List.mem_cons_of_mem _ hk)
    simp only [List.map_cons, List.any_cons, num_eq43 hx (h y List.mem_cons_self), ih, List.mem_cons]
    by_cases a : x = y <;> simp [a]
theorem nubD_num : ∀ {xs : List Nat}, (∀ k ∈ xs, k < 43) → nubD (xs.map num) = (nubN xs).map num
  | [], _ => rfl
  | x :: xs, h => by
    simp only [List.map_cons, nubD, anyN' (h x List.mem_cons_self) fun k hk => h k (List.mem_cons_of_mem _ hk), nubN, nubD_num fun k hk => h k (List.mem_cons_of_mem _ hk), decide_eq_true_eq]
    split <;> rfl
theorem num_it {k : Nat} (h : k < 39) : isIntTup (num k) = true := by
  have := List.all_eq_true.mp t_ne k (r39 h)
  unfold num isIntTup
  simp only [Bool.and_eq_true, List.all_map]
  exact ⟨List.all_eq_true.mpr fun _ _ => rfl, by simpa using this⟩
theorem sortSet_s {ks : List Nat} (h : ∀ k ∈ ks, k < 39) (hl : ks.length ≤ 62) (s : Sto) : b1D .sortedSet (.lst (ks.map num)) s = .ok (.lst ((isortK id (nubN ks)).map num)) s := by
  have h43 : ∀ k ∈ ks, k < 43 := fun k hk => Nat.lt_of_lt_of_le (h k hk) (by decide)
  have hn : ∀ k ∈ nubN ks, k < 39 := fun k hk => h k (nubN_mem.mp hk)
  have hc : okSet (ks.map num) = true := by
    unfold okSet
    rw [nubD_num h43, List.length_map, Bool.and_eq_true, decide_eq_true_eq, List.all_map]
    have := nubN_len ks
    exact ⟨by omega, List.all_eq_true.mpr fun k hk => num_it (h k hk)⟩
  show (if okSet (ks.map num) = true then ret (D.lst (isortD (nubD (ks.map num)))) else bad) s = _
  rw [if_pos hc, nubD_num h43, isortD_mapK (e := num) (κ := id) _ fun i hi j hj => num_lt (hn i hi) (hn j hj)]
  rfl
theorem isort_lt {xs : List Nat} (h : xs.Nodup) : (isortK id xs).Pairwise (· < ·) := by
  have p := isortK_pw id xs
  have n : (isortK id xs).Nodup := (isortK_perm id xs).nodup_iff.mpr h
  exact List.Pairwise.imp₂ (fun a b (h1 : a ≤ b) (h2 : a ≠ b) => Nat.lt_of_le_of_ne h1 h2) p n
/-- the book that is drawn -/
noncomputable def bookR (ns : List Int) (at_ most : Int) : List Nat := (List.range (1 + drw ns at_ most - 0).toNat).map fun k : Nat => numK ns (at_ + 1 + 5 * (0 + (k : Int)))
noncomputable def bookK (ns : List Int) (at_ most : Int) : List Nat := isortK id (nubN (bookR ns at_ most))
theorem book_ok {ns : List Int} {at_ most : Int} (hl : ns.length ≤ 63) (h0 : 0 < most) (h8 : most ≤ 8) : F_l_book [.scr ns, .int at_, .int most] [] = .ok (bkD (bookK ns at_ most)) [] ∧ Book (bookK ns at_ most) ∧ ((bookK ns at_ most).length : Int) ≤ most := by
  obtain ⟨d1, d2, d3⟩ := drw_ok (ns := ns) (k := at_) (m := most) hl h0
  have hr : ∀ k ∈ bookR ns at_ most, k < 39 := fun k hk => by
    obtain ⟨j, _, rfl⟩ := List.mem_map.mp hk
    exact (numK_ok hl).1
  have hrl : (bookR ns at_ most).length = (1 + drw ns at_ most).toNat := by
    unfold bookR
    rw [List.length_map, List.length_range, Int.sub_zero]
  have hbl : (bookK ns at_ most).length ≤ (bookR ns at_ most).length := by
    unfold bookK
    rw [(isortK_perm id _).length_eq]
    exact nubN_len _
  have hm : ∀ k, k ∈ bookK ns at_ most ↔ k ∈ bookR ns at_ most := fun k => by
    unfold bookK
    rw [(isortK_perm id _).mem_iff, nubN_mem]
  refine ⟨?_, ⟨fun k hk => hr k ((hm k).mp hk), isort_lt (nubN_nodup _), fun e => ?_, by omega⟩, by omega⟩
  · refine mkF_val rfl ?_
    show Meets (evB B_l_book [some (.scr ns), some (.int at_), some (.int most), none, none] []) _
    simp_arith [B_l_book, d1]
    rw [rngM_s [] (by omega)]
    simp_arith []
    rw [cpM_e (f := fun k : Nat => num (numK ns (at_ + 1 + 5 * (0 + (k : Int))))) (fun k hk => ⟨_, rfl, by simp_arith [mulI_s' 5 _ _ (by decide), (numK_ok hl).2]⟩)]
    rw [show (List.range (1 + drw ns at_ most - 0).toNat).map (fun k : Nat => num (numK ns (at_ + 1 + 5 * (0 + (k : Int))))) = (bookR ns at_ most).map num by unfold bookR; rw [List.map_map]; rfl]
    simp_arith [mkL_s (xs := (bookR ns at_ most).map num) [] (by rw [List.length_map]; omega), sortSet_s hr (by omega)]
    exact Meets.val
  · have : numK ns (at_ + 1 + 5 * (0 + ((0 : Nat) : Int))) ∈ bookR ns at_ most := List.mem_map.mpr ⟨0, List.mem_range.mpr (by omega), rfl⟩
    have := (hm _).mpr this
    rw [e] at this
    cases this
/-! ### could be -/
theorem pt43 {k j : Nat} (h : k < 39) (hj : j ∈ pt k) : j < 43 := Nat.lt_of_lt_of_le (pt_lt h hj) (by decide)
def couldN (b : List Nat) (r : Nat) : List Nat := b.filter fun k => decide (r ∈ pt k)
theorem could_at {b : List Nat} {r : Nat} (h : Book b) (hr : r < 43) : F_could_be [bkD b, num r] [] = .ok (.lst ((couldN b r).map num)) [] := by
  refine mkF_val rfl ?_
  show Meets (evB B_could_be [some (.tup (b.map num)), some (num r), none] []) _
  have nb := needbook_at h
  unfold bkD at nb
  simp_arith [B_could_be, nb, nr_at hr]
  rw [cpM_s (p := fun k => decide (r ∈ pt k)) (f := num) (fun k hk => ⟨_, rfl, by simp_arith [pt_at (h.lt k hk), inLn hr (fun j hj => pt43 (h.lt k hk) hj)], fun _ => by simp_arith []⟩)]
  simp_arith [mkL_s (xs := (b.filter fun k => decide (r ∈ pt k)).map num) [] (by rw [List.length_map]; have := List.length_filter_le (fun k => decide (r ∈ pt k)) b; have := h.le; omega)]
  exact Meets.val
/-! ### meant -/
def seenP (b rs : List Nat) (a : Nat × Nat) : Bool := decide (a.1 ∈ b) && decide (a.1 ∈ rs.take a.2)
def seenN (b rs : List Nat) : Option Nat := ((rs.zipIdx 0).find? (seenP b rs)).map (·.1)
def fitN (b rs : List Nat) : List Nat := b.filter fun k => rs.all fun r => decide (r ∈ pt k)
def onlyN (b rs : List Nat) : Option Nat := match fitN b rs, rs with
  | [k], _ :: _ => some k
  | _, _ => none
def meantN (b rs : List Nat) : Option Nat := match seenN b rs with
  | some x => some x
  | none => onlyN b rs
def optN : Option Nat → D
  | some k => num k
  | none => .non
theorem cut_take {α : Type} (xs : List α) (i : Nat) : cut xs none (some (i : Int)) = xs.take i := by
  unfold cut bnN
  simp only [List.drop_zero, Nat.sub_zero]
  rw [if_neg (by omega)]
  rw [show ((i : Int)).toNat = i by omega]
  by_cases h : i ≤ xs.length
  · rw [Nat.min_eq_left h]
  · rw [Nat.min_eq_right (by omega), List.take_length, List.take_of_length_le (by omega)]
theorem meant_at {b rs : List Nat} {d : D} (h : Book b) (hr : ∀ r ∈ rs, r < 43) (hl : rs.length ≤ 1000) (hd : d = .lst (rs.map num) ∨ d = .tup (rs.map num)) : F_meant [bkD b, d] [] = .ok (optN (meantN b rs)) [] := by
  have h1 : isiM [.list, .tuple] d [] = .ok (.bl true) [] := by rcases hd with rfl | rfl <;> rfl
  have h2 : itsM d [] = .ok (rs.map num) [] := by rcases hd with rfl | rfl <;> rfl
  have h3 : kEn d [] = .ok (enumL 0 (rs.map num)) [] := by rcases hd with rfl | rfl <;> rfl
  have h5 : b1D .len d [] = .ok (.int rs.length) [] := by
    rcases hd with rfl | rfl
    · rw [lenL_s, List.length_map]
    · rw [lenT_s, List.length_map]
  have ht : ∀ i, ∀ r ∈ rs.take i, r < 43 := fun i r h => hr r (List.mem_of_mem_take h)
  have h4 : ∀ (x i : Nat), x < 43 → Rb (slD d none (some (i : Int)) []) (cmpD .isin (num x)) = .ok (.bl (decide (x ∈ rs.take i))) [] := fun x i hx => by
    rcases hd with rfl | rfl
    · rw [slL_s, Rb_ok, cut_map, cut_take, inLn hx (ht i)]
    · rw [slT_s, Rb_ok, cut_map, cut_take, inTn hx (ht i)]
  have nb := needbook_at h
  unfold bkD at nb
  refine mkF_val rfl ?_
  show Meets (evB B_meant [some (.tup (b.map num)), some d, none, none, none, none] []) _
  simp_arith [B_meant, nb, h1, h2]
  refine for_each [some (.tup (b.map num)), some d, none, none, none, none] leE.rfl (fun r hr' => ⟨_, rfl, ?_⟩) ?_
  · simp_arith [nr_at (hr r hr')]
    exact Meets.env (by simp [leE])
  simp_arith [h3]
  rw [enumL_map]
  refine for_find [some (.tup (b.map num)), some d, none, none, none, none] (seenP b rs) (fun a => num a.1) leE.rfl (fun a ha => ⟨_, rfl, ?_⟩) ?_
  · have hx : a.1 < 43 := hr a.1 (by
      have := List.mem_zipIdx' ha
      rw [this.2]; exact List.getElem_mem _)
    by_cases c1 : a.1 ∈ b
    · by_cases c2 : a.1 ∈ rs.take a.2
      · rw [if_pos (by simp [seenP, c1, c2])]
        simp_arith [inTn hx h.l43, c1, h4 a.1 a.2 hx, c2]
        exact ⟨_, rfl⟩
      · rw [if_neg (by simp [seenP, c1, c2])]
        simp_arith [inTn hx h.l43, c1, h4 a.1 a.2 hx, c2]
        exact Meets.env (by simp [leE])
    · rw [if_neg (by simp [seenP, c1])]
      simp_arith [inTn hx h.l43, c1]
      exact Meets.env (by simp [leE])
  · unfold meantN seenN
    cases e : (rs.zipIdx 0).find? (seenP b rs) with
    | some a => rfl
    | none =>
      simp only [Option.map_none]
      simp_arith []
      rw [cpM_s (p := fun k => rs.all fun r => decide (r ∈ pt k)) (f := num) (fun k hk => ⟨_, rfl, by
        simp_arith [h2]
        rw [cpM_e (f := fun r => .bl (decide (r ∈ pt k))) (fun r hr' => ⟨_, rfl, by simp_arith [pt_at (h.lt k hk), inLn (hr r hr') (fun j hj => pt43 (h.lt k hk) hj)]⟩), show (rs.map fun r => D.bl (decide (r ∈ pt k))) = (rs.map fun r => decide (r ∈ pt k)).map .bl by rw [List.map_map]; rfl]
        simp_arith [mkL_s (xs := (rs.map fun r => decide (r ∈ pt k)).map D.bl) [] (by rw [List.length_map, List.length_map]; omega), List.all_map, Function.comp_def, id], fun _ => by simp_arith []⟩)]
      have hf : (fitN b rs).length ≤ 8 := Nat.le_trans (List.length_filter_le _ _) h.le
      rw [show (b.filter fun k => rs.all fun r => decide (r ∈ pt k)) = fitN b rs from rfl]
      simp_arith [mkL_s (xs := (fitN b rs).map num) [] (by rw [List.length_map]; omega), h5, List.length_map]
      by_cases c : (fitN b rs).length = 1
      · obtain ⟨k, hk⟩ := List.length_eq_one_iff.mp c
        rw [hk]
        by_cases c2 : rs = []
        · have e0 : onlyN b rs = none := by unfold onlyN; rw [hk, c2]
          have c3 : ¬ ((0 : Int) < (rs.length : Int)) := by rw [c2]; decide
          rw [e0]
          simp_arith [List.length_cons, List.length_nil, h5, c3, show (((0 + 1 : Nat) : Int) = 1) by decide]
          exact Meets.val
        · obtain ⟨r, rs', e1⟩ := List.exists_cons_of_ne_nil c2
          have e0 : onlyN b rs = some k := by unfold onlyN; rw [hk, e1]
          have c3 : ((0 : Int) < (rs.length : Int)) := by rw [e1, List.length_cons]; omega
          rw [e0]
          simp_arith [List.length_cons, List.length_nil, h5, c3, show (((0 + 1 : Nat) : Int) = 1) by decide, List.map_cons, List.map_nil, show atI [num k] (0 : Int) = some (num k) from rfl]
          exact Meets.val
      · have e0 : onlyN b rs = none := by
          unfold onlyN
          split
          · rename_i e0; rw [e0] at c; exact absurd rfl c
          · rfl
        have c3 : ¬ (((fitN b rs).length : Int) = 1) := by omega
        rw [e0]
        simp_arith [c3]
        exact Meets.val
end BX.Q

set_option Elab.async false
set_option linter.all false
set_option maxRecDepth 100000
set_option maxHeartbeats 0
/-! KB3: what rounds mean, plainly. -/
namespace BX.Q
open PySem
local macro_rules | `(tactic| simp_arith [$as,*]) => `(tactic| simp only [↓x_var, ↓x_cI, ↓x_cB, ↓x_cN, ↓x_cS, ↓x_gl, ↓x_bin, ↓x_neg, ↓x_no, ↓x_an, ↓x_orr, ↓x_cmp, ↓x_chn, ↓x_ife, ↓x_ix, ↓x_sl, ↓x_rv, ↓x_li, ↓x_tu, ↓x_cp, ↓x_ca, ↓x_b1, ↓x_b2, ↓x_mt, ↓x_isi, ↓x_at, ↓x_me, ↓x_mk, ↓x_lr, ↓y_an, ↓y_orr, ↓y_no, ↓y_cmp, ↓y_chn, ↓y_var, ↓y_cB, ↓y_ca, ↓y_b1, ↓y_isi, ↓y_me, ↓z_an0, ↓z_an, ↓z_or0, ↓z_or, ↓w_an1, ↓w_an, ↓w_or1, ↓w_or, ↓l_nil, ↓l_cons, ↓q_none, ↓q_some, ↓c_none, ↓c_some, ↓i_e, ↓i_r1, ↓i_r2, ↓i_en, ↓i_zp, ↓b_nil, ↓b_cons, ↓s_a, ↓s_m, ↓s_mv, ↓s_ap, ↓s_ext, ↓s_rm, ↓s_ixs, ↓s_e, ↓s_iff, ↓s_fr, ↓s_frm, ↓s_wh, ↓s_rt, ↓s_rn, ↓s_ps, ↓s_rs, ↓s_tr, ↓s_sa, k2_s, neg_s, notM_s, notB_s, chM_s, kSl2_s, kSl_s, kCp_s, kC_s, kL_s, kQ_s, kR1_s, kR2_s, kEnL_s, kEnT_s, kMe_s, aO_s, asg_s, mMl_s, mMb_s, kMv_s, kAp_s, kAp2_s, kXt_s, kXt2_s, kRm_s, kRm2_s, kIx_s, kIx2_s, kIx3_s, kE_s, kRt_s, kFr_s, kSa3_s, kSa2_s, kSa_s, Rif_t, Rif_f, Rif_x, mkL_0, mkL_1, mkL_2, mkL_3, mkL_4, mkL_5, mkL_6, mkT_0, mkT_1, mkT_2, mkT_3, mkT_4, mkT_5, mkT_6, thenB_nx, thenB_rt, thenB_ct, Rb_ok, Rb_ex, ret_s, exc_s, Rn_ok, gO_s, lO_s, cO_e, sO_s, ofO_some, asB_s, asI_s, addI_s, subI_s, ltI_s, leI_s, gtI_s, geI_s, eqI_s, neI_s, isN_s, nisN_s, isNon_non, isNon_int, isNon_tup, Rt_ok, Rt_ex, hO_s, lenL_s, lenT_s, lenS_s, intB_s, tupL_s, tupT_s, lstL_s, lstT_s, sumL_s, sumT_s, allL_s, max2_s, min2_s, slL_s, slT_s, slS_s, rvL_s, rvT_s, ixL_e, ixT_e, itsL_s, itsT_s, seqL_s, seqT_s, seq2L_s, seq2T_s, isiT_s, isiL_s, isiI_s, noObj_tup, noObj_int, noObj_lst, isTy_tt, isTy_ii, isTy_bi, isTy_lt, isTy_ll, isTy_tl, List.any_cons, List.any_nil, Bool.or_false, Bool.false_or, Bool.or_true, Bool.true_or, List.getElem?_cons_zero, List.getElem?_cons_succ, List.set_cons_zero, List.set_cons_succ, stT, setAll, wipeE, Bool.not_true, Bool.not_false, decide_true, decide_false, Bool.false_eq_true, eq_self_iff_true, reduceIte, $as,*])
/-- one taken out of some -/
def pick (xs : List Nat) (i : Int) : Nat := (atI xs i).getD 0
theorem pick_at {xs : List Nat} {i : Int} (h0 : 0 ≤ i) (h1 : i < xs.length) : atI (xs.map num) i = some (num (pick xs i)) ∧ pick xs i ∈ xs := by
  obtain ⟨n, rfl⟩ : ∃ n : Nat, i = (n : Int) := ⟨i.toNat, by omega⟩
  have e := atI_nat (xs := xs) (i := n) (by omega)
  unfold pick
  rw [atI_map, e]
  exact ⟨rfl, List.getElem_mem _⟩
def seenR (b : List Nat) : List Nat → List Nat → Option Nat
  | _, [] => none
  | s, x :: r => if x ∈ b ∧ x ∈ s then some x else seenR b (s ++ [x]) r
theorem seen_gen (b full : List Nat) : ∀ (rs : List Nat) (n : Nat), full.drop n = rs → ((rs.zipIdx n).find? (seenP b full)).map (·.1) = seenR b (full.take n) rs
  | [], _, _ => rfl
  | x :: r, n, h => by
    have hn : n < full.length := by
      rcases Nat.lt_or_ge n full.length with c | c
      · exact c
      · rw [List.drop_eq_nil_of_le c] at h; cases h
    have h' : full.drop (n + 1) = r := by
      rw [List.drop_eq_getElem_cons hn] at h
      exact (List.cons.inj h).2
    have hx : full[n] = x := by
      rw [List.drop_eq_getElem_cons hn] at h
      exact (List.cons.inj h).1
    simp only [List.zipIdx_cons, List.find?_cons, seenR]
    by_cases c : x ∈ b ∧ x ∈ full.take n
    · rw [show seenP b full (x, n) = true by simp [seenP, c.1, c.2]]
      rw [if_pos c]; rfl
    · rw [show seenP b full (x, n) = false by
        simp only [seenP, Bool.and_eq_false_iff, decide_eq_false_iff_not]
        rcases Classical.em (x ∈ b) with c1 | c1
        · exact .inr fun c2 => c ⟨c1, c2⟩
        · exact .inl c1]
      rw [if_neg c]
      simp only []
      rw [seen_gen b full r (n + 1) h', List.take_succ, List.getElem?_eq_getElem hn, hx]
      rfl
theorem seenN_eq (b rs : List Nat) : seenN b rs = seenR b [] rs := by
  have := seen_gen b rs rs 0 rfl
  simpa [seenN] using this
theorem seenR_skip {b : List Nat} : ∀ (rs s t : List Nat), (∀ r ∈ rs, r ∉ b) → seenR b s (rs ++ t) = seenR b (s ++ rs) t
  | [], s, t, _ => by simp
  | x :: r, s, t, h => by
    have hx := h x List.mem_cons_self
    simp only [List.cons_append, seenR]
    rw [if_neg fun c => hx c.1, seenR_skip r (s ++ [x]) t fun y hy => h y (List.mem_cons_of_mem _ hy)]
    simp
theorem onlyN_eq (b rs : List Nat) : onlyN b rs = if rs = [] then none else match fitN b rs with
    | [k] => some k
    | _ => none := by
  unfold onlyN
  cases rs with
  | nil => split <;> simp_all
  | cons r rs =>
    rw [if_neg (by simp)]
    generalize fitN b (r :: rs) = l
    match l with
    | [] => rfl
    | [k] => rfl
    | _ :: _ :: _ => rfl
theorem meant_no {b rs : List Nat} (h : ∀ r ∈ rs, r ∉ b) : meantN b rs = onlyN b rs := by
  have := seenR_skip (b := b) rs [] [] h
  rw [List.append_nil] at this
  unfold meantN
  rw [seenN_eq, this]
  rfl
theorem meant_seen {b rs : List Nat} {x : Nat} (h : seenR b [] rs = some x) : meantN b rs = some x := by
  unfold meantN
  rw [seenN_eq, h]
theorem fitN_mem {b rs : List Nat} {k : Nat} : k ∈ fitN b rs ↔ k ∈ b ∧ ∀ r ∈ rs, r ∈ pt k := by
  unfold fitN
  rw [List.mem_filter, List.all_eq_true]
  exact ⟨fun h => ⟨h.1, fun r hr => of_decide_eq_true (h.2 r hr)⟩, fun h => ⟨h.1, fun r hr => decide_eq_true (h.2 r hr)⟩⟩
theorem fitN_rev (b rs : List Nat) : fitN b rs.reverse = fitN b rs := by
  unfold fitN
  congr 1
  funext k
  exact List.all_reverse
theorem onlyN_rev (b rs : List Nat) : onlyN b rs.reverse = onlyN b rs := by
  rw [onlyN_eq, onlyN_eq, fitN_rev]
  simp
/-- the only one stays the only one -/
theorem onlyN_more {b rs : List Nat} {k m : Nat} (hn : b.Nodup) (h : onlyN b rs = some k) (hm : m ∈ pt k) : onlyN b (rs ++ [m]) = some k := by
  rw [onlyN_eq] at h ⊢
  rw [if_neg (by simp)]
  split at h
  · cases h
  · have hk : fitN b rs = [k] := by
      split at h
      · rename_i e; cases h; exact e
      · cases h
    have sub : ∀ j, j ∈ fitN b (rs ++ [m]) ↔ j = k := fun j => by
      rw [fitN_mem]
      constructor
      · intro hj
        have : j ∈ fitN b rs := fitN_mem.mpr ⟨hj.1, fun r hr => hj.2 r (List.mem_append_left _ hr)⟩
        rw [hk] at this
        simpa using this
      · rintro rfl
        have : j ∈ fitN b rs := by rw [hk]; simp
        have := fitN_mem.mp this
        exact ⟨this.1, fun r hr => by
          rcases List.mem_append.mp hr with z | z
          · exact this.2 r z
          · rw [List.mem_singleton.mp z]; exact hm⟩
    have nd : (fitN b (rs ++ [m])).Nodup := hn.filter _
    have : fitN b (rs ++ [m]) = [k] := by
      have pm : (fitN b (rs ++ [m])).Perm [k] := (List.perm_ext_iff_of_nodup nd (by simp)).mpr fun j => by rw [sub j]; simp
      exact List.perm_singleton.mp pm
    rw [this]
theorem optN_ne {a c : Option Nat} (ha : ∀ x, a = some x → x < 43) (hc : ∀ x, c = some x → x < 43) (s : Sto) : cmpD .ne (optN a) (optN c) s = .ok (.bl (!decide (a = c))) s := by
  cases a with
  | none =>
    cases c with
    | none => rfl
    | some y => exact neNN y s
  | some x =>
    cases c with
    | none => exact neN0 x s
    | some y =>
      have := neN_s (ha x rfl) (hc y rfl) s
      simp only [optN]
      rw [this]
      congr 3
      exact decide_eq_decide.mpr (by simp)
where
  neNN (y : Nat) (s : Sto) : cmpD .ne .non (num y) s = .ok (.bl true) s := by
    show eqM true .non (num y) s = _
    unfold eqM
    rw [show nrm (num y) = num y from rfl, num_sh]; rfl
  neN0 (x : Nat) (s : Sto) : cmpD .ne (num x) .non s = .ok (.bl true) s := by
    show eqM true (num x) .non s = _
    unfold eqM
    rw [show nrm (num x) = num x from rfl, num_sh]; rfl
theorem couldN_mem {b : List Nat} {r k : Nat} : k ∈ couldN b r ↔ k ∈ b ∧ r ∈ pt k := by
  unfold couldN
  rw [List.mem_filter, decide_eq_true_eq]
theorem t_strange : (R39.all fun k => (pt k).all (· < 39)) = true := by decide +kernel
theorem onlyN_strange {b : List Nat} (h : Book b) {r : Nat} (hr : 39 ≤ r) : onlyN b [r] = none := by
  rw [onlyN_eq, if_neg (by simp)]
  have : fitN b [r] = [] := by
    apply List.eq_nil_iff_forall_not_mem.mpr
    intro k hk
    have := fitN_mem.mp hk
    have := pt_lt (h.lt k this.1) (this.2 r (by simp))
    omega
  rw [this]
theorem optN_num (x : Nat) : optN (some x) = num x := rfl
theorem optN_non : optN none = .non := rfl
end BX.Q

set_option Elab.async false
set_option linter.all false
set_option maxRecDepth 100000
set_option maxHeartbeats 0
/-! KB4: parts that tell one number. -/
namespace BX.Q
open PySem
local macro_rules | `(tactic| simp_arith [$as,*]) => `(tactic| simp only [↓x_var, ↓x_cI, ↓x_cB, ↓x_cN, ↓x_cS, ↓x_gl, ↓x_bin, ↓x_neg, ↓x_no, ↓x_an, ↓x_orr, ↓x_cmp, ↓x_chn, ↓x_ife, ↓x_ix, ↓x_sl, ↓x_rv, ↓x_li, ↓x_tu, ↓x_cp, ↓x_ca, ↓x_b1, ↓x_b2, ↓x_mt, ↓x_isi, ↓x_at, ↓x_me, ↓x_mk, ↓x_lr, ↓y_an, ↓y_orr, ↓y_no, ↓y_cmp, ↓y_chn, ↓y_var, ↓y_cB, ↓y_ca, ↓y_b1, ↓y_isi, ↓y_me, ↓z_an0, ↓z_an, ↓z_or0, ↓z_or, ↓w_an1, ↓w_an, ↓w_or1, ↓w_or, ↓l_nil, ↓l_cons, ↓q_none, ↓q_some, ↓c_none, ↓c_some, ↓i_e, ↓i_r1, ↓i_r2, ↓i_en, ↓i_zp, ↓b_nil, ↓b_cons, ↓s_a, ↓s_m, ↓s_mv, ↓s_ap, ↓s_ext, ↓s_rm, ↓s_ixs, ↓s_e, ↓s_iff, ↓s_fr, ↓s_frm, ↓s_wh, ↓s_rt, ↓s_rn, ↓s_ps, ↓s_rs, ↓s_tr, ↓s_sa, k2_s, neg_s, notM_s, notB_s, chM_s, kSl2_s, kSl_s, kCp_s, kC_s, kL_s, kQ_s, kR1_s, kR2_s, kEnL_s, kEnT_s, kMe_s, aO_s, asg_s, mMl_s, mMb_s, kMv_s, kAp_s, kAp2_s, kXt_s, kXt2_s, kRm_s, kRm2_s, kIx_s, kIx2_s, kIx3_s, kE_s, kRt_s, kFr_s, kSa3_s, kSa2_s, kSa_s, Rif_t, Rif_f, Rif_x, mkL_0, mkL_1, mkL_2, mkL_3, mkL_4, mkL_5, mkL_6, mkT_0, mkT_1, mkT_2, mkT_3, mkT_4, mkT_5, mkT_6, thenB_nx, thenB_rt, thenB_ct, Rb_ok, Rb_ex, ret_s, exc_s, Rn_ok, gO_s, lO_s, cO_e, sO_s, ofO_some, asB_s, asI_s, addI_s, subI_s, ltI_s, leI_s, gtI_s, geI_s, eqI_s, neI_s, isN_s, nisN_s, isNon_non, isNon_int, isNon_tup, Rt_ok, Rt_ex, hO_s, lenL_s, lenT_s, lenS_s, intB_s, tupL_s, tupT_s, lstL_s, lstT_s, sumL_s, sumT_s, allL_s, max2_s, min2_s, slL_s, slT_s, slS_s, rvL_s, rvT_s, ixL_e, ixT_e, itsL_s, itsT_s, seqL_s, seqT_s, seq2L_s, seq2T_s, isiT_s, isiL_s, isiI_s, noObj_tup, noObj_int, noObj_lst, isTy_tt, isTy_ii, isTy_bi, isTy_lt, isTy_ll, isTy_tl, List.any_cons, List.any_nil, Bool.or_false, Bool.false_or, Bool.or_true, Bool.true_or, List.getElem?_cons_zero, List.getElem?_cons_succ, List.set_cons_zero, List.set_cons_succ, stT, setAll, wipeE, Bool.not_true, Bool.not_false, decide_true, decide_false, Bool.false_eq_true, eq_self_iff_true, reduceIte, $as,*])
theorem neB_s (a b : Bool) (s : Sto) : cmpD .ne (.bl a) (.bl b) s = .ok (.bl (!decide (a = b))) s := by cases a <;> cases b <;> rfl
theorem eqB_s (a b : Bool) (s : Sto) : cmpD .eq (.bl a) (.bl b) s = .ok (.bl (decide (a = b))) s := by cases a <;> cases b <;> rfl
theorem isNon_num (k : Nat) : isNon (num k) = false := rfl
theorem t_pts : (R39.all fun k => decide ((pt k).Pairwise (· < ·)) && decide ((pt k).length ≤ 39)) = true := by decide +kernel
theorem pt_pw {k : Nat} (h : k < 39) : (pt k).Pairwise (· < ·) := by
  have := List.all_eq_true.mp t_pts k (r39 h)
  simp only [Bool.and_eq_true, decide_eq_true_eq] at this
  exact this.1
theorem pt_len {k : Nat} (h : k < 39) : (pt k).length ≤ 39 := by
  have := List.all_eq_true.mp t_pts k (r39 h)
  simp only [Bool.and_eq_true, decide_eq_true_eq] at this
  exact this.2
def othF (k : Nat) (st : List Nat) (o : Nat) : List Nat := st ++ (if o = k then [] else pt o)
theorem oth_len {k : Nat} : ∀ (pre : List Nat) (st : List Nat), (∀ o ∈ pre, o < 39) → (pre.foldl (othF k) st).length ≤ st.length + 39 * pre.length
  | [], st, _ => by simp
  | o :: r, st, h => by
    have := oth_len (k := k) r (othF k st o) fun x hx => h x (List.mem_cons_of_mem _ hx)
    have h2 := pt_len (h o List.mem_cons_self)
    have : (othF k st o).length ≤ st.length + 39 := by
      unfold othF
      rw [List.length_append]
      split
      · simp
      · omega
    rw [List.foldl_cons, List.length_cons]
    omega
theorem oth_mem {k j : Nat} : ∀ (pre : List Nat) (st : List Nat), j ∈ pre.foldl (othF k) st ↔ j ∈ st ∨ ∃ o ∈ pre, o ≠ k ∧ j ∈ pt o
  | [], st => by simp
  | o :: r, st => by
    rw [List.foldl_cons, oth_mem r]
    unfold othF
    by_cases c : o = k
    · simp [c]
    · simp [c, or_assoc]
def telN (b : List Nat) (k : Nat) : List Nat := (pt k).filter fun j => !decide (j ∈ b.foldl (othF k) [])
theorem telN_mem {b : List Nat} {k j : Nat} : j ∈ telN b k ↔ j ∈ pt k ∧ ∀ o ∈ b, o ≠ k → j ∉ pt o := by
  unfold telN
  rw [List.mem_filter]
  simp only [Bool.not_eq_true', decide_eq_false_iff_not, oth_mem, List.not_mem_nil, false_or, not_exists, not_and]
theorem tel_at {b : List Nat} {k : Nat} (h : Book b) (hk : k ∈ b) : F_telling [bkD b, num k] [] = .ok (.lst ((telN b k).map num)) [] := by
  have nb := needbook_at h
  unfold bkD at nb
  have k39 := h.lt k hk
  have k43 := h.l43 k hk
  have o43 : ∀ pre : List Nat, (∀ o ∈ pre, o ∈ b) → ∀ j ∈ pre.foldl (othF k) [], j < 43 := fun pre hp j hj => by
    rcases (oth_mem pre []).mp hj with z | ⟨o, ho, _, z⟩
    · cases z
    · exact pt43 (h.lt o (hp o ho)) z
  refine mkF_val rfl ?_
  show Meets (evB B_telling [some (.tup (b.map num)), some (num k), none, none, none] []) _
  simp_arith [B_telling, nb, show isiM [.tuple] (num k) [] = .ok (.bl true) [] from rfl, ninTn k43 h.l43, hk]
  refine for_pure (fun st => [some (.tup (b.map num)), some (num k), some (.lst (st.map num)), none, none]) (othF k) [] (by simp [leE]) (fun pre o post e => ⟨_, rfl, ?_⟩) ?_
  · have ho : o ∈ b := by rw [e]; simp
    have hpb : ∀ x ∈ pre, x ∈ b := fun x hx => by rw [e]; exact List.mem_append_left _ hx
    have hl := oth_len (k := k) pre [] fun x hx => h.lt x (hpb x hx)
    have hpl : pre.length ≤ 8 := by have := h.le; rw [e, List.length_append] at this; omega
    have hol := pt_len (h.lt o ho)
    rw [List.length_nil] at hl
    by_cases c : o = k
    · have e2 : othF k (pre.foldl (othF k) []) o = pre.foldl (othF k) [] := by unfold othF; rw [if_pos c, List.append_nil]
      rw [e2]
      have en : cmpD .ne (num o) (num k) [] = .ok (.bl false) [] := by rw [neN_s (h.l43 o ho) k43]; simp [c]
      simp_arith [en, extD_s [] ((pre.foldl (othF k) []).map num) (by rw [List.length_map, List.length_nil]; omega), List.append_nil]
      exact Meets.env (by simp [leE])
    · have e2 : othF k (pre.foldl (othF k) []) o = pre.foldl (othF k) [] ++ pt o := by unfold othF; rw [if_neg c]
      rw [e2]
      simp_arith [neN_s (h.l43 o ho) k43, c, pt_at (h.lt o ho), extD_s ((pt o).map num) ((pre.foldl (othF k) []).map num) (by rw [List.length_map, List.length_map]; omega)]
      exact Meets.env (by simp [leE])
  · simp_arith [pt_at k39]
    rw [cpM_s (p := fun j => !decide (j ∈ b.foldl (othF k) [])) (f := num) (fun j hj => ⟨_, rfl, by simp_arith [ninLn (pt43 k39 hj) (o43 b fun _ h => h)], fun _ => by simp_arith []⟩)]
    rw [show (pt k).filter (fun j => !decide (j ∈ b.foldl (othF k) [])) = telN b k from rfl]
    simp_arith [mkL_s (xs := (telN b k).map num) [] (by rw [List.length_map]; have := List.length_filter_le (fun j => !decide (j ∈ b.foldl (othF k) [])) (pt k); have := pt_len k39; unfold telN; omega)]
    exact Meets.val
/-! ### what telling parts are -/
theorem could_one {b : List Nat} {k j : Nat} (h : Book b) (hk : k ∈ b) (hj : j ∈ pt k) : j ∈ telN b k ↔ couldN b j = [k] := by
  have nd : (couldN b j).Nodup := h.nd.filter _
  constructor
  · intro ht
    have := (telN_mem.mp ht).2
    have pm : (couldN b j).Perm [k] := (List.perm_ext_iff_of_nodup nd (by simp)).mpr fun o => by
      rw [couldN_mem, List.mem_singleton]
      constructor
      · rintro ⟨h1, h2⟩
        by_cases c : o = k
        · exact c
        · exact absurd h2 (this o h1 c)
      · rintro rfl
        exact ⟨hk, hj⟩
    exact List.perm_singleton.mp pm
  · intro hc
    refine telN_mem.mpr ⟨hj, fun o ho hne hp => ?_⟩
    have : o ∈ couldN b j := couldN_mem.mpr ⟨ho, hp⟩
    rw [hc] at this
    exact hne (List.mem_singleton.mp this)
theorem fit_one (b : List Nat) (j : Nat) : fitN b [j] = couldN b j := by
  unfold fitN couldN
  congr 1
  funext k
  simp
theorem telN_pw {b : List Nat} {k : Nat} (h : k < 39) : (telN b k).Pairwise (· < ·) := (pt_pw h).filter _
theorem isortK_sorted {κ : Nat → Nat} : ∀ {xs : List Nat}, xs.Pairwise (fun a b => κ a ≤ κ b) → isortK κ xs = xs
  | [], _ => rfl
  | x :: xs, h => by
    have h' := List.pairwise_cons.mp h
    simp only [isortK, isortK_sorted h'.2]
    cases xs with
    | nil => rfl
    | cons y ys =>
      have := h'.1 y List.mem_cons_self
      simp only [insK]
      rw [if_neg (by omega)]
theorem sorted_num {xs : List Nat} (h : ∀ k ∈ xs, k < 39) (s : Sto) : b1D .sorted (.lst (xs.map num)) s = .ok (.lst ((isortK id xs).map num)) s := by
  rw [sortL_s s (okSort_mapN (fun k _ => num_sh 59 k) num_al fun k hk => num_ne (h k hk)), isortD_mapK (e := num) (κ := id) xs fun i hi j hj => num_lt (h i hi) (h j hj)]
theorem Book.filter {b : List Nat} (h : Book b) (p : Nat → Bool) (hn : b.filter p ≠ []) : Book (b.filter p) :=
  ⟨fun k hk => h.lt k (List.mem_filter.mp hk).1, h.pw.filter _, hn, Nat.le_trans (List.length_filter_le _ _) h.le⟩
end BX.Q

set_option Elab.async false
set_option linter.all false
set_option maxRecDepth 100000
set_option maxHeartbeats 0
/-! KL1: drawn loops. -/
namespace BX.Q
open PySem
local macro_rules | `(tactic| simp_arith [$as,*]) => `(tactic| simp -implicitDefEqProofs only [↓x_var, ↓x_cI, ↓x_cB, ↓x_cN, ↓x_cS, ↓x_gl, ↓x_bin, ↓x_neg, ↓x_no, ↓x_an, ↓x_orr, ↓x_cmp, ↓x_chn, ↓x_ife, ↓x_ix, ↓x_sl, ↓x_rv, ↓x_li, ↓x_tu, ↓x_cp, ↓x_ca, ↓x_b1, ↓x_b2, ↓x_mt, ↓x_isi, ↓x_at, ↓x_me, ↓x_mk, ↓x_lr, ↓y_an, ↓y_orr, ↓y_no, ↓y_cmp, ↓y_chn, ↓y_var, ↓y_cB, ↓y_ca, ↓y_b1, ↓y_isi, ↓y_me, ↓z_an0, ↓z_an, ↓z_or0, ↓z_or, ↓w_an1, ↓w_an, ↓w_or1, ↓w_or, ↓l_nil, ↓l_cons, ↓q_none, ↓q_some, ↓c_none, ↓c_some, ↓i_e, ↓i_r1, ↓i_r2, ↓i_en, ↓i_zp, ↓b_nil, ↓b_cons, ↓s_a, ↓s_m, ↓s_mv, ↓s_ap, ↓s_ext, ↓s_rm, ↓s_ixs, ↓s_e, ↓s_iff, ↓s_fr, ↓s_frm, ↓s_wh, ↓s_rt, ↓s_rn, ↓s_ps, ↓s_rs, ↓s_tr, ↓s_sa, k2_s, neg_s, notM_s, notB_s, chM_s, kSl2_s, kSl_s, kCp_s, kC_s, kL_s, kQ_s, kR1_s, kR2_s, kEnL_s, kEnT_s, kMe_s, aO_s, asg_s, mMl_s, mMb_s, kMv_s, kAp_s, kAp2_s, kXt_s, kXt2_s, kRm_s, kRm2_s, kIx_s, kIx2_s, kIx3_s, kE_s, kRt_s, kFr_s, kSa3_s, kSa2_s, kSa_s, Rif_t, Rif_f, Rif_x, mkL_0, mkL_1, mkL_2, mkL_3, mkL_4, mkL_5, mkL_6, mkT_0, mkT_1, mkT_2, mkT_3, mkT_4, mkT_5, mkT_6, thenB_nx, thenB_rt, thenB_ct, Rb_ok, Rb_ex, ret_s, exc_s, Rn_ok, gO_s, lO_s, cO_e, sO_s, ofO_some, asB_s, asI_s, addI_s, subI_s, ltI_s, leI_s, gtI_s, geI_s, eqI_s, neI_s, isN_s, nisN_s, isNon_non, isNon_int, isNon_tup, Rt_ok, Rt_ex, hO_s, lenL_s, lenT_s, lenS_s, intB_s, tupL_s, tupT_s, lstL_s, lstT_s, sumL_s, sumT_s, allL_s, max2_s, min2_s, slL_s, slT_s, slS_s, rvL_s, rvT_s, ixL_e, ixT_e, itsL_s, itsT_s, seqL_s, seqT_s, seq2L_s, seq2T_s, isiT_s, isiL_s, isiI_s, noObj_tup, noObj_int, noObj_lst, isTy_tt, isTy_ii, isTy_bi, isTy_lt, isTy_ll, isTy_tl, List.any_cons, List.any_nil, Bool.or_false, Bool.false_or, Bool.or_true, Bool.true_or, List.getElem?_cons_zero, List.getElem?_cons_succ, List.set_cons_zero, List.set_cons_succ, stT, setAll, wipeE, Bool.not_true, Bool.not_false, decide_true, decide_false, Bool.false_eq_true, eq_self_iff_true, reduceIte, $as,*])
def lk (a b c : Int) : Nat := (R39.find? fun k => decide (dig k = ([1 + a, 1 + b] : List Int).take (1 + c).toNat)).getD 0
theorem t_lk : ([0, 1, 2].all fun a => [0, 1].all fun b => [0, 1].all fun c => decide (dig (lk a b c) = ([1 + a, 1 + b] : List Int).take (1 + c).toNat) && decide (lk a b c < 39)) = true := by decide +kernel
theorem lk_at {a b c : Int} (a0 : 0 ≤ a) (a1 : a < 3) (b0 : 0 ≤ b) (b1 : b < 2) (c0 : 0 ≤ c) (c1 : c < 2) : dig (lk a b c) = ([1 + a, 1 + b] : List Int).take (1 + c).toNat ∧ lk a b c < 39 := by
  have ha : a ∈ ([0, 1, 2] : List Int) := by have : a = 0 ∨ a = 1 ∨ a = 2 := by omega
                                             rcases this with rfl | rfl | rfl <;> simp
  have hb : b ∈ ([0, 1] : List Int) := by have : b = 0 ∨ b = 1 := by omega
                                          rcases this with rfl | rfl <;> simp
  have hc : c ∈ ([0, 1] : List Int) := by have : c = 0 ∨ c = 1 := by omega
                                          rcases this with rfl | rfl <;> simp
  have := List.all_eq_true.mp (List.all_eq_true.mp (List.all_eq_true.mp t_lk a ha) b hb) c hc
  simpa using this
/-- the k-th box -/
def bx (ns : List Int) (at_ : Int) (k : Nat) : Nat := lk (drw ns (at_ + 1 + 3 * (0 + (k : Int))) 3) (drw ns (at_ + 2 + 3 * (0 + (k : Int))) 2) (drw ns (at_ + 3 + 3 * (0 + (k : Int))) 2)
def lpF (ns : List Int) (at_ : Int) (st : List Nat) (k : Nat) : List Nat := if bx ns at_ k ∈ st then st else st ++ [bx ns at_ k]
theorem lp_inv (ns : List Int) (at_ : Int) (hx : ∀ k, bx ns at_ k < 39) : ∀ (l st : List Nat), st.Nodup → (∀ x ∈ st, x < 39) → (l.foldl (lpF ns at_) st).Nodup ∧ (∀ x ∈ l.foldl (lpF ns at_) st, x < 39) ∧ (l.foldl (lpF ns at_) st).length ≤ st.length + l.length ∧ st.length ≤ (l.foldl (lpF ns at_) st).length ∧ (l ≠ [] → 1 ≤ (l.foldl (lpF ns at_) st).length)
  | [], st, h1, h2 => ⟨h1, h2, by simp, by simp, fun h => absurd rfl h⟩
  | k :: r, st, h1, h2 => by
    rw [List.foldl_cons]
    by_cases c : bx ns at_ k ∈ st
    · have e : lpF ns at_ st k = st := if_pos c
      rw [e]
      obtain ⟨g1, g2, g3, g4, g5⟩ := lp_inv ns at_ hx r st h1 h2
      have : 1 ≤ st.length := List.length_pos_iff.mpr (List.ne_nil_of_mem c)
      exact ⟨g1, g2, by rw [List.length_cons]; omega, g4, fun _ => by omega⟩
    · have e : lpF ns at_ st k = st ++ [bx ns at_ k] := if_neg c
      rw [e]
      obtain ⟨g1, g2, g3, g4, g5⟩ := lp_inv ns at_ hx r (st ++ [bx ns at_ k]) (by
        rw [List.nodup_append]
        exact ⟨h1, by simp, fun a ha b hb => by rw [List.mem_singleton.mp hb]; exact fun z => c (by rw [← z]; exact ha)⟩) (fun x hx' => by
        rcases List.mem_append.mp hx' with z | z
        · exact h2 x z
        · rw [List.mem_singleton.mp z]; exact hx k)
      rw [List.length_append, List.length_singleton] at g3 g4
      exact ⟨g1, g2, by rw [List.length_cons]; omega, by omega, fun _ => by omega⟩
theorem loop_ok {ns : List Int} {at_ : Int} (hl : ns.length ≤ 63) : ∃ ks : List Nat, F_l_loop [.scr ns, .int at_] [] = .ok (.tup (ks.map num)) [] ∧ ks.Nodup ∧ (∀ k ∈ ks, k < 39) ∧ 1 ≤ ks.length ∧ ks.length ≤ 5 := by
  obtain ⟨d1, d2, d3⟩ := drw_ok (ns := ns) (k := at_) (m := 5) hl (by decide)
  generalize drw ns at_ 5 = d at d1 d2 d3
  have e1 : ∀ k : Nat, _ := fun k => drw_ok (ns := ns) (k := at_ + 1 + 3 * (0 + (k : Int))) (m := 3) hl (by decide)
  have e2 : ∀ k : Nat, _ := fun k => drw_ok (ns := ns) (k := at_ + 2 + 3 * (0 + (k : Int))) (m := 2) hl (by decide)
  have e3 : ∀ k : Nat, _ := fun k => drw_ok (ns := ns) (k := at_ + 3 + 3 * (0 + (k : Int))) (m := 2) hl (by decide)
  have hx : ∀ k, dig (bx ns at_ k) = _ ∧ bx ns at_ k < 39 := fun k => lk_at (e1 k).2.1 (e1 k).2.2 (e2 k).2.1 (e2 k).2.2 (e3 k).2.1 (e3 k).2.2
  obtain ⟨i1, i2, i3, i4, i5⟩ := lp_inv ns at_ (fun k => (hx k).2) (List.range (1 + d - 0).toNat) [] (by simp) (by simp)
  refine ⟨(List.range (1 + d - 0).toNat).foldl (lpF ns at_) [], mkF_val rfl ?_, i1, i2, i5 (by intro z; have := congrArg List.length z; simp at this; omega), by rw [List.length_range, List.length_nil] at i3; omega⟩
  show Meets (evB B_l_loop [some (.scr ns), some (.int at_), none, none, none] []) _
  simp_arith [B_l_loop, d1]
  rw [rngM_s [] (by omega)]
  refine for_pure (fun st : List Nat => [some (.scr ns), some (.int at_), some (.lst (st.map num)), none, none]) (lpF ns at_) [] (by simp [leE]) (fun pre k post e => ⟨_, rfl, ?_⟩) ?_
  · have hp : pre.length ≤ 5 := by have := congrArg List.length e; simp at this; omega
    obtain ⟨j1, j2, j3, _, _⟩ := lp_inv ns at_ (fun k => (hx k).2) pre [] (by simp) (by simp)
    rw [List.length_nil] at j3
    generalize pre.foldl (lpF ns at_) [] = st at j1 j2 j3
    have h39 := (hx k).2
    have h43 : bx ns at_ k < 43 := by omega
    have s43 : ∀ x ∈ st, x < 43 := fun x hx => by have := j2 x hx; omega
    have cu : cut [D.int (1 + drw ns (at_ + 1 + 3 * (0 + (k : Int))) 3), D.int (1 + drw ns (at_ + 2 + 3 * (0 + (k : Int))) 2)] none (some (1 + drw ns (at_ + 3 + 3 * (0 + (k : Int))) 2)) = (dig (bx ns at_ k)).map D.int := by
      rw [(hx k).1, List.map_take]
      obtain ⟨n, hn⟩ : ∃ n : Nat, 1 + drw ns (at_ + 3 + 3 * (0 + (k : Int))) 2 = (n : Int) := ⟨(1 + drw ns (at_ + 3 + 3 * (0 + (k : Int))) 2).toNat, by have := (e3 k).2.1; omega⟩
      rw [hn, cut_take]
      rfl
    have nm : (.tup ((dig (bx ns at_ k)).map D.int) : D) = num (bx ns at_ k) := rfl
    simp_arith [mulI_s' 3 _ _ (by decide), (e1 k).1, (e2 k).1, (e3 k).1, cu, nm, ninLn h43 s43]
    by_cases c : bx ns at_ k ∈ st
    · rw [show lpF ns at_ st k = st from if_pos c]
      simp_arith [c, show opD .mul (.lst [num (bx ns at_ k)]) (.int 0) [] = .ok (.lst []) [] from rfl, addL_s (st.map num) [] [] (by rw [List.length_append, List.length_map]; simp; omega), List.append_nil]
      exact Meets.env (by simp [leE])
    · rw [show lpF ns at_ st k = st ++ [bx ns at_ k] from if_neg c]
      simp_arith [c, show opD .mul (.lst [num (bx ns at_ k)]) (.int 1) [] = .ok (.lst [num (bx ns at_ k)]) [] from rfl, addL_s (st.map num) [num (bx ns at_ k)] [] (by rw [List.length_append, List.length_map]; simp; omega)]
      rw [show (st ++ [bx ns at_ k]).map num = st.map num ++ [num (bx ns at_ k)] by rw [List.map_append]; rfl]
      exact Meets.env (by simp [leE])
  · simp_arith []
    exact Meets.val
end BX.Q

set_option Elab.async false
set_option linter.all false
set_option maxRecDepth 100000
set_option maxHeartbeats 0
/-! KL2: drawn pulls. -/
namespace BX.Q
open PySem
local macro_rules | `(tactic| simp_arith [$as,*]) => `(tactic| simp -implicitDefEqProofs only [↓x_var, ↓x_cI, ↓x_cB, ↓x_cN, ↓x_cS, ↓x_gl, ↓x_bin, ↓x_neg, ↓x_no, ↓x_an, ↓x_orr, ↓x_cmp, ↓x_chn, ↓x_ife, ↓x_ix, ↓x_sl, ↓x_rv, ↓x_li, ↓x_tu, ↓x_cp, ↓x_ca, ↓x_b1, ↓x_b2, ↓x_mt, ↓x_isi, ↓x_at, ↓x_me, ↓x_mk, ↓x_lr, ↓y_an, ↓y_orr, ↓y_no, ↓y_cmp, ↓y_chn, ↓y_var, ↓y_cB, ↓y_ca, ↓y_b1, ↓y_isi, ↓y_me, ↓z_an0, ↓z_an, ↓z_or0, ↓z_or, ↓w_an1, ↓w_an, ↓w_or1, ↓w_or, ↓l_nil, ↓l_cons, ↓q_none, ↓q_some, ↓c_none, ↓c_some, ↓i_e, ↓i_r1, ↓i_r2, ↓i_en, ↓i_zp, ↓b_nil, ↓b_cons, ↓s_a, ↓s_m, ↓s_mv, ↓s_ap, ↓s_ext, ↓s_rm, ↓s_ixs, ↓s_e, ↓s_iff, ↓s_fr, ↓s_frm, ↓s_wh, ↓s_rt, ↓s_rn, ↓s_ps, ↓s_rs, ↓s_tr, ↓s_sa, k2_s, neg_s, notM_s, notB_s, chM_s, kSl2_s, kSl_s, kCp_s, kC_s, kL_s, kQ_s, kR1_s, kR2_s, kEnL_s, kEnT_s, kMe_s, aO_s, asg_s, mMl_s, mMb_s, kMv_s, kAp_s, kAp2_s, kXt_s, kXt2_s, kRm_s, kRm2_s, kIx_s, kIx2_s, kIx3_s, kE_s, kRt_s, kFr_s, kSa3_s, kSa2_s, kSa_s, Rif_t, Rif_f, Rif_x, mkL_0, mkL_1, mkL_2, mkL_3, mkL_4, mkL_5, mkL_6, mkT_0, mkT_1, mkT_2, mkT_3, mkT_4, mkT_5, mkT_6, thenB_nx, thenB_rt, thenB_ct, Rb_ok, Rb_ex, ret_s, exc_s, Rn_ok, gO_s, lO_s, cO_e, sO_s, ofO_some, asB_s, asI_s, addI_s, subI_s, ltI_s, leI_s, gtI_s, geI_s, eqI_s, neI_s, isN_s, nisN_s, isNon_non, isNon_int, isNon_tup, Rt_ok, Rt_ex, hO_s, lenL_s, lenT_s, lenS_s, intB_s, tupL_s, tupT_s, lstL_s, lstT_s, sumL_s, sumT_s, allL_s, max2_s, min2_s, slL_s, slT_s, slS_s, rvL_s, rvT_s, ixL_e, ixT_e, itsL_s, itsT_s, seqL_s, seqT_s, seq2L_s, seq2T_s, isiT_s, isiL_s, isiI_s, noObj_tup, noObj_int, noObj_lst, isTy_tt, isTy_ii, isTy_bi, isTy_lt, isTy_ll, isTy_tl, List.any_cons, List.any_nil, Bool.or_false, Bool.false_or, Bool.or_true, Bool.true_or, List.getElem?_cons_zero, List.getElem?_cons_succ, List.set_cons_zero, List.set_cons_succ, stT, setAll, wipeE, Bool.not_true, Bool.not_false, decide_true, decide_false, Bool.false_eq_true, eq_self_iff_true, reduceIte, $as,*])
def pE2 (p : Int × Int) : D := .tup [.int p.1, .int p.2]
theorem pE2_ge : GE 50 pE2 := (GE.pair GE.int GE.int).up (by decide)
def m3 (d : Int) : Int := if d = 0 then 4 else if d = 1 then 40 else 130
theorem m3_at {d : Int} (h0 : 0 ≤ d) (h1 : d < 3) : atI [D.int 4, D.int 40, D.int 130] d = some (.int (m3 d)) := by
  have : d = 0 ∨ d = 1 ∨ d = 2 := by omega
  rcases this with rfl | rfl | rfl <;> rfl
theorem m3_pos (d : Int) : 0 < m3 d ∧ m3 d ≤ 130 := by unfold m3; split <;> (try split) <;> omega
def pul (ns : List Int) (at_ n : Int) (k : Nat) : Int × Int := (drw ns (at_ + 1 + 3 * (0 + (k : Int))) (m3 (drw ns (at_ + 1 + 3 * (0 + (k : Int)) + 1) 3)), drw ns (at_ + 1 + 3 * (0 + (k : Int)) + 2) n)
def plF (ns : List Int) (at_ n : Int) (st : List (Int × Int)) (k : Nat) : List (Int × Int) := if pul ns at_ n k ∈ st then st else st ++ [pul ns at_ n k]
def PulOk (n : Int) (p : Int × Int) : Prop := 0 ≤ p.1 ∧ p.1 < 130 ∧ 0 ≤ p.2 ∧ p.2 < n
theorem pl_inv (ns : List Int) (at_ n : Int) (hx : ∀ k, PulOk n (pul ns at_ n k)) : ∀ (l : List Nat) (st : List (Int × Int)), st.Nodup → (∀ x ∈ st, PulOk n x) → (l.foldl (plF ns at_ n) st).Nodup ∧ (∀ x ∈ l.foldl (plF ns at_ n) st, PulOk n x) ∧ (l.foldl (plF ns at_ n) st).length ≤ st.length + l.length
  | [], st, h1, h2 => ⟨h1, h2, by simp⟩
  | k :: r, st, h1, h2 => by
    rw [List.foldl_cons]
    by_cases c : pul ns at_ n k ∈ st
    · have e : plF ns at_ n st k = st := if_pos c
      rw [e]
      obtain ⟨g1, g2, g3⟩ := pl_inv ns at_ n hx r st h1 h2
      exact ⟨g1, g2, by rw [List.length_cons]; omega⟩
    · have e : plF ns at_ n st k = st ++ [pul ns at_ n k] := if_neg c
      rw [e]
      obtain ⟨g1, g2, g3⟩ := pl_inv ns at_ n hx r (st ++ [pul ns at_ n k]) (by
        rw [List.nodup_append]
        exact ⟨h1, by simp, fun a ha b hb => by rw [List.mem_singleton.mp hb]; exact fun z => c (by rw [← z]; exact ha)⟩) (fun x hx' => by
        rcases List.mem_append.mp hx' with z | z
        · exact h2 x z
        · rw [List.mem_singleton.mp z]; exact hx k)
      rw [List.length_append, List.length_singleton] at g3
      exact ⟨g1, g2, by rw [List.length_cons]; omega⟩
theorem pulls_ok {ns : List Int} {at_ most : Int} {ks : List Nat} (hl : ns.length ≤ 63) (h0 : 0 ≤ most) (h8 : most ≤ 8) (hk : 1 ≤ ks.length) : ∃ ps : List (Int × Int), F_l_pulls [.scr ns, .int at_, .tup (ks.map num), .int most] [] = .ok (.tup (ps.map pE2)) [] ∧ ps.Nodup ∧ (∀ p ∈ ps, PulOk ks.length p) ∧ ps.length ≤ most.toNat := by
  obtain ⟨d1, d2, d3⟩ := drw_ok (ns := ns) (k := at_) (m := most + 1) hl (by omega)
  generalize drw ns at_ (most + 1) = d at d1 d2 d3
  have e1 : ∀ k : Nat, _ := fun k => drw_ok (ns := ns) (k := at_ + 1 + 3 * (0 + (k : Int)) + 1) (m := 3) hl (by decide)
  have e2 : ∀ k : Nat, _ := fun k => drw_ok (ns := ns) (k := at_ + 1 + 3 * (0 + (k : Int))) (m := m3 (drw ns (at_ + 1 + 3 * (0 + (k : Int)) + 1) 3)) hl (m3_pos _).1
  have e3 : ∀ k : Nat, _ := fun k => drw_ok (ns := ns) (k := at_ + 1 + 3 * (0 + (k : Int)) + 2) (m := ks.length) hl (by omega)
  have hx : ∀ k, PulOk ks.length (pul ns at_ ks.length k) := fun k => ⟨(e2 k).2.1, Int.lt_of_lt_of_le (e2 k).2.2 (m3_pos _).2, (e3 k).2.1, (e3 k).2.2⟩
  obtain ⟨i1, i2, i3⟩ := pl_inv ns at_ ks.length hx (List.range (d - 0).toNat) [] (by simp) (by simp)
  refine ⟨(List.range (d - 0).toNat).foldl (plF ns at_ ks.length) [], mkF_val rfl ?_, i1, i2, by rw [List.length_range, List.length_nil] at i3; omega⟩
  show Meets (evB B_l_pulls [some (.scr ns), some (.int at_), some (.tup (ks.map num)), some (.int most), none, none, none, none, none] []) _
  simp_arith [B_l_pulls, d1]
  rw [rngM_s [] (by omega)]
  refine for_pure (fun st : List (Int × Int) => [some (.scr ns), some (.int at_), some (.tup (ks.map num)), some (.int most), some (.lst (st.map pE2)), none, none, none, none]) (plF ns at_ ks.length) [] (by simp [leE]) (fun pre k post e => ⟨_, rfl, ?_⟩) ?_
  · have hp : pre.length ≤ 8 := by have := congrArg List.length e; simp at this; omega
    obtain ⟨j1, j2, j3⟩ := pl_inv ns at_ ks.length hx pre [] (by simp) (by simp)
    rw [List.length_nil] at j3
    generalize pre.foldl (plF ns at_ ks.length) [] = st at j1 j2 j3
    have nm : (.tup [.int (drw ns (at_ + 1 + 3 * (0 + (k : Int))) (m3 (drw ns (at_ + 1 + 3 * (0 + (k : Int)) + 1) 3))), .int (drw ns (at_ + 1 + 3 * (0 + (k : Int)) + 2) ks.length)] : D) = pE2 (pul ns at_ ks.length k) := rfl
    simp_arith [mulI_s' 3 _ _ (by decide), (e1 k).1, m3_at (e1 k).2.1 (e1 k).2.2, (e2 k).1, List.length_map, (e3 k).1, nm]
    have en := ninL_s pE2_ge (pul ns at_ ks.length k) st []
    by_cases c : pul ns at_ ks.length k ∈ st
    · have en' : cmpD .notin (pE2 (pul ns at_ ks.length k)) (.lst (st.map pE2)) [] = .ok (.bl false) [] := by rw [en]; simp [c]
      rw [show plF ns at_ ks.length st k = st from if_pos c]
      simp_arith [en', show opD .mul (.lst [pE2 (pul ns at_ ks.length k)]) (.int 0) [] = .ok (.lst []) [] from rfl, addL_s (st.map pE2) [] [] (by rw [List.length_append, List.length_map]; simp; omega), List.append_nil]
      exact Meets.env (by simp [leE])
    · have en' : cmpD .notin (pE2 (pul ns at_ ks.length k)) (.lst (st.map pE2)) [] = .ok (.bl true) [] := by rw [en]; simp [c]
      rw [show plF ns at_ ks.length st k = st ++ [pul ns at_ ks.length k] from if_neg c]
      simp_arith [en', show opD .mul (.lst [pE2 (pul ns at_ ks.length k)]) (.int 1) [] = .ok (.lst [pE2 (pul ns at_ ks.length k)]) [] from rfl, addL_s (st.map pE2) [pE2 (pul ns at_ ks.length k)] [] (by rw [List.length_append, List.length_map]; simp; omega)]
      rw [show (st ++ [pul ns at_ ks.length k]).map pE2 = st.map pE2 ++ [pE2 (pul ns at_ ks.length k)] by rw [List.map_append]; rfl]
      exact Meets.env (by simp [leE])
  · simp_arith []
    exact Meets.val
end BX.Q

set_option Elab.async false
set_option linter.all false
set_option maxRecDepth 100000
set_option maxHeartbeats 0
/-! KL3: loops and pulls that are asked. -/
namespace BX.Q
open PySem
local macro_rules | `(tactic| simp_arith [$as,*]) => `(tactic| simp -implicitDefEqProofs only [↓x_var, ↓x_cI, ↓x_cB, ↓x_cN, ↓x_cS, ↓x_gl, ↓x_bin, ↓x_neg, ↓x_no, ↓x_an, ↓x_orr, ↓x_cmp, ↓x_chn, ↓x_ife, ↓x_ix, ↓x_sl, ↓x_rv, ↓x_li, ↓x_tu, ↓x_cp, ↓x_ca, ↓x_b1, ↓x_b2, ↓x_mt, ↓x_isi, ↓x_at, ↓x_me, ↓x_mk, ↓x_lr, ↓y_an, ↓y_orr, ↓y_no, ↓y_cmp, ↓y_chn, ↓y_var, ↓y_cB, ↓y_ca, ↓y_b1, ↓y_isi, ↓y_me, ↓z_an0, ↓z_an, ↓z_or0, ↓z_or, ↓w_an1, ↓w_an, ↓w_or1, ↓w_or, ↓l_nil, ↓l_cons, ↓q_none, ↓q_some, ↓c_none, ↓c_some, ↓i_e, ↓i_r1, ↓i_r2, ↓i_en, ↓i_zp, ↓b_nil, ↓b_cons, ↓s_a, ↓s_m, ↓s_mv, ↓s_ap, ↓s_ext, ↓s_rm, ↓s_ixs, ↓s_e, ↓s_iff, ↓s_fr, ↓s_frm, ↓s_wh, ↓s_rt, ↓s_rn, ↓s_ps, ↓s_rs, ↓s_tr, ↓s_sa, k2_s, neg_s, notM_s, notB_s, chM_s, kSl2_s, kSl_s, kCp_s, kC_s, kL_s, kQ_s, kR1_s, kR2_s, kEnL_s, kEnT_s, kMe_s, aO_s, asg_s, mMl_s, mMb_s, kMv_s, kAp_s, kAp2_s, kXt_s, kXt2_s, kRm_s, kRm2_s, kIx_s, kIx2_s, kIx3_s, kE_s, kRt_s, kFr_s, kSa3_s, kSa2_s, kSa_s, Rif_t, Rif_f, Rif_x, mkL_0, mkL_1, mkL_2, mkL_3, mkL_4, mkL_5, mkL_6, mkT_0, mkT_1, mkT_2, mkT_3, mkT_4, mkT_5, mkT_6, thenB_nx, thenB_rt, thenB_ct, Rb_ok, Rb_ex, ret_s, exc_s, Rn_ok, gO_s, lO_s, cO_e, sO_s, ofO_some, asB_s, asI_s, addI_s, subI_s, ltI_s, leI_s, gtI_s, geI_s, eqI_s, neI_s, isN_s, nisN_s, isNon_non, isNon_int, isNon_tup, Rt_ok, Rt_ex, hO_s, lenL_s, lenT_s, lenS_s, intB_s, tupL_s, tupT_s, lstL_s, lstT_s, sumL_s, sumT_s, allL_s, max2_s, min2_s, slL_s, slT_s, slS_s, rvL_s, rvT_s, ixL_e, ixT_e, itsL_s, itsT_s, seqL_s, seqT_s, seq2L_s, seq2T_s, isiT_s, isiL_s, isiI_s, noObj_tup, noObj_int, noObj_lst, isTy_tt, isTy_ii, isTy_bi, isTy_lt, isTy_ll, isTy_tl, List.any_cons, List.any_nil, Bool.or_false, Bool.false_or, Bool.or_true, Bool.true_or, List.getElem?_cons_zero, List.getElem?_cons_succ, List.set_cons_zero, List.set_cons_succ, stT, setAll, wipeE, Bool.not_true, Bool.not_false, decide_true, decide_false, Bool.false_eq_true, eq_self_iff_true, reduceIte, $as,*])
theorem any_ge {α : Type} [DecidableEq α] {n : Nat} {e : α → D} (h : GE n e) (x : α) : ∀ xs : List α, x ∉ xs → (xs.map e).any (eqD (e x)) = false
  | [], _ => rfl
  | y :: r, hx => by
    simp only [List.map_cons, List.any_cons, h.eq]
    rw [any_ge h x r fun z => hx (List.mem_cons_of_mem _ z), decide_eq_false fun z => hx (by rw [z]; simp)]
    rfl
theorem nubD_ge {α : Type} [DecidableEq α] {n : Nat} {e : α → D} (h : GE n e) : ∀ xs : List α, xs.Nodup → nubD (xs.map e) = xs.map e
  | [], _ => rfl
  | x :: r, hn => by
    obtain ⟨h1, h2⟩ := List.nodup_cons.mp hn
    show (if (r.map e).any (eqD (e x)) then nubD (r.map e) else e x :: nubD (r.map e)) = _
    rw [any_ge h x r h1, nubD_ge h r h2]
    rfl
theorem count_at (i a b : Int) : F_is_count [.int i, .int a, .int b] [] = .ok (.bl (decide (a ≤ i) && decide (i ≤ b))) [] := by
  refine mkF_val rfl ?_
  show Meets (evB B_is_count [some (.int i), some (.int a), some (.int b)] []) _
  by_cases c : a ≤ i
  · simp_arith [B_is_count, c]
    exact Meets.val
  · simp_arith [B_is_count, c]
    exact Meets.val
theorem ispull_at {ks : List Nat} {p : Int × Int} : F_is_pull [.tup (ks.map num), pE2 p] [] = .ok (.bl (decide (0 ≤ p.1) && decide (p.1 ≤ 300) && (decide (0 ≤ p.2) && decide (p.2 ≤ (ks.length : Int) - 1)))) [] := by
  refine mkF_val rfl ?_
  show Meets (evB B_is_pull [some (.tup (ks.map num)), some (.tup [.int p.1, .int p.2])] []) _
  have a0 : atI [D.int p.1, D.int p.2] 0 = some (.int p.1) := rfl
  have a1 : atI [D.int p.1, D.int p.2] 1 = some (.int p.2) := rfl
  simp_arith [B_is_pull, List.length_cons, List.length_nil, show decide ((((0 + 1 + 1 : Nat)) : Int) = 2) = true from rfl, a0, a1, count_at, List.length_map]
  cases decide (0 ≤ p.1) && decide (p.1 ≤ 300)
  · simp_arith [Bool.false_and]
    exact Meets.val
  · simp_arith [Bool.true_and, a1, count_at, List.length_map]
    exact Meets.val
theorem needpulls_at {ks : List Nat} {ps : List (Int × Int)} (hn : ps.Nodup) (hl : ps.length ≤ 8) (h : ∀ p ∈ ps, 0 ≤ p.1 ∧ p.1 ≤ 300 ∧ 0 ≤ p.2 ∧ p.2 < ks.length) : F_need_pulls [.tup (ks.map num), .tup (ps.map pE2)] [] = .ok .non [] := by
  refine mkF_val rfl ?_
  show Meets (evB B_need_pulls [some (.tup (ks.map num)), some (.tup (ps.map pE2)), none] []) _
  have h8 : ¬ (8 : Int) < (ps.length : Int) := by omega
  simp_arith [B_need_pulls, List.length_map, h8]
  rw [cpM_e (f := fun _ => .bl true) (fun p hp => ⟨_, rfl, by
    obtain ⟨g1, g2, g3, g4⟩ := h p hp
    have g5 : p.2 ≤ (ks.length : Int) - 1 := by omega
    simp_arith [ispull_at, decide_eq_true g1, decide_eq_true g2, decide_eq_true g3, decide_eq_true g5, Bool.and_true]⟩)]
  rw [show (ps.map fun _ => D.bl true) = (ps.map fun _ => true).map .bl by rw [List.map_map]; rfl]
  have ls : b1D .lenSet (.tup (ps.map pE2)) [] = .ok (.int ps.length) [] := by
    show lenSetD (.tup (ps.map pE2)) [] = _
    have : okSet (ps.map pE2) = true := by
      unfold okSet
      rw [nubD_ge pE2_ge ps hn, List.length_map, decide_eq_true (by omega), Bool.true_and, List.all_map, List.all_eq_true]
      intro p _
      rfl
    unfold lenSetD
    show (if okSet (ps.map pE2) then ret (.int (nubD (ps.map pE2)).length) else bad : M D) [] = _
    rw [if_pos this, nubD_ge pE2_ge ps hn, List.length_map]
    rfl
  simp_arith [mkL_s (xs := (ps.map fun _ => true).map D.bl) [] (by rw [List.length_map, List.length_map]; omega), show (ps.map fun _ => true).all id = true by simp, ls, List.length_map]
  exact Meets.non
end BX.Q

set_option Elab.async false
set_option linter.all false
set_option maxRecDepth 100000
set_option maxHeartbeats 0
/-! KL4: loops that are asked; sorted pulls. -/
namespace BX.Q
open PySem
local macro_rules | `(tactic| simp_arith [$as,*]) => `(tactic| simp -implicitDefEqProofs only [↓x_var, ↓x_cI, ↓x_cB, ↓x_cN, ↓x_cS, ↓x_gl, ↓x_bin, ↓x_neg, ↓x_no, ↓x_an, ↓x_orr, ↓x_cmp, ↓x_chn, ↓x_ife, ↓x_ix, ↓x_sl, ↓x_rv, ↓x_li, ↓x_tu, ↓x_cp, ↓x_ca, ↓x_b1, ↓x_b2, ↓x_mt, ↓x_isi, ↓x_at, ↓x_me, ↓x_mk, ↓x_lr, ↓y_an, ↓y_orr, ↓y_no, ↓y_cmp, ↓y_chn, ↓y_var, ↓y_cB, ↓y_ca, ↓y_b1, ↓y_isi, ↓y_me, ↓z_an0, ↓z_an, ↓z_or0, ↓z_or, ↓w_an1, ↓w_an, ↓w_or1, ↓w_or, ↓l_nil, ↓l_cons, ↓q_none, ↓q_some, ↓c_none, ↓c_some, ↓i_e, ↓i_r1, ↓i_r2, ↓i_en, ↓i_zp, ↓b_nil, ↓b_cons, ↓s_a, ↓s_m, ↓s_mv, ↓s_ap, ↓s_ext, ↓s_rm, ↓s_ixs, ↓s_e, ↓s_iff, ↓s_fr, ↓s_frm, ↓s_wh, ↓s_rt, ↓s_rn, ↓s_ps, ↓s_rs, ↓s_tr, ↓s_sa, k2_s, neg_s, notM_s, notB_s, chM_s, kSl2_s, kSl_s, kCp_s, kC_s, kL_s, kQ_s, kR1_s, kR2_s, kEnL_s, kEnT_s, kMe_s, aO_s, asg_s, mMl_s, mMb_s, kMv_s, kAp_s, kAp2_s, kXt_s, kXt2_s, kRm_s, kRm2_s, kIx_s, kIx2_s, kIx3_s, kE_s, kRt_s, kFr_s, kSa3_s, kSa2_s, kSa_s, Rif_t, Rif_f, Rif_x, mkL_0, mkL_1, mkL_2, mkL_3, mkL_4, mkL_5, mkL_6, mkT_0, mkT_1, mkT_2, mkT_3, mkT_4, mkT_5, mkT_6, thenB_nx, thenB_rt, thenB_ct, Rb_ok, Rb_ex, ret_s, exc_s, Rn_ok, gO_s, lO_s, cO_e, sO_s, ofO_some, asB_s, asI_s, addI_s, subI_s, ltI_s, leI_s, gtI_s, geI_s, eqI_s, neI_s, isN_s, nisN_s, isNon_non, isNon_int, isNon_tup, Rt_ok, Rt_ex, hO_s, lenL_s, lenT_s, lenS_s, intB_s, tupL_s, tupT_s, lstL_s, lstT_s, sumL_s, sumT_s, allL_s, max2_s, min2_s, slL_s, slT_s, slS_s, rvL_s, rvT_s, ixL_e, ixT_e, itsL_s, itsT_s, seqL_s, seqT_s, seq2L_s, seq2T_s, isiT_s, isiL_s, isiI_s, noObj_tup, noObj_int, noObj_lst, isTy_tt, isTy_ii, isTy_bi, isTy_lt, isTy_ll, isTy_tl, List.any_cons, List.any_nil, Bool.or_false, Bool.false_or, Bool.or_true, Bool.true_or, List.getElem?_cons_zero, List.getElem?_cons_succ, List.set_cons_zero, List.set_cons_succ, stT, setAll, wipeE, Bool.not_true, Bool.not_false, decide_true, decide_false, Bool.false_eq_true, eq_self_iff_true, reduceIte, $as,*])
structure Loop (ks : List Nat) : Prop where
  nd : ks.Nodup
  lt : ∀ k ∈ ks, k < 39
  ge : 1 ≤ ks.length
  le : ks.length ≤ 5
theorem Loop.l43 {ks : List Nat} (h : Loop ks) : ∀ k ∈ ks, k < 43 := fun k hk => by have := h.lt k hk; omega
theorem num_any {x : Nat} (hx : x < 43) : ∀ xs : List Nat, (∀ k ∈ xs, k < 43) → x ∉ xs → (xs.map num).any (eqD (num x)) = false
  | [], _, _ => rfl
  | y :: r, h, hn => by
    simp only [List.map_cons, List.any_cons, num_eq43 hx (h y List.mem_cons_self)]
    rw [num_any hx r (fun k hk => h k (List.mem_cons_of_mem _ hk)) fun z => hn (List.mem_cons_of_mem _ z), decide_eq_false fun z => hn (by rw [z]; simp)]
    rfl
theorem nubD_nd : ∀ xs : List Nat, (∀ k ∈ xs, k < 43) → xs.Nodup → nubD (xs.map num) = xs.map num
  | [], _, _ => rfl
  | x :: r, h, hn => by
    obtain ⟨h1, h2⟩ := List.nodup_cons.mp hn
    show (if (r.map num).any (eqD (num x)) then nubD (r.map num) else num x :: nubD (r.map num)) = _
    rw [num_any (h x List.mem_cons_self) r (fun k hk => h k (List.mem_cons_of_mem _ hk)) h1, nubD_nd r (fun k hk => h k (List.mem_cons_of_mem _ hk)) h2]
    rfl
theorem isloop_at {ks : List Nat} (h : Loop ks) : F_is_loop [.tup (ks.map num)] [] = .ok (.bl true) [] := by
  have hge := h.ge
  have hle := h.le
  refine mkF_val rfl ?_
  show Meets (evB B_is_loop [some (.tup (ks.map num)), none] []) _
  have g1 : (1 : Int) ≤ (ks.length : Int) := by omega
  have g2 : (ks.length : Int) ≤ 6 := by omega
  simp_arith [B_is_loop, List.length_map, g1, g2]
  rw [cpM_e (f := fun _ => .bl true) (fun k hk => ⟨_, rfl, by simp_arith [isnum_at (h.lt k hk)]⟩)]
  rw [show (ks.map fun _ => D.bl true) = (ks.map fun _ => true).map .bl by rw [List.map_map]; rfl]
  have ls : b1D .lenSet (.tup (ks.map num)) [] = .ok (.int ks.length) [] := by
    have ok : okSet (ks.map num) = true := by
      unfold okSet
      rw [nubD_nd ks h.l43 h.nd, List.length_map, decide_eq_true (by omega), Bool.true_and, List.all_map, List.all_eq_true]
      intro k hk
      exact num_it (h.lt k hk)
    show lenSetD (.tup (ks.map num)) [] = _
    unfold lenSetD
    show (if okSet (ks.map num) then ret (.int (nubD (ks.map num)).length) else bad : M D) [] = _
    rw [if_pos ok, nubD_nd ks h.l43 h.nd, List.length_map]
    rfl
  simp_arith [mkL_s (xs := (ks.map fun _ => true).map D.bl) [] (by rw [List.length_map, List.length_map]; omega), show (ks.map fun _ => true).all id = true by simp, ls, List.length_map]
  exact Meets.val
theorem needloop_at {ks : List Nat} (h : Loop ks) : F_need_loop [.tup (ks.map num)] [] = .ok .non [] := by
  have h1 := isloop_at h
  refine mkF_val rfl ?_
  show Meets (evB B_need_loop [some (.tup (ks.map num))] []) _
  simp_arith [B_need_loop, h1]
  exact Meets.non
end BX.Q

set_option Elab.async false
set_option linter.all false
set_option maxRecDepth 100000
/-! KL5: sorted pulls. -/
namespace BX.Q
def ltP (p q : Int × Int) : Bool := decide (p.1 < q.1) || (decide (p.1 = q.1) && decide (p.2 < q.2))
def insP (x : Int × Int) : List (Int × Int) → List (Int × Int)
  | [] => [x]
  | y :: r => if ltP y x then y :: insP x r else x :: y :: r
def sortP : List (Int × Int) → List (Int × Int)
  | [] => []
  | x :: r => insP x (sortP r)
theorem ltP_D (p q : Int × Int) : ltD (pE2 p) (pE2 q) = ltP p q := by
  show ltL [.int p.1, .int p.2] [.int q.1, .int q.2] = _
  have e1 : ∀ a b : Int, eqD (.int a) (.int b) = decide (a = b) := GE.int.eq
  simp only [ltL, e1, ltD, ltP]
  by_cases c : p.1 = q.1
  · have : ¬ p.1 < q.1 := by omega
    by_cases c2 : p.2 = q.2
    · simp [c, c2]
    · simp [c, c2]
  · simp [c]
theorem insP_D (x : Int × Int) : ∀ ys : List (Int × Int), insD (pE2 x) (ys.map pE2) = (insP x ys).map pE2
  | [] => rfl
  | y :: r => by
    simp only [List.map_cons, insD, ltP_D, insP, insP_D x r]
    split <;> rfl
theorem sortP_D : ∀ xs : List (Int × Int), isortD (xs.map pE2) = (sortP xs).map pE2
  | [] => rfl
  | x :: r => by
    show insD (pE2 x) (isortD (r.map pE2)) = _
    rw [sortP_D r, insP_D]
    rfl
theorem okS_P (ps : List (Int × Int)) : okSort (ps.map pE2) = true := by
  unfold okSort
  simp only [Bool.and_eq_true, Bool.or_eq_true, List.all_eq_true, List.mem_map]
  refine ⟨⟨fun d hd => ?_, fun d hd e he => ?_⟩, .inl fun d hd => ?_⟩
  · obtain ⟨p, _, rfl⟩ := hd
    exact (pE2_ge.up (by omega : 50 ≤ 60)).dep _
  · obtain ⟨p, _, rfl⟩ := hd
    obtain ⟨q, _, rfl⟩ := he
    rfl
  · obtain ⟨p, _, rfl⟩ := hd
    rfl
theorem sortPT (ps : List (Int × Int)) (s : Sto) : b1D .sorted (.tup (ps.map pE2)) s = .ok (.lst ((sortP ps).map pE2)) s := by
  rw [sortT_s s (okS_P ps), sortP_D]
theorem insP_perm (x : Int × Int) : ∀ ys, (insP x ys).Perm (x :: ys)
  | [] => List.Perm.refl _
  | y :: r => by
    unfold insP
    split
    · exact ((insP_perm x r).cons y).trans (List.Perm.swap x y r)
    · exact List.Perm.refl _
theorem sortP_perm : ∀ xs, (sortP xs).Perm xs
  | [] => List.Perm.refl _
  | x :: r => (insP_perm x (sortP r)).trans ((sortP_perm r).cons x)
theorem ltP_iff {p q : Int × Int} : ltP p q = true ↔ p.1 < q.1 ∨ (p.1 = q.1 ∧ p.2 < q.2) := by simp [ltP]
theorem insP_pw {x : Int × Int} : ∀ {ys : List (Int × Int)}, ys.Pairwise (fun a b => ltP b a = false) → (insP x ys).Pairwise (fun a b => ltP b a = false)
  | [], _ => by simp [insP]
  | y :: r, h => by
    obtain ⟨h1, h2⟩ := List.pairwise_cons.mp h
    unfold insP
    by_cases c : ltP y x = true
    · rw [if_pos c, List.pairwise_cons]
      refine ⟨fun z hz => ?_, insP_pw h2⟩
      rcases List.mem_cons.mp ((insP_perm x r).mem_iff.mp hz) with rfl | hz
      · rw [Bool.eq_false_iff]
        intro w
        have := ltP_iff.mp c
        have := ltP_iff.mp w
        omega
      · exact h1 z hz
    · rw [if_neg c, List.pairwise_cons]
      refine ⟨fun z hz => ?_, h⟩
      have c' : ¬ (y.1 < x.1 ∨ (y.1 = x.1 ∧ y.2 < x.2)) := fun w => c (ltP_iff.mpr w)
      rcases List.mem_cons.mp hz with rfl | hz
      · rw [Bool.eq_false_iff]; exact c
      · have := h1 z hz
        rw [Bool.eq_false_iff] at this ⊢
        intro w
        have w := ltP_iff.mp w
        apply this
        apply ltP_iff.mpr
        omega
theorem sortP_pw : ∀ xs, (sortP xs).Pairwise (fun a b => ltP b a = false)
  | [] => List.Pairwise.nil
  | x :: r => insP_pw (sortP_pw r)
theorem sortP_uniq {xs ys : List (Int × Int)} (p : ys.Perm xs) (pw : ys.Pairwise (fun a b => ltP b a = false)) : sortP xs = ys := by
  refine List.Perm.eq_of_pairwise (le := fun a b => ltP b a = false) ?_ (sortP_pw xs) pw ((sortP_perm xs).trans p.symm)
  intro a b _ _ h1 h2
  rw [Bool.eq_false_iff] at h1 h2
  have h1 : ¬ _ := fun w => h1 (ltP_iff.mpr w)
  have h2 : ¬ _ := fun w => h2 (ltP_iff.mpr w)
  apply Prod.ext <;> omega
end BX.Q

set_option Elab.async false
set_option linter.all false
set_option maxRecDepth 100000
set_option maxHeartbeats 0
/-! KL6: runs. -/
namespace BX.Q
open PySem
local macro_rules | `(tactic| simp_arith [$as,*]) => `(tactic| simp -implicitDefEqProofs only [↓x_var, ↓x_cI, ↓x_cB, ↓x_cN, ↓x_cS, ↓x_gl, ↓x_bin, ↓x_neg, ↓x_no, ↓x_an, ↓x_orr, ↓x_cmp, ↓x_chn, ↓x_ife, ↓x_ix, ↓x_sl, ↓x_rv, ↓x_li, ↓x_tu, ↓x_cp, ↓x_ca, ↓x_b1, ↓x_b2, ↓x_mt, ↓x_isi, ↓x_at, ↓x_me, ↓x_mk, ↓x_lr, ↓y_an, ↓y_orr, ↓y_no, ↓y_cmp, ↓y_chn, ↓y_var, ↓y_cB, ↓y_ca, ↓y_b1, ↓y_isi, ↓y_me, ↓z_an0, ↓z_an, ↓z_or0, ↓z_or, ↓w_an1, ↓w_an, ↓w_or1, ↓w_or, ↓l_nil, ↓l_cons, ↓q_none, ↓q_some, ↓c_none, ↓c_some, ↓i_e, ↓i_r1, ↓i_r2, ↓i_en, ↓i_zp, ↓b_nil, ↓b_cons, ↓s_a, ↓s_m, ↓s_mv, ↓s_ap, ↓s_ext, ↓s_rm, ↓s_ixs, ↓s_e, ↓s_iff, ↓s_fr, ↓s_frm, ↓s_wh, ↓s_rt, ↓s_rn, ↓s_ps, ↓s_rs, ↓s_tr, ↓s_sa, k2_s, neg_s, notM_s, notB_s, chM_s, kSl2_s, kSl_s, kCp_s, kC_s, kL_s, kQ_s, kR1_s, kR2_s, kEnL_s, kEnT_s, kMe_s, aO_s, asg_s, mMl_s, mMb_s, kMv_s, kAp_s, kAp2_s, kXt_s, kXt2_s, kRm_s, kRm2_s, kIx_s, kIx2_s, kIx3_s, kE_s, kRt_s, kFr_s, kSa3_s, kSa2_s, kSa_s, Rif_t, Rif_f, Rif_x, mkL_0, mkL_1, mkL_2, mkL_3, mkL_4, mkL_5, mkL_6, mkT_0, mkT_1, mkT_2, mkT_3, mkT_4, mkT_5, mkT_6, thenB_nx, thenB_rt, thenB_ct, Rb_ok, Rb_ex, ret_s, exc_s, Rn_ok, gO_s, lO_s, cO_e, sO_s, ofO_some, asB_s, asI_s, addI_s, subI_s, ltI_s, leI_s, gtI_s, geI_s, eqI_s, neI_s, isN_s, nisN_s, isNon_non, isNon_int, isNon_tup, Rt_ok, Rt_ex, hO_s, lenL_s, lenT_s, lenS_s, intB_s, tupL_s, tupT_s, lstL_s, lstT_s, sumL_s, sumT_s, allL_s, max2_s, min2_s, slL_s, slT_s, slS_s, rvL_s, rvT_s, ixL_e, ixT_e, itsL_s, itsT_s, seqL_s, seqT_s, seq2L_s, seq2T_s, isiT_s, isiL_s, isiI_s, noObj_tup, noObj_int, noObj_lst, isTy_tt, isTy_ii, isTy_bi, isTy_lt, isTy_ll, isTy_tl, List.any_cons, List.any_nil, Bool.or_false, Bool.false_or, Bool.or_true, Bool.true_or, List.getElem?_cons_zero, List.getElem?_cons_succ, List.set_cons_zero, List.set_cons_succ, stT, setAll, wipeE, Bool.not_true, Bool.not_false, decide_true, decide_false, Bool.false_eq_true, eq_self_iff_true, reduceIte, $as,*])
abbrev Run := Int × Int × Int
def ruE (r : Run) : D := .tup [.int r.1, .int r.2.1, .int r.2.2]
theorem ruE_ge : GE 50 ruE := (GE.trip GE.int GE.int GE.int).up (by decide)
abbrev RSt := List Run × Int × List Int
def wdt (ks : List Nat) (many : Int) (pl : Int) : Int := (bits (ks.getD pl.toNat 0)).length * many
def mx (a b : Int) : Int := if a < b then b else a
def rStep (ks : List Nat) (many : Int) (st : RSt) (p : Int × Int) : RSt :=
  if st.2.2.getD p.2.toNat 0 ≤ p.1 then (st.1 ++ [(mx st.2.1 p.1, mx st.2.1 p.1 + wdt ks many p.2, p.2)], mx st.2.1 p.1 + wdt ks many p.2, st.2.2.set p.2.toNat (mx st.2.1 p.1 + wdt ks many p.2)) else st
def runsP (ks : List Nat) (many : Int) (ps : List (Int × Int)) : List Run := ((sortP ps).foldl (rStep ks many) ([], 0, List.replicate ks.length 0)).1
theorem rStep_len (ks : List Nat) (many : Int) : ∀ (l : List (Int × Int)) (st : RSt), (l.foldl (rStep ks many) st).1.length ≤ st.1.length + l.length ∧ (l.foldl (rStep ks many) st).2.2.length = st.2.2.length
  | [], st => by simp
  | p :: r, st => by
    obtain ⟨h1, h2⟩ := rStep_len ks many r (rStep ks many st p)
    have h3 : (rStep ks many st p).1.length ≤ st.1.length + 1 ∧ (rStep ks many st p).2.2.length = st.2.2.length := by
      unfold rStep
      split
      · simp
      · simp
    rw [List.foldl_cons, List.length_cons]
    omega
theorem ixN_in {n : Nat} {i : Int} (h0 : 0 ≤ i) (h1 : i < n) : ixN n i = some i.toNat := by
  unfold ixN
  rw [if_pos h0, if_pos h1]
theorem bits28 {k : Nat} (h : k < 39) : (bits k).length ≤ 28 := by
  have t : (R39.all fun k => decide ((bits k).length ≤ 28)) = true := by decide +kernel
  exact of_decide_eq_true (List.all_eq_true.mp t k (r39 h))
end BX.Q

set_option Elab.async false
set_option linter.all false
set_option maxRecDepth 100000
set_option maxHeartbeats 0
/-! KL7: runs, read by the program. -/
namespace BX.Q
open PySem
local macro_rules | `(tactic| simp_arith [$as,*]) => `(tactic| simp -implicitDefEqProofs only [↓x_var, ↓x_cI, ↓x_cB, ↓x_cN, ↓x_cS, ↓x_gl, ↓x_bin, ↓x_neg, ↓x_no, ↓x_an, ↓x_orr, ↓x_cmp, ↓x_chn, ↓x_ife, ↓x_ix, ↓x_sl, ↓x_rv, ↓x_li, ↓x_tu, ↓x_cp, ↓x_ca, ↓x_b1, ↓x_b2, ↓x_mt, ↓x_isi, ↓x_at, ↓x_me, ↓x_mk, ↓x_lr, ↓y_an, ↓y_orr, ↓y_no, ↓y_cmp, ↓y_chn, ↓y_var, ↓y_cB, ↓y_ca, ↓y_b1, ↓y_isi, ↓y_me, ↓z_an0, ↓z_an, ↓z_or0, ↓z_or, ↓w_an1, ↓w_an, ↓w_or1, ↓w_or, ↓l_nil, ↓l_cons, ↓q_none, ↓q_some, ↓c_none, ↓c_some, ↓i_e, ↓i_r1, ↓i_r2, ↓i_en, ↓i_zp, ↓b_nil, ↓b_cons, ↓s_a, ↓s_m, ↓s_mv, ↓s_ap, ↓s_ext, ↓s_rm, ↓s_ixs, ↓s_e, ↓s_iff, ↓s_fr, ↓s_frm, ↓s_wh, ↓s_rt, ↓s_rn, ↓s_ps, ↓s_rs, ↓s_tr, ↓s_sa, k2_s, neg_s, notM_s, notB_s, chM_s, kSl2_s, kSl_s, kCp_s, kC_s, kL_s, kQ_s, kR1_s, kR2_s, kEnL_s, kEnT_s, kMe_s, aO_s, asg_s, mMl_s, mMb_s, kMv_s, kAp_s, kAp2_s, kXt_s, kXt2_s, kRm_s, kRm2_s, kIx_s, kIx2_s, kIx3_s, kE_s, kRt_s, kFr_s, kSa3_s, kSa2_s, kSa_s, Rif_t, Rif_f, Rif_x, mkL_0, mkL_1, mkL_2, mkL_3, mkL_4, mkL_5, mkL_6, mkT_0, mkT_1, mkT_2, mkT_3, mkT_4, mkT_5, mkT_6, thenB_nx, thenB_rt, thenB_ct, Rb_ok, Rb_ex, ret_s, exc_s, Rn_ok, gO_s, lO_s, cO_e, sO_s, ofO_some, asB_s, asI_s, addI_s, subI_s, ltI_s, leI_s, gtI_s, geI_s, eqI_s, neI_s, isN_s, nisN_s, isNon_non, isNon_int, isNon_tup, Rt_ok, Rt_ex, hO_s, lenL_s, lenT_s, lenS_s, intB_s, tupL_s, tupT_s, lstL_s, lstT_s, sumL_s, sumT_s, allL_s, max2_s, min2_s, slL_s, slT_s, slS_s, rvL_s, rvT_s, ixL_e, ixT_e, itsL_s, itsT_s, seqL_s, seqT_s, seq2L_s, seq2T_s, isiT_s, isiL_s, isiI_s, noObj_tup, noObj_int, noObj_lst, isTy_tt, isTy_ii, isTy_bi, isTy_lt, isTy_ll, isTy_tl, List.any_cons, List.any_nil, Bool.or_false, Bool.false_or, Bool.or_true, Bool.true_or, List.getElem?_cons_zero, List.getElem?_cons_succ, List.set_cons_zero, List.set_cons_succ, stT, setAll, wipeE, Bool.not_true, Bool.not_false, decide_true, decide_false, Bool.false_eq_true, eq_self_iff_true, reduceIte, $as,*])
theorem runsof_at {ks : List Nat} {ps : List (Int × Int)} {many : Int} (h : Loop ks) (hl : ps.length ≤ 8) (hp : ∀ p ∈ ps, 0 ≤ p.2 ∧ p.2 < ks.length) (m0 : 0 ≤ many) (m1 : many ≤ 10) : F_runs_of [.tup (ks.map num), .int many, .tup (ps.map pE2)] [] = .ok (.lst ((runsP ks many ps).map ruE)) [] := by
  refine mkF_val rfl ?_
  show Meets (evB B_runs_of [some (.tup (ks.map num)), some (.int many), some (.tup (ps.map pE2)), none, none, none, none, none, none] []) _
  have hle := h.le
  have mz : opD .mul (.lst [.int 0]) (.int ks.length) [] = .ok (.lst ((List.replicate ks.length (0 : Int)).map .int)) [] := by
    rw [mulL_s [.int 0] ks.length [] (by simp only [List.length_singleton]; omega), rep_one, List.map_replicate, show ((ks.length : Int)).toNat = ks.length by omega]
  have sl : (sortP ps).length ≤ 8 := by rw [(sortP_perm ps).length_eq]; exact hl
  simp_arith [B_runs_of, List.length_map, mz, sortPT]
  refine for_pure (fun st : RSt => [some (.tup (ks.map num)), some (.int many), some (.tup (ps.map pE2)), some (.lst (st.1.map ruE)), some (.int st.2.1), some (.lst (st.2.2.map .int)), none, none, none]) (rStep ks many) ([], 0, List.replicate ks.length 0) (by simp [leE]) (fun pre p post e => ⟨_, rfl, ?_⟩) ?_
  · have hpl : pre.length ≤ 8 := by have := congrArg List.length e; simp at this; omega
    obtain ⟨h1, h2⟩ := rStep_len ks many pre ([], 0, List.replicate ks.length 0)
    generalize pre.foldl (rStep ks many) ([], 0, List.replicate ks.length 0) = st at h1 h2
    obtain ⟨rows, free, ends⟩ := st
    simp only [List.length_nil, List.length_replicate] at h1 h2
    have hm : p ∈ ps := (sortP_perm ps).mem_iff.mp (by rw [e]; simp)
    obtain ⟨mo, pl⟩ := p
    obtain ⟨g1, g2⟩ := hp _ hm
    simp only at g1 g2
    obtain ⟨i, rfl⟩ : ∃ i : Nat, pl = (i : Int) := ⟨pl.toNat, by omega⟩
    have hi : i < ks.length := by omega
    have ae : atI (ends.map D.int) (i : Int) = some (.int (ends.getD i 0)) := by
      rw [atI_map, atI_nat (by omega), List.getD_eq_getElem?_getD, List.getElem?_eq_getElem (by omega)]
      rfl
    have ak : atI (ks.map num) (i : Int) = some (num (ks.getD i 0)) := by
      rw [atI_map, atI_nat hi, List.getD_eq_getElem?_getD, List.getElem?_eq_getElem hi]
      rfl
    have k39 : ks.getD i 0 < 39 := by
      rw [List.getD_eq_getElem?_getD, List.getElem?_eq_getElem hi]
      exact h.lt _ (List.getElem_mem hi)
    have bt := bits_at k39
    unfold bitsD at bt
    have b28 := bits28 k39
    have mm : opD .mul (.int (bits (ks.getD i 0)).length) (.int many) [] = .ok (.int (wdt ks many i)) [] := by
      rw [mulI_s _ _ [] (by omega)]
      rfl
    have sd : ∀ f : Int, setD (i : Int) (.int f) (ends.map D.int) = some ((ends.set i f).map D.int) := fun f => by
      unfold setD
      rw [ixN_in (by omega) (by rw [List.length_map]; omega), List.map_set]
      rfl
    by_cases c : ends.getD i 0 ≤ mo
    · have e1 : rStep ks many (rows, free, ends) (mo, (i : Int)) = (rows ++ [(mx free mo, mx free mo + wdt ks many i, (i : Int))], mx free mo + wdt ks many i, ends.set i (mx free mo + wdt ks many i)) := by
        unfold rStep
        simp only [Int.toNat_natCast]
        rw [if_pos c]
      rw [e1]
      have em : (if free < mo then mo else free) = mx free mo := rfl
      simp_arith [ae, c, em, ak, bt, List.length_map, mm, sd, appD_s (.tup [.int (mx free mo), .int (mx free mo + wdt ks many i), .int i]) (rows.map ruE) (by rw [List.length_map]; omega)]
      rw [show (rows ++ [(mx free mo, mx free mo + wdt ks many i, (i : Int))]).map ruE = rows.map ruE ++ [.tup [.int (mx free mo), .int (mx free mo + wdt ks many i), .int i]] by rw [List.map_append]; rfl]
      exact Meets.env (by simp [leE])
    · have e1 : rStep ks many (rows, free, ends) (mo, (i : Int)) = (rows, free, ends) := by
        unfold rStep
        simp only [Int.toNat_natCast]
        rw [if_neg c]
      rw [e1]
      simp_arith [ae, c]
      exact Meets.env (by simp [leE])
  · simp_arith []
    exact Meets.val
end BX.Q

set_option Elab.async false
set_option linter.all false
set_option maxRecDepth 100000
set_option maxHeartbeats 0
/-! KL8: runs asked; idle pulls. -/
namespace BX.Q
open PySem
local macro_rules | `(tactic| simp_arith [$as,*]) => `(tactic| simp -implicitDefEqProofs only [↓x_var, ↓x_cI, ↓x_cB, ↓x_cN, ↓x_cS, ↓x_gl, ↓x_bin, ↓x_neg, ↓x_no, ↓x_an, ↓x_orr, ↓x_cmp, ↓x_chn, ↓x_ife, ↓x_ix, ↓x_sl, ↓x_rv, ↓x_li, ↓x_tu, ↓x_cp, ↓x_ca, ↓x_b1, ↓x_b2, ↓x_mt, ↓x_isi, ↓x_at, ↓x_me, ↓x_mk, ↓x_lr, ↓y_an, ↓y_orr, ↓y_no, ↓y_cmp, ↓y_chn, ↓y_var, ↓y_cB, ↓y_ca, ↓y_b1, ↓y_isi, ↓y_me, ↓z_an0, ↓z_an, ↓z_or0, ↓z_or, ↓w_an1, ↓w_an, ↓w_or1, ↓w_or, ↓l_nil, ↓l_cons, ↓q_none, ↓q_some, ↓c_none, ↓c_some, ↓i_e, ↓i_r1, ↓i_r2, ↓i_en, ↓i_zp, ↓b_nil, ↓b_cons, ↓s_a, ↓s_m, ↓s_mv, ↓s_ap, ↓s_ext, ↓s_rm, ↓s_ixs, ↓s_e, ↓s_iff, ↓s_fr, ↓s_frm, ↓s_wh, ↓s_rt, ↓s_rn, ↓s_ps, ↓s_rs, ↓s_tr, ↓s_sa, k2_s, neg_s, notM_s, notB_s, chM_s, kSl2_s, kSl_s, kCp_s, kC_s, kL_s, kQ_s, kR1_s, kR2_s, kEnL_s, kEnT_s, kMe_s, aO_s, asg_s, mMl_s, mMb_s, kMv_s, kAp_s, kAp2_s, kXt_s, kXt2_s, kRm_s, kRm2_s, kIx_s, kIx2_s, kIx3_s, kE_s, kRt_s, kFr_s, kSa3_s, kSa2_s, kSa_s, Rif_t, Rif_f, Rif_x, mkL_0, mkL_1, mkL_2, mkL_3, mkL_4, mkL_5, mkL_6, mkT_0, mkT_1, mkT_2, mkT_3, mkT_4, mkT_5, mkT_6, thenB_nx, thenB_rt, thenB_ct, Rb_ok, Rb_ex, ret_s, exc_s, Rn_ok, gO_s, lO_s, cO_e, sO_s, ofO_some, asB_s, asI_s, addI_s, subI_s, ltI_s, leI_s, gtI_s, geI_s, eqI_s, neI_s, isN_s, nisN_s, isNon_non, isNon_int, isNon_tup, Rt_ok, Rt_ex, hO_s, lenL_s, lenT_s, lenS_s, intB_s, tupL_s, tupT_s, lstL_s, lstT_s, sumL_s, sumT_s, allL_s, max2_s, min2_s, slL_s, slT_s, slS_s, rvL_s, rvT_s, ixL_e, ixT_e, itsL_s, itsT_s, seqL_s, seqT_s, seq2L_s, seq2T_s, isiT_s, isiL_s, isiI_s, noObj_tup, noObj_int, noObj_lst, isTy_tt, isTy_ii, isTy_bi, isTy_lt, isTy_ll, isTy_tl, List.any_cons, List.any_nil, Bool.or_false, Bool.false_or, Bool.or_true, Bool.true_or, List.getElem?_cons_zero, List.getElem?_cons_succ, List.set_cons_zero, List.set_cons_succ, stT, setAll, wipeE, Bool.not_true, Bool.not_false, decide_true, decide_false, Bool.false_eq_true, eq_self_iff_true, reduceIte, $as,*])
theorem needrounds_at {many : Int} (h1 : 1 ≤ many) (h4 : many ≤ 4) : F_need_rounds [.int many] [] = .ok .non [] := by
  refine mkF_val rfl ?_
  show Meets (evB B_need_rounds [some (.int many)] []) _
  simp_arith [B_need_rounds, count_at, decide_eq_true h1, decide_eq_true h4, Bool.and_true]
  exact Meets.non
structure Pulls (ks : List Nat) (ps : List (Int × Int)) : Prop where
  nd : ps.Nodup
  le : ps.length ≤ 8
  ok : ∀ p ∈ ps, 0 ≤ p.1 ∧ p.1 ≤ 300 ∧ 0 ≤ p.2 ∧ p.2 < ks.length
theorem runs_at {ks : List Nat} {ps : List (Int × Int)} {many : Int} (h : Loop ks) (hp : Pulls ks ps) (m0 : 1 ≤ many) (m1 : many ≤ 4) : F_runs [.tup (ks.map num), .int many, .tup (ps.map pE2)] [] = .ok (.lst ((runsP ks many ps).map ruE)) [] := by
  refine mkF_val rfl ?_
  show Meets (evB B_runs [some (.tup (ks.map num)), some (.int many), some (.tup (ps.map pE2))] []) _
  simp_arith [B_runs, needloop_at h, needrounds_at m0 m1, needpulls_at (ks := ks) hp.nd hp.le hp.ok, runsof_at h hp.le (fun p hm => ⟨(hp.ok p hm).2.2.1, (hp.ok p hm).2.2.2⟩) (by omega : 0 ≤ many) (by omega)]
  exact Meets.val
/-! ### what runs are -/
theorem r_more (ks : List Nat) (many : Int) : ∀ (l : List (Int × Int)) (st : RSt), ∃ more, (l.foldl (rStep ks many) st).1 = st.1 ++ more
  | [], st => ⟨[], by simp⟩
  | p :: r, st => by
    obtain ⟨m, h⟩ := r_more ks many r (rStep ks many st p)
    rw [List.foldl_cons, h]
    unfold rStep
    split
    · exact ⟨_ :: m, by rw [List.append_assoc]; rfl⟩
    · exact ⟨m, rfl⟩
structure RInv (n : Nat) (st : RSt) : Prop where
  len : st.2.2.length = n
  ends : ∀ r ∈ st.1, r.2.1 ≤ st.2.2.getD r.2.2.toNat 0
  free : ∀ i, st.2.2.getD i 0 ≤ st.2.1
  pos : 0 ≤ st.2.1
theorem r_inv0 (n : Nat) : RInv n ([], 0, List.replicate n 0) := by
  refine ⟨by simp, by simp, fun i => ?_, Int.le_refl _⟩
  show (List.replicate n (0 : Int)).getD i 0 ≤ 0
  rw [List.getD_eq_getElem?_getD, List.getElem?_replicate]
  split <;> simp
theorem mx_ge (a b : Int) : a ≤ mx a b ∧ b ≤ mx a b := by unfold mx; split <;> omega
theorem r_inv1 {ks : List Nat} {many : Int} {n : Nat} {st : RSt} (h : RInv n st) {p : Int × Int} (w : 0 < wdt ks many p.2) (h0 : 0 ≤ p.1) (hi : p.2.toNat < n) : RInv n (rStep ks many st p) := by
  unfold rStep
  split
  · have g := mx_ge st.2.1 p.1
    have hl := h.len
    refine ⟨by simp [hl], fun r hr => ?_, fun i => ?_, by simp only; omega⟩
    · simp only at hr ⊢
      rw [List.getD_eq_getElem?_getD, List.getElem?_set]
      rcases List.mem_append.mp hr with z | z
      · have h1 := h.ends r z
        have h2 := h.free r.2.2.toNat
        split
        · rw [if_pos (by omega)]
          simp only [Option.getD_some]
          omega
        · rw [← List.getD_eq_getElem?_getD]; exact h1
      · rw [List.mem_singleton.mp z]
        simp only
        rw [if_pos (by trivial), if_pos (by omega)]
        simp
    · simp only
      rw [List.getD_eq_getElem?_getD, List.getElem?_set]
      have h2 := h.free i
      split
      · split
        · simp
        · simp only [Option.getD_none]; omega
      · rw [← List.getD_eq_getElem?_getD]; omega
  · exact h
end BX.Q

set_option Elab.async false
set_option linter.all false
set_option maxRecDepth 100000
set_option maxHeartbeats 0
/-! KL9: idle pulls. -/
namespace BX.Q
open PySem
local macro_rules | `(tactic| simp_arith [$as,*]) => `(tactic| simp -implicitDefEqProofs only [↓x_var, ↓x_cI, ↓x_cB, ↓x_cN, ↓x_cS, ↓x_gl, ↓x_bin, ↓x_neg, ↓x_no, ↓x_an, ↓x_orr, ↓x_cmp, ↓x_chn, ↓x_ife, ↓x_ix, ↓x_sl, ↓x_rv, ↓x_li, ↓x_tu, ↓x_cp, ↓x_ca, ↓x_b1, ↓x_b2, ↓x_mt, ↓x_isi, ↓x_at, ↓x_me, ↓x_mk, ↓x_lr, ↓y_an, ↓y_orr, ↓y_no, ↓y_cmp, ↓y_chn, ↓y_var, ↓y_cB, ↓y_ca, ↓y_b1, ↓y_isi, ↓y_me, ↓z_an0, ↓z_an, ↓z_or0, ↓z_or, ↓w_an1, ↓w_an, ↓w_or1, ↓w_or, ↓l_nil, ↓l_cons, ↓q_none, ↓q_some, ↓c_none, ↓c_some, ↓i_e, ↓i_r1, ↓i_r2, ↓i_en, ↓i_zp, ↓b_nil, ↓b_cons, ↓s_a, ↓s_m, ↓s_mv, ↓s_ap, ↓s_ext, ↓s_rm, ↓s_ixs, ↓s_e, ↓s_iff, ↓s_fr, ↓s_frm, ↓s_wh, ↓s_rt, ↓s_rn, ↓s_ps, ↓s_rs, ↓s_tr, ↓s_sa, k2_s, neg_s, notM_s, notB_s, chM_s, kSl2_s, kSl_s, kCp_s, kC_s, kL_s, kQ_s, kR1_s, kR2_s, kEnL_s, kEnT_s, kMe_s, aO_s, asg_s, mMl_s, mMb_s, kMv_s, kAp_s, kAp2_s, kXt_s, kXt2_s, kRm_s, kRm2_s, kIx_s, kIx2_s, kIx3_s, kE_s, kRt_s, kFr_s, kSa3_s, kSa2_s, kSa_s, Rif_t, Rif_f, Rif_x, mkL_0, mkL_1, mkL_2, mkL_3, mkL_4, mkL_5, mkL_6, mkT_0, mkT_1, mkT_2, mkT_3, mkT_4, mkT_5, mkT_6, thenB_nx, thenB_rt, thenB_ct, Rb_ok, Rb_ex, ret_s, exc_s, Rn_ok, gO_s, lO_s, cO_e, sO_s, ofO_some, asB_s, asI_s, addI_s, subI_s, ltI_s, leI_s, gtI_s, geI_s, eqI_s, neI_s, isN_s, nisN_s, isNon_non, isNon_int, isNon_tup, Rt_ok, Rt_ex, hO_s, lenL_s, lenT_s, lenS_s, intB_s, tupL_s, tupT_s, lstL_s, lstT_s, sumL_s, sumT_s, allL_s, max2_s, min2_s, slL_s, slT_s, slS_s, rvL_s, rvT_s, ixL_e, ixT_e, itsL_s, itsT_s, seqL_s, seqT_s, seq2L_s, seq2T_s, isiT_s, isiL_s, isiI_s, noObj_tup, noObj_int, noObj_lst, isTy_tt, isTy_ii, isTy_bi, isTy_lt, isTy_ll, isTy_tl, List.any_cons, List.any_nil, Bool.or_false, Bool.false_or, Bool.or_true, Bool.true_or, List.getElem?_cons_zero, List.getElem?_cons_succ, List.set_cons_zero, List.set_cons_succ, stT, setAll, wipeE, Bool.not_true, Bool.not_false, decide_true, decide_false, Bool.false_eq_true, eq_self_iff_true, reduceIte, $as,*])
theorem wdt_pos {ks : List Nat} {many : Int} (h : Loop ks) {pl : Int} (h0 : 0 ≤ pl) (h1 : pl < ks.length) (m0 : 1 ≤ many) : 0 < wdt ks many pl ∧ ks.getD pl.toNat 0 < 39 := by
  have k39 : ks.getD pl.toNat 0 < 39 := by
    rw [List.getD_eq_getElem?_getD, List.getElem?_eq_getElem (by omega)]
    exact h.lt _ (List.getElem_mem _)
  have t : (R39.all fun k => decide (8 ≤ (bits k).length)) = true := by decide +kernel
  have := of_decide_eq_true (List.all_eq_true.mp t _ (r39 k39))
  refine ⟨?_, k39⟩
  unfold wdt
  exact Int.mul_pos (by omega) (by omega)
abbrev ISt := List (Int × Int) × RSt
def iStep (ks : List Nat) (many : Int) (st : ISt) (p : Int × Int) : ISt := (if st.2.2.2.getD p.2.toNat 0 ≤ p.1 then st.1 else st.1 ++ [p], rStep ks many st.2 p)
def rIni (ks : List Nat) : RSt := ([], 0, List.replicate ks.length 0)
def idleP (ks : List Nat) (many : Int) (ps : List (Int × Int)) : List (Int × Int) := ((sortP ps).foldl (iStep ks many) ([], rIni ks)).1
theorem i_snd (ks : List Nat) (many : Int) : ∀ (l : List (Int × Int)) (st : ISt), (l.foldl (iStep ks many) st).2 = l.foldl (rStep ks many) st.2
  | [], st => rfl
  | p :: r, st => by rw [List.foldl_cons, i_snd ks many r]; rfl
theorem i_len (ks : List Nat) (many : Int) : ∀ (l : List (Int × Int)) (st : ISt), (l.foldl (iStep ks many) st).1.length ≤ st.1.length + l.length
  | [], st => by simp
  | p :: r, st => by
    have h1 := i_len ks many r (iStep ks many st p)
    have h2 : (iStep ks many st p).1.length ≤ st.1.length + 1 := by unfold iStep; simp only; split <;> simp
    rw [List.foldl_cons, List.length_cons]
    omega
theorem r_inv {ks : List Nat} {many : Int} (h : Loop ks) (m0 : 1 ≤ many) : ∀ (l : List (Int × Int)) (st : RSt), RInv ks.length st → (∀ p ∈ l, 0 ≤ p.1 ∧ 0 ≤ p.2 ∧ p.2 < ks.length) → RInv ks.length (l.foldl (rStep ks many) st)
  | [], st, hi, _ => hi
  | p :: r, st, hi, hp => by
    obtain ⟨g1, g2, g3⟩ := hp p List.mem_cons_self
    exact r_inv h m0 r _ (r_inv1 hi (wdt_pos h g2 g3 m0).1 g1 (by omega)) fun q hq => hp q (List.mem_cons_of_mem _ hq)
theorem idle_at {ks : List Nat} {ps : List (Int × Int)} {many : Int} (h : Loop ks) (hp : Pulls ks ps) (m0 : 1 ≤ many) (m1 : many ≤ 4) : F_idle_pulls [.tup (ks.map num), .int many, .tup (ps.map pE2)] [] = .ok (.lst ((idleP ks many ps).map pE2)) [] := by
  refine mkF_val rfl ?_
  show Meets (evB B_idle_pulls [some (.tup (ks.map num)), some (.int many), some (.tup (ps.map pE2)), none, none, none, none, none, none, none, none] []) _
  have hle := h.le
  have mz : opD .mul (.lst [.int 0]) (.int ks.length) [] = .ok (.lst ((List.replicate ks.length (0 : Int)).map .int)) [] := by
    rw [mulL_s [.int 0] ks.length [] (by simp only [List.length_singleton]; omega), rep_one, List.map_replicate, show ((ks.length : Int)).toNat = ks.length by omega]
  have sl : (sortP ps).length ≤ 8 := by rw [(sortP_perm ps).length_eq]; exact hp.le
  have so : ∀ p ∈ sortP ps, 0 ≤ p.1 ∧ 0 ≤ p.2 ∧ p.2 < ks.length := fun p hm => by
    have := hp.ok p ((sortP_perm ps).mem_iff.mp hm)
    exact ⟨this.1, this.2.2⟩
  have rl : (runsP ks many ps).length ≤ 8 := by
    have := (rStep_len ks many (sortP ps) ([], 0, List.replicate ks.length 0)).1
    simp only [List.length_nil] at this
    unfold runsP
    omega
  simp_arith [B_idle_pulls, runs_at h hp m0 m1, List.length_map, mz, sortPT]
  refine for_pure (fun st : ISt => [some (.tup (ks.map num)), some (.int many), some (.tup (ps.map pE2)), some (.lst ((runsP ks many ps).map ruE)), some (.lst (st.1.map pE2)), some (.lst (st.2.2.2.map .int)), none, none, none, none, none]) (iStep ks many) ([], rIni ks) (by simp [leE, rIni]) (fun pre p post e => ⟨_, rfl, ?_⟩) ?_
  · have hpl : pre.length ≤ 8 := by have := congrArg List.length e; simp at this; omega
    have hi : RInv ks.length (pre.foldl (rStep ks many) (rIni ks)) := r_inv h m0 pre _ (r_inv0 ks.length) fun q hq => so q (by rw [e]; exact List.mem_append_left _ hq)
    have hR : runsP ks many ps = ((p :: post).foldl (rStep ks many) (pre.foldl (rStep ks many) (rIni ks))).1 := by
      unfold runsP
      rw [e, List.foldl_append]
      rfl
    have h3 := i_len ks many pre ([], rIni ks)
    rw [List.length_nil] at h3
    have h4 := i_snd ks many pre ([], rIni ks)
    simp only at h4
    rw [← h4] at hi hR
    generalize pre.foldl (iStep ks many) ([], rIni ks) = st at hi hR h3
    clear h4
    obtain ⟨rej, rows, free, ends⟩ := st
    simp only at h3 hi hR
    obtain ⟨mo, pl⟩ := p
    obtain ⟨g0, g1, g2⟩ := so (mo, pl) (by rw [e]; simp)
    simp only at g0 g1 g2
    obtain ⟨i, rfl⟩ : ∃ i : Nat, pl = (i : Int) := ⟨pl.toNat, by omega⟩
    have hik : i < ks.length := by omega
    have elen := hi.len
    simp only at elen
    have ae : atI (ends.map D.int) (i : Int) = some (.int (ends.getD i 0)) := by
      rw [atI_map, atI_nat (by omega), List.getD_eq_getElem?_getD, List.getElem?_eq_getElem (by omega)]
      rfl
    have sd : ∀ f : Int, setD (i : Int) (.int f) (ends.map D.int) = some ((ends.set i f).map D.int) := fun f => by
      unfold setD
      rw [ixN_in (by omega) (by rw [List.length_map]; omega), List.map_set]
      rfl
    have wp := (wdt_pos h (pl := (i : Int)) (by omega) g2 m0).1
    by_cases c : ends.getD i 0 ≤ mo
    · have e1 : rStep ks many (rows, free, ends) (mo, (i : Int)) = (rows ++ [(mx free mo, mx free mo + wdt ks many i, (i : Int))], mx free mo + wdt ks many i, ends.set i (mx free mo + wdt ks many i)) := by
        unfold rStep
        simp only [Int.toNat_natCast]
        rw [if_pos c]
      have e2 : iStep ks many (rej, rows, free, ends) (mo, (i : Int)) = (rej, rStep ks many (rows, free, ends) (mo, (i : Int))) := by
        unfold iStep
        simp only [Int.toNat_natCast]
        rw [if_pos c]
      rw [e2, e1]
      obtain ⟨more, hm⟩ := r_more ks many post (rStep ks many (rows, free, ends) (mo, (i : Int)))
      rw [List.foldl_cons, hm, e1] at hR
      simp only at hR
      have hf : ∃ rest, (runsP ks many ps).filter (fun r => decide (r.2.2 = (i : Int)) && decide (mo < r.2.1)) = (mx free mo, mx free mo + wdt ks many i, (i : Int)) :: rest := by
        rw [hR, List.append_assoc, List.filter_append]
        have f0 : rows.filter (fun r => decide (r.2.2 = (i : Int)) && decide (mo < r.2.1)) = [] := List.filter_eq_nil_iff.mpr fun r hr => by
          have h5 := hi.ends r hr
          simp only at h5
          by_cases z : r.2.2 = (i : Int)
          · rw [z, Int.toNat_natCast] at h5
            have : ¬ mo < r.2.1 := by omega
            simp [this]
          · simp [z]
        have h6 := mx_ge free mo
        rw [f0, List.nil_append, List.singleton_append, List.filter_cons]
        simp only [decide_true, Bool.true_and]
        rw [if_pos (decide_eq_true (by omega))]
        exact ⟨_, rfl⟩
      obtain ⟨rest, hf⟩ := hf
      simp_arith [ae, c]
      rw [cpM_s (p := fun r : Run => decide (r.2.2 = (i : Int)) && decide (mo < r.2.1)) (f := fun r => .int r.2.1) (fun r hr => ⟨_, rfl, by
        by_cases z : r.2.2 = (i : Int)
        · by_cases z2 : mo < r.2.1
          · simp_arith [z, z2]
            rfl
          · simp_arith [z, z2]
            rfl
        · simp_arith [z]
          rfl, fun _ => by simp_arith []⟩)]
      have fl := List.length_filter_le (fun r : Run => decide (r.2.2 = (i : Int)) && decide (mo < r.2.1)) (runsP ks many ps)
      rw [hf] at fl ⊢
      have a0 : atI (((mx free mo, mx free mo + wdt ks many i, (i : Int)) :: rest).map fun r : Run => D.int r.2.1) 0 = some (.int (mx free mo + wdt ks many i)) := by
        show atI _ ((0 : Nat) : Int) = _
        rw [atI_map, atI_nat (by simp)]
        rfl
      simp_arith [mkL_s (xs := ((mx free mo, mx free mo + wdt ks many i, (i : Int)) :: rest).map fun r : Run => D.int r.2.1) [] (by rw [List.length_map]; omega), a0, sd]
      exact Meets.env (by simp [leE])
    · have e2 : iStep ks many (rej, rows, free, ends) (mo, (i : Int)) = (rej ++ [(mo, (i : Int))], rows, free, ends) := by
        unfold iStep rStep
        simp only [Int.toNat_natCast]
        rw [if_neg c, if_neg c]
      rw [e2]
      simp_arith [ae, c, appD_s (.tup [.int mo, .int i]) (rej.map pE2) (by rw [List.length_map]; omega)]
      rw [show (rej ++ [(mo, (i : Int))]).map pE2 = rej.map pE2 ++ [.tup [.int mo, .int i]] by rw [List.map_append]; rfl]
      exact Meets.env (by simp [leE])
  · simp_arith []
    exact Meets.val
end BX.Q

set_option Elab.async false
set_option linter.all false
set_option maxRecDepth 100000
/-! KL10: runs, idle pulls, taken ones: the plain theory. -/
namespace BX.Q
section
variable (ks : List Nat) (many : Int)
def okP (st : RSt) (p : Int × Int) : Bool := decide (st.2.2.getD p.2.toNat 0 ≤ p.1)
def accR : List (Int × Int) → RSt → List (Int × Int)
  | [], _ => []
  | p :: r, st => if okP st p then p :: accR r (rStep ks many st p) else accR r st
def rejR : List (Int × Int) → RSt → List (Int × Int)
  | [], _ => []
  | p :: r, st => if okP st p then rejR r (rStep ks many st p) else p :: rejR r st
def newR : List (Int × Int) → RSt → List Run
  | [], _ => []
  | p :: r, st => if okP st p then (mx st.2.1 p.1, mx st.2.1 p.1 + wdt ks many p.2, p.2) :: newR r (rStep ks many st p) else newR r st
end
variable {ks : List Nat} {many : Int}
theorem new_t {st : RSt} {p : Int × Int} {r : List (Int × Int)} (c : okP st p = true) : newR ks many (p :: r) st = (mx st.2.1 p.1, mx st.2.1 p.1 + wdt ks many p.2, p.2) :: newR ks many r (rStep ks many st p) := by simp [newR, c]
theorem new_f {st : RSt} {p : Int × Int} {r : List (Int × Int)} (c : okP st p = false) : newR ks many (p :: r) st = newR ks many r st := by simp [newR, c]
theorem rej_t {st : RSt} {p : Int × Int} {r : List (Int × Int)} (c : okP st p = true) : rejR ks many (p :: r) st = rejR ks many r (rStep ks many st p) := by simp [rejR, c]
theorem rej_f {st : RSt} {p : Int × Int} {r : List (Int × Int)} (c : okP st p = false) : rejR ks many (p :: r) st = p :: rejR ks many r st := by simp [rejR, c]
theorem acc_t {st : RSt} {p : Int × Int} {r : List (Int × Int)} (c : okP st p = true) : accR ks many (p :: r) st = p :: accR ks many r (rStep ks many st p) := by simp [accR, c]
theorem acc_f {st : RSt} {p : Int × Int} {r : List (Int × Int)} (c : okP st p = false) : accR ks many (p :: r) st = accR ks many r st := by simp [accR, c]
theorem step_ok {st : RSt} {p : Int × Int} (h : okP st p = true) : rStep ks many st p = (st.1 ++ [(mx st.2.1 p.1, mx st.2.1 p.1 + wdt ks many p.2, p.2)], mx st.2.1 p.1 + wdt ks many p.2, st.2.2.set p.2.toNat (mx st.2.1 p.1 + wdt ks many p.2)) := by
  unfold rStep
  rw [if_pos (of_decide_eq_true h)]
theorem step_no {st : RSt} {p : Int × Int} (h : okP st p = false) : rStep ks many st p = st := by
  unfold rStep
  rw [if_neg (of_decide_eq_false h)]
theorem new_eq : ∀ (l : List (Int × Int)) (st : RSt), (l.foldl (rStep ks many) st).1 = st.1 ++ newR ks many l st
  | [], st => by simp [newR]
  | p :: r, st => by
    rw [List.foldl_cons, new_eq r]
    cases c : okP st p
    · rw [step_no c, new_f c]
    · rw [new_t c]
      have e : (rStep ks many st p).1 = st.1 ++ [(mx st.2.1 p.1, mx st.2.1 p.1 + wdt ks many p.2, p.2)] := by rw [step_ok c]
      rw [e, List.append_assoc]
      rfl
theorem rej_eq : ∀ (l : List (Int × Int)) (st : ISt), (l.foldl (iStep ks many) st).1 = st.1 ++ rejR ks many l st.2
  | [], st => by simp [rejR]
  | p :: r, st => by
    rw [List.foldl_cons, rej_eq r]
    cases c : okP st.2 p
    · have c' := of_decide_eq_false c
      rw [rej_f c]
      unfold iStep
      simp only [if_neg c', step_no c, List.append_assoc]
      rfl
    · have c' := of_decide_eq_true c
      rw [rej_t c]
      unfold iStep
      simp only [if_pos c']
theorem runs_new (ps : List (Int × Int)) : runsP ks many ps = newR ks many (sortP ps) (rIni ks) := by
  unfold runsP
  have := new_eq (ks := ks) (many := many) (sortP ps) ([], 0, List.replicate ks.length 0)
  simpa [rIni] using this
theorem idle_rej (ps : List (Int × Int)) : idleP ks many ps = rejR ks many (sortP ps) (rIni ks) := by
  unfold idleP
  rw [rej_eq]
  rfl
theorem acc_len : ∀ (l : List (Int × Int)) (st : RSt), (accR ks many l st).length = (newR ks many l st).length
  | [], st => rfl
  | p :: r, st => by
    cases c : okP st p
    · rw [acc_f c, new_f c]; exact acc_len r st
    · rw [acc_t c, new_t c, List.length_cons, List.length_cons, acc_len r]
theorem acc_pl : ∀ (l : List (Int × Int)) (st : RSt), (newR ks many l st).map (fun r => r.2.2) = (accR ks many l st).map (fun p => p.2)
  | [], st => rfl
  | p :: r, st => by
    cases c : okP st p
    · rw [acc_f c, new_f c]; exact acc_pl r st
    · rw [acc_t c, new_t c, List.map_cons, List.map_cons, acc_pl r]
theorem acc_sub : ∀ (l : List (Int × Int)) (st : RSt), ∀ p ∈ accR ks many l st, p ∈ l
  | [], st, p, h => by cases h
  | q :: r, st, p, h => by
    cases c : okP st q
    · rw [acc_f c] at h; exact List.mem_cons_of_mem _ (acc_sub r st p h)
    · rw [acc_t c] at h
      rcases List.mem_cons.mp h with rfl | h
      · exact List.mem_cons_self
      · exact List.mem_cons_of_mem _ (acc_sub r _ p h)
theorem rej_sub : ∀ (l : List (Int × Int)) (st : RSt), ∀ p ∈ rejR ks many l st, p ∈ l
  | [], st, p, h => by cases h
  | q :: r, st, p, h => by
    cases c : okP st q
    · rw [rej_f c] at h
      rcases List.mem_cons.mp h with rfl | h
      · exact List.mem_cons_self
      · exact List.mem_cons_of_mem _ (rej_sub r _ p h)
    · rw [rej_t c] at h; exact List.mem_cons_of_mem _ (rej_sub r _ p h)
/-- of pulls without like ones: the taken ones are those that are not idle -/
theorem acc_filt : ∀ (l : List (Int × Int)) (st : RSt), l.Nodup → l.filter (fun p => !decide (p ∈ rejR ks many l st)) = accR ks many l st
  | [], st, _ => rfl
  | p :: r, st, hn => by
    obtain ⟨h1, h2⟩ := List.nodup_cons.mp hn
    cases c : okP st p
    · have e1 : rejR ks many (p :: r) st = p :: rejR ks many r st := by simp [rejR, c]
      have e2 : accR ks many (p :: r) st = accR ks many r st := by simp [accR, c]
      rw [e1, e2, ← acc_filt r st h2, List.filter_cons]
      simp only [List.mem_cons, true_or, decide_true, Bool.not_true, Bool.false_eq_true, if_false]
      apply List.filter_congr
      intro q hq
      have : q ≠ p := fun z => h1 (by rw [← z]; exact hq)
      simp [this]
    · have e1 : rejR ks many (p :: r) st = rejR ks many r (rStep ks many st p) := by simp [rejR, c]
      have e2 : accR ks many (p :: r) st = p :: accR ks many r (rStep ks many st p) := by simp [accR, c]
      rw [e1, e2, ← acc_filt r _ h2, List.filter_cons]
      have : p ∉ rejR ks many r (rStep ks many st p) := fun z => h1 (rej_sub r _ p z)
      simp [this]
/-- the taken ones alone -/
theorem acc_acc : ∀ (l : List (Int × Int)) (st : RSt), newR ks many (accR ks many l st) st = newR ks many l st ∧ rejR ks many (accR ks many l st) st = [] ∧ accR ks many (accR ks many l st) st = accR ks many l st
  | [], st => ⟨rfl, rfl, rfl⟩
  | p :: r, st => by
    cases c : okP st p
    · have e2 : accR ks many (p :: r) st = accR ks many r st := by simp [accR, c]
      have e3 : newR ks many (p :: r) st = newR ks many r st := by simp [newR, c]
      rw [e2, e3]
      exact acc_acc r st
    · obtain ⟨h1, h2, h3⟩ := acc_acc r (rStep ks many st p)
      have e2 : accR ks many (p :: r) st = p :: accR ks many r (rStep ks many st p) := by simp [accR, c]
      rw [e2]
      simp [newR, rejR, accR, c, h1, h2, h3]
/-- later by d -/
def shP (d : Int) (p : Int × Int) : Int × Int := (p.1 + d, p.2)
def shU (d : Int) (r : Run) : Run := (r.1 + d, r.2.1 + d, r.2.2)
structure Lat (d : Int) (st st' : RSt) : Prop where
  fr : st'.2.1 = st.2.1 + d ∨ (st.2.1 = 0 ∧ st'.2.1 = 0)
  le : st'.2.2.length = st.2.2.length
  en : ∀ i, st'.2.2.getD i 0 = st.2.2.getD i 0 + d ∨ (st.2.2.getD i 0 = 0 ∧ st'.2.2.getD i 0 = 0)
theorem lat_ok {d : Int} (hd : 0 ≤ d) {st st' : RSt} (h : Lat d st st') {p : Int × Int} (h0 : 0 ≤ p.1) : okP st' (shP d p) = okP st p := by
  unfold okP shP
  congr 1
  apply propext
  rcases h.en p.2.toNat with e | ⟨e1, e2⟩
  · simp only; rw [e]; omega
  · simp only; rw [e1, e2]; omega
theorem lat_mx {d : Int} (hd : 0 ≤ d) {st st' : RSt} (h : Lat d st st') {p : Int × Int} (h0 : 0 ≤ p.1) : mx st'.2.1 (p.1 + d) = mx st.2.1 p.1 + d := by
  unfold mx
  rcases h.fr with e | ⟨e1, e2⟩
  · rw [e]; split <;> split <;> omega
  · rw [e1, e2]; split <;> split <;> omega
theorem lat_step {d : Int} (hd : 0 ≤ d) {st st' : RSt} (h : Lat d st st') {p : Int × Int} (h0 : 0 ≤ p.1) : Lat d (rStep ks many st p) (rStep ks many st' (shP d p)) := by
  cases c : okP st p
  · rw [step_no c, step_no (by rw [lat_ok hd h h0]; exact c)]
    exact h
  · rw [step_ok c, step_ok (by rw [lat_ok hd h h0]; exact c)]
    have e := lat_mx hd h h0
    refine ⟨.inl ?_, by simp [h.le], fun i => ?_⟩
    · simp only [shP, e]; omega
    · simp only [shP, e]
      rw [List.getD_eq_getElem?_getD, List.getD_eq_getElem?_getD, List.getElem?_set, List.getElem?_set, h.le]
      split
      · split
        · left; simp; omega
        · right; simp
      · rw [← List.getD_eq_getElem?_getD, ← List.getD_eq_getElem?_getD]; exact h.en i
theorem lat_all {d : Int} (hd : 0 ≤ d) : ∀ (l : List (Int × Int)) (st st' : RSt), Lat d st st' → (∀ p ∈ l, 0 ≤ p.1) → newR ks many (l.map (shP d)) st' = (newR ks many l st).map (shU d) ∧ rejR ks many (l.map (shP d)) st' = (rejR ks many l st).map (shP d) ∧ accR ks many (l.map (shP d)) st' = (accR ks many l st).map (shP d)
  | [], _, _, _, _ => ⟨rfl, rfl, rfl⟩
  | p :: r, st, st', h, hp => by
    have h0 := hp p List.mem_cons_self
    have ho := lat_ok hd h h0
    obtain ⟨i1, i2, i3⟩ := lat_all hd r _ _ (lat_step (ks := ks) (many := many) hd h h0) fun q hq => hp q (List.mem_cons_of_mem _ hq)
    have e := lat_mx hd h h0
    cases c : okP st p
    · rw [step_no c, step_no (by rw [ho]; exact c)] at i1 i2 i3
      simp [newR, rejR, accR, ho, c, i1, i2, i3]
    · simp [newR, rejR, accR, ho, c, i1, i2, i3]
      simp only [shU, shP, e]
      refine Prod.ext rfl (Prod.ext ?_ rfl)
      simp only
      omega
theorem lat_ini (d : Int) : Lat d (rIni ks) (rIni ks) := by
  refine ⟨.inr ⟨rfl, rfl⟩, rfl, fun i => .inr ?_⟩
  have : (List.replicate ks.length (0 : Int)).getD i 0 = 0 := by
    rw [List.getD_eq_getElem?_getD, List.getElem?_replicate]
    split <;> rfl
  exact ⟨this, this⟩
theorem sort_sh (d : Int) : ∀ l : List (Int × Int), sortP (l.map (shP d)) = (sortP l).map (shP d) := fun l => by
  refine sortP_uniq ((sortP_perm l).map _) ?_
  rw [List.pairwise_map]
  refine (sortP_pw l).imp fun {a b} h => ?_
  rw [Bool.eq_false_iff] at h ⊢
  intro w
  apply h
  have w := ltP_iff.mp w
  apply ltP_iff.mpr
  simp only [shP] at w
  omega
theorem sort_perm {a b : List (Int × Int)} (h : a.Perm b) : sortP a = sortP b := sortP_uniq ((sortP_perm b).trans h.symm) (sortP_pw b)
end BX.Q

set_option Elab.async false
set_option linter.all false
set_option maxRecDepth 100000
set_option maxHeartbeats 0
/-! KL11: the longest wait. -/
namespace BX.Q
open PySem
local macro_rules | `(tactic| simp_arith [$as,*]) => `(tactic| simp -implicitDefEqProofs only [↓x_var, ↓x_cI, ↓x_cB, ↓x_cN, ↓x_cS, ↓x_gl, ↓x_bin, ↓x_neg, ↓x_no, ↓x_an, ↓x_orr, ↓x_cmp, ↓x_chn, ↓x_ife, ↓x_ix, ↓x_sl, ↓x_rv, ↓x_li, ↓x_tu, ↓x_cp, ↓x_ca, ↓x_b1, ↓x_b2, ↓x_mt, ↓x_isi, ↓x_at, ↓x_me, ↓x_mk, ↓x_lr, ↓y_an, ↓y_orr, ↓y_no, ↓y_cmp, ↓y_chn, ↓y_var, ↓y_cB, ↓y_ca, ↓y_b1, ↓y_isi, ↓y_me, ↓z_an0, ↓z_an, ↓z_or0, ↓z_or, ↓w_an1, ↓w_an, ↓w_or1, ↓w_or, ↓l_nil, ↓l_cons, ↓q_none, ↓q_some, ↓c_none, ↓c_some, ↓i_e, ↓i_r1, ↓i_r2, ↓i_en, ↓i_zp, ↓b_nil, ↓b_cons, ↓s_a, ↓s_m, ↓s_mv, ↓s_ap, ↓s_ext, ↓s_rm, ↓s_ixs, ↓s_e, ↓s_iff, ↓s_fr, ↓s_frm, ↓s_wh, ↓s_rt, ↓s_rn, ↓s_ps, ↓s_rs, ↓s_tr, ↓s_sa, k2_s, neg_s, notM_s, notB_s, chM_s, kSl2_s, kSl_s, kCp_s, kC_s, kL_s, kQ_s, kR1_s, kR2_s, kEnL_s, kEnT_s, kMe_s, aO_s, asg_s, mMl_s, mMb_s, kMv_s, kAp_s, kAp2_s, kXt_s, kXt2_s, kRm_s, kRm2_s, kIx_s, kIx2_s, kIx3_s, kE_s, kRt_s, kFr_s, kSa3_s, kSa2_s, kSa_s, Rif_t, Rif_f, Rif_x, mkL_0, mkL_1, mkL_2, mkL_3, mkL_4, mkL_5, mkL_6, mkT_0, mkT_1, mkT_2, mkT_3, mkT_4, mkT_5, mkT_6, thenB_nx, thenB_rt, thenB_ct, Rb_ok, Rb_ex, ret_s, exc_s, Rn_ok, gO_s, lO_s, cO_e, sO_s, ofO_some, asB_s, asI_s, addI_s, subI_s, ltI_s, leI_s, gtI_s, geI_s, eqI_s, neI_s, isN_s, nisN_s, isNon_non, isNon_int, isNon_tup, Rt_ok, Rt_ex, hO_s, lenL_s, lenT_s, lenS_s, intB_s, tupL_s, tupT_s, lstL_s, lstT_s, sumL_s, sumT_s, allL_s, max2_s, min2_s, slL_s, slT_s, slS_s, rvL_s, rvT_s, ixL_e, ixT_e, itsL_s, itsT_s, seqL_s, seqT_s, seq2L_s, seq2T_s, isiT_s, isiL_s, isiI_s, noObj_tup, noObj_int, noObj_lst, isTy_tt, isTy_ii, isTy_bi, isTy_lt, isTy_ll, isTy_tl, List.any_cons, List.any_nil, Bool.or_false, Bool.false_or, Bool.or_true, Bool.true_or, List.getElem?_cons_zero, List.getElem?_cons_succ, List.set_cons_zero, List.set_cons_succ, stT, setAll, wipeE, Bool.not_true, Bool.not_false, decide_true, decide_false, Bool.false_eq_true, eq_self_iff_true, reduceIte, $as,*])
def waitL (ks : List Nat) (many : Int) : List (Int × Int) → RSt → List Int
  | [], _ => []
  | p :: r, st => if okP st p then (mx st.2.1 p.1 - p.1) :: waitL ks many r (rStep ks many st p) else waitL ks many r st
theorem wait_zip {ks : List Nat} {many : Int} : ∀ (l : List (Int × Int)) (st : RSt), ((newR ks many l st).zip (accR ks many l st)).map (fun q : Run × (Int × Int) => q.1.1 - q.2.1) = waitL ks many l st
  | [], _ => rfl
  | p :: r, st => by
    cases c : okP st p
    · rw [new_f c, acc_f c, wait_zip r st]; simp [waitL, c]
    · rw [new_t c, acc_t c, List.zip_cons_cons, List.map_cons, wait_zip r]; simp [waitL, c]
theorem wait_len {ks : List Nat} {many : Int} : ∀ (l : List (Int × Int)) (st : RSt), (waitL ks many l st).length = (newR ks many l st).length
  | [], _ => rfl
  | p :: r, st => by
    cases c : okP st p
    · rw [new_f c, ← wait_len r st]; simp [waitL, c]
    · rw [new_t c, List.length_cons, ← wait_len r]; simp [waitL, c]
theorem wait_lat {ks : List Nat} {many d : Int} (hd : 0 ≤ d) : ∀ (l : List (Int × Int)) (st st' : RSt), Lat d st st' → (∀ p ∈ l, 0 ≤ p.1) → waitL ks many (l.map (shP d)) st' = waitL ks many l st
  | [], _, _, _, _ => rfl
  | p :: r, st, st', h, hp => by
    have h0 := hp p List.mem_cons_self
    have ho := lat_ok hd h h0
    have e := lat_mx hd h h0
    have ih := wait_lat (ks := ks) (many := many) hd r _ _ (lat_step (ks := ks) (many := many) hd h h0) fun q hq => hp q (List.mem_cons_of_mem _ hq)
    cases c : okP st p
    · rw [step_no c, step_no (by rw [ho]; exact c)] at ih
      simp [waitL, ho, c, ih]
    · simp [waitL, ho, c, ih]
      simp only [shP, e]
      omega
def mxD : List Int → D
  | [] => .non
  | m :: r => .int (maxI m r)
theorem maxD_s (l : List Int) (s : Sto) : b2D .maxD (.lst (l.map .int)) .non s = .ok (mxD l) s := by
  show maxDD (.lst (l.map .int)) .non s = _
  unfold maxDD
  simp only [intsO_int]
  cases l <;> rfl
def waitD (ks : List Nat) (many : Int) (ps : List (Int × Int)) : D := mxD (waitL ks many (sortP ps) (rIni ks))
theorem new_le {ks : List Nat} {many : Int} (l : List (Int × Int)) (st : RSt) : (newR ks many l st).length ≤ l.length := by
  have := (rStep_len ks many l st).1
  rw [new_eq, List.length_append] at this
  omega
theorem ninP (p : Int × Int) (xs : List (Int × Int)) : cmpD .notin (pE2 p) (.lst (xs.map pE2)) [] = .ok (.bl (!decide (p ∈ xs))) [] := by
  rw [ninL_s pE2_ge]
  by_cases c : p ∈ xs <;> simp [c]
theorem lwait_at {ks : List Nat} {ps : List (Int × Int)} {many : Int} (h : Loop ks) (hp : Pulls ks ps) (m0 : 1 ≤ many) (m1 : many ≤ 4) : F_longest_wait [.tup (ks.map num), .int many, .tup (ps.map pE2)] [] = .ok (waitD ks many ps) [] := by
  refine mkF_val rfl ?_
  show Meets (evB B_longest_wait [some (.tup (ks.map num)), some (.int many), some (.tup (ps.map pE2)), none, none, none, none, none, none] []) _
  have sl : (sortP ps).length ≤ 8 := by rw [(sortP_perm ps).length_eq]; exact hp.le
  have sn : (sortP ps).Nodup := (sortP_perm ps).nodup_iff.mpr hp.nd
  simp_arith [B_longest_wait, runs_at h hp m0 m1, idle_at h hp m0 m1, sortPT]
  rw [runs_new, idle_rej]
  rw [cpM_s (p := fun p => !decide (p ∈ rejR ks many (sortP ps) (rIni ks))) (f := pE2) (fun p hp' => ⟨_, rfl, by
    simp_arith [ninP], fun _ => by simp_arith []⟩)]
  rw [acc_filt _ _ sn]
  have nl := new_le (ks := ks) (many := many) (sortP ps) (rIni ks)
  have al := acc_len (ks := ks) (many := many) (sortP ps) (rIni ks)
  simp_arith [mkL_s (xs := (accR ks many (sortP ps) (rIni ks)).map pE2) [] (by rw [List.length_map]; omega), zipL_map]
  rw [cpM_e (f := fun q : Run × (Int × Int) => .int (q.1.1 - q.2.1)) (fun q hq => ⟨_, rfl, by
    obtain ⟨⟨a, b, c⟩, ⟨d, e⟩⟩ := q
    have a0 : atI [D.int a, D.int b, D.int c] 0 = some (.int a) := rfl
    have a1 : atI [D.int d, D.int e] 0 = some (.int d) := rfl
    simp_arith [ruE, pE2, a0, a1]⟩)]
  have wz := wait_zip (ks := ks) (many := many) (sortP ps) (rIni ks)
  have wl := wait_len (ks := ks) (many := many) (sortP ps) (rIni ks)
  rw [show (((newR ks many (sortP ps) (rIni ks)).zip (accR ks many (sortP ps) (rIni ks))).map fun q : Run × (Int × Int) => D.int (q.1.1 - q.2.1)) = (waitL ks many (sortP ps) (rIni ks)).map .int by rw [← wz, List.map_map]; rfl]
  simp_arith [mkL_s (xs := (waitL ks many (sortP ps) (rIni ks)).map .int) [] (by rw [List.length_map]; omega), maxD_s]
  exact Meets.val
end BX.Q

set_option Elab.async false
set_option linter.all false
set_option maxRecDepth 100000
set_option maxHeartbeats 0
/-! KM0: each end is some run's. -/
namespace BX.Q
open PySem
def REx (st : RSt) : Prop := ∀ i : Nat, st.2.2.getD i 0 = 0 ∨ ∃ r ∈ st.1, r.2.2 = (i : Int) ∧ r.2.1 = st.2.2.getD i 0
theorem rex_0 (n : Nat) : REx ([], 0, List.replicate n 0) := fun i => .inl (by
  show (List.replicate n (0 : Int)).getD i 0 = 0
  rw [List.getD_eq_getElem?_getD, List.getElem?_replicate]
  split <;> rfl)
theorem rex_1 {ks : List Nat} {many : Int} {st : RSt} {p : Int × Int} (h : REx st) (h0 : 0 ≤ p.2) (h1 : p.2.toNat < st.2.2.length) : REx (rStep ks many st p) := by
  intro i
  cases c : okP st p
  · rw [step_no c]; exact h i
  · rw [step_ok c]
    simp only
    rw [List.getD_eq_getElem?_getD, List.getElem?_set]
    by_cases e : p.2.toNat = i
    · rw [if_pos e, if_pos h1]
      exact .inr ⟨_, List.mem_append_right _ (List.mem_singleton_self _), by simp only; omega, rfl⟩
    · rw [if_neg e, ← List.getD_eq_getElem?_getD]
      rcases h i with z | ⟨r, hr, z1, z2⟩
      · exact .inl z
      · exact .inr ⟨r, List.mem_append_left _ hr, z1, z2⟩
end BX.Q

set_option Elab.async false
set_option linter.all false
set_option maxRecDepth 100000
set_option maxHeartbeats 0
/-! KM1: lines filled by runs. -/
namespace BX.Q
open PySem
local macro_rules | `(tactic| simp_arith [$as,*]) => `(tactic| simp -implicitDefEqProofs only [↓x_var, ↓x_cI, ↓x_cB, ↓x_cN, ↓x_cS, ↓x_gl, ↓x_bin, ↓x_neg, ↓x_no, ↓x_an, ↓x_orr, ↓x_cmp, ↓x_chn, ↓x_ife, ↓x_ix, ↓x_sl, ↓x_rv, ↓x_li, ↓x_tu, ↓x_cp, ↓x_ca, ↓x_b1, ↓x_b2, ↓x_mt, ↓x_isi, ↓x_at, ↓x_me, ↓x_mk, ↓x_lr, ↓y_an, ↓y_orr, ↓y_no, ↓y_cmp, ↓y_chn, ↓y_var, ↓y_cB, ↓y_ca, ↓y_b1, ↓y_isi, ↓y_me, ↓z_an0, ↓z_an, ↓z_or0, ↓z_or, ↓w_an1, ↓w_an, ↓w_or1, ↓w_or, ↓l_nil, ↓l_cons, ↓q_none, ↓q_some, ↓c_none, ↓c_some, ↓i_e, ↓i_r1, ↓i_r2, ↓i_en, ↓i_zp, ↓b_nil, ↓b_cons, ↓s_a, ↓s_m, ↓s_mv, ↓s_ap, ↓s_ext, ↓s_rm, ↓s_ixs, ↓s_e, ↓s_iff, ↓s_fr, ↓s_frm, ↓s_wh, ↓s_rt, ↓s_rn, ↓s_ps, ↓s_rs, ↓s_tr, ↓s_sa, k2_s, neg_s, notM_s, notB_s, chM_s, kSl2_s, kSl_s, kCp_s, kC_s, kL_s, kQ_s, kR1_s, kR2_s, kEnL_s, kEnT_s, kMe_s, aO_s, asg_s, mMl_s, mMb_s, kMv_s, kAp_s, kAp2_s, kXt_s, kXt2_s, kRm_s, kRm2_s, kIx_s, kIx2_s, kIx3_s, kE_s, kRt_s, kFr_s, kSa3_s, kSa2_s, kSa_s, Rif_t, Rif_f, Rif_x, mkL_0, mkL_1, mkL_2, mkL_3, mkL_4, mkL_5, mkL_6, mkT_0, mkT_1, mkT_2, mkT_3, mkT_4, mkT_5, mkT_6, thenB_nx, thenB_rt, thenB_ct, Rb_ok, Rb_ex, ret_s, exc_s, Rn_ok, gO_s, lO_s, cO_e, sO_s, ofO_some, asB_s, asI_s, addI_s, subI_s, ltI_s, leI_s, gtI_s, geI_s, eqI_s, neI_s, isN_s, nisN_s, isNon_non, isNon_int, isNon_tup, Rt_ok, Rt_ex, hO_s, lenL_s, lenT_s, lenS_s, intB_s, tupL_s, tupT_s, lstL_s, lstT_s, sumL_s, sumT_s, allL_s, max2_s, min2_s, slL_s, slT_s, slS_s, rvL_s, rvT_s, ixL_e, ixT_e, itsL_s, itsT_s, seqL_s, seqT_s, seq2L_s, seq2T_s, isiT_s, isiL_s, isiI_s, noObj_tup, noObj_int, noObj_lst, isTy_tt, isTy_ii, isTy_bi, isTy_lt, isTy_ll, isTy_tl, List.any_cons, List.any_nil, Bool.or_false, Bool.false_or, Bool.or_true, Bool.true_or, List.getElem?_cons_zero, List.getElem?_cons_succ, List.set_cons_zero, List.set_cons_succ, stT, setAll, wipeE, Bool.not_true, Bool.not_false, decide_true, decide_false, Bool.false_eq_true, eq_self_iff_true, reduceIte, $as,*])
def fillN (bs : List Int) (s n : Nat) (found : List Int) : List Int := found.mapIdx fun t b => if s ≤ t ∧ t < s + n then bs.getD (t - s) 0 else b
theorem fill_len (bs : List Int) (s n : Nat) (found : List Int) : (fillN bs s n found).length = found.length := by simp [fillN]
theorem fill_0 (bs : List Int) (s : Nat) (found : List Int) : fillN bs s 0 found = found := by
  apply List.ext_getElem
  · simp [fillN]
  · intro i h1 h2
    simp only [fillN, List.getElem_mapIdx]
    rw [if_neg (by omega)]
theorem fill_succ (bs : List Int) (s n : Nat) (found : List Int) : (fillN bs s n found).set (s + n) (bs.getD n 0) = fillN bs s (n + 1) found := by
  apply List.ext_getElem
  · simp [fillN]
  · intro i h1 h2
    simp only [fillN, List.getElem_mapIdx, List.getElem_set]
    by_cases c : s + n = i
    · subst c
      rw [if_pos rfl, if_pos (by omega), show s + n - s = n by omega]
    · rw [if_neg c]
      by_cases d : s ≤ i ∧ i < s + n
      · rw [if_pos d, if_pos (by omega)]
      · rw [if_neg d, if_neg (by omega)]
theorem fill_fold (bs : List Int) (s : Nat) (found : List Int) : ∀ n, (List.range n).foldl (fun st k => st.set (s + k) (bs.getD k 0)) found = fillN bs s n found
  | 0 => (fill_0 bs s found).symm
  | n + 1 => by rw [List.range_succ, List.foldl_append, fill_fold bs s found n]; exact fill_succ bs s n found
theorem set_fold_len (bs : List Int) (s : Nat) : ∀ (l : List Nat) (found : List Int), (l.foldl (fun st k => st.set (s + k) (bs.getD k 0)) found).length = found.length
  | [], _ => rfl
  | k :: r, found => by rw [List.foldl_cons, set_fold_len bs s r, List.length_set]
theorem fill_enough (bs : List Int) (s n m : Nat) (found : List Int) (h1 : found.length ≤ s + n) (h2 : found.length ≤ s + m) : fillN bs s n found = fillN bs s m found := by
  apply List.ext_getElem
  · simp [fillN]
  · intro i h3 h4
    have : i < found.length := by simpa [fillN] using h3
    simp only [fillN, List.getElem_mapIdx]
    by_cases c : s ≤ i
    · rw [if_pos (by omega), if_pos (by omega)]
    · rw [if_neg (by omega), if_neg (by omega)]
def bitsM (ks : List Nat) (many : Int) (pl : Int) : List Int := rep many.toNat (bits (ks.getD pl.toNat 0))
theorem bitsM_len {ks : List Nat} {many pl : Int} (m0 : 0 ≤ many) : ((bitsM ks many pl).length : Int) = wdt ks many pl := by
  unfold bitsM wdt
  rw [rep_len, Int.natCast_mul, Int.toNat_of_nonneg m0, Int.mul_comm]
def fillR (ks : List Nat) (many : Int) (found : List Int) (r : Run) : List Int := fillN (bitsM ks many r.2.2) r.1.toNat (bitsM ks many r.2.2).length found
theorem fillR_len (ks : List Nat) (many : Int) : ∀ (rs : List Run) (found : List Int), (rs.foldl (fillR ks many) found).length = found.length
  | [], _ => rfl
  | r :: rs, found => by rw [List.foldl_cons, fillR_len ks many rs]; exact fill_len _ _ _ _
def ticksP (ks : List Nat) (many : Int) (u : Nat) (rs : List Run) : List Int := rs.foldl (fillR ks many) (List.replicate u 0)
theorem ticksP_len (ks : List Nat) (many : Int) (u : Nat) (rs : List Run) : (ticksP ks many u rs).length = u := by
  unfold ticksP
  rw [fillR_len, List.length_replicate]
structure RunOk (ks : List Nat) (many : Int) (r : Run) : Prop where
  s0 : 0 ≤ r.1
  s1 : r.1 ≤ 5000
  en : r.2.1 = r.1 + wdt ks many r.2.2
  p0 : 0 ≤ r.2.2
  p1 : r.2.2 < ks.length
theorem wdt_le {ks : List Nat} {many : Int} (h : Loop ks) {pl : Int} (h0 : 0 ≤ pl) (h1 : pl < ks.length) (m0 : 1 ≤ many) (m1 : many ≤ 4) : wdt ks many pl ≤ 112 := by
  have k := (wdt_pos h h0 h1 m0).2
  have b := bits28 k
  unfold wdt
  have : ((bits (ks.getD pl.toNat 0)).length : Int) * many ≤ 28 * 4 := Int.mul_le_mul (by omega) m1 (by omega) (by omega)
  omega
theorem ixL_map (bs : List Int) {k : Nat} (h : k < bs.length) {i : Int} (e : i = (k : Int)) : atI (bs.map D.int) i = some (.int (bs.getD k 0)) := by
  subst e
  rw [atI_map, atI_nat h, List.getD_eq_getElem?_getD, List.getElem?_eq_getElem h]
  rfl
theorem setI (xs : List Int) {k : Nat} (h : k < xs.length) {i : Int} (e : i = (k : Int)) (v : Int) : setD i (.int v) (xs.map D.int) = some ((xs.set k v).map D.int) := by
  subst e
  unfold setD
  rw [ixN_in (by omega) (by rw [List.length_map]; omega), List.map_set]
  rfl
theorem bitsof_run {ks : List Nat} {many : Int} (h : Loop ks) {pl : Int} (h0 : 0 ≤ pl) (h1 : pl < ks.length) (m0 : 1 ≤ many) (m1 : many ≤ 4) : atI (ks.map num) pl = some (num (ks.getD pl.toNat 0)) ∧ F_bits_of [num (ks.getD pl.toNat 0)] [] = .ok (.lst ((bits (ks.getD pl.toNat 0)).map .int)) [] ∧ opD .mul (.lst ((bits (ks.getD pl.toNat 0)).map .int)) (.int many) [] = .ok (.lst ((bitsM ks many pl).map .int)) [] := by
  obtain ⟨w, k39⟩ := wdt_pos h h0 h1 m0
  have b28 := bits28 k39
  refine ⟨?_, bits_at k39, ?_⟩
  · obtain ⟨i, rfl⟩ : ∃ i : Nat, pl = (i : Int) := ⟨pl.toNat, by omega⟩
    have hi : i < ks.length := by omega
    rw [atI_map, atI_nat hi, Int.toNat_natCast, List.getD_eq_getElem?_getD, List.getElem?_eq_getElem hi]
    rfl
  · have : (bits (ks.getD pl.toNat 0)).length * many.toNat ≤ 28 * 4 := Nat.mul_le_mul b28 (by omega)
    rw [mulL_s _ many [] (by rw [List.length_map]; omega), rep_map]
    rfl
theorem ticks_at {ks : List Nat} {many : Int} {rs : List Run} {u : Nat} (L : Loop ks) (m0 : 1 ≤ many) (m1 : many ≤ 4) (hr : ∀ r ∈ rs, RunOk ks many r) (hu : u ≤ 1000) : F_ticks_of [.tup (ks.map num), .int many, .lst (rs.map ruE), .int u] [] = .ok (.tup ((ticksP ks many u rs).map .int)) [] := by
  refine mkF_val rfl ?_
  show Meets (evB B_ticks_of [some (.tup (ks.map num)), some (.int many), some (.lst (rs.map ruE)), some (.int u), none, none, none, none, none, none] []) _
  have mz : opD .mul (.lst [.int 0]) (.int u) [] = .ok (.lst ((List.replicate u (0 : Int)).map .int)) [] := by
    rw [mulL_s [.int 0] u [] (by simp only [List.length_singleton]; omega), rep_one, List.map_replicate, show ((u : Int)).toNat = u by omega]
  simp_arith [B_ticks_of, mz]
  refine for_pure (fun st : List Int => [some (.tup (ks.map num)), some (.int many), some (.lst (rs.map ruE)), some (.int u), some (.lst (st.map .int)), none, none, none, none, none]) (fillR ks many) (List.replicate u 0) (by simp [leE]) (fun pre r post e => ⟨_, rfl, ?_⟩) ?_
  · have fl := fillR_len ks many pre (List.replicate u 0)
    rw [List.length_replicate] at fl
    generalize pre.foldl (fillR ks many) (List.replicate u 0) = st at fl
    obtain ⟨a, b, c⟩ := r
    obtain ⟨s0, s1, en, p0, p1⟩ := hr (a, b, c) (by rw [e]; simp)
    simp only at s0 s1 en p0 p1
    obtain ⟨ak, bo, mm⟩ := bitsof_run L p0 p1 m0 m1
    have bl := bitsM_len (ks := ks) (pl := c) (by omega : 0 ≤ many)
    have wl := wdt_le L p0 p1 m0 m1
    obtain ⟨s, rfl⟩ : ∃ s : Nat, a = (s : Int) := ⟨a.toNat, by omega⟩
    subst en
    have ef : fillR ks many st ((s : Int), (s : Int) + wdt ks many c, c) = (List.range ((if (u : Int) < s + wdt ks many c then (u : Int) else s + wdt ks many c) - s).toNat).foldl (fun st k => st.set (s + k) ((bitsM ks many c).getD k 0)) st := by
      rw [fill_fold]
      show fillN (bitsM ks many c) (Int.toNat s) (bitsM ks many c).length st = _
      rw [Int.toNat_natCast]
      by_cases cc : (u : Int) < s + wdt ks many c
      · rw [if_pos cc]
        exact fill_enough _ _ _ _ _ (by omega) (by omega)
      · rw [if_neg cc, show ((s : Int) + wdt ks many c - s).toNat = (bitsM ks many c).length by omega]
    rw [ef]
    simp_arith [ak, bo, mm]
    rw [rngM_s [] (by split <;> omega)]
    generalize hn : ((if (u : Int) < s + wdt ks many c then (u : Int) else s + wdt ks many c) - s).toNat = n
    have hn2 : s + n ≤ u ∨ n = 0 := by
      by_cases cc : (u : Int) < s + wdt ks many c
      · rw [if_pos cc] at hn; omega
      · rw [if_neg cc] at hn; omega
    have hn3 : n ≤ (bitsM ks many c).length := by
      by_cases cc : (u : Int) < s + wdt ks many c
      · rw [if_pos cc] at hn; omega
      · rw [if_neg cc] at hn; omega
    refine for_pure (fun st : List Int => [some (.tup (ks.map num)), some (.int many), some (.lst (rs.map ruE)), some (.int u), some (.lst (st.map .int)), some (.int s), none, none, some (.lst ((bitsM ks many c).map .int)), none]) (fun st k => st.set (s + k) ((bitsM ks many c).getD k 0)) st (by simp [leE]) (fun pre2 k post2 e2 => ⟨_, rfl, ?_⟩) ?_
    · have kn : k < n := by
        have : k ∈ List.range n := by rw [e2]; simp
        exact List.mem_range.mp this
      have l2 := set_fold_len (bitsM ks many c) s pre2 st
      generalize pre2.foldl (fun st k => st.set (s + k) ((bitsM ks many c).getD k 0)) st = st2 at l2
      have g1 := ixL_map (bitsM ks many c) (k := k) (by omega) (i := (s : Int) + k - s) (by omega)
      have g2 := setI st2 (k := s + k) (by omega) (i := (s : Int) + k) (by omega) ((bitsM ks many c).getD k 0)
      simp_arith [g1, cO_e, g2]
      exact Meets.env (by simp [leE])
    · simp_arith []
      exact Meets.env (by simp [leE])
  · simp_arith []
    exact Meets.val
end BX.Q

set_option Elab.async false
set_option linter.all false
set_option maxRecDepth 100000
set_option maxHeartbeats 0
/-! KM2: the line. -/
namespace BX.Q
open PySem
local macro_rules | `(tactic| simp_arith [$as,*]) => `(tactic| simp -implicitDefEqProofs only [↓x_var, ↓x_cI, ↓x_cB, ↓x_cN, ↓x_cS, ↓x_gl, ↓x_bin, ↓x_neg, ↓x_no, ↓x_an, ↓x_orr, ↓x_cmp, ↓x_chn, ↓x_ife, ↓x_ix, ↓x_sl, ↓x_rv, ↓x_li, ↓x_tu, ↓x_cp, ↓x_ca, ↓x_b1, ↓x_b2, ↓x_mt, ↓x_isi, ↓x_at, ↓x_me, ↓x_mk, ↓x_lr, ↓y_an, ↓y_orr, ↓y_no, ↓y_cmp, ↓y_chn, ↓y_var, ↓y_cB, ↓y_ca, ↓y_b1, ↓y_isi, ↓y_me, ↓z_an0, ↓z_an, ↓z_or0, ↓z_or, ↓w_an1, ↓w_an, ↓w_or1, ↓w_or, ↓l_nil, ↓l_cons, ↓q_none, ↓q_some, ↓c_none, ↓c_some, ↓i_e, ↓i_r1, ↓i_r2, ↓i_en, ↓i_zp, ↓b_nil, ↓b_cons, ↓s_a, ↓s_m, ↓s_mv, ↓s_ap, ↓s_ext, ↓s_rm, ↓s_ixs, ↓s_e, ↓s_iff, ↓s_fr, ↓s_frm, ↓s_wh, ↓s_rt, ↓s_rn, ↓s_ps, ↓s_rs, ↓s_tr, ↓s_sa, k2_s, neg_s, notM_s, notB_s, chM_s, kSl2_s, kSl_s, kCp_s, kC_s, kL_s, kQ_s, kR1_s, kR2_s, kEnL_s, kEnT_s, kMe_s, aO_s, asg_s, mMl_s, mMb_s, kMv_s, kAp_s, kAp2_s, kXt_s, kXt2_s, kRm_s, kRm2_s, kIx_s, kIx2_s, kIx3_s, kE_s, kRt_s, kFr_s, kSa3_s, kSa2_s, kSa_s, Rif_t, Rif_f, Rif_x, mkL_0, mkL_1, mkL_2, mkL_3, mkL_4, mkL_5, mkL_6, mkT_0, mkT_1, mkT_2, mkT_3, mkT_4, mkT_5, mkT_6, thenB_nx, thenB_rt, thenB_ct, Rb_ok, Rb_ex, ret_s, exc_s, Rn_ok, gO_s, lO_s, cO_e, sO_s, ofO_some, asB_s, asI_s, addI_s, subI_s, ltI_s, leI_s, gtI_s, geI_s, eqI_s, neI_s, isN_s, nisN_s, isNon_non, isNon_int, isNon_tup, Rt_ok, Rt_ex, hO_s, lenL_s, lenT_s, lenS_s, intB_s, tupL_s, tupT_s, lstL_s, lstT_s, sumL_s, sumT_s, allL_s, max2_s, min2_s, slL_s, slT_s, slS_s, rvL_s, rvT_s, ixL_e, ixT_e, itsL_s, itsT_s, seqL_s, seqT_s, seq2L_s, seq2T_s, isiT_s, isiL_s, isiI_s, noObj_tup, noObj_int, noObj_lst, isTy_tt, isTy_ii, isTy_bi, isTy_lt, isTy_ll, isTy_tl, List.any_cons, List.any_nil, Bool.or_false, Bool.false_or, Bool.or_true, Bool.true_or, List.getElem?_cons_zero, List.getElem?_cons_succ, List.set_cons_zero, List.set_cons_succ, stT, setAll, wipeE, Bool.not_true, Bool.not_false, decide_true, decide_false, Bool.false_eq_true, eq_self_iff_true, reduceIte, $as,*])
theorem new_ok {ks : List Nat} {many : Int} (h : Loop ks) (m0 : 1 ≤ many) (m1 : many ≤ 4) : ∀ (l : List (Int × Int)) (st : RSt) (F : Int), 0 ≤ st.2.1 → st.2.1 ≤ F → 300 ≤ F → F + 112 * l.length ≤ 5000 → (∀ p ∈ l, 0 ≤ p.1 ∧ p.1 ≤ 300 ∧ 0 ≤ p.2 ∧ p.2 < ks.length) → ∀ r ∈ newR ks many l st, RunOk ks many r
  | [], st, F, _, _, _, _, _, r, hr => by simp [newR] at hr
  | p :: l, st, F, h0, h1, h2, h3, hp, r, hr => by
    obtain ⟨g1, g2, g3, g4⟩ := hp p List.mem_cons_self
    rw [List.length_cons] at h3
    have hq := fun q hq => hp q (List.mem_cons_of_mem _ hq)
    cases c : okP st p
    · rw [new_f c] at hr
      exact new_ok h m0 m1 l st F h0 h1 h2 (by omega) hq r hr
    · rw [new_t c] at hr
      have w0 := (wdt_pos h g3 g4 m0).1
      have w1 := wdt_le h g3 g4 m0 m1
      have mg := mx_ge st.2.1 p.1
      have ml : mx st.2.1 p.1 ≤ F := by unfold mx; split <;> omega
      rcases List.mem_cons.mp hr with rfl | hr
      · exact ⟨by simp only; omega, by simp only; omega, rfl, g3, g4⟩
      · have e : (rStep ks many st p).2.1 = mx st.2.1 p.1 + wdt ks many p.2 := by rw [step_ok c]
        exact new_ok h m0 m1 l _ (F + 112) (by rw [e]; omega) (by rw [e]; omega) (by omega) (by omega) hq r hr
theorem runs_ok {ks : List Nat} {many : Int} {ps : List (Int × Int)} (h : Loop ks) (P : Pulls ks ps) (m0 : 1 ≤ many) (m1 : many ≤ 4) : ∀ r ∈ runsP ks many ps, RunOk ks many r := by
  rw [runs_new]
  have l8 : (sortP ps).length ≤ 8 := by rw [(sortP_perm ps).length_eq]; exact P.le
  exact new_ok h m0 m1 (sortP ps) (rIni ks) 300 (by simp [rIni]) (by simp [rIni]) (by omega) (by omega) fun p hp => P.ok p ((sortP_perm ps).mem_iff.mp hp)
theorem line_at {ks : List Nat} {many : Int} {ps : List (Int × Int)} {u : Nat} (L : Loop ks) (P : Pulls ks ps) (m0 : 1 ≤ many) (m1 : many ≤ 4) (hu : u ≤ 600) : F_line [.tup (ks.map num), .int many, .tup (ps.map pE2), .int u] [] = .ok (.tup ((ticksP ks many u (runsP ks many ps)).map .int)) [] := by
  refine mkF_val rfl ?_
  show Meets (evB B_line [some (.tup (ks.map num)), some (.int many), some (.tup (ps.map pE2)), some (.int u), none, none, none, none, none, none, none] []) _
  have r1 := runs_at L P m0 m1
  have hr := runs_ok L P m0 m1
  generalize runsP ks many ps = rs at r1 hr
  have u6 : (u : Int) ≤ 300 * 2 := by omega
  have mz : opD .mul (.lst [.int 0]) (.int u) [] = .ok (.lst ((List.replicate u (0 : Int)).map .int)) [] := by
    rw [mulL_s [.int 0] u [] (by simp only [List.length_singleton]; omega), rep_one, List.map_replicate, show ((u : Int)).toNat = u by omega]
  simp_arith [B_line, r1, mulI_s 300 2 _ (by decide), count_at, decide_eq_true (Int.natCast_nonneg u), decide_eq_true u6, Bool.and_true, mz]
  refine for_pure (fun st : List Int => [some (.tup (ks.map num)), some (.int many), some (.tup (ps.map pE2)), some (.int u), some (.lst (rs.map ruE)), some (.lst (st.map .int)), none, none, none, none, none]) (fillR ks many) (List.replicate u 0) (by simp [leE]) (fun pre r post e => ⟨_, rfl, ?_⟩) ?_
  · have fl := fillR_len ks many pre (List.replicate u 0)
    rw [List.length_replicate] at fl
    generalize pre.foldl (fillR ks many) (List.replicate u 0) = st at fl
    obtain ⟨a, b, c⟩ := r
    obtain ⟨s0, s1, en, p0, p1⟩ := hr (a, b, c) (by rw [e]; simp)
    simp only at s0 s1 en p0 p1
    obtain ⟨ak, bo, mm⟩ := bitsof_run L p0 p1 m0 m1
    have bl := bitsM_len (ks := ks) (pl := c) (by omega : 0 ≤ many)
    have wl := wdt_le L p0 p1 m0 m1
    obtain ⟨s, rfl⟩ : ∃ s : Nat, a = (s : Int) := ⟨a.toNat, by omega⟩
    subst en
    have ef : fillR ks many st ((s : Int), (s : Int) + wdt ks many c, c) = (List.range ((if (u : Int) < s + wdt ks many c then (u : Int) else s + wdt ks many c) - s).toNat).foldl (fun st k => st.set (s + k) ((bitsM ks many c).getD k 0)) st := by
      rw [fill_fold]
      show fillN (bitsM ks many c) (Int.toNat s) (bitsM ks many c).length st = _
      rw [Int.toNat_natCast]
      by_cases cc : (u : Int) < s + wdt ks many c
      · rw [if_pos cc]
        exact fill_enough _ _ _ _ _ (by omega) (by omega)
      · rw [if_neg cc, show ((s : Int) + wdt ks many c - s).toNat = (bitsM ks many c).length by omega]
    rw [ef]
    simp_arith [ak, bo, mm]
    rw [rngM_s [] (by split <;> omega)]
    generalize hn : ((if (u : Int) < s + wdt ks many c then (u : Int) else s + wdt ks many c) - s).toNat = n
    have hn2 : s + n ≤ u ∨ n = 0 := by
      by_cases cc : (u : Int) < s + wdt ks many c
      · rw [if_pos cc] at hn; omega
      · rw [if_neg cc] at hn; omega
    have hn3 : n ≤ (bitsM ks many c).length := by
      by_cases cc : (u : Int) < s + wdt ks many c
      · rw [if_pos cc] at hn; omega
      · rw [if_neg cc] at hn; omega
    refine for_pure (fun st : List Int => [some (.tup (ks.map num)), some (.int many), some (.tup (ps.map pE2)), some (.int u), some (.lst (rs.map ruE)), some (.lst (st.map .int)), some (.int s), none, none, some (.lst ((bitsM ks many c).map .int)), none]) (fun st k => st.set (s + k) ((bitsM ks many c).getD k 0)) st (by simp [leE]) (fun pre2 k post2 e2 => ⟨_, rfl, ?_⟩) ?_
    · have kn : k < n := by
        have : k ∈ List.range n := by rw [e2]; simp
        exact List.mem_range.mp this
      have l2 := set_fold_len (bitsM ks many c) s pre2 st
      generalize pre2.foldl (fun st k => st.set (s + k) ((bitsM ks many c).getD k 0)) st = st2 at l2
      have g1 := ixL_map (bitsM ks many c) (k := k) (by omega) (i := (s : Int) + k - s) (by omega)
      have g2 := setI st2 (k := s + k) (by omega) (i := (s : Int) + k) (by omega) ((bitsM ks many c).getD k 0)
      simp_arith [g1, cO_e, g2]
      exact Meets.env (by simp [leE])
    · simp_arith []
      exact Meets.env (by simp [leE])
  · simp_arith []
    exact Meets.val
end BX.Q

set_option Elab.async false
set_option linter.all false
set_option maxRecDepth 100000
set_option maxHeartbeats 0
/-! KP1: the line tick by tick, and the runs of all pulls: plain. -/
namespace BX.Q
open PySem
section
variable {ks : List Nat} {many : Int}
def lastE (F : List Run) : Int := match F.getLast? with
  | some r => r.2.1
  | none => 0
def lay (ks : List Nat) (many : Int) : Int → List Int → List Run
  | _, [] => []
  | e, p :: W => (e, e + wdt ks many p, p) :: lay ks many (e + wdt ks many p) W
def layE (ks : List Nat) (many : Int) : Int → List Int → Int
  | e, [] => e
  | e, p :: W => layE ks many (e + wdt ks many p) W
theorem lay_app (e : Int) (p : Int) : ∀ (W : List Int) (e : Int), lay ks many e (W ++ [p]) = lay ks many e W ++ [(layE ks many e W, layE ks many e W + wdt ks many p, p)] ∧ layE ks many e (W ++ [p]) = layE ks many e W + wdt ks many p
  | [], e => ⟨rfl, rfl⟩
  | q :: W, e => by
    obtain ⟨h1, h2⟩ := lay_app e p W (e + wdt ks many q)
    exact ⟨by simp only [List.cons_append, lay, layE, h1], by simp only [List.cons_append, layE, h2]⟩
def PlOk (ks : List Nat) (p : Int) : Prop := 0 ≤ p ∧ p < ks.length
theorem lay_ge (h : Loop ks) (m0 : 1 ≤ many) : ∀ (W : List Int) (e : Int), (∀ p ∈ W, PlOk ks p) → e ≤ layE ks many e W ∧ (∀ r ∈ lay ks many e W, e ≤ r.1 ∧ r.1 < r.2.1 ∧ r.2.2 ∈ W) ∧ ∀ p ∈ W, ∃ r ∈ lay ks many e W, r.2.2 = p
  | [], e, _ => ⟨Int.le_refl _, fun _ hr => by simp [lay] at hr, fun _ hp => by simp at hp⟩
  | q :: W, e, hp => by
    obtain ⟨g1, g2⟩ := hp q List.mem_cons_self
    have w := (wdt_pos h g1 g2 m0).1
    obtain ⟨h1, h2, h3⟩ := lay_ge h m0 W (e + wdt ks many q) fun p hq => hp p (List.mem_cons_of_mem _ hq)
    refine ⟨by simp only [layE]; omega, fun r hr => ?_, fun p hq => ?_⟩
    · simp only [lay] at hr
      rcases List.mem_cons.mp hr with rfl | hr
      · exact ⟨Int.le_refl _, by simp only; omega, List.mem_cons_self⟩
      · obtain ⟨a, b, c⟩ := h2 r hr
        exact ⟨by omega, b, List.mem_cons_of_mem _ c⟩
    · rcases List.mem_cons.mp hq with rfl | hq
      · exact ⟨_, by simp only [lay]; exact List.mem_cons_self, rfl⟩
      · obtain ⟨r, hr, e2⟩ := h3 p hq
        exact ⟨r, by simp only [lay]; exact List.mem_cons_of_mem _ hr, e2⟩
/-- which box taps -/
def hereF (F : List Run) (t : Int) : Option Int := match F.getLast? with
  | some r => if t < r.2.1 then some r.2.2 else none
  | none => none
/-- the line so far: runs are behind one another, all begun -/
structure Fok (F : List Run) (t : Int) : Prop where
  pw : F.Pairwise fun a b => a.2.1 ≤ b.1
  st : ∀ r ∈ F, 0 ≤ r.1 ∧ r.1 < t ∧ r.1 < r.2.1
theorem here_is {F : List Run} {t : Int} (h : Fok F t) {r : Run} (hr : r ∈ F) (he : t < r.2.1) : hereF F t = some r.2.2 := by
  rcases List.eq_nil_or_concat F with rfl | ⟨G, l, rfl⟩
  · simp at hr
  · rw [List.concat_eq_append] at *
    unfold hereF
    rw [List.getLast?_concat]
    simp only
    rcases List.mem_append.mp hr with z | z
    · have := (List.pairwise_append.mp h.pw).2.2 r z l (by simp)
      have := (h.st l (by simp)).2.1
      omega
    · rw [List.mem_singleton.mp z] at he ⊢
      rw [if_pos he]
theorem here_mem {F : List Run} {t p : Int} (h : hereF F t = some p) : ∃ r ∈ F, r.2.2 = p ∧ t < r.2.1 ∧ lastE F = r.2.1 := by
  unfold hereF at h
  cases e : F.getLast? with
  | none => rw [e] at h; cases h
  | some r =>
    rw [e] at h
    simp only at h
    split at h
    · rename_i c
      cases h
      exact ⟨r, List.mem_of_getLast? e, rfl, c, by unfold lastE; rw [e]⟩
    · cases h
theorem here_none {F : List Run} {t : Int} (h : hereF F t = none) (h0 : 0 ≤ t) : lastE F ≤ t := by
  unfold hereF at h
  unfold lastE
  cases e : F.getLast? with
  | none => exact h0
  | some r =>
    rw [e] at h
    simp only at h ⊢
    split at h
    · cases h
    · omega
/-- pulls of a tick, box by box -/
def pStep (ps : List (Int × Int)) (t : Int) (hr : Option Int) (s : List Int × List (Int × Int)) (p : Int) : List Int × List (Int × Int) :=
  if (t, p) ∈ ps then (if hr = some p ∨ p ∈ s.1 then (s.1, s.2 ++ [(t, p)]) else (s.1 ++ [p], s.2)) else s
abbrev MSt := List Run × List Int × List (Int × Int)
def places (n : Nat) : List Int := (List.range n).map fun k : Nat => (k : Int)
def mTick (ks : List Nat) (many : Int) (ps : List (Int × Int)) (s : MSt) (t : Int) : MSt :=
  let hr := hereF s.1 t
  let q := (places ks.length).foldl (pStep ps t hr) (s.2.1, s.2.2)
  if hr = none then (match q.1 with
    | [] => (s.1, [], q.2)
    | p :: W => (s.1 ++ [(t, t + wdt ks many p, p)], W, q.2)) else (s.1, q.1, q.2)
def mSt (ks : List Nat) (many : Int) (ps : List (Int × Int)) : Nat → MSt
  | 0 => ([], [], [])
  | t + 1 => mTick ks many ps (mSt ks many ps t) t
def rowU (ps : List (Int × Int)) (t : Int) (l : List Int) : List (Int × Int) := (l.filter fun p => decide ((t, p) ∈ ps)).map fun p => (t, p)
def allU (ks : List Nat) (ps : List (Int × Int)) : Nat → List (Int × Int)
  | 0 => []
  | t + 1 => allU ks ps t ++ rowU ps t (places ks.length)
/-- while the pulls of a tick are read -/
structure Mid (ks : List Nat) (many : Int) (F : List Run) (t : Int) (W : List Int) (st : RSt) : Prop where
  f : Fok F t
  a : st.1 = F ++ lay ks many (mx (lastE F) t) W
  b : st.2.1 = if W = [] then lastE F else layE ks many (mx (lastE F) t) W
  g : ∀ p ∈ W, PlOk ks p
  r : RInv ks.length st
  x : REx st
theorem mid_ok (h : Loop ks) (m0 : 1 ≤ many) {F : List Run} {t : Int} {W : List Int} {st : RSt} (m : Mid ks many F t W st) (t0 : 0 ≤ t) {p : Int} (hp : PlOk ks p) : okP st (t, p) = !decide (hereF F t = some p ∨ p ∈ W) := by
  obtain ⟨l1, l2, l3⟩ := lay_ge h m0 W (mx (lastE F) t) m.g
  have mg := mx_ge (lastE F) t
  have low : ∀ r ∈ st.1, t < r.2.1 → r.2.2 = p → ¬ st.2.2.getD p.toNat 0 ≤ t := fun r hr h1 h2 => by
    have := m.r.ends r hr
    rw [h2] at this
    omega
  unfold okP
  simp only
  by_cases c : hereF F t = some p ∨ p ∈ W
  · rw [decide_eq_true c]
    apply decide_eq_false
    rcases c with c | c
    · obtain ⟨r, hr, e1, e2, _⟩ := here_mem c
      exact low r (by rw [m.a]; exact List.mem_append_left _ hr) e2 e1
    · obtain ⟨r, hr, e1⟩ := l3 p c
      obtain ⟨q1, q2, _⟩ := l2 r hr
      exact low r (by rw [m.a]; exact List.mem_append_right _ hr) (by omega) e1
  · rw [decide_eq_false c]
    apply decide_eq_true
    rcases m.x p.toNat with z | ⟨r, hr, e1, e2⟩
    · omega
    · by_cases q : st.2.2.getD p.toNat 0 ≤ t
      · exact q
      · exfalso
        apply c
        have ep : r.2.2 = p := by have := hp.1; omega
        rw [m.a] at hr
        rcases List.mem_append.mp hr with z | z
        · exact .inl (by rw [← ep]; exact here_is m.f z (by omega))
        · exact .inr (by rw [← ep]; exact (l2 r z).2.2)
theorem mid_step (h : Loop ks) (m0 : 1 ≤ many) {F : List Run} {t : Int} {W : List Int} {st : RSt} (m : Mid ks many F t W st) (t0 : 0 ≤ t) {p : Int} (hp : PlOk ks p) (c : okP st (t, p) = true) : Mid ks many F t (W ++ [p]) (rStep ks many st (t, p)) := by
  obtain ⟨l1, l2, l3⟩ := lay_ge h m0 W (mx (lastE F) t) m.g
  obtain ⟨p1, p2⟩ := lay_app (ks := ks) (many := many) 0 p W (mx (lastE F) t)
  have mg := mx_ge (lastE F) t
  have e : mx st.2.1 t = layE ks many (mx (lastE F) t) W := by
    rw [m.b]
    by_cases z : W = []
    · rw [if_pos z, z]; rfl
    · rw [if_neg z]
      generalize layE ks many (mx (lastE F) t) W = v at l1
      unfold mx
      split <;> omega
  refine ⟨m.f, ?_, ?_, fun q hq => ?_, r_inv1 m.r (wdt_pos h hp.1 hp.2 m0).1 t0 (by have := hp.1; have := hp.2; simp only; omega), rex_1 m.x hp.1 (by have := hp.1; have := hp.2; rw [m.r.len]; simp only; omega)⟩
  · rw [step_ok c, p1, m.a]
    simp only
    rw [e, List.append_assoc]
  · rw [step_ok c, if_neg (by simp), p2]
    simp only
    rw [e]
  · rcases List.mem_append.mp hq with z | z
    · exact m.g q z
    · rw [List.mem_singleton.mp z]; exact hp
theorem mid_all (h : Loop ks) (m0 : 1 ≤ many) {ps : List (Int × Int)} {F : List Run} {t : Int} (t0 : 0 ≤ t) : ∀ (l : List Int) (W : List Int) (J : List (Int × Int)) (st : RSt), (∀ p ∈ l, PlOk ks p) → Mid ks many F t W st →
    Mid ks many F t (l.foldl (pStep ps t (hereF F t)) (W, J)).1 ((rowU ps t l).foldl (rStep ks many) st) ∧ (l.foldl (pStep ps t (hereF F t)) (W, J)).2 = J ++ rejR ks many (rowU ps t l) st
  | [], W, J, st, _, m => ⟨m, by simp [rowU, rejR]⟩
  | p :: l, W, J, st, hl, m => by
    have hp := hl p List.mem_cons_self
    have hl' : ∀ q ∈ l, PlOk ks q := fun q hq => hl q (List.mem_cons_of_mem _ hq)
    have ok := mid_ok h m0 m t0 hp
    rw [List.foldl_cons]
    by_cases c : (t, p) ∈ ps
    · have e : rowU ps t (p :: l) = (t, p) :: rowU ps t l := by simp [rowU, c]
      rw [e, List.foldl_cons]
      by_cases d : hereF F t = some p ∨ p ∈ W
      · have e2 : pStep ps t (hereF F t) (W, J) p = (W, J ++ [(t, p)]) := by unfold pStep; rw [if_pos c, if_pos d]
        rw [decide_eq_true d] at ok
        obtain ⟨i1, i2⟩ := mid_all h m0 (ps := ps) t0 l W (J ++ [(t, p)]) st hl' m
        rw [e2, step_no ok, rej_f ok]
        exact ⟨i1, by rw [i2, List.append_assoc]; rfl⟩
      · have e2 : pStep ps t (hereF F t) (W, J) p = (W ++ [p], J) := by unfold pStep; rw [if_pos c, if_neg d]
        rw [decide_eq_false d] at ok
        obtain ⟨i1, i2⟩ := mid_all h m0 (ps := ps) t0 l (W ++ [p]) J _ hl' (mid_step h m0 m t0 hp ok)
        rw [e2, rej_t ok]
        exact ⟨i1, i2⟩
    · have e : rowU ps t (p :: l) = rowU ps t l := by simp [rowU, c]
      have e2 : pStep ps t (hereF F t) (W, J) p = (W, J) := by unfold pStep; rw [if_neg c]
      rw [e, e2]
      exact mid_all h m0 t0 l W J st hl' m
theorem pl_ok : ∀ p ∈ places ks.length, PlOk ks p := fun p hp => by
  obtain ⟨k, hk, rfl⟩ := List.mem_map.mp hp
  have := List.mem_range.mp hk
  exact ⟨by omega, by omega⟩
/-- at the head of a tick -/
structure Top (ks : List Nat) (many : Int) (s : MSt) (t : Int) (st : RSt) : Prop where
  m : Mid ks many s.1 t s.2.1 st
  w : s.2.1 ≠ [] → t ≤ lastE s.1
theorem rej_app : ∀ (l m : List (Int × Int)) (st : RSt), rejR ks many (l ++ m) st = rejR ks many l st ++ rejR ks many m (l.foldl (rStep ks many) st)
  | [], m, st => by simp [rejR]
  | p :: l, m, st => by
    cases c : okP st p
    · rw [List.cons_append, rej_f c, rej_f c, rej_app l m st, List.foldl_cons, step_no c, List.cons_append]
    · rw [List.cons_append, rej_t c, rej_t c, rej_app l m, List.foldl_cons]
theorem lastE_app (F : List Run) (r : Run) : lastE (F ++ [r]) = r.2.1 := by
  unfold lastE
  rw [List.getLast?_concat]
theorem top_tick (h : Loop ks) (m0 : 1 ≤ many) {ps : List (Int × Int)} {s : MSt} {t : Int} {st : RSt} (t0 : 0 ≤ t) (hT : Top ks many s t st) :
    Top ks many (mTick ks many ps s t) (t + 1) ((rowU ps t (places ks.length)).foldl (rStep ks many) st) ∧ (mTick ks many ps s t).2.2 = s.2.2 ++ rejR ks many (rowU ps t (places ks.length)) st := by
  obtain ⟨F, W, J⟩ := s
  obtain ⟨i1, i2⟩ := mid_all h m0 (ps := ps) t0 (places ks.length) W J st pl_ok hT.m
  simp only at i1 i2 ⊢
  unfold mTick
  simp only
  generalize (places ks.length).foldl (pStep ps t (hereF F t)) (W, J) = q at i1 i2
  generalize (rowU ps t (places ks.length)).foldl (rStep ks many) st = st' at i1
  obtain ⟨W', J'⟩ := q
  simp only at i1 i2 ⊢
  have up : Fok F (t + 1) := ⟨i1.f.pw, fun r hr => by have := i1.f.st r hr; omega⟩
  have mg := mx_ge (lastE F) t
  cases c : hereF F t with
  | none =>
    have le := here_none c t0
    rw [if_pos rfl]
    have em : mx (lastE F) t = t := by unfold mx; split <;> omega
    cases W' with
    | nil =>
      refine ⟨⟨⟨up, ?_, ?_, fun p hp => (by simp at hp), i1.r, i1.x⟩, fun z => absurd rfl z⟩, i2⟩
      · exact i1.a
      · exact i1.b
    | cons p W' =>
      have hp := i1.g p List.mem_cons_self
      have w := (wdt_pos h hp.1 hp.2 m0).1
      have em2 : mx (t + wdt ks many p) (t + 1) = t + wdt ks many p := by unfold mx; split <;> omega
      refine ⟨⟨⟨⟨?_, fun r hr => ?_⟩, ?_, ?_, fun q hq => i1.g q (List.mem_cons_of_mem _ hq), i1.r, i1.x⟩, fun _ => ?_⟩, i2⟩
      · simp only
        rw [List.pairwise_append]
        refine ⟨i1.f.pw, by simp, fun a ha b hb => ?_⟩
        rw [List.mem_singleton.mp hb]
        simp only
        by_cases z : t < a.2.1
        · rw [here_is i1.f ha z] at c; cases c
        · omega
      · simp only at hr
        rcases List.mem_append.mp hr with z | z
        · exact up.st r z
        · rw [List.mem_singleton.mp z]
          simp only
          omega
      · simp only
        rw [i1.a, lastE_app, em, em2, List.append_assoc]
        rfl
      · simp only
        rw [i1.b, if_neg (by simp), lastE_app, em]
        simp only [layE]
        cases W' with
        | nil => rfl
        | cons x y =>
          rw [if_neg (by simp)]
          simp only [em2]
      · simp only
        rw [lastE_app]
        simp only
        omega
  | some p =>
    obtain ⟨r, hr, e1, e2, e3⟩ := here_mem c
    rw [if_neg (by simp)]
    have em : mx (lastE F) t = lastE F := by unfold mx; split <;> omega
    have em2 : mx (lastE F) (t + 1) = lastE F := by unfold mx; split <;> omega
    refine ⟨⟨⟨up, ?_, ?_, i1.g, i1.r, i1.x⟩, fun _ => ?_⟩, i2⟩
    · simp only
      rw [em2, ← em]; rw [em]; have := i1.a; rw [em] at this; exact this
    · simp only
      have := i1.b
      rw [em] at this
      rw [em2]
      exact this
    · simp only
      omega
theorem top_all (h : Loop ks) (m0 : 1 ≤ many) (ps : List (Int × Int)) : ∀ t : Nat, Top ks many (mSt ks many ps t) t ((allU ks ps t).foldl (rStep ks many) (rIni ks)) ∧ (mSt ks many ps t).2.2 = rejR ks many (allU ks ps t) (rIni ks)
  | 0 => by
    refine ⟨⟨⟨⟨?_, ?_⟩, ?_, ?_, ?_, r_inv0 _, rex_0 _⟩, ?_⟩, rfl⟩ <;> simp [mSt, allU, rIni, lay, lastE]
  | t + 1 => by
    obtain ⟨h1, h2⟩ := top_all h m0 ps t
    obtain ⟨h3, h4⟩ := top_tick h m0 (ps := ps) (by omega) h1
    refine ⟨?_, ?_⟩
    · show Top ks many (mTick ks many ps (mSt ks many ps t) t) ((t + 1 : Nat) : Int) ((allU ks ps t ++ rowU ps t (places ks.length)).foldl (rStep ks many) (rIni ks))
      rw [List.foldl_append]
      exact h3
    · show (mTick ks many ps (mSt ks many ps t) t).2.2 = rejR ks many (allU ks ps t ++ rowU ps t (places ks.length)) (rIni ks)
      rw [h4, h2, rej_app]
/-! ### all pulls in order -/
theorem rowU_mem {ps : List (Int × Int)} {t : Int} {l : List Int} {p : Int × Int} : p ∈ rowU ps t l ↔ p ∈ ps ∧ p.1 = t ∧ p.2 ∈ l := by
  unfold rowU
  rw [List.mem_map]
  constructor
  · rintro ⟨q, hq, rfl⟩
    obtain ⟨h1, h2⟩ := List.mem_filter.mp hq
    exact ⟨of_decide_eq_true h2, rfl, h1⟩
  · rintro ⟨h1, rfl, h3⟩
    exact ⟨p.2, List.mem_filter.mpr ⟨h3, decide_eq_true h1⟩, rfl⟩
theorem allU_mem {ps : List (Int × Int)} {p : Int × Int} : ∀ {t : Nat}, p ∈ allU ks ps t ↔ p ∈ ps ∧ 0 ≤ p.1 ∧ p.1 < t ∧ p.2 ∈ places ks.length
  | 0 => by simp [allU]; omega
  | t + 1 => by
    show p ∈ allU ks ps t ++ rowU ps t (places ks.length) ↔ _
    rw [List.mem_append, allU_mem, rowU_mem]
    constructor
    · rintro (⟨a, b, c, d⟩ | ⟨a, b, c⟩)
      · exact ⟨a, b, by omega, d⟩
      · exact ⟨a, by omega, by omega, c⟩
    · rintro ⟨a, b, c, d⟩
      by_cases z : p.1 < t
      · exact .inl ⟨a, b, z, d⟩
      · exact .inr ⟨a, by omega, d⟩
theorem allU_pw {ps : List (Int × Int)} : ∀ t : Nat, (allU ks ps t).Pairwise fun a b => a.1 < b.1 ∨ (a.1 = b.1 ∧ a.2 < b.2)
  | 0 => by simp [allU]
  | t + 1 => by
    show (allU ks ps t ++ rowU ps t (places ks.length)).Pairwise _
    rw [List.pairwise_append]
    refine ⟨allU_pw t, ?_, fun a ha b hb => ?_⟩
    · unfold rowU
      rw [List.pairwise_map]
      refine (List.Pairwise.filter _ ?_).imp fun {a b} h => .inr ⟨rfl, h⟩
      unfold places
      rw [List.pairwise_map]
      exact List.pairwise_lt_range.imp fun {a b} h => by omega
    · have h1 := (allU_mem.mp ha).2.2.1
      have h2 := (rowU_mem.mp hb).2.1
      exact .inl (by omega)
theorem mem_places {p : Int} : p ∈ places ks.length ↔ PlOk ks p := ⟨pl_ok p, fun h => List.mem_map.mpr ⟨p.toNat, List.mem_range.mpr (by have := h.1; have := h.2; omega), by have := h.1; omega⟩⟩
theorem allU_sort {ps : List (Int × Int)} (P : Pulls ks ps) {t : Nat} (ht : 301 ≤ t) : sortP ps = allU ks ps t := by
  have pw := allU_pw (ks := ks) (ps := ps) t
  refine sortP_uniq ?_ (pw.imp fun {a b} h => ?_)
  · have nd : (allU ks ps t).Nodup := pw.imp fun {a b} h e => by subst e; omega
    refine (List.perm_ext_iff_of_nodup nd P.nd).mpr fun p => ?_
    rw [allU_mem, mem_places]
    constructor
    · exact fun z => z.1
    · intro z
      have := P.ok p z
      exact ⟨z, this.1, by omega, this.2.2⟩
  · unfold ltP
    rw [Bool.eq_false_iff]
    intro z
    simp only [Bool.or_eq_true, Bool.and_eq_true, decide_eq_true_eq] at z
    omega
end
end BX.Q

set_option Elab.async false
set_option linter.all false
set_option maxRecDepth 100000
set_option maxHeartbeats 0
/-! KP2: the law's own line, tick by tick (k20). -/
namespace BX.Q
open PySem
local macro_rules | `(tactic| simp_arith [$as,*]) => `(tactic| simp -implicitDefEqProofs only [↓x_var, ↓x_cI, ↓x_cB, ↓x_cN, ↓x_cS, ↓x_gl, ↓x_bin, ↓x_neg, ↓x_no, ↓x_an, ↓x_orr, ↓x_cmp, ↓x_chn, ↓x_ife, ↓x_ix, ↓x_sl, ↓x_rv, ↓x_li, ↓x_tu, ↓x_cp, ↓x_ca, ↓x_b1, ↓x_b2, ↓x_mt, ↓x_isi, ↓x_at, ↓x_me, ↓x_mk, ↓x_lr, ↓y_an, ↓y_orr, ↓y_no, ↓y_cmp, ↓y_chn, ↓y_var, ↓y_cB, ↓y_ca, ↓y_b1, ↓y_isi, ↓y_me, ↓z_an0, ↓z_an, ↓z_or0, ↓z_or, ↓w_an1, ↓w_an, ↓w_or1, ↓w_or, ↓l_nil, ↓l_cons, ↓q_none, ↓q_some, ↓c_none, ↓c_some, ↓i_e, ↓i_r1, ↓i_r2, ↓i_en, ↓i_zp, ↓b_nil, ↓b_cons, ↓s_a, ↓s_m, ↓s_mv, ↓s_ap, ↓s_ext, ↓s_rm, ↓s_ixs, ↓s_e, ↓s_iff, ↓s_fr, ↓s_frm, ↓s_wh, ↓s_rt, ↓s_rn, ↓s_ps, ↓s_rs, ↓s_tr, ↓s_sa, k2_s, neg_s, notM_s, notB_s, chM_s, kSl2_s, kSl_s, kCp_s, kC_s, kL_s, kQ_s, kR1_s, kR2_s, kEnL_s, kEnT_s, kMt_s, kMtT_s, kMi_s, kMiT_s, kMe_s, kMe2_s, kMe3_s, aO_s, asg_s, mMl_s, mMb_s, kMv_s, kAp_s, kAp2_s, kXt_s, kXt2_s, kRm_s, kRm2_s, kIx_s, kIx2_s, kIx3_s, kE_s, kRt_s, kFr_s, kSa3_s, kSa2_s, kSa_s, Rif_t, Rif_f, Rif_x, mkL_0, mkL_1, mkL_2, mkL_3, mkL_4, mkL_5, mkL_6, mkT_0, mkT_1, mkT_2, mkT_3, mkT_4, mkT_5, mkT_6, thenB_nx, thenB_rt, thenB_ct, Rb_ok, Rb_ex, ret_s, exc_s, Rn_ok, gO_s, lO_s, cO_e, sO_s, ofO_some, asB_s, asI_s, addI_s, subI_s, ltI_s, leI_s, gtI_s, geI_s, eqI_s, neI_s, isN_s, nisN_s, isNon_non, isNon_int, isNon_tup, Rt_ok, Rt_ex, hO_s, lenL_s, lenT_s, lenS_s, intB_s, tupL_s, tupT_s, lstL_s, lstT_s, sumL_s, sumT_s, allL_s, max2_s, min2_s, slL_s, slT_s, slS_s, rvL_s, rvT_s, ixL_e, ixT_e, itsL_s, itsT_s, seqL_s, seqT_s, seq2L_s, seq2T_s, isiT_s, isiL_s, isiI_s, noObj_tup, noObj_int, noObj_lst, isTy_tt, isTy_ii, isTy_bi, isTy_lt, isTy_ll, isTy_tl, List.any_cons, List.any_nil, Bool.or_false, Bool.false_or, Bool.or_true, Bool.true_or, List.getElem?_cons_zero, List.getElem?_cons_succ, List.set_cons_zero, List.set_cons_succ, stT, setAll, wipeE, Bool.not_true, Bool.not_false, decide_true, decide_false, Bool.false_eq_true, eq_self_iff_true, reduceIte, $as,*])
theorem nx_ofP {r : R (Fl × Env)} {ρ1 ρc : Env} {s : Sto} (e : r = .ok (.nx, ρ1) s) (h : leE ρc ρ1) : ∃ ρ2, r = .ok (.nx, ρ2) s ∧ leE ρc ρ2 := ⟨ρ1, e, h⟩
theorem mMs_s (i : Nat) (d : D) (a : P) (lo hi : PQ) (ρ : Env) (s : Sto) : mM i (.sl a lo hi) ρ d s = .ok (.nx, ρ.set i (some d)) s := rfl
def hereD : Option Int → D
  | none => .non
  | some p => .int p
theorem ex_min {p : Nat → Prop} [DecidablePred p] : ∀ n, p n → ∃ m, p m ∧ ∀ k < m, ¬ p k := fun n => by
  induction n using Nat.strongRecOn with
  | ind n ih =>
    intro h
    by_cases c : ∃ k, k < n ∧ p k
    · obtain ⟨k, hk, hp⟩ := c
      exact ih k hk hp
    · exact ⟨n, h, fun k hk hp => c ⟨k, hk, hp⟩⟩
section
variable {ks : List Nat} {many : Int} {ps : List (Int × Int)}
theorem pStep_len (ps : List (Int × Int)) (t : Int) (hr : Option Int) : ∀ (l : List Int) (s : List Int × List (Int × Int)), (l.foldl (pStep ps t hr) s).1.length ≤ s.1.length + l.length ∧ (l.foldl (pStep ps t hr) s).2.length ≤ s.2.length + l.length
  | [], s => by simp
  | p :: l, s => by
    have h1 := pStep_len ps t hr l (pStep ps t hr s p)
    have h2 : (pStep ps t hr s p).1.length ≤ s.1.length + 1 ∧ (pStep ps t hr s p).2.length ≤ s.2.length + 1 := by
      unfold pStep
      split
      · split <;> simp
      · simp
    rw [List.foldl_cons, List.length_cons]
    omega
theorem mSt_len (ks : List Nat) (many : Int) (ps : List (Int × Int)) : ∀ t : Nat, (mSt ks many ps t).1.length ≤ t ∧ (mSt ks many ps t).2.1.length ≤ ks.length * t ∧ (mSt ks many ps t).2.2.length ≤ ks.length * t
  | 0 => by simp [mSt]
  | t + 1 => by
    obtain ⟨h1, h2, h3⟩ := mSt_len ks many ps t
    show (mTick ks many ps (mSt ks many ps t) t).1.length ≤ _ ∧ (mTick ks many ps (mSt ks many ps t) t).2.1.length ≤ _ ∧ (mTick ks many ps (mSt ks many ps t) t).2.2.length ≤ _
    generalize mSt ks many ps t = s at h1 h2 h3
    have h4 := pStep_len ps t (hereF s.1 t) (places ks.length) (s.2.1, s.2.2)
    have h5 : (places ks.length).length = ks.length := by simp [places]
    unfold mTick
    simp only
    generalize (places ks.length).foldl (pStep ps t (hereF s.1 t)) (s.2.1, s.2.2) = q at h4
    obtain ⟨W, J⟩ := q
    simp only at h4 ⊢
    rw [Nat.mul_succ]
    split
    · cases W with
      | nil => simp only [List.length_nil]; omega
      | cons p W => simp only [List.length_append, List.length_cons, List.length_nil] at h4 ⊢; omega
    · simp only; omega
theorem free_le (h : Loop ks) (m0 : 1 ≤ many) (m1 : many ≤ 4) : ∀ (l : List (Int × Int)) (st : RSt), (∀ p ∈ l, p.1 ≤ 300 ∧ PlOk ks p.2) → (l.foldl (rStep ks many) st).2.1 ≤ mx st.2.1 300 + 112 * l.length
  | [], st, _ => by have := mx_ge st.2.1 300; simp; omega
  | p :: l, st, hp => by
    obtain ⟨g1, g2⟩ := hp p List.mem_cons_self
    have ih := free_le h m0 m1 l (rStep ks many st p) fun q hq => hp q (List.mem_cons_of_mem _ hq)
    rw [List.foldl_cons, List.length_cons]
    have hw := wdt_le h g2.1 g2.2 m0 m1
    cases c : okP st p
    · rw [step_no c] at ih ⊢; omega
    · rw [step_ok c] at ih ⊢
      simp only at ih
      have e1 : mx st.2.1 p.1 ≤ mx st.2.1 300 := by unfold mx; split <;> split <;> omega
      have e2 : mx (mx st.2.1 p.1 + wdt ks many p.2) 300 ≤ mx st.2.1 300 + 112 := by
        have := mx_ge st.2.1 300
        generalize mx st.2.1 300 = v at e1 this ⊢
        generalize mx st.2.1 p.1 = u at e1 ⊢
        unfold mx
        split <;> omega
      omega
/-- all wait no more -/
theorem m_end (h : Loop ks) (P : Pulls ks ps) (m0 : 1 ≤ many) (m1 : many ≤ 4) {t : Nat} (ht : 1300 ≤ t) : (mSt ks many ps t).2.1 = [] := by
  obtain ⟨⟨m, w⟩, _⟩ := top_all h m0 ps t
  have hs := allU_sort P (by omega : 301 ≤ t)
  rw [← hs] at m
  have fl := free_le h m0 m1 (sortP ps) (rIni ks) fun p hp => by
    have := P.ok p ((sortP_perm ps).mem_iff.mp hp)
    exact ⟨this.2.1, this.2.2⟩
  have sl : (sortP ps).length ≤ 8 := by rw [(sortP_perm ps).length_eq]; exact P.le
  have e0 : mx (rIni ks).2.1 300 = 300 := rfl
  rw [e0] at fl
  by_cases z : (mSt ks many ps t).2.1 = []
  · exact z
  · exfalso
    have w' := w z
    have b := m.b
    rw [if_neg z] at b
    have := (lay_ge h m0 _ (mx (lastE (mSt ks many ps t).1) t) m.g).1
    have := mx_ge (lastE (mSt ks many ps t).1) t
    omega
theorem m_done (h : Loop ks) (P : Pulls ks ps) (m0 : 1 ≤ many) {t : Nat} (ht : 301 ≤ t) (hw : (mSt ks many ps t).2.1 = []) : mSt ks many ps t = (runsP ks many ps, [], idleP ks many ps) := by
  obtain ⟨⟨m, w⟩, j⟩ := top_all h m0 ps t
  have hs := allU_sort P ht
  rw [← hs] at m j
  have a := m.a
  rw [hw] at a
  simp only [lay, List.append_nil] at a
  rw [idle_rej]
  unfold runsP
  refine Prod.ext a.symm (Prod.ext hw j)
theorem rep_mSt (t : Nat) : Nat.repeat (fun q : MSt × Nat => (mTick ks many ps q.1 q.2, q.2 + 1)) t (([], [], []), 0) = (mSt ks many ps t, t) := by
  induction t with
  | zero => rfl
  | succ t ih =>
    show (fun q : MSt × Nat => (mTick ks many ps q.1 q.2, q.2 + 1)) (Nat.repeat _ t _) = _
    rw [ih]
    rfl
def eM (ks : List Nat) (many : Int) (ps : List (Int × Int)) (q : MSt × Nat) : Env := [some (.tup (ks.map num)), some (.int many), some (.tup (ps.map pE2)), some (.lst (q.1.1.map ruE)), some (.lst (q.1.2.2.map pE2)), some (.lst (q.1.2.1.map .int)), some (.int q.2), none, none, none]
theorem hereD_non (h : Option Int) : isNon (hereD h) = decide (h = none) := by cases h <;> rfl
theorem eq_here (p : Int) (h : Option Int) (s : Sto) : cmpD .eq (.int p) (hereD h) s = .ok (.bl (decide (h = some p))) s := by
  cases h with
  | none => rfl
  | some q =>
    show cmpD .eq (.int p) (.int q) s = _
    rw [eqI_s]
    congr 2
    by_cases c : p = q
    · subst c; simp
    · simp [c, Ne.symm c]
theorem lbits_20 : (R39.all fun k => isV (F_l_bits_1 [num k] []) (.lst ((bits k).map .int))) = true := by decide +kernel
theorem lbits_at20 {k : Nat} (h : k < 39) : F_l_bits_1 [num k] [] = .ok (.lst ((bits k).map .int)) [] := isV_eq (List.all_eq_true.mp lbits_20 k (r39 h))
theorem in_pull (t p : Int) : cmpD .isin (.tup [.int t, .int p]) (.tup (ps.map pE2)) [] = .ok (.bl (decide ((t, p) ∈ ps))) [] := by
  have := inT_s pE2_ge (t, p) ps []
  rw [show pE2 (t, p) = .tup [.int t, .int p] from rfl] at this
  rw [this]
  by_cases c : (t, p) ∈ ps <;> simp [c]
theorem in_int (p : Int) (W : List Int) : cmpD .isin (.int p) (.lst (W.map .int)) [] = .ok (.bl (decide (p ∈ W))) [] := by
  exact inL_s (GE.int.up (by decide)) p W []
theorem lruns20_at (h : Loop ks) (P : Pulls ks ps) (m0 : 1 ≤ many) (m1 : many ≤ 4) : F_l_runs [.tup (ks.map num), .int many, .tup (ps.map pE2)] [] = .ok (.tup [.lst ((runsP ks many ps).map ruE), .lst ((idleP ks many ps).map pE2)]) [] := by
  refine mkF_val rfl ?_
  show Meets (evB B_l_runs [some (.tup (ks.map num)), some (.int many), some (.tup (ps.map pE2)), none, none, none, none, none, none, none] []) _
  obtain ⟨N, ⟨n1, n2⟩, n3⟩ := ex_min (p := fun t => 301 ≤ t ∧ (mSt ks many ps t).2.1 = []) 1300 ⟨by decide, m_end h P m0 m1 (by decide)⟩
  have nN : N ≤ 1300 := Nat.le_of_not_lt fun z => n3 1300 z ⟨by decide, m_end h P m0 m1 (by decide)⟩
  have hl5 := h.le
  simp_arith [B_l_runs]
  refine wh_run (eM ks many ps) (fun _ => true) (fun q : MSt × Nat => (mTick ks many ps q.1 q.2, q.2 + 1)) N (([], [], []), 0) FUEL (by unfold FUEL; omega) (by simp [leE, eM]) (fun t ht => ?_) (fun t ht => ?_) ?_
  · rw [rep_mSt]
    have e1 : decide (t < N) = (decide ((t : Int) < 301) || !(mSt ks many ps t).2.1.isEmpty) := by
      by_cases c : t < N
      · have := n3 t c
        by_cases d : (t : Int) < 301
        · simp [c, d]
        · have : (mSt ks many ps t).2.1 ≠ [] := fun z => this ⟨by omega, z⟩
          simp [c, this]
      · have e : t = N := by omega
        subst e
        have d : ¬ ((t : Int) < 301) := by omega
        simp [n2, d]
    rw [e1]
    unfold eM
    have hn : cmpD .ne (.lst ((mSt ks many ps t).2.1.map .int)) (.lst []) [] = .ok (.bl (!(mSt ks many ps t).2.1.isEmpty)) [] := neLnil_s (fun a => rfl) _ []
    cases d : decide ((t : Int) < 301)
    · simp_arith [d, hn]
      cases (mSt ks many ps t).2.1.isEmpty <;> simp_arith []
    · simp_arith [d]
  · rw [rep_mSt, rep_mSt]
    obtain ⟨hT, _⟩ := top_all h m0 ps t
    obtain ⟨z1, z2, z3⟩ := mSt_len ks many ps t
    show Meets _ (.env (eM ks many ps (mTick ks many ps (mSt ks many ps t) t, t + 1)) [])
    generalize mSt ks many ps t = s at hT z1 z2 z3
    generalize (allU ks ps t).foldl (rStep ks many) (rIni ks) = st at hT
    obtain ⟨F, W, J⟩ := s
    have zb : ks.length * t ≤ 6 * 1300 := Nat.mul_le_mul (by omega) (by omega)
    simp only at hT z1 z2 z3
    unfold eM
    simp_arith []
    refine then_env (s := []) (ρc := [some (.tup (ks.map num)), some (.int many), some (.tup (ps.map pE2)), some (.lst (F.map ruE)), some (.lst (J.map pE2)), some (.lst (W.map .int)), some (.int t), some (hereD (hereF F t)), none, none]) ?_ ?_
    · cases e : F.getLast? with
      | none =>
        have e2 : F = [] := List.getLast?_eq_none_iff.mp e
        subst e2
        refine nx_ofP (ρ1 := [some (.tup (ks.map num)), some (.int many), some (.tup (ps.map pE2)), some (.lst (([] : List Run).map ruE)), some (.lst (J.map pE2)), some (.lst (W.map .int)), some (.int t), some .non, none, none]) ?_ (by simp [leE, hereF, hereD])
        simp_arith [neLnil_s (fun a => ruE_ge.dep a), List.isEmpty_nil]
      | some r =>
        obtain ⟨G, rfl⟩ := List.getLast?_eq_some_iff.mp e
        obtain ⟨a, b, c⟩ := r
        have ai : atI ((G ++ [(a, b, c)]).map ruE) (-1) = some (ruE (a, b, c)) := by rw [List.map_append]; exact atI_last _ _
        have a1 : atI [D.int a, D.int b, D.int c] 1 = some (.int b) := rfl
        have a2 : atI [D.int a, D.int b, D.int c] 2 = some (.int c) := rfl
        have ne : (G ++ [(a, b, c)]).isEmpty = false := by simp
        refine nx_ofP (ρ1 := [some (.tup (ks.map num)), some (.int many), some (.tup (ps.map pE2)), some (.lst ((G ++ [(a, b, c)]).map ruE)), some (.lst (J.map pE2)), some (.lst (W.map .int)), some (.int t), some (hereD (hereF (G ++ [(a, b, c)]) t)), none, none]) ?_ (by simp [leE])
        have hf : hereF (G ++ [(a, b, c)]) t = if (t : Int) < b then some c else none := by unfold hereF; rw [List.getLast?_concat]
        by_cases d : (t : Int) < b
        · rw [hf, if_pos d]
          simp_arith [neLnil_s (fun a => ruE_ge.dep a), ne, ai, ruE, a1, a2, d]
          rfl
        · rw [hf, if_neg d]
          simp_arith [neLnil_s (fun a => ruE_ge.dep a), ne, ai, ruE, a1, a2, d]
          rfl
    · simp_arith [List.length_map]
      rw [rngM_s [] (by omega), show ((ks.length : Int) - 0).toNat = ks.length by omega]
      refine for_pure (fun q : List Int × List (Int × Int) => [some (.tup (ks.map num)), some (.int many), some (.tup (ps.map pE2)), some (.lst (F.map ruE)), some (.lst (q.2.map pE2)), some (.lst (q.1.map .int)), some (.int t), some (hereD (hereF F t)), none, none]) (fun q (k : Nat) => pStep ps t (hereF F t) q (k : Int)) (W, J) (by simp [leE]) (fun pre k post e => ⟨_, rfl, ?_⟩) ?_
      · have hpl : pre.length ≤ 5 := by have := congrArg List.length e; simp at this; omega
        have pe : pre.foldl (fun q (k : Nat) => pStep ps t (hereF F t) q (k : Int)) (W, J) = (pre.map fun k : Nat => (k : Int)).foldl (pStep ps t (hereF F t)) (W, J) := by rw [List.foldl_map]
        have pl := pStep_len ps t (hereF F t) (pre.map fun k : Nat => (k : Int)) (W, J)
        rw [← pe, List.length_map] at pl
        generalize pre.foldl (fun q (k : Nat) => pStep ps t (hereF F t) q (k : Int)) (W, J) = q at pl
        obtain ⟨W1, J1⟩ := q
        simp only at pl
        rw [show (0 : Int) + (k : Int) = (k : Int) by omega]
        unfold pStep
        by_cases c : ((t : Int), (k : Int)) ∈ ps
        · rw [if_pos c]
          by_cases d : hereF F t = some (k : Int)
          · rw [if_pos (.inl d)]
            simp_arith [in_pull, decide_eq_true c, eq_here, decide_eq_true d, appD_s (.tup [.int t, .int k]) (J1.map pE2) (by rw [List.length_map]; omega)]
            rw [show J1.map pE2 ++ [.tup [.int t, .int k]] = (J1 ++ [((t : Int), (k : Int))]).map pE2 by rw [List.map_append]; rfl]
            exact Meets.env (by simp [leE])
          · by_cases f : (k : Int) ∈ W1
            · rw [if_pos (.inr f)]
              simp_arith [in_pull, decide_eq_true c, eq_here, decide_eq_false d, in_int, decide_eq_true f, appD_s (.tup [.int t, .int k]) (J1.map pE2) (by rw [List.length_map]; omega)]
              rw [show J1.map pE2 ++ [.tup [.int t, .int k]] = (J1 ++ [((t : Int), (k : Int))]).map pE2 by rw [List.map_append]; rfl]
              exact Meets.env (by simp [leE])
            · rw [if_neg (by intro z; rcases z with z | z; exact d z; exact f z)]
              simp_arith [in_pull, decide_eq_true c, eq_here, decide_eq_false d, in_int, decide_eq_false f, appD_s (.int k) (W1.map .int) (by rw [List.length_map]; omega)]
              rw [show W1.map D.int ++ [.int k] = (W1 ++ [(k : Int)]).map .int by rw [List.map_append]; rfl]
              exact Meets.env (by simp [leE])
        · rw [if_neg c]
          simp_arith [in_pull, decide_eq_false c]
          exact Meets.env (by simp [leE])
      · have pe : (List.range ks.length).foldl (fun q (k : Nat) => pStep ps t (hereF F t) q (k : Int)) (W, J) = (places ks.length).foldl (pStep ps t (hereF F t)) (W, J) := by unfold places; rw [List.foldl_map]
        rw [pe]
        have pl := pStep_len ps t (hereF F t) (places ks.length) (W, J)
        rw [show (places ks.length).length = ks.length by simp [places]] at pl
        have i1 := (mid_all h m0 (ps := ps) (by omega : (0 : Int) ≤ t) (places ks.length) W J st pl_ok hT.m).1
        have em : mTick ks many ps (F, W, J) t = if hereF F t = none then (match ((places ks.length).foldl (pStep ps t (hereF F t)) (W, J)).1 with
          | [] => (F, [], ((places ks.length).foldl (pStep ps t (hereF F t)) (W, J)).2)
          | p :: W' => (F ++ [((t : Int), (t : Int) + wdt ks many p, p)], W', ((places ks.length).foldl (pStep ps t (hereF F t)) (W, J)).2)) else (F, ((places ks.length).foldl (pStep ps t (hereF F t)) (W, J)).1, ((places ks.length).foldl (pStep ps t (hereF F t)) (W, J)).2) := rfl
        rw [em]
        simp only at i1
        generalize (places ks.length).foldl (pStep ps t (hereF F t)) (W, J) = q at pl i1
        obtain ⟨W1, J1⟩ := q
        simp only at pl i1 ⊢
        have t1 : (((t + 1 : Nat)) : Int) = (t : Int) + 1 := by omega
        rw [t1]
        have hn : cmpD .ne (.lst (W1.map .int)) (.lst []) [] = .ok (.bl (!W1.isEmpty)) [] := neLnil_s (fun a => rfl) _ []
        have isn : ∀ h : Option Int, cmpD .is_ (hereD h) .non [] = .ok (.bl (decide (h = none))) [] := fun h => by cases h <;> rfl
        cases c : hereF F t with
        | some p =>
          have dn : decide ((some p : Option Int) = none) = false := rfl
          rw [if_neg (by simp)]
          simp_arith [isn, dn]
          exact Meets.env (by simp [leE])
        | none =>
          have dn : decide ((none : Option Int) = none) = true := rfl
          rw [if_pos rfl]
          cases W1 with
          | nil =>
            simp_arith [isn, dn, hn, List.isEmpty_nil]
            exact Meets.env (by simp [leE])
          | cons p W2 =>
            obtain ⟨g1, g2⟩ := i1.g p List.mem_cons_self
            obtain ⟨ak, _, _⟩ := bitsof_run h g1 g2 m0 m1
            have k39 := (wdt_pos h g1 g2 m0).2
            have b28 := bits28 k39
            have wd : opD .mul (.int (bits (ks.getD p.toNat 0)).length) (.int many) [] = .ok (.int (wdt ks many p)) [] := by
              rw [mulI_s _ _ [] (by omega)]
              rfl
            have a0 : atI ((p :: W2).map D.int) 0 = some (.int p) := by
              rw [atI_map, show (0 : Int) = ((0 : Nat) : Int) from rfl, atI_nat (by simp)]
              rfl
            have ne : (p :: W2).isEmpty = false := rfl
            have dc : cut ((p :: W2).map D.int) (some 1) none = W2.map .int := by
              rw [cut_drop1 _ (by simp)]; rfl
            simp_arith [isn, dn, hn, ne, a0, ak, lbits_at20 k39, List.length_map, wd, appD_s (.tup [.int t, .int (t + wdt ks many p), .int p]) (F.map ruE) (by rw [List.length_map]; omega), mMs_s, dc]
            rw [show F.map ruE ++ [.tup [.int t, .int (t + wdt ks many p), .int p]] = (F ++ [((t : Int), (t : Int) + wdt ks many p, p)]).map ruE by rw [List.map_append]; rfl]
            exact Meets.env (by simp [leE])
  · rw [rep_mSt, m_done h P m0 n1 n2]
    unfold eM
    simp_arith []
    exact Meets.val
end
end BX.Q

set_option Elab.async false
set_option linter.all false
set_option maxRecDepth 100000
set_option maxHeartbeats 0
/-! KP3: what is told of a loop, by this law (k20). -/
namespace BX.Q
open PySem
local macro_rules | `(tactic| simp_arith [$as,*]) => `(tactic| simp -implicitDefEqProofs only [↓x_var, ↓x_cI, ↓x_cB, ↓x_cN, ↓x_cS, ↓x_gl, ↓x_bin, ↓x_neg, ↓x_no, ↓x_an, ↓x_orr, ↓x_cmp, ↓x_chn, ↓x_ife, ↓x_ix, ↓x_sl, ↓x_rv, ↓x_li, ↓x_tu, ↓x_cp, ↓x_ca, ↓x_b1, ↓x_b2, ↓x_mt, ↓x_isi, ↓x_at, ↓x_me, ↓x_mk, ↓x_lr, ↓y_an, ↓y_orr, ↓y_no, ↓y_cmp, ↓y_chn, ↓y_var, ↓y_cB, ↓y_ca, ↓y_b1, ↓y_isi, ↓y_me, ↓z_an0, ↓z_an, ↓z_or0, ↓z_or, ↓w_an1, ↓w_an, ↓w_or1, ↓w_or, ↓l_nil, ↓l_cons, ↓q_none, ↓q_some, ↓c_none, ↓c_some, ↓i_e, ↓i_r1, ↓i_r2, ↓i_en, ↓i_zp, ↓b_nil, ↓b_cons, ↓s_a, ↓s_m, ↓s_mv, ↓s_ap, ↓s_ext, ↓s_rm, ↓s_ixs, ↓s_e, ↓s_iff, ↓s_fr, ↓s_frm, ↓s_wh, ↓s_rt, ↓s_rn, ↓s_ps, ↓s_rs, ↓s_tr, ↓s_sa, k2_s, neg_s, notM_s, notB_s, chM_s, kSl2_s, kSl_s, kCp_s, kC_s, kL_s, kQ_s, kR1_s, kR2_s, kEnL_s, kEnT_s, kMt_s, kMtT_s, kMi_s, kMiT_s, kMe_s, kMe2_s, kMe3_s, aO_s, asg_s, mMl_s, mMb_s, kMv_s, kAp_s, kAp2_s, kXt_s, kXt2_s, kRm_s, kRm2_s, kIx_s, kIx2_s, kIx3_s, kE_s, kRt_s, kFr_s, kSa3_s, kSa2_s, kSa_s, Rif_t, Rif_f, Rif_x, mkL_0, mkL_1, mkL_2, mkL_3, mkL_4, mkL_5, mkL_6, mkT_0, mkT_1, mkT_2, mkT_3, mkT_4, mkT_5, mkT_6, thenB_nx, thenB_rt, thenB_ct, Rb_ok, Rb_ex, ret_s, exc_s, Rn_ok, gO_s, lO_s, cO_e, sO_s, ofO_some, asB_s, asI_s, addI_s, subI_s, ltI_s, leI_s, gtI_s, geI_s, eqI_s, neI_s, isN_s, nisN_s, isNon_non, isNon_int, isNon_tup, Rt_ok, Rt_ex, hO_s, lenL_s, lenT_s, lenS_s, intB_s, tupL_s, tupT_s, lstL_s, lstT_s, sumL_s, sumT_s, allL_s, max2_s, min2_s, slL_s, slT_s, slS_s, rvL_s, rvT_s, ixL_e, ixT_e, itsL_s, itsT_s, seqL_s, seqT_s, seq2L_s, seq2T_s, isiT_s, isiL_s, isiI_s, noObj_tup, noObj_int, noObj_lst, isTy_tt, isTy_ii, isTy_bi, isTy_lt, isTy_ll, isTy_tl, List.any_cons, List.any_nil, Bool.or_false, Bool.false_or, Bool.or_true, Bool.true_or, List.getElem?_cons_zero, List.getElem?_cons_succ, List.set_cons_zero, List.set_cons_succ, stT, setAll, wipeE, Bool.not_true, Bool.not_false, decide_true, decide_false, Bool.false_eq_true, eq_self_iff_true, reduceIte, $as,*])
theorem rep_getD : ∀ (m : Nat) (xs : List Int) (j : Nat), j < m * xs.length → (rep m xs).getD j 0 = xs.getD (j % xs.length) 0
  | 0, xs, j, h => by omega
  | m + 1, xs, j, h => by
    have e : rep (m + 1) xs = xs ++ rep m xs := by simp [rep, List.replicate_succ, List.flatten_cons]
    rw [e]
    rw [Nat.succ_mul] at h
    by_cases c : j < xs.length
    · rw [Nat.mod_eq_of_lt c, List.getD_eq_getElem?_getD, List.getElem?_append_left c, ← List.getD_eq_getElem?_getD]
    · rw [Nat.mod_eq_sub_mod (by omega), List.getD_eq_getElem?_getD, List.getElem?_append_right (by omega), ← List.getD_eq_getElem?_getD]
      exact rep_getD m xs (j - xs.length) (by omega)
section
variable {ks : List Nat} {many : Int}
def bitAt (ks : List Nat) (t : Int) (v : Int) (r : Run) : Int := if r.1 ≤ t ∧ t < r.2.1 then (bits (ks.getD r.2.2.toNat 0)).getD ((t - r.1).toNat % (bits (ks.getD r.2.2.toNat 0)).length) 0 else v
theorem fill_at (m0 : 1 ≤ many) {r : Run} (hr : RunOk ks many r) {found : List Int} {t : Nat} (ht : t < found.length) : (fillR ks many found r).getD t 0 = bitAt ks t (found.getD t 0) r := by
  obtain ⟨s0, _, en, _, _⟩ := hr
  have bl := bitsM_len (ks := ks) (pl := r.2.2) (by omega : 0 ≤ many)
  unfold fillR fillN bitAt
  rw [List.getD_eq_getElem?_getD, List.getElem?_mapIdx, List.getElem?_eq_getElem ht]
  simp only [Option.map_some, Option.getD_some]
  by_cases c : r.1 ≤ (t : Int) ∧ (t : Int) < r.2.1
  · rw [if_pos c, if_pos (by omega)]
    have el : (bitsM ks many r.2.2).length = many.toNat * (bits (ks.getD r.2.2.toNat 0)).length := by unfold bitsM; rw [rep_len]
    rw [show ((t : Int) - r.1).toNat = t - r.1.toNat by omega]
    exact rep_getD _ _ _ (by omega)
  · rw [if_neg c, if_neg (by omega), List.getD_eq_getElem?_getD, List.getElem?_eq_getElem ht]
    rfl
theorem fills_at (m0 : 1 ≤ many) {t : Nat} : ∀ (rs : List Run) (found : List Int), (∀ r ∈ rs, RunOk ks many r) → t < found.length → (rs.foldl (fillR ks many) found).getD t 0 = rs.foldl (bitAt ks t) (found.getD t 0)
  | [], _, _, _ => rfl
  | r :: rs, found, h, ht => by
    rw [List.foldl_cons, List.foldl_cons, ← fill_at m0 (h r List.mem_cons_self) ht]
    exact fills_at m0 rs _ (fun q hq => h q (List.mem_cons_of_mem _ hq)) (by rw [show (fillR ks many found r).length = found.length from fill_len _ _ _ _]; exact ht)
theorem ticks_eq (m0 : 1 ≤ many) {rs : List Run} {u : Nat} (h : ∀ r ∈ rs, RunOk ks many r) : ticksP ks many u rs = (List.range u).map fun t : Nat => rs.foldl (bitAt ks t) 0 := by
  apply List.ext_getElem
  · rw [ticksP_len, List.length_map, List.length_range]
  · intro t h1 h2
    have hu : t < u := by rw [ticksP_len] at h1; exact h1
    rw [List.getElem_map, List.getElem_range]
    have := fills_at m0 rs (List.replicate u 0) h (t := t) (by rw [List.length_replicate]; exact hu)
    rw [show (List.replicate u (0 : Int)).getD t 0 = 0 by rw [List.getD_eq_getElem?_getD, List.getElem?_replicate]; split <;> rfl] at this
    rw [← this]
    unfold ticksP
    rw [List.getD_eq_getElem?_getD, List.getElem?_eq_getElem (by rw [fillR_len, List.length_replicate]; exact hu)]
    rfl
theorem rej_lenP : ∀ (l : List (Int × Int)) (st : RSt), (rejR ks many l st).length ≤ l.length
  | [], _ => by simp [rejR]
  | p :: r, st => by
    cases c : okP st p
    · rw [rej_f c, List.length_cons, List.length_cons]; have := rej_lenP r st; omega
    · rw [rej_t c, List.length_cons]; have := rej_lenP r (rStep ks many st p); omega
theorem rej_pw : ∀ (l : List (Int × Int)) (st : RSt), l.Pairwise (fun a b => ltP b a = false) → (rejR ks many l st).Pairwise (fun a b => ltP b a = false)
  | [], _, _ => by simp [rejR]
  | p :: r, st, h => by
    obtain ⟨h1, h2⟩ := List.pairwise_cons.mp h
    cases c : okP st p
    · rw [rej_f c, List.pairwise_cons]
      exact ⟨fun q hq => h1 q (rej_sub r _ q hq), rej_pw r _ h2⟩
    · rw [rej_t c]; exact rej_pw r _ h2
theorem acc_pw : ∀ (l : List (Int × Int)) (st : RSt), l.Pairwise (fun a b => ltP b a = false) → (accR ks many l st).Pairwise (fun a b => ltP b a = false)
  | [], _, _ => by simp [accR]
  | p :: r, st, h => by
    obtain ⟨h1, h2⟩ := List.pairwise_cons.mp h
    cases c : okP st p
    · rw [acc_f c]; exact acc_pw r st h2
    · rw [acc_t c, List.pairwise_cons]
      exact ⟨fun q hq => h1 q (acc_sub r _ q hq), acc_pw r _ h2⟩
end
theorem sortPL (ps : List (Int × Int)) (s : Sto) : b1D .sorted (.lst (ps.map pE2)) s = .ok (.lst ((sortP ps).map pE2)) s := sortPT ps s
/-! ### told, four ways -/
def tF (w : Nat) (a b c d : D) : M D := match w with
  | 0 => F_runs [a, b, c]
  | 1 => F_idle_pulls [a, b, c]
  | 2 => F_longest_wait [a, b, c]
  | _ => F_line [a, b, c, d]
def REF20 : List Nat := [114, 101, 102, 117, 115, 101, 100]
def rf20 (i : Int) : D := .tup [.str REF20, .int i]
def ix20 : Xc → Int
  | .loop => 3
  | .pull => 4
  | _ => 5
def kPk (ps : PL) (ρ : Env) (f : PySem.Str × (List D → M D)) : M D := bnd (evL ps ρ) f.2
def kPk1 (fs : List (PySem.Str × (List D → M D))) (ps : PL) (ρ : Env) (j : Int) : M D := bnd (ofO (atI fs j)) (kPk ps ρ)
def kPk0 (fs : List (PySem.Str × (List D → M D))) (ps : PL) (ρ : Env) (x : D) : M D := bnd (asI x) (kPk1 fs ps ρ)
theorem x_pk (fs : List (PySem.Str × (List D → M D))) (i : P) (ps : PL) (ρ : Env) (s : Sto) : ev (.pk fs i ps) ρ s = Rb (ev i ρ s) (kPk0 fs ps ρ) := by simp only [ev]; exact bnd_s _ _ _
theorem kPk0_s (fs : List (PySem.Str × (List D → M D))) (ps : PL) (ρ : Env) (j : Int) (s : Sto) : kPk0 fs ps ρ (.int j) s = Rb (ofO (atI fs j) s) (kPk ps ρ) := by
  show bnd (asI (.int j)) (kPk1 fs ps ρ) s = _
  rw [show asI (.int j) = ret j from rfl, ret_bnd]
  exact bnd_s _ _ _
theorem kPk_s (ps : PL) (ρ : Env) (f : PySem.Str × (List D → M D)) (s : Sto) : kPk ps ρ f s = Rb (evL ps ρ s) f.2 := bnd_s _ _ _
theorem told_okP {w : Nat} (hw : w < 4) {a b c d r : D} (h : tF w a b c d [] = .ok r []) : F_l_told_4 [.int w, a, b, c, d] [] = .ok r [] := by
  refine mkF_val rfl ?_
  show Meets (evB B_l_told_4 [some (.int w), some a, some b, some c, some d, none] []) _
  have a0 : atI [(Str.ofString "runs", F_runs), (Str.ofString "idle_pulls", F_idle_pulls), (Str.ofString "longest_wait", F_longest_wait)] ((0 : Nat) : Int) = some (Str.ofString "runs", F_runs) := rfl
  have a1 : atI [(Str.ofString "runs", F_runs), (Str.ofString "idle_pulls", F_idle_pulls), (Str.ofString "longest_wait", F_longest_wait)] ((1 : Nat) : Int) = some (Str.ofString "idle_pulls", F_idle_pulls) := rfl
  have a2 : atI [(Str.ofString "runs", F_runs), (Str.ofString "idle_pulls", F_idle_pulls), (Str.ofString "longest_wait", F_longest_wait)] ((2 : Nat) : Int) = some (Str.ofString "longest_wait", F_longest_wait) := rfl
  rcases w with _ | _ | _ | _ | w
  · have h : F_runs [a, b, c] [] = .ok r [] := h
    simp_arith [B_l_told_4, eqI_s, show decide (((0 : Nat) : Int) = 3) = false from rfl, x_pk, kPk0_s, a0, kPk_s, h]
    exact Meets.val
  · have h : F_idle_pulls [a, b, c] [] = .ok r [] := h
    simp_arith [B_l_told_4, eqI_s, show decide (((0 + 1 : Nat) : Int) = 3) = false from rfl, x_pk, kPk0_s, a1, kPk_s, h]
    exact Meets.val
  · have h : F_longest_wait [a, b, c] [] = .ok r [] := h
    simp_arith [B_l_told_4, eqI_s, show decide (((0 + 1 + 1 : Nat) : Int) = 3) = false from rfl, x_pk, kPk0_s, a2, kPk_s, h]
    exact Meets.val
  · have h : F_line [a, b, c, d] [] = .ok r [] := h
    simp_arith [B_l_told_4, eqI_s, show decide (((0 + 1 + 1 + 1 : Nat) : Int) = 3) = true from rfl, h]
    exact Meets.val
  · omega
theorem told_exP {w : Nat} (hw : w < 4) {a b c d : D} {x : Xc} (hx : x = .loop ∨ x = .pull ∨ x = .count) (h : tF w a b c d [] = .ex x []) : F_l_told_4 [.int w, a, b, c, d] [] = .ok (rf20 (ix20 x)) [] := by
  refine mkF_val rfl ?_
  show Meets (evB B_l_told_4 [some (.int w), some a, some b, some c, some d, none] []) _
  have a0 : atI [(Str.ofString "runs", F_runs), (Str.ofString "idle_pulls", F_idle_pulls), (Str.ofString "longest_wait", F_longest_wait)] ((0 : Nat) : Int) = some (Str.ofString "runs", F_runs) := rfl
  have a1 : atI [(Str.ofString "runs", F_runs), (Str.ofString "idle_pulls", F_idle_pulls), (Str.ofString "longest_wait", F_longest_wait)] ((1 : Nat) : Int) = some (Str.ofString "idle_pulls", F_idle_pulls) := rfl
  have a2 : atI [(Str.ofString "runs", F_runs), (Str.ofString "idle_pulls", F_idle_pulls), (Str.ofString "longest_wait", F_longest_wait)] ((2 : Nat) : Int) = some (Str.ofString "longest_wait", F_longest_wait) := rfl
  have hh : hsM [.num, .book, .line, .loop, .pull, .count, .text] .tap (.ref "_law_refused" [.num, .book, .line, .loop, .pull, .count, .text]) x = some (rf20 (ix20 x)) := by rcases hx with rfl | rfl | rfl <;> rfl
  rcases w with _ | _ | _ | _ | w
  · have h : F_runs [a, b, c] [] = .ex x [] := h
    simp_arith [B_l_told_4, eqI_s, show decide (((0 : Nat) : Int) = 3) = false from rfl, x_pk, kPk0_s, a0, kPk_s, h, hh]
    exact Meets.val
  · have h : F_idle_pulls [a, b, c] [] = .ex x [] := h
    simp_arith [B_l_told_4, eqI_s, show decide (((0 + 1 : Nat) : Int) = 3) = false from rfl, x_pk, kPk0_s, a1, kPk_s, h, hh]
    exact Meets.val
  · have h : F_longest_wait [a, b, c] [] = .ex x [] := h
    simp_arith [B_l_told_4, eqI_s, show decide (((0 + 1 + 1 : Nat) : Int) = 3) = false from rfl, x_pk, kPk0_s, a2, kPk_s, h, hh]
    exact Meets.val
  · have h : F_line [a, b, c, d] [] = .ex x [] := h
    simp_arith [B_l_told_4, eqI_s, show decide (((0 + 1 + 1 + 1 : Nat) : Int) = 3) = true from rfl, h, hh]
    exact Meets.val
  · omega
/-- what runs refuses, all refuse -/
theorem tF_ex {a b c d : D} {x : Xc} (h : F_runs [a, b, c] [] = .ex x []) (w : Nat) : tF w a b c d [] = .ex x [] := by
  have hi : F_idle_pulls [a, b, c] [] = .ex x [] := by
    refine mkF_exc rfl ?_
    show Meets (evB B_idle_pulls [some a, some b, some c, none, none, none, none, none, none, none, none] []) _
    simp_arith [B_idle_pulls, h]
    exact Meets.exc
  have hw : F_longest_wait [a, b, c] [] = .ex x [] := by
    refine mkF_exc rfl ?_
    show Meets (evB B_longest_wait [some a, some b, some c, none, none, none, none, none, none] []) _
    simp_arith [B_longest_wait, h]
    exact Meets.exc
  have hl : F_line [a, b, c, d] [] = .ex x [] := by
    refine mkF_exc rfl ?_
    show Meets (evB B_line [some a, some b, some c, some d, none, none, none, none, none, none, none] []) _
    simp_arith [B_line, h]
    exact Meets.exc
  rcases w with _ | _ | _ | w
  · exact h
  · exact hi
  · exact hw
  · exact hl
end BX.Q

set_option Elab.async false
set_option linter.all false
set_option maxRecDepth 100000
set_option maxHeartbeats 0
/-! KP4: all that is told of a loop is as this law finds (k20). -/
namespace BX.Q
open PySem
local macro_rules | `(tactic| simp_arith [$as,*]) => `(tactic| simp -implicitDefEqProofs only [↓x_var, ↓x_cI, ↓x_cB, ↓x_cN, ↓x_cS, ↓x_gl, ↓x_bin, ↓x_neg, ↓x_no, ↓x_an, ↓x_orr, ↓x_cmp, ↓x_chn, ↓x_ife, ↓x_ix, ↓x_sl, ↓x_rv, ↓x_li, ↓x_tu, ↓x_cp, ↓x_ca, ↓x_b1, ↓x_b2, ↓x_mt, ↓x_isi, ↓x_at, ↓x_me, ↓x_mk, ↓x_lr, ↓y_an, ↓y_orr, ↓y_no, ↓y_cmp, ↓y_chn, ↓y_var, ↓y_cB, ↓y_ca, ↓y_b1, ↓y_isi, ↓y_me, ↓z_an0, ↓z_an, ↓z_or0, ↓z_or, ↓w_an1, ↓w_an, ↓w_or1, ↓w_or, ↓l_nil, ↓l_cons, ↓q_none, ↓q_some, ↓c_none, ↓c_some, ↓i_e, ↓i_r1, ↓i_r2, ↓i_en, ↓i_zp, ↓b_nil, ↓b_cons, ↓s_a, ↓s_m, ↓s_mv, ↓s_ap, ↓s_ext, ↓s_rm, ↓s_ixs, ↓s_e, ↓s_iff, ↓s_fr, ↓s_frm, ↓s_wh, ↓s_rt, ↓s_rn, ↓s_ps, ↓s_rs, ↓s_tr, ↓s_sa, k2_s, neg_s, notM_s, notB_s, chM_s, kSl2_s, kSl_s, kCp_s, kC_s, kL_s, kQ_s, kR1_s, kR2_s, kEnL_s, kEnT_s, kMt_s, kMtT_s, kMi_s, kMiT_s, kMe_s, kMe2_s, kMe3_s, aO_s, asg_s, mMl_s, mMb_s, kMv_s, kAp_s, kAp2_s, kXt_s, kXt2_s, kRm_s, kRm2_s, kIx_s, kIx2_s, kIx3_s, kE_s, kRt_s, kFr_s, kSa3_s, kSa2_s, kSa_s, Rif_t, Rif_f, Rif_x, mkL_0, mkL_1, mkL_2, mkL_3, mkL_4, mkL_5, mkL_6, mkT_0, mkT_1, mkT_2, mkT_3, mkT_4, mkT_5, mkT_6, thenB_nx, thenB_rt, thenB_ct, Rb_ok, Rb_ex, ret_s, exc_s, Rn_ok, gO_s, lO_s, cO_e, sO_s, ofO_some, asB_s, asI_s, addI_s, subI_s, ltI_s, leI_s, gtI_s, geI_s, eqI_s, neI_s, isN_s, nisN_s, isNon_non, isNon_int, isNon_tup, Rt_ok, Rt_ex, hO_s, lenL_s, lenT_s, lenS_s, intB_s, tupL_s, tupT_s, lstL_s, lstT_s, sumL_s, sumT_s, allL_s, max2_s, min2_s, slL_s, slT_s, slS_s, rvL_s, rvT_s, ixL_e, ixT_e, itsL_s, itsT_s, seqL_s, seqT_s, seq2L_s, seq2T_s, isiT_s, isiL_s, isiI_s, noObj_tup, noObj_int, noObj_lst, isTy_tt, isTy_ii, isTy_bi, isTy_lt, isTy_ll, isTy_tl, List.any_cons, List.any_nil, Bool.or_false, Bool.false_or, Bool.or_true, Bool.true_or, List.getElem?_cons_zero, List.getElem?_cons_succ, List.set_cons_zero, List.set_cons_succ, stT, setAll, wipeE, Bool.not_true, Bool.not_false, decide_true, decide_false, Bool.false_eq_true, eq_self_iff_true, reduceIte, $as,*])
theorem setLastP (xs : List Int) (x d : Int) : setD (-1) (.int d) ((xs ++ [x]).map .int) = some ((xs ++ [d]).map .int) := by
  unfold setD
  have : ixN ((xs ++ [x]).map D.int).length (-1) = some xs.length := by
    unfold ixN
    rw [List.length_map, List.length_append, List.length_singleton, if_neg (by omega), if_pos (by omega)]
    congr 1
    omega
  rw [this, Option.map_some, ← List.map_set]
  congr 2
  rw [List.set_append_right _ _ (Nat.le_refl _)]
  simp
section
variable {ks : List Nat} {many : Int} {ps : List (Int × Int)}
theorem notin_pull (p : Int × Int) (js : List (Int × Int)) : cmpD .notin (pE2 p) (.lst (js.map pE2)) [] = .ok (.bl (!decide (p ∈ js))) [] := ninP p js
theorem mod_at {t : Nat} {s n : Int} (h0 : 0 ≤ s) (h1 : s ≤ t) {l : Nat} (hl : 0 < l) : opD .mod (.int ((t : Int) - s)) (.int l) [] = .ok (.int (((((t : Int) - s).toNat % l : Nat)) : Int)) [] := by
  rw [modI_s _ _ [] (by omega)]
  obtain ⟨k, hk⟩ : ∃ k : Nat, (t : Int) - s = k := ⟨((t : Int) - s).toNat, by omega⟩
  rw [hk, Int.toNat_natCast, Int.fmod_eq_emod_of_nonneg _ (by omega), ← Int.natCast_emod]
theorem istold_at (L : Loop ks) (P : Pulls ks ps) (m0 : 1 ≤ many) (m1 : many ≤ 4) {u : Nat} (hu : u ≤ 600) : F_l_is_told [.tup (ks.map num), .int many, .tup (ps.map pE2), .int u] [] = .ok (.bl true) [] := by
  refine mkF_val rfl ?_
  show Meets (evB B_l_is_told [some (.tup (ks.map num)), some (.int many), some (.tup (ps.map pE2)), some (.int u), none, none, none, none, none, none, none, none, none, none, none, none, none, none] []) _
  have lr := lruns20_at L P m0 m1
  have r1 := runs_at L P m0 m1
  have i1 := idle_at L P m0 m1
  have w1 := lwait_at L P m0 m1
  have l1 := line_at (u := u) L P m0 m1 hu
  have ro := runs_ok L P m0 m1
  rw [ticks_eq m0 ro] at l1
  obtain ⟨srt, hs⟩ : ∃ srt, srt = sortP ps := ⟨_, rfl⟩
  have sp : srt.Perm ps := hs ▸ sortP_perm ps
  have sw : srt.Pairwise (fun a b => ltP b a = false) := hs ▸ sortP_pw ps
  have sn : srt.Nodup := sp.nodup_iff.mpr P.nd
  have sl : srt.length ≤ 8 := by rw [sp.length_eq]; exact P.le
  obtain ⟨rs, hrs⟩ : ∃ rs, rs = newR ks many srt (rIni ks) := ⟨_, rfl⟩
  obtain ⟨js, hjs⟩ : ∃ js, js = rejR ks many srt (rIni ks) := ⟨_, rfl⟩
  obtain ⟨as, has⟩ : ∃ as, as = accR ks many srt (rIni ks) := ⟨_, rfl⟩
  have nl : rs.length ≤ srt.length := by rw [hrs]; exact new_le srt _
  have al : as.length = rs.length := by rw [hrs, has]; exact acc_len srt _
  have jl : js.length ≤ srt.length := by rw [hjs]; exact rej_lenP srt _
  unfold waitD at w1
  rw [idle_rej, ← hs, ← hjs] at lr i1
  rw [runs_new, ← hs, ← hrs] at lr r1 l1 ro
  rw [← hs] at w1
  have wz := wait_zip (ks := ks) (many := many) srt (rIni ks)
  have wl := wait_len (ks := ks) (many := many) srt (rIni ks)
  rw [← hrs] at wl
  rw [← hrs, ← has] at wz
  obtain ⟨ws, hws⟩ : ∃ ws, ws = waitL ks many srt (rIni ks) := ⟨_, rfl⟩
  rw [← hws] at wl wz w1
  obtain ⟨tk, htk⟩ : ∃ tk, tk = ps.filter fun p => !decide (p ∈ js) := ⟨_, rfl⟩
  have tl : tk.length ≤ 8 := by rw [htk]; exact Nat.le_trans (List.length_filter_le _ _) P.le
  have ts : sortP tk = as := by
    refine sortP_uniq ?_ (by rw [has]; exact acc_pw srt _ sw)
    rw [has, ← acc_filt srt _ sn, ← hjs, htk]
    exact sp.filter _
  have tj : sortP js = js := sortP_uniq (List.Perm.refl _) (by rw [hjs]; exact rej_pw srt _ sw)
  simp_arith [B_l_is_told, lr, List.length_cons, List.length_nil]
  rw [cpM_s (p := fun p => !decide (p ∈ js)) (f := pE2) (fun p hp => ⟨_, rfl, by simp_arith [notin_pull], fun _ => by simp_arith []⟩), ← htk]
  simp_arith [mkL_s (xs := tk.map pE2) [] (by rw [List.length_map]; omega), sortPL, ts, zipL_map]
  rw [cpM_e (f := fun q : Run × (Int × Int) => .int (q.1.1 - q.2.1)) (fun q hq => ⟨_, rfl, by
    obtain ⟨⟨a, b, c⟩, ⟨d, e⟩⟩ := q
    have a0 : atI [D.int a, D.int b, D.int c] 0 = some (.int a) := rfl
    have a1 : atI [D.int d, D.int e] 0 = some (.int d) := rfl
    simp_arith [ruE, pE2, a0, a1]⟩)]
  rw [show ((rs.zip as).map fun q : Run × (Int × Int) => D.int (q.1.1 - q.2.1)) = ws.map .int by rw [← wz, List.map_map]; rfl]
  simp_arith [mkL_s (xs := ws.map D.int) [] (by rw [List.length_map]; omega)]
  rw [rngM_s [] (by omega), show ((u : Int) - 0).toNat = u by omega]
  have hval : ∀ t : Nat, ∀ l : List Run, True := fun _ _ => trivial
  refine for_pure (fun T : List Int => [some (.tup (ks.map num)), some (.int many), some (.tup (ps.map pE2)), some (.int u), some (.lst (rs.map ruE)), some (.lst (js.map pE2)), some (.lst (as.map pE2)), some (.lst (ws.map .int)), some (.lst (T.map .int)), none, none, none, none, none, none, none, none, none]) (fun T (t : Nat) => T ++ [rs.foldl (bitAt ks t) 0]) [] (by simp [leE]) (fun pre t post e => ⟨_, rfl, ?_⟩) ?_
  · have tl : pre.length ≤ 600 := by have := congrArg List.length e; simp at this; omega
    have fl : ∀ (l : List Nat) (T : List Int), (l.foldl (fun T (t : Nat) => T ++ [rs.foldl (bitAt ks t) 0]) T).length = T.length + l.length := by
      intro l
      induction l with
      | nil => intro T; rfl
      | cons a l ih => intro T; rw [List.foldl_cons, ih, List.length_append, List.length_cons]; simp; omega
    have fl := fl pre []
    generalize pre.foldl (fun T (t : Nat) => T ++ [rs.foldl (bitAt ks t) 0]) [] = T at fl
    simp only [List.length_nil] at fl
    rw [show (0 : Int) + (t : Int) = (t : Int) by omega]
    simp_arith [appD_s (.int 0) (T.map .int) (by rw [List.length_map]; omega)]
    rw [show T.map D.int ++ [.int 0] = (T ++ [0]).map .int by rw [List.map_append]; rfl]
    refine for_pure (fun v : Int => [some (.tup (ks.map num)), some (.int many), some (.tup (ps.map pE2)), some (.int u), some (.lst (rs.map ruE)), some (.lst (js.map pE2)), some (.lst (as.map pE2)), some (.lst (ws.map .int)), some (.lst ((T ++ [v]).map .int)), some (.int t), none, none, none, none, none, none, none, none]) (bitAt ks t) 0 (by simp [leE]) (fun pre2 r post2 e2 => ⟨_, rfl, ?_⟩) ?_
    · generalize pre2.foldl (bitAt ks t) 0 = v
      have hr := ro r (by rw [e2]; simp)
      obtain ⟨a, b, c⟩ := r
      obtain ⟨s0, s1, en, p0, p1⟩ := hr
      simp only at s0 s1 en p0 p1
      obtain ⟨ak, _, _⟩ := bitsof_run L p0 p1 m0 m1
      have k39 := (wdt_pos L p0 p1 m0).2
      have b8 : 0 < (bits (ks.getD c.toNat 0)).length := by
        have t : (R39.all fun k => decide (0 < (bits k).length)) = true := by decide +kernel
        exact of_decide_eq_true (List.all_eq_true.mp t _ (r39 k39))
      unfold bitAt
      simp only
      by_cases z1 : a ≤ (t : Int)
      · by_cases z2 : (t : Int) < b
        · rw [if_pos ⟨z1, z2⟩]
          have mo := mod_at (n := 0) s0 z1 b8
          have lt := Nat.mod_lt ((t : Int) - a).toNat b8
          have ib := ixL_map (bits (ks.getD c.toNat 0)) lt rfl
          simp_arith [z1, z2, ak, lbits_at20 k39, List.length_map, mo, ib, setLastP]
          exact Meets.env (by simp [leE])
        · rw [if_neg (fun z => z2 z.2)]
          simp_arith [z1, z2]
          exact Meets.env (by simp [leE])
      · rw [if_neg (fun z => z1 z.1)]
        simp_arith [z1]
        exact Meets.env (by simp [leE])
    · simp_arith []
      exact Meets.env (by simp [leE])
  · have fm : ∀ (l : List Nat) (T : List Int), l.foldl (fun T (t : Nat) => T ++ [rs.foldl (bitAt ks t) 0]) T = T ++ l.map fun t : Nat => rs.foldl (bitAt ks t) 0 := by
      intro l
      induction l with
      | nil => intro T; simp
      | cons a l ih => intro T; rw [List.foldl_cons, ih]; simp
    rw [fm, List.nil_append]
    obtain ⟨tt, htt⟩ : ∃ tt, tt = (List.range u).map fun t : Nat => rs.foldl (bitAt ks t) 0 := ⟨_, rfl⟩
    rw [← htt] at l1 ⊢
    have hne : cmpD .ne (.lst (ws.map .int)) (.lst []) [] = .ok (.bl (!ws.isEmpty)) [] := neLnil_s (fun a => rfl) _ []
    have wmax : ∀ m r, ws = m :: r → b1D .max (.lst (ws.map .int)) [] = .ok (.int (maxI m r)) [] := fun m r e => by
      rw [e]
      show maxD (.lst ((m :: r).map .int)) [] = _
      unfold maxD
      simp only [intsO_int]
      rfl
    have key : Meets (evB (.cons (.rt (.cmp .eq (.cp (.ca (Str.ofString "_law_told") F_l_told_4 (.cons (.var 17) (.cons (.var 0) (.cons (.var 1) (.cons (.var 2) (.cons (.var 3) .nil)))))) (.one 17) (.r1 (.cI 4)) .none [17]) (.var 14))) .nil) [some (.tup (ks.map num)), some (.int many), some (.tup (ps.map pE2)), some (.int u), some (.lst (rs.map ruE)), some (.lst (js.map pE2)), some (.lst (as.map pE2)), some (.lst (ws.map .int)), some (.lst (tt.map .int)), none, none, none, none, none, some (.lst [.lst (rs.map ruE), .lst (js.map pE2), mxD ws, .tup (tt.map .int)]), none, none, none] []) (.val (.bl true) []) := by
      simp_arith []
      rw [rngM_s [] (by omega), show ((4 : Int) - 0).toNat = 4 from rfl]
      have tel : ∀ w : Nat, w < 4 → tF w (.tup (ks.map num)) (.int many) (.tup (ps.map pE2)) (.int u) [] = .ok (([.lst (rs.map ruE), .lst (js.map pE2), mxD ws, .tup (tt.map .int)] : List D).getD w .non) [] := fun w hw => by
        rcases w with _ | _ | _ | _ | w
        · exact r1
        · exact i1
        · exact w1
        · exact l1
        · omega
      simp_arith []
      rw [cpM_e (f := fun w : Nat => ([.lst (rs.map ruE), .lst (js.map pE2), mxD ws, .tup (tt.map .int)] : List D).getD w .non) (fun w hw => ⟨_, rfl, by
        rw [show (0 : Int) + (w : Int) = (w : Int) by omega]
        have hw4 : w < 4 := List.mem_range.mp hw
        simp_arith [told_okP hw4 (tel w hw4)]⟩)]
      rw [show ((List.range 4).map fun w : Nat => ([.lst (rs.map ruE), .lst (js.map pE2), mxD ws, .tup (tt.map .int)] : List D).getD w .non) = [.lst (rs.map ruE), .lst (js.map pE2), mxD ws, .tup (tt.map .int)] from rfl]
      have s1 : shL 50 (rs.map ruE) = true := ruE_ge.shL rs
      have s2 : shL 50 (js.map pE2) = true := pE2_ge.shL js
      have s3 : ∀ n, sh n (mxD ws) = true := fun n => by cases ws <;> simp [mxD, sh]
      have s4 : shL 50 (tt.map .int) = true := (GE.int.up (by decide)).shL tt
      have sa : sh 60 (.lst [.lst (rs.map ruE), .lst (js.map pE2), mxD ws, .tup (tt.map .int)]) = true := by
        have q1 := shL_mono (m := 58) _ (by decide) s1
        have q2 := shL_mono (m := 58) _ (by decide) s2
        have q4 := shL_mono (m := 58) _ (by decide) s4
        simp only [sh, shL, s3, q1, q2, q4, Bool.and_true]
      simp_arith [eqS_s _ _ sa]
      exact Meets.val
    cases hw : ws with
    | nil =>
      rw [hw] at hne key
      simp_arith [hne, List.isEmpty_nil, sortPL, tj]
      exact key
    | cons m r =>
      have wm := wmax m r hw
      rw [hw] at hne wm key
      have ie : (m :: r).isEmpty = false := rfl
      simp_arith [hne, ie, wm, sortPL, tj]
      exact key
end
end BX.Q

set_option Elab.async false
set_option linter.all false
set_option maxRecDepth 100000
set_option maxHeartbeats 0
/-! KP5: what is refused (k20). -/
namespace BX.Q
open PySem
local macro_rules | `(tactic| simp_arith [$as,*]) => `(tactic| simp -implicitDefEqProofs only [↓x_var, ↓x_cI, ↓x_cB, ↓x_cN, ↓x_cS, ↓x_gl, ↓x_bin, ↓x_neg, ↓x_no, ↓x_an, ↓x_orr, ↓x_cmp, ↓x_chn, ↓x_ife, ↓x_ix, ↓x_sl, ↓x_rv, ↓x_li, ↓x_tu, ↓x_cp, ↓x_ca, ↓x_b1, ↓x_b2, ↓x_mt, ↓x_isi, ↓x_at, ↓x_me, ↓x_mk, ↓x_lr, ↓y_an, ↓y_orr, ↓y_no, ↓y_cmp, ↓y_chn, ↓y_var, ↓y_cB, ↓y_ca, ↓y_b1, ↓y_isi, ↓y_me, ↓z_an0, ↓z_an, ↓z_or0, ↓z_or, ↓w_an1, ↓w_an, ↓w_or1, ↓w_or, ↓l_nil, ↓l_cons, ↓q_none, ↓q_some, ↓c_none, ↓c_some, ↓i_e, ↓i_r1, ↓i_r2, ↓i_en, ↓i_zp, ↓b_nil, ↓b_cons, ↓s_a, ↓s_m, ↓s_mv, ↓s_ap, ↓s_ext, ↓s_rm, ↓s_ixs, ↓s_e, ↓s_iff, ↓s_fr, ↓s_frm, ↓s_wh, ↓s_rt, ↓s_rn, ↓s_ps, ↓s_rs, ↓s_tr, ↓s_sa, k2_s, neg_s, notM_s, notB_s, chM_s, kSl2_s, kSl_s, kCp_s, kC_s, kL_s, kQ_s, kR1_s, kR2_s, kEnL_s, kEnT_s, kMt_s, kMtT_s, kMi_s, kMiT_s, kMe_s, kMe2_s, kMe3_s, aO_s, asg_s, mMl_s, mMb_s, kMv_s, kAp_s, kAp2_s, kXt_s, kXt2_s, kRm_s, kRm2_s, kIx_s, kIx2_s, kIx3_s, kE_s, kRt_s, kFr_s, kSa3_s, kSa2_s, kSa_s, Rif_t, Rif_f, Rif_x, mkL_0, mkL_1, mkL_2, mkL_3, mkL_4, mkL_5, mkL_6, mkT_0, mkT_1, mkT_2, mkT_3, mkT_4, mkT_5, mkT_6, thenB_nx, thenB_rt, thenB_ct, Rb_ok, Rb_ex, ret_s, exc_s, Rn_ok, gO_s, lO_s, cO_e, sO_s, ofO_some, asB_s, asI_s, addI_s, subI_s, ltI_s, leI_s, gtI_s, geI_s, eqI_s, neI_s, isN_s, nisN_s, isNon_non, isNon_int, isNon_tup, Rt_ok, Rt_ex, hO_s, lenL_s, lenT_s, lenS_s, intB_s, tupL_s, tupT_s, lstL_s, lstT_s, sumL_s, sumT_s, allL_s, max2_s, min2_s, slL_s, slT_s, slS_s, rvL_s, rvT_s, ixL_e, ixT_e, itsL_s, itsT_s, seqL_s, seqT_s, seq2L_s, seq2T_s, isiT_s, isiL_s, isiI_s, noObj_tup, noObj_int, noObj_lst, isTy_tt, isTy_ii, isTy_bi, isTy_lt, isTy_ll, isTy_tl, List.any_cons, List.any_nil, Bool.or_false, Bool.false_or, Bool.or_true, Bool.true_or, List.getElem?_cons_zero, List.getElem?_cons_succ, List.set_cons_zero, List.set_cons_succ, stT, setAll, wipeE, Bool.not_true, Bool.not_false, decide_true, decide_false, Bool.false_eq_true, eq_self_iff_true, reduceIte, $as,*])
section
variable {ks : List Nat}
theorem count_one {xs : List Nat} (hn : xs.Nodup) (h : ∀ k ∈ xs, k < 43) {x : Nat} (hx : x ∈ xs) : countD (.tup (xs.map num)) (num x) [] = .ok (.int 1) [] := by
  have hs : sh 60 (num x) = true ∧ shL 60 (xs.map num) = true := by
    refine ⟨num_sh _ _, ?_⟩
    have : ∀ ys : List Nat, shL 60 (ys.map num) = true := fun ys => by
      induction ys with
      | nil => rfl
      | cons y ys ih => simp only [List.map_cons, shL, ih, Bool.and_true]; exact num_sh _ _
    exact this xs
  have hc : ∀ ys : List Nat, ys.Nodup → (∀ k ∈ ys, k < 43) → x < 43 → (ys.map num).countP (fun z => eqD z (num x)) = if x ∈ ys then 1 else 0 := fun ys => by
    induction ys with
    | nil => intro _ _ _; rfl
    | cons y ys ih =>
      intro nd hl hx
      obtain ⟨n1, n2⟩ := List.nodup_cons.mp nd
      rw [List.map_cons, List.countP_cons, ih n2 (fun k hk => hl k (List.mem_cons_of_mem _ hk)) hx, num_eq43 (hl y List.mem_cons_self) hx]
      by_cases c : y = x
      · subst c
        simp [n1]
      · have c' : ¬ x = y := fun z => c z.symm
        by_cases d : x ∈ ys <;> simp [c, c', d]
  show (if sh 60 (num x) && shL 60 (xs.map num) then ret (.int ((xs.map num).countP fun z => eqD z (num x) : Nat)) else bad : M D) [] = _
  rw [hs.1, hs.2, hc xs hn h (h x hx), if_pos hx]
  rfl
theorem t_dig : (R39.all fun k => (dig k).all (fun i => decide (1 ≤ i) && decide (i ≤ 6)) && decide (1 ≤ (dig k).length) && decide ((dig k).length ≤ 3)) = true := by decide +kernel
theorem dig_ok {k : Nat} (h : k < 39) : (∀ i ∈ dig k, 1 ≤ i ∧ i ≤ 6) ∧ 1 ≤ (dig k).length ∧ (dig k).length ≤ 3 := by
  have := List.all_eq_true.mp t_dig k (r39 h)
  simp only [Bool.and_eq_true, decide_eq_true_eq, List.all_eq_true] at this
  exact ⟨fun i hi => this.1.1 i hi, this.1.2, this.2⟩
theorem lisloop_at (L : Loop ks) : F_l_is_loop [.tup (ks.map num)] [] = .ok (.bl true) [] := by
  refine mkF_val rfl ?_
  show Meets (evB B_l_is_loop [some (.tup (ks.map num)), none, none] []) _
  have h1 := L.ge
  have h2 := L.le
  have g1 : (1 : Int) ≤ (ks.length : Int) := by omega
  have g2 : (ks.length : Int) ≤ 6 := by omega
  simp_arith [B_l_is_loop, List.length_map, g1, g2]
  refine for_each [some (.tup (ks.map num)), none, none] (by simp [leE]) (fun k hk => ⟨_, rfl, ?_⟩) ?_
  · obtain ⟨d1, d2, d3⟩ := dig_ok (L.lt k hk)
    have e1 : (1 : Int) ≤ ((dig k).length : Int) := by omega
    have e2 : ((dig k).length : Int) ≤ 3 := by omega
    have c1 := count_one L.nd L.l43 hk
    rw [show num k = .tup ((dig k).map .int) from rfl] at c1 ⊢
    simp_arith [List.length_map, e1, e2, c1, show ¬ (1 : Int) < 1 by omega]
    refine for_each [some (.tup (ks.map num)), none, none] (by simp [leE]) (fun i hi => ⟨_, rfl, ?_⟩) ?_
    · obtain ⟨i1, i2⟩ := d1 i hi
      simp_arith [i1, i2]
      exact Meets.env (by simp [leE])
    · simp_arith []
      exact Meets.env (by simp [leE])
  · simp_arith []
    exact Meets.val
theorem lisloop_no {d : D} (h : isTy .tuple d = false) (ho : noObj d = true) : F_l_is_loop [d] [] = .ok (.bl false) [] ∧ F_is_loop [d] [] = .ok (.bl false) [] := by
  have hi : isiM [.tuple] d [] = .ok (.bl false) [] := by
    show (if noObj d then R.ok (D.bl (([.tuple] : List Ty).any fun t => isTy t d)) [] else R.bad) = _
    rw [ho]
    simp [h]
  constructor
  · refine mkF_val rfl ?_
    show Meets (evB B_l_is_loop [some d, none, none] []) _
    simp_arith [B_l_is_loop, hi]
    exact Meets.val
  · refine mkF_val rfl ?_
    show Meets (evB B_is_loop [some d, none] []) _
    simp_arith [B_is_loop, hi]
    exact Meets.val
theorem lisloop_long {xs : List D} (h : 7 ≤ xs.length) : F_l_is_loop [.tup xs] [] = .ok (.bl false) [] ∧ F_is_loop [.tup xs] [] = .ok (.bl false) [] := by
  have g1 : (1 : Int) ≤ (xs.length : Int) := by omega
  have g2 : ¬ (xs.length : Int) ≤ 6 := by omega
  constructor
  · refine mkF_val rfl ?_
    show Meets (evB B_l_is_loop [some (.tup xs), none, none] []) _
    simp_arith [B_l_is_loop, g1, g2]
    exact Meets.val
  · refine mkF_val rfl ?_
    show Meets (evB B_is_loop [some (.tup xs), none] []) _
    simp_arith [B_is_loop, g1, g2]
    exact Meets.val
theorem runs_noloop {a b c : D} (h : F_is_loop [a] [] = .ok (.bl false) []) : F_runs [a, b, c] [] = .ex .loop [] := by
  have h1 : F_need_loop [a] [] = .ex .loop [] := by
    refine mkF_exc rfl ?_
    show Meets (evB B_need_loop [some a] []) _
    simp_arith [B_need_loop, h]
    exact Meets.exc
  refine mkF_exc rfl ?_
  show Meets (evB B_runs [some a, some b, some c] []) _
  simp_arith [B_runs, h1]
  exact Meets.exc
def odds : List D := [.int 0, .int 5, .non, .bl true, .str [49]]
theorem runs_nomany (L : Loop ks) {d c : D} (hd : d ∈ odds) : F_runs [.tup (ks.map num), d, c] [] = .ex .count [] := by
  have h0 : F_is_count [d, .int 1, .int 4] [] = .ok (.bl false) [] := by
    simp only [odds, List.mem_cons, List.not_mem_nil, or_false] at hd
    rcases hd with rfl | rfl | rfl | rfl | rfl
    · rw [count_at]; rfl
    · rw [count_at]; rfl
    · rfl
    · rfl
    · rfl
  have h1 : F_need_rounds [d] [] = .ex .count [] := by
    refine mkF_exc rfl ?_
    show Meets (evB B_need_rounds [some d] []) _
    simp_arith [B_need_rounds, h0]
    exact Meets.exc
  refine mkF_exc rfl ?_
  show Meets (evB B_runs [some (.tup (ks.map num)), some d, some c] []) _
  simp_arith [B_runs, needloop_at L, h1]
  exact Meets.exc
theorem runs_nopull (L : Loop ks) {many : Int} (m0 : 1 ≤ many) (m1 : many ≤ 4) {d : D} (h : F_need_pulls [.tup (ks.map num), d] [] = .ex .pull []) : F_runs [.tup (ks.map num), .int many, d] [] = .ex .pull [] := by
  refine mkF_exc rfl ?_
  show Meets (evB B_runs [some (.tup (ks.map num)), some (.int many), some d] []) _
  simp_arith [B_runs, needloop_at L, needrounds_at m0 m1, h]
  exact Meets.exc
theorem np_one {d : D} (h : F_is_pull [.tup (ks.map num), d] [] = .ok (.bl false) []) : F_need_pulls [.tup (ks.map num), .tup [d]] [] = .ex .pull [] := by
  refine mkF_exc rfl ?_
  show Meets (evB B_need_pulls [some (.tup (ks.map num)), some (.tup [d]), none] []) _
  simp_arith [B_need_pulls, show decide ((8 : Int) < (([d] : List D).length : Int)) = false from rfl]
  rw [show ([d] : List D) = [()].map (fun _ => d) from rfl, cpM_e (f := fun _ : Unit => .bl false) (fun q hq => ⟨_, rfl, by simp_arith [h]⟩)]
  rw [show (([()] : List Unit).map fun _ => D.bl false) = [false].map .bl from rfl]
  simp_arith [mkL_s (xs := [false].map D.bl) [] (by simp), show [false].all id = false from rfl]
  exact Meets.exc
def pulD (a b : Int) : D := .tup [.int a, .int b]
def badsP (n : Nat) : List D := [.non, .lst [pulD 5 0], .tup [pulD 5 0, pulD 5 0], .tup [pulD 301 0], .tup [pulD (-1) 0], .tup [pulD 0 n], .tup [pulD 0 (-1)], .tup [.tup [.bl true, .int 0]], .tup [.tup [.int 0]], .tup [.non], .tup ((List.range 9).map fun k : Nat => pulD k 0)]
theorem np_bads (L : Loop ks) {d : D} (hd : d ∈ badsP ks.length) : F_need_pulls [.tup (ks.map num), d] [] = .ex .pull [] := by
  have hn := L.le
  have hg := L.ge
  have bad : ∀ a b : Int, ¬ (0 ≤ a ∧ a ≤ 300 ∧ 0 ≤ b ∧ b ≤ (ks.length : Int) - 1) → F_need_pulls [.tup (ks.map num), .tup [pulD a b]] [] = .ex .pull [] := fun a b hp => by
    refine np_one ?_
    have h := ispull_at (ks := ks) (p := (a, b))
    have : (decide (0 ≤ a) && decide (a ≤ 300) && (decide (0 ≤ b) && decide (b ≤ (ks.length : Int) - 1))) = false := by
      rw [Bool.eq_false_iff]
      intro w
      simp only [Bool.and_eq_true, decide_eq_true_eq] at w
      exact hp ⟨w.1.1, w.1.2, w.2⟩
    simp only at h
    rw [this] at h
    exact h
  simp only [badsP, List.mem_cons, List.not_mem_nil, or_false] at hd
  rcases hd with rfl | rfl | rfl | rfl | rfl | rfl | rfl | rfl | rfl | rfl | rfl
  · refine mkF_exc rfl ?_
    show Meets (evB B_need_pulls [some (.tup (ks.map num)), some .non, none] []) _
    simp_arith [B_need_pulls, show isiM [.tuple] .non [] = .ok (.bl false) [] from rfl]
    exact Meets.exc
  · refine mkF_exc rfl ?_
    show Meets (evB B_need_pulls [some (.tup (ks.map num)), some (.lst [pulD 5 0]), none] []) _
    simp_arith [B_need_pulls]
    exact Meets.exc
  · refine mkF_exc rfl ?_
    show Meets (evB B_need_pulls [some (.tup (ks.map num)), some (.tup ([(5, 0), (5, 0)].map pE2)), none] []) _
    simp_arith [B_need_pulls, show decide ((8 : Int) < (([((5 : Int), (0 : Int)), (5, 0)].map pE2).length : Int)) = false from rfl]
    rw [cpM_e (f := fun _ : Int × Int => .bl true) (fun q hq => ⟨_, rfl, by
      have e : q = (5, 0) := by simpa using hq
      subst e
      have g : (0 : Int) ≤ (ks.length : Int) - 1 := by omega
      simp_arith [ispull_at, decide_eq_true g, show decide ((0 : Int) ≤ 5) = true from rfl, show decide ((5 : Int) ≤ 300) = true from rfl, show decide ((0 : Int) ≤ 0) = true from rfl, Bool.and_true]⟩)]
    rw [show (([((5 : Int), (0 : Int)), (5, 0)] : List (Int × Int)).map fun _ => D.bl true) = [true, true].map .bl from rfl]
    simp_arith [mkL_s (xs := [true, true].map D.bl) [] (by simp), show [true, true].all id = true from rfl, show b1D .lenSet (.tup ([((5 : Int), (0 : Int)), (5, 0)].map pE2)) [] = .ok (.int 1) [] from rfl, show (([((5 : Int), (0 : Int)), (5, 0)].map pE2).length : Int) = 2 from rfl, neI_s, show decide ((1 : Int) = 2) = false from rfl]
    exact Meets.exc
  · exact bad 301 0 (by omega)
  · exact bad (-1) 0 (by omega)
  · exact bad 0 ks.length (by omega)
  · exact bad 0 (-1) (by omega)
  · refine np_one ?_
    refine mkF_val rfl ?_
    show Meets (evB B_is_pull [some (.tup (ks.map num)), some (.tup [.bl true, .int 0])] []) _
    simp_arith [B_is_pull, List.length_cons, List.length_nil, show decide ((((0 + 1 + 1 : Nat)) : Int) = 2) = true from rfl, show atI [D.bl true, D.int 0] 0 = some (.bl true) from rfl, show F_is_count [.bl true, .int 0, .int 300] [] = .ok (.bl false) [] from rfl]
    exact Meets.val
  · refine np_one ?_
    refine mkF_val rfl ?_
    show Meets (evB B_is_pull [some (.tup (ks.map num)), some (.tup [.int 0])] []) _
    simp_arith [B_is_pull, List.length_cons, List.length_nil, neI_s, show decide ((((0 + 1 : Nat)) : Int) = 2) = false from rfl]
    exact Meets.val
  · refine np_one ?_
    refine mkF_val rfl ?_
    show Meets (evB B_is_pull [some (.tup (ks.map num)), some .non] []) _
    simp_arith [B_is_pull, show isiM [.tuple] .non [] = .ok (.bl false) [] from rfl]
    exact Meets.val
  · refine mkF_exc rfl ?_
    show Meets (evB B_need_pulls [some (.tup (ks.map num)), some (.tup ((List.range 9).map fun k : Nat => pulD k 0)), none] []) _
    simp_arith [B_need_pulls, List.length_map, List.length_range, show decide ((8 : Int) < ((9 : Nat) : Int)) = true from rfl]
    exact Meets.exc
def odds4 : List D := [.int (-1), .int 601, .non, .bl true]
theorem line_bad (L : Loop ks) {d : D} (hd : d ∈ odds4) : F_line [.tup (ks.map num), .int 1, .tup [pulD 5 0], d] [] = .ex .count [] := by
  have hg := L.ge
  have P : Pulls ks [((5 : Int), (0 : Int))] := ⟨by simp, by simp, fun p hp => by rw [List.mem_singleton.mp hp]; simp only; omega⟩
  have r1 := runs_at (many := 1) L P (by omega) (by omega)
  have h0 : F_is_count [d, .int 0, .int 600] [] = .ok (.bl false) [] := by
    simp only [odds4, List.mem_cons, List.not_mem_nil, or_false] at hd
    rcases hd with rfl | rfl | rfl | rfl
    · rw [count_at]; rfl
    · rw [count_at]; rfl
    · rfl
    · rfl
  refine mkF_exc rfl ?_
  show Meets (evB B_line [some (.tup (ks.map num)), some (.int 1), some (.tup ([((5 : Int), (0 : Int))].map pE2)), some d, none, none, none, none, none, none, none] []) _
  simp_arith [B_line, r1, mulI_s 300 2 _ (by decide), show (300 : Int) * 2 = 600 from rfl, h0]
  exact Meets.exc
end
end BX.Q

set_option Elab.async false
set_option linter.all false
set_option maxRecDepth 100000
set_option maxHeartbeats 0
/-! K20P: the plain law k20. -/
namespace BX.Q
open PySem
local macro_rules | `(tactic| simp_arith [$as,*]) => `(tactic| simp -implicitDefEqProofs only [↓x_var, ↓x_cI, ↓x_cB, ↓x_cN, ↓x_cS, ↓x_gl, ↓x_bin, ↓x_neg, ↓x_no, ↓x_an, ↓x_orr, ↓x_cmp, ↓x_chn, ↓x_ife, ↓x_ix, ↓x_sl, ↓x_rv, ↓x_li, ↓x_tu, ↓x_cp, ↓x_ca, ↓x_b1, ↓x_b2, ↓x_mt, ↓x_isi, ↓x_at, ↓x_me, ↓x_mk, ↓x_lr, ↓y_an, ↓y_orr, ↓y_no, ↓y_cmp, ↓y_chn, ↓y_var, ↓y_cB, ↓y_ca, ↓y_b1, ↓y_isi, ↓y_me, ↓z_an0, ↓z_an, ↓z_or0, ↓z_or, ↓w_an1, ↓w_an, ↓w_or1, ↓w_or, ↓l_nil, ↓l_cons, ↓q_none, ↓q_some, ↓c_none, ↓c_some, ↓i_e, ↓i_r1, ↓i_r2, ↓i_en, ↓i_zp, ↓b_nil, ↓b_cons, ↓s_a, ↓s_m, ↓s_mv, ↓s_ap, ↓s_ext, ↓s_rm, ↓s_ixs, ↓s_e, ↓s_iff, ↓s_fr, ↓s_frm, ↓s_wh, ↓s_rt, ↓s_rn, ↓s_ps, ↓s_rs, ↓s_tr, ↓s_sa, k2_s, neg_s, notM_s, notB_s, chM_s, kSl2_s, kSl_s, kCp_s, kC_s, kL_s, kQ_s, kR1_s, kR2_s, kEnL_s, kEnT_s, kMt_s, kMtT_s, kMi_s, kMiT_s, kMe_s, kMe2_s, kMe3_s, aO_s, asg_s, mMl_s, mMb_s, kMv_s, kAp_s, kAp2_s, kXt_s, kXt2_s, kRm_s, kRm2_s, kIx_s, kIx2_s, kIx3_s, kE_s, kRt_s, kFr_s, kSa3_s, kSa2_s, kSa_s, Rif_t, Rif_f, Rif_x, mkL_0, mkL_1, mkL_2, mkL_3, mkL_4, mkL_5, mkL_6, mkT_0, mkT_1, mkT_2, mkT_3, mkT_4, mkT_5, mkT_6, thenB_nx, thenB_rt, thenB_ct, Rb_ok, Rb_ex, ret_s, exc_s, Rn_ok, gO_s, lO_s, cO_e, sO_s, ofO_some, asB_s, asI_s, addI_s, subI_s, ltI_s, leI_s, gtI_s, geI_s, eqI_s, neI_s, isN_s, nisN_s, isNon_non, isNon_int, isNon_tup, Rt_ok, Rt_ex, hO_s, lenL_s, lenT_s, lenS_s, intB_s, tupL_s, tupT_s, lstL_s, lstT_s, sumL_s, sumT_s, allL_s, max2_s, min2_s, slL_s, slT_s, slS_s, rvL_s, rvT_s, ixL_e, ixT_e, itsL_s, itsT_s, seqL_s, seqT_s, seq2L_s, seq2T_s, isiT_s, isiL_s, isiI_s, noObj_tup, noObj_int, noObj_lst, isTy_tt, isTy_ii, isTy_bi, isTy_lt, isTy_ll, isTy_tl, List.any_cons, List.any_nil, Bool.or_false, Bool.false_or, Bool.or_true, Bool.true_or, List.getElem?_cons_zero, List.getElem?_cons_succ, List.set_cons_zero, List.set_cons_succ, stT, setAll, wipeE, Bool.not_true, Bool.not_false, decide_true, decide_false, Bool.false_eq_true, eq_self_iff_true, reduceIte, $as,*])
def knD : D := .tup [.tup [.int 2, .int 1], .tup [.int 1]]
theorem kn_num : knD = .tup (([14, 0] : List Nat).map num) := rfl
theorem kn_loop : Loop [14, 0] := ⟨by decide, by decide, by decide, by decide⟩
theorem isk {ps : List (Int × Int)} (P : Pulls [14, 0] ps) {u : Nat} (hu : u ≤ 600) : F_l_is_told [knD, .int 1, .tup (ps.map pE2), .int u] [] = .ok (.bl true) [] := by
  rw [kn_num]
  exact istold_at kn_loop P (by omega) (by omega) hu
def ps8 : List (Int × Int) := (List.range 8).map fun k : Nat => (30 * (((k / 2 : Nat)) : Int), (((k % 2 : Nat)) : Int))
def rows20 : List (List (Int × Int)) := [[(5, 1), (5, 0), (0, 1), (40, 0)], [], [(300, 0), (300, 1)], [(0, 0), (13, 0), (14, 0), (27, 0), (28, 0)]]
def pokB (ps : List (Int × Int)) : Bool := decide ps.Nodup && decide (ps.length ≤ 8) && ps.all fun p => decide (0 ≤ p.1) && decide (p.1 ≤ 300) && decide (0 ≤ p.2) && decide (p.2 < 2)
theorem pok {ps : List (Int × Int)} (h : pokB ps = true) : Pulls [14, 0] ps := by
  unfold pokB at h
  simp only [Bool.and_eq_true, decide_eq_true_eq, List.all_eq_true] at h
  exact ⟨h.1.1, h.1.2, fun p hp => by have := h.2 p hp; exact ⟨this.1.1.1, this.1.1.2, this.1.2, this.2⟩⟩
theorem t_line0 : F_line [knD, .int 1, .tup [], .int 600] [] = .ok (.tup (List.replicate 600 (.int 0))) [] := by
  have := line_at (u := 600) kn_loop (pok (ps := []) (by decide)) (many := 1) (by omega) (by omega) (by omega)
  rw [kn_num]
  have e : ticksP [14, 0] 1 600 (runsP [14, 0] 1 []) = List.replicate 600 0 := rfl
  rw [e, List.map_replicate] at this
  exact this
def eachC : List D := match F_l_each 30 [knD] [] with
  | .ok (.lst xs) _ => xs
  | _ => []
theorem each_at : F_l_each 30 [knD] [] = .ok (.lst eachC) [] := isV_eq (by decide +kernel)
def thC : List D := [.tup [], .non, .tup [.tup [.int 1], .tup [.int 1]], knD, .tup [.tup [.int 2, .int 1], .tup [.int 1], .tup [.int 3], .tup [.int 3]], .tup ((List.range 6).map fun k : Nat => .tup [.int ((k : Int) + 1)]), .tup ((List.range 7).map fun k : Nat => .tup [.int (((k / 6 : Nat) : Int) + 1), .int (((k % 6 : Nat) : Int) + 1)])] ++ eachC
def bodyTh : SL := (.cons (.a (.one 8) (.ca (Str.ofString "_law_is_loop") F_l_is_loop (.cons (.var 7) .nil)))
      (.cons (.iff (.orr (.cons (.cmp .ne (.ca (Str.ofString "is_loop") F_is_loop (.cons (.var 7) .nil)) (.var 8)) (.cons (.no (.isi (.ca (Str.ofString "is_loop") F_is_loop (.cons (.var 7) .nil)) [.bool])) .nil))) (.cons (.rt (.cB false)) .nil) .nil)
      (.cons (.iff (.an (.cons (.no (.var 8)) (.cons (.cmp .ne (.cp (.ca (Str.ofString "_law_told") F_l_told_4 (.cons (.var 14) (.cons (.var 7) (.cons (.cI 0) (.cons .cN (.cons .cN .nil)))))) (.one 14) (.r1 (.cI 4)) .none [14]) (.bin .mul (.li (.cons (.tu (.cons (.cS [114, 101, 102, 117, 115, 101, 100]) (.cons (.cI 3) .nil))) .nil)) (.cI 4))) .nil))) (.cons (.rt (.cB false)) .nil) .nil) .nil)))
def e7 (d : D) : Env := [none, none, none, none, none, none, none, some d, none, none, none, none, none, none, none]
theorem t_things : (thC.all fun d => okNx (evB bodyTh (e7 d) [])) = true := by decide +kernel
theorem mkLx (xs : List D) (s : Sto) (h : xs.length ≤ 1000) : mkL xs s = .ok (.lst xs) s := mkL_s s (by omega)
theorem neRf (i : Int) (n : Nat) (hn : n ≤ 100) : cmpD .ne (.lst (List.replicate n (rf20 i))) (.lst (List.replicate n (rf20 i))) [] = .ok (.bl false) [] := by
  refine neS_s _ _ ?_
  have : ∀ n : Nat, shL 59 (List.replicate n (rf20 i)) = true := fun n => by
    induction n with
    | zero => rfl
    | succ n ih => rw [List.replicate_succ]; simp only [shL, ih, Bool.and_true]; rfl
  exact this n
theorem eqRf (i : Int) (n : Nat) (hn : n ≤ 100) : cmpD .eq (.lst (List.replicate n (rf20 i))) (.lst (List.replicate n (rf20 i))) [] = .ok (.bl true) [] := by
  refine eqS_s _ _ ?_
  have : ∀ n : Nat, shL 59 (List.replicate n (rf20 i)) = true := fun n => by
    induction n with
    | zero => rfl
    | succ n ih => rw [List.replicate_succ]; simp only [shL, ih, Bool.and_true]; rfl
  exact this n
theorem plain : ∀ ns : List Int, ns.length ≤ 63 → ∃ s, F_law_k20 [.scr ns] [] = .ok (.bl true) s := by
  intro ns hl
  refine ⟨[], mkF_val rfl ?_⟩
  show Meets (evB B_law_k20 [some (.scr ns), none, none, none, none, none, none, none, none, none, none, none, none, none, none] []) _
  obtain ⟨ks, l1, l2, l3, l4, l5⟩ := loop_ok (ns := ns) (at_ := 0) hl
  have L : Loop ks := ⟨l2, l3, l4, l5⟩
  obtain ⟨ps, p1, p2, p3, p4⟩ := pulls_ok (ns := ns) (at_ := 30) (most := 6) (ks := ks) hl (by decide) (by decide) l4
  have p4 : ps.length ≤ 6 := p4
  obtain ⟨d1, d2, d3⟩ := drw_ok (ns := ns) (k := 20) (m := 2) hl (by decide)
  obtain ⟨u1, u2, u3⟩ := drw_ok (ns := ns) (k := 21) (m := 120) hl (by decide)
  generalize drw ns 20 2 = dm at d1 d2 d3
  generalize drw ns 21 120 = u at u1 u2 u3
  obtain ⟨u, rfl⟩ : ∃ v : Nat, u = (v : Int) := ⟨u.toNat, by omega⟩
  obtain ⟨many, hm⟩ : ∃ many : Int, 1 + dm = many := ⟨_, rfl⟩
  have m0 : 1 ≤ many := by omega
  have m1 : many ≤ 2 := by omega
  have pk : ∀ p ∈ ps, 0 ≤ p.1 ∧ p.1 < 130 ∧ 0 ≤ p.2 ∧ p.2 < ks.length := p3
  have P : Pulls ks ps := ⟨p2, by omega, fun p hp => by have := pk p hp; omega⟩
  simp_arith [B_law_k20, l1, d1, hm, p1, u1, istold_at L P m0 (by omega : many ≤ 4) (by omega : u ≤ 600)]
  rw [show (D.tup [.tup [.int 2, .int 1], .tup [.int 1]]) = knD from rfl]
  have k1 : F_l_is_told [knD, .int 1, .tup [.tup [.int 5, .int 1], .tup [.int 5, .int 0], .tup [.int 0, .int 1], .tup [.int 40, .int 0]], .int 60] [] = .ok (.bl true) [] := isk (ps := [(5, 1), (5, 0), (0, 1), (40, 0)]) (pok (by decide)) (u := 60) (by omega)
  have k2 : F_l_is_told [knD, .int 1, .tup [], .int 60] [] = .ok (.bl true) [] := isk (ps := []) (pok (by decide)) (u := 60) (by omega)
  have k3 : F_l_is_told [knD, .int 1, .tup [.tup [.int 300, .int 0], .tup [.int 300, .int 1]], .int 60] [] = .ok (.bl true) [] := isk (ps := [(300, 0), (300, 1)]) (pok (by decide)) (u := 60) (by omega)
  have k4 : F_l_is_told [knD, .int 1, .tup [.tup [.int 0, .int 0], .tup [.int 13, .int 0], .tup [.int 14, .int 0], .tup [.int 27, .int 0], .tup [.int 28, .int 0]], .int 60] [] = .ok (.bl true) [] := isk (ps := [(0, 0), (13, 0), (14, 0), (27, 0), (28, 0)]) (pok (by decide)) (u := 60) (by omega)
  rw [addL_s _ _ _ (by simp)]
  simp_arith []
  refine for_eachD [some (.scr ns), some (.tup (ks.map num)), some (.int many), some knD, none, none, none, none, none, none, none, none, none, none, none] (by simp [leE]) (fun a ha => ⟨_, rfl, ?_⟩) ?_
  · simp only [List.cons_append, List.nil_append, List.mem_cons, List.not_mem_nil, or_false] at ha
    rcases ha with rfl | rfl | rfl | rfl
    · simp_arith [k1]
      exact Meets.env (by simp [leE])
    · simp_arith [k2]
      exact Meets.env (by simp [leE])
    · simp_arith [k3]
      exact Meets.env (by simp [leE])
    · simp_arith [k4]
      exact Meets.env (by simp [leE])
  simp_arith []
  rw [rngM_s [] (by omega), show ((8 : Int) - 0).toNat = 8 from rfl]
  simp_arith []
  rw [cpM_e (f := fun k : Nat => pE2 (30 * (((k / 2 : Nat)) : Int), (((k % 2 : Nat)) : Int))) (fun k hk => ⟨_, rfl, by
    have f1 : Int.fdiv (0 + (k : Int)) 2 = ((k / 2 : Nat) : Int) := by rw [Int.zero_add, Int.fdiv_eq_ediv_of_nonneg _ (by omega)]; omega
    have f2 : Int.fmod (0 + (k : Int)) 2 = ((k % 2 : Nat) : Int) := by rw [Int.zero_add, Int.fmod_eq_emod_of_nonneg _ (by omega)]; omega
    have f3 := mulI_s 30 ((k / 2 : Nat) : Int) [] (by have := List.mem_range.mp hk; omega)
    simp_arith [fdivI_s _ _ _ (show (2 : Int) ≠ 0 by decide) (show (2 : Int).natAbs < 1073741824 by decide), modI_s _ _ _ (show (2 : Int) ≠ 0 by decide), f1, f2, f3]
    rfl⟩)]
  have k5 : F_l_is_told [knD, .int 1, .tup ((List.range 8).map fun k : Nat => pE2 (30 * (((k / 2 : Nat)) : Int), (((k % 2 : Nat)) : Int))), .int 9] [] = .ok (.bl true) [] := isk (ps := ps8) (pok (by decide)) (u := 9) (by omega)
  have k6 : F_l_told_4 [.int 3, knD, .int 1, .tup [], .int 600] [] = .ok (.tup (List.replicate 600 (.int 0))) [] := told_okP (w := 3) (by decide) t_line0
  have k7 : opD .mul (.tup [.int 0]) (.int 600) [] = .ok (.tup (List.replicate 600 (.int 0))) [] := by
    rw [mulT_s _ _ _ (by simp), rep_one]; rfl
  have k8 : cmpD .ne (.tup (List.replicate 600 (.int 0))) (.tup (List.replicate 600 (.int 0))) [] = .ok (.bl false) [] := by
    refine neS_s _ _ ?_
    have : ∀ n : Nat, shL 59 (List.replicate n (.int 0)) = true := fun n => by
      induction n with
      | zero => rfl
      | succ n ih => rw [List.replicate_succ]; simp only [shL, ih, Bool.and_true]; rfl
    exact this 600
  have m7 : opD .mul (.tup (ks.map num)) (.int 7) [] = .ok (.tup (rep 7 (ks.map num))) [] := mulT_s _ _ _ (by rw [List.length_map, show (7 : Int).toNat = 7 from rfl]; omega)
  have m2 : opD .mul (.tup [.tup [.int 3]]) (.int 2) [] = .ok (.tup [.tup [.int 3], .tup [.int 3]]) [] := rfl
  have a2 : opD .add knD (.tup [.tup [.int 3], .tup [.int 3]]) [] = .ok (.tup [.tup [.int 2, .int 1], .tup [.int 1], .tup [.int 3], .tup [.int 3]]) [] := rfl
  simp_arith [mkLx _ _ (by simp : ((List.range 8).map fun k : Nat => pE2 (30 * (((k / 2 : Nat)) : Int), (((k % 2 : Nat)) : Int))).length ≤ 1000), k5, k6, k7, k8, m7, m2, a2]
  rw [mkLx _ _ (by simp)]
  simp_arith []
  rw [rngM_s [] (by omega), show ((6 : Int) - 0).toNat = 6 from rfl]
  simp_arith []
  rw [cpM_e (f := fun k : Nat => .tup [.int ((k : Int) + 1)]) (fun k hk => ⟨_, rfl, by simp_arith [Int.zero_add]⟩)]
  simp_arith [mkLx _ _ (by simp : ((List.range 6).map fun k : Nat => D.tup [.int ((k : Int) + 1)]).length ≤ 1000)]
  rw [addL_s _ _ _ (by simp)]
  simp_arith []
  rw [rngM_s [] (by omega), show ((7 : Int) - 0).toNat = 7 from rfl]
  simp_arith []
  rw [cpM_e (f := fun k : Nat => .tup [.int (((k / 6 : Nat) : Int) + 1), .int (((k % 6 : Nat) : Int) + 1)]) (fun k hk => ⟨_, rfl, by
    have f1 : Int.fdiv (0 + (k : Int)) 6 = ((k / 6 : Nat) : Int) := by rw [Int.zero_add, Int.fdiv_eq_ediv_of_nonneg _ (by omega)]; omega
    have f2 : Int.fmod (0 + (k : Int)) 6 = ((k % 6 : Nat) : Int) := by rw [Int.zero_add, Int.fmod_eq_emod_of_nonneg _ (by omega)]; omega
    simp_arith [fdivI_s _ _ _ (show (6 : Int) ≠ 0 by decide) (show (6 : Int).natAbs < 1073741824 by decide), modI_s _ _ _ (show (6 : Int) ≠ 0 by decide), f1, f2]⟩)]
  simp_arith [mkLx _ _ (by simp : ((List.range 7).map fun k : Nat => D.tup [.int (((k / 6 : Nat) : Int) + 1), .int (((k % 6 : Nat) : Int) + 1)]).length ≤ 1000)]
  rw [addL_s _ _ _ (by simp)]
  simp_arith [each_at]
  have el : eachC.length ≤ 100 := by decide +kernel
  rw [addL_s _ _ _ (by rw [List.length_append]; simp; omega)]
  simp_arith []
  refine for_eachD [some (.scr ns), some (.tup (ks.map num)), some (.int many), some knD, none, none, none, none, none, none, none, none, none, none, none] (by simp [leE]) (fun a ha => ⟨_, rfl, ?_⟩) ?_
  · have no : ∀ d : D, F_l_is_loop [d] [] = .ok (.bl false) [] → F_is_loop [d] [] = .ok (.bl false) [] → Meets (evB bodyTh [some (.scr ns), some (.tup (ks.map num)), some (.int many), some knD, none, none, none, some d, none, none, none, none, none, none, none] []) (.env [some (.scr ns), some (.tup (ks.map num)), some (.int many), some knD, none, none, none, none, none, none, none, none, none, none, none] []) := fun d h1 h2 => by
      simp_arith [bodyTh, h1, h2, neB_s, show isiM [.bool] (.bl false) [] = .ok (.bl true) [] from rfl]
      rw [rngM_s [] (by omega), show ((4 : Int) - 0).toNat = 4 from rfl]
      simp_arith []
      rw [cpM_e (f := fun _ : Nat => rf20 3) (fun w hw => ⟨_, rfl, by
        rw [Int.zero_add]
        have e := told_exP (List.mem_range.mp hw) (.inl rfl) (tF_ex (d := .non) (runs_noloop (b := .int 0) (c := .non) h2) w)
        simp_arith [e]
        rfl⟩)]
      rw [show ((List.range 4).map fun _ : Nat => rf20 3) = List.replicate 4 (rf20 3) from rfl]
      simp_arith [mkLx _ _ (by simp : (List.replicate 4 (rf20 3)).length ≤ 1000), show opD .mul (.lst [.tup [.str [114, 101, 102, 117, 115, 101, 100], .int 3]]) (.int 4) [] = .ok (.lst (List.replicate 4 (rf20 3))) [] from rfl, neRf 3 4 (by decide)]
      exact Meets.env (by simp [leE])
    simp only [List.append_assoc, List.cons_append, List.nil_append, List.mem_cons] at ha
    rcases ha with rfl | rfl | rfl | ha
    · show Meets (evB bodyTh [some (.scr ns), some (.tup (ks.map num)), some (.int many), some knD, none, none, none, some (.tup (ks.map num)), none, none, none, none, none, none, none] []) _
      simp_arith [bodyTh, lisloop_at L, isloop_at L, neB_s, show isiM [.bool] (.bl true) [] = .ok (.bl true) [] from rfl]
      exact Meets.env (by simp [leE])
    · obtain ⟨q1, q2⟩ := lisloop_no (d := .lst (ks.map num)) rfl rfl
      exact no _ q1 q2
    · obtain ⟨q1, q2⟩ := lisloop_long (xs := rep 7 (ks.map num)) (by rw [rep_len, List.length_map]; omega)
      exact no _ q1 q2
    · have hm : a ∈ thC := by
        unfold thC
        simp only [List.cons_append, List.nil_append, List.mem_cons]
        exact ha
      refine each_keep (E := e7 a) (List.all_eq_true.mp t_things a hm) (by simp [leE, e7]) (by simp [leE, maskE, wrB, wrS, wrT, bodyTh])
  simp_arith []
  refine for_eachD [some (.scr ns), some (.tup (ks.map num)), some (.int many), some knD, none, none, none, none, none, none, none, none, none, none, none] (by simp [leE]) (fun a ha => ⟨_, rfl, ?_⟩) ?_
  · have ha' : a ∈ odds := ha
    simp_arith []
    rw [rngM_s [] (by omega), show ((4 : Int) - 0).toNat = 4 from rfl]
    simp_arith []
    rw [cpM_e (f := fun _ : Nat => rf20 5) (fun w hw => ⟨_, rfl, by
      rw [Int.zero_add]
      have e := told_exP (List.mem_range.mp hw) (.inr (.inr rfl)) (tF_ex (d := .non) (runs_nomany L (c := .non) ha') w)
      simp_arith [e]
      rfl⟩)]
    rw [show ((List.range 4).map fun _ : Nat => rf20 5) = List.replicate 4 (rf20 5) from rfl]
    simp_arith [mkLx _ _ (by simp : (List.replicate 4 (rf20 5)).length ≤ 1000), show opD .mul (.lst [.tup [.str [114, 101, 102, 117, 115, 101, 100], .int 5]]) (.int 4) [] = .ok (.lst (List.replicate 4 (rf20 5))) [] from rfl, neRf 5 4 (by decide)]
    exact Meets.env (by simp [leE])
  simp_arith [List.length_map]
  rw [mkLx _ _ (by simp)]
  simp_arith []
  rw [addL_s _ _ _ (by simp)]
  simp_arith []
  rw [rngM_s [] (by omega), show ((9 : Int) - 0).toNat = 9 from rfl]
  simp_arith []
  rw [cpM_e (f := fun k : Nat => pulD k 0) (fun k hk => ⟨_, rfl, by simp_arith [Int.zero_add]; rfl⟩)]
  simp_arith [mkLx _ _ (by simp : ((List.range 9).map fun k : Nat => pulD k 0).length ≤ 1000)]
  rw [addL_s _ _ _ (by simp)]
  simp_arith []
  refine for_eachD [some (.scr ns), some (.tup (ks.map num)), some (.int many), some knD, none, none, none, none, none, none, some (pulD 5 0), none, none, none, none] (by simp [leE, pulD]) (fun a ha => ⟨_, rfl, ?_⟩) ?_
  · have ha' : a ∈ badsP ks.length := ha
    simp_arith []
    rw [rngM_s [] (by omega), show ((4 : Int) - 0).toNat = 4 from rfl]
    simp_arith []
    rw [cpM_e (f := fun _ : Nat => rf20 4) (fun w hw => ⟨_, rfl, by
      rw [Int.zero_add]
      have e := told_exP (List.mem_range.mp hw) (.inr (.inl rfl)) (tF_ex (d := .non) (runs_nopull (many := 1) L (by omega) (by omega) (np_bads L ha')) w)
      simp_arith [e]
      rfl⟩)]
    rw [show ((List.range 4).map fun _ : Nat => rf20 4) = List.replicate 4 (rf20 4) from rfl]
    simp_arith [mkLx _ _ (by simp : (List.replicate 4 (rf20 4)).length ≤ 1000), show opD .mul (.lst [.tup [.str [114, 101, 102, 117, 115, 101, 100], .int 4]]) (.int 4) [] = .ok (.lst (List.replicate 4 (rf20 4))) [] from rfl, neRf 4 4 (by decide)]
    exact Meets.env (by simp [leE])
  simp_arith []
  rw [show ([D.int (-1), .int 601, .non, .bl true]) = odds4.map id from rfl, cpM_e (f := fun _ : D => rf20 5) (fun d hd => ⟨_, rfl, by
    have e := told_exP (w := 3) (by decide) (.inr (.inr rfl)) (line_bad L hd)
    have e' : F_l_told_4 [.int 3, .tup (ks.map num), .int 1, .tup [pulD 5 0], d] [] = .ok (rf20 5) [] := e
    simp_arith [id, e']⟩)]
  rw [show (odds4.map fun _ => rf20 5) = List.replicate 4 (rf20 5) from rfl]
  simp_arith [mkLx _ _ (by simp : (List.replicate 4 (rf20 5)).length ≤ 1000), show opD .mul (.lst [.tup [.str [114, 101, 102, 117, 115, 101, 100], .int 5]]) (.int 4) [] = .ok (.lst (List.replicate 4 (rf20 5))) [] from rfl, eqRf 5 4 (by decide)]
  exact Meets.val
end BX.Q

set_option Elab.async false
set_option linter.all false
set_option maxRecDepth 100000
set_option maxHeartbeats 0
namespace BX
open PySem PySem.Spec PyProof.Rows L2
def top (i : Nat) : Stmt := PySem.Challenge.pw_boxtaps_k20_loops.main.body.getD i (.Pass ⟨0, 0, 0, 0⟩)
theorem mt_bits_of : Mt1 "bits_of" (top 18) N_bits_of ["number"] [1] B_bits_of := ⟨fun _ _ _ _ _ _ us hl => match us, hl with | [_], _ => rfl, by decide +kernel, by decide +kernel, by decide +kernel⟩
theorem mt_runs_of : Mt1 "runs_of" (top 27) N_runs_of ["loop", "many", "pulls"] [3, 5] B_runs_of := ⟨fun _ _ _ _ _ _ us hl => match us, hl with | [_, _, _], _ => rfl, by decide +kernel, by decide +kernel, by decide +kernel⟩
theorem mt_is_count : Mt1 "is_count" (top 15) N_is_count ["thing", "low", "high"] [] B_is_count := ⟨fun _ _ _ _ _ _ us hl => match us, hl with | [_, _, _], _ => rfl, by decide +kernel, by decide +kernel, by decide +kernel⟩
theorem mt_is_pull : Mt1 "is_pull" (top 25) N_is_pull ["loop", "thing"] [] B_is_pull := ⟨fun _ _ _ _ _ _ us hl => match us, hl with | [_, _], _ => rfl, by decide +kernel, by decide +kernel, by decide +kernel⟩
theorem mt_need_pulls : Mt1 "need_pulls" (top 26) N_need_pulls ["loop", "pulls"] [] B_need_pulls := ⟨fun _ _ _ _ _ _ us hl => match us, hl with | [_, _], _ => rfl, by decide +kernel, by decide +kernel, by decide +kernel⟩
theorem mt_need_rounds : Mt1 "need_rounds" (top 17) N_need_rounds ["many"] [] B_need_rounds := ⟨fun _ _ _ _ _ _ us hl => match us, hl with | [_], _ => rfl, by decide +kernel, by decide +kernel, by decide +kernel⟩
theorem mt_is_number : Mt1 "is_number" (top 16) N_is_number ["thing"] [] B_is_number := ⟨fun _ _ _ _ _ _ us hl => match us, hl with | [_], _ => rfl, by decide +kernel, by decide +kernel, by decide +kernel⟩
theorem mt_is_loop : Mt1 "is_loop" (top 23) N_is_loop ["thing"] [] B_is_loop := ⟨fun _ _ _ _ _ _ us hl => match us, hl with | [_], _ => rfl, by decide +kernel, by decide +kernel, by decide +kernel⟩
theorem mt_need_loop : Mt1 "need_loop" (top 24) N_need_loop ["loop"] [] B_need_loop := ⟨fun _ _ _ _ _ _ us hl => match us, hl with | [_], _ => rfl, by decide +kernel, by decide +kernel, by decide +kernel⟩
theorem mt_runs : Mt1 "runs" (top 28) N_runs ["loop", "many", "pulls"] [] B_runs := ⟨fun _ _ _ _ _ _ us hl => match us, hl with | [_, _, _], _ => rfl, by decide +kernel, by decide +kernel, by decide +kernel⟩
theorem mt_idle_pulls : Mt1 "idle_pulls" (top 29) N_idle_pulls ["loop", "many", "pulls"] [4, 5] B_idle_pulls := ⟨fun _ _ _ _ _ _ us hl => match us, hl with | [_, _, _], _ => rfl, by decide +kernel, by decide +kernel, by decide +kernel⟩
theorem mt_longest_wait : Mt1 "longest_wait" (top 31) N_longest_wait ["loop", "many", "pulls"] [] B_longest_wait := ⟨fun _ _ _ _ _ _ us hl => match us, hl with | [_, _, _], _ => rfl, by decide +kernel, by decide +kernel, by decide +kernel⟩
theorem mt_line : Mt1 "line" (top 30) N_line ["loop", "many", "pulls", "until"] [5] B_line := ⟨fun _ _ _ _ _ _ us hl => match us, hl with | [_, _, _, _], _ => rfl, by decide +kernel, by decide +kernel, by decide +kernel⟩
theorem mt_l_told_4 : Mt1 "_law_told" (top 41) N_l_told_4 ["_law_way", "_law_loop_here", "_law_many", "_law_pulls_here", "_law_until"] [] B_l_told_4 := ⟨fun _ _ _ _ _ _ us hl => match us, hl with | [_, _, _, _, _], _ => rfl, by decide +kernel, by decide +kernel, by decide +kernel⟩
theorem mt_l_each (R : List D → M D) : Mt1 "_law_each" (top 40) N_l_each ["_law_thing"] [] (B_l_each R) := ⟨fun _ _ _ _ _ _ us hl => match us, hl with | [_], _ => rfl, by decide +kernel, by decide +kernel, rfl⟩
theorem mt_l_is_loop : Mt1 "_law_is_loop" (top 42) N_l_is_loop ["_law_thing"] [] B_l_is_loop := ⟨fun _ _ _ _ _ _ us hl => match us, hl with | [_], _ => rfl, by decide +kernel, by decide +kernel, by decide +kernel⟩
theorem mt_l_bits_1 : Mt1 "_law_bits" (top 35) N_l_bits_1 ["_law_number"] [] B_l_bits_1 := ⟨fun _ _ _ _ _ _ us hl => match us, hl with | [_], _ => rfl, by decide +kernel, by decide +kernel, by decide +kernel⟩
theorem mt_l_runs : Mt1 "_law_runs" (top 38) N_l_runs ["_law_loop_here", "_law_many", "_law_pulls_here"] [3, 4, 5] B_l_runs := ⟨fun _ _ _ _ _ _ us hl => match us, hl with | [_, _, _], _ => rfl, by decide +kernel, by decide +kernel, by decide +kernel⟩
theorem mt_l_is_told : Mt1 "_law_is_told" (top 43) N_l_is_told ["_law_loop_here", "_law_many", "_law_pulls_here", "_law_until"] [8] B_l_is_told := ⟨fun _ _ _ _ _ _ us hl => match us, hl with | [_, _, _, _], _ => rfl, by decide +kernel, by decide +kernel, by decide +kernel⟩
theorem mt_l_cell : Mt1 "_law_cell" (top 33) N_l_cell ["_law_script", "_law_k"] [] B_l_cell := ⟨fun _ _ _ _ _ _ us hl => match us, hl with | [_, _], _ => rfl, by decide +kernel, by decide +kernel, by decide +kernel⟩
theorem mt_l_drawn : Mt1 "_law_drawn" (top 34) N_l_drawn ["_law_script", "_law_k", "_law_many"] [] B_l_drawn := ⟨fun _ _ _ _ _ _ us hl => match us, hl with | [_, _, _], _ => rfl, by decide +kernel, by decide +kernel, by decide +kernel⟩
theorem mt_l_pulls : Mt1 "_law_pulls" (top 37) N_l_pulls ["_law_script", "_law_at", "_law_loop_here", "_law_most"] [] B_l_pulls := ⟨fun _ _ _ _ _ _ us hl => match us, hl with | [_, _, _, _], _ => rfl, by decide +kernel, by decide +kernel, by decide +kernel⟩
theorem mt_l_loop : Mt1 "_law_loop" (top 36) N_l_loop ["_law_script", "_law_at"] [] B_l_loop := ⟨fun _ _ _ _ _ _ us hl => match us, hl with | [_, _], _ => rfl, by decide +kernel, by decide +kernel, by decide +kernel⟩
theorem mt_law_k20 : Mt1 "law" (top 44) N_law_k20 ["_law_script"] [] B_law_k20 := ⟨fun _ _ _ _ _ _ us hl => match us, hl with | [_], _ => rfl, by decide +kernel, by decide +kernel, by decide +kernel⟩
theorem bd_refused : BindOk "_law_refused" (top 39) ["_law_e"] := fun _ _ _ _ _ _ us hl => match us, hl with | [_], _ => rfl
theorem chain {T : Rt} (hm : ∀ (x : Str) (f : Addr), PySem.W.nsIn T.K mainGlobals x = some (some (.ref f)) → T.mg x = some (.ref f))
    (d_bits_of : ∃ f, DefK T.K "bits_of" (top 18) f)
    (d_runs_of : ∃ f, DefK T.K "runs_of" (top 27) f)
    (d_is_count : ∃ f, DefK T.K "is_count" (top 15) f)
    (d_is_pull : ∃ f, DefK T.K "is_pull" (top 25) f)
    (d_need_pulls : ∃ f, DefK T.K "need_pulls" (top 26) f)
    (d_need_rounds : ∃ f, DefK T.K "need_rounds" (top 17) f)
    (d_is_number : ∃ f, DefK T.K "is_number" (top 16) f)
    (d_is_loop : ∃ f, DefK T.K "is_loop" (top 23) f)
    (d_need_loop : ∃ f, DefK T.K "need_loop" (top 24) f)
    (d_runs : ∃ f, DefK T.K "runs" (top 28) f)
    (d_idle_pulls : ∃ f, DefK T.K "idle_pulls" (top 29) f)
    (d_longest_wait : ∃ f, DefK T.K "longest_wait" (top 31) f)
    (d_line : ∃ f, DefK T.K "line" (top 30) f)
    (d_l_told_4 : ∃ f, DefK T.K "_law_told" (top 41) f)
    (d_l_each : ∃ f, DefK T.K "_law_each" (top 40) f)
    (d_l_is_loop : ∃ f, DefK T.K "_law_is_loop" (top 42) f)
    (d_l_bits_1 : ∃ f, DefK T.K "_law_bits" (top 35) f)
    (d_l_runs : ∃ f, DefK T.K "_law_runs" (top 38) f)
    (d_l_is_told : ∃ f, DefK T.K "_law_is_told" (top 43) f)
    (d_l_cell : ∃ f, DefK T.K "_law_cell" (top 33) f)
    (d_l_drawn : ∃ f, DefK T.K "_law_drawn" (top 34) f)
    (d_l_pulls : ∃ f, DefK T.K "_law_pulls" (top 37) f)
    (d_l_loop : ∃ f, DefK T.K "_law_loop" (top 36) f)
    (d_refused : ∃ f, DefK T.K "_law_refused" (top 39) f)
    (b_int : T.mg "int" = none)
    (b_set : T.mg "set" = none)
    (b_len : T.mg "len" = none)
    (b_sorted : T.mg "sorted" = none)
    (b_max : T.mg "max" = none)
    (b_isinstance : T.mg "isinstance" = none)
    (b_bool : T.mg "bool" = none)
    (b_tuple : T.mg "tuple" = none)
    (b_all : T.mg "all" = none)
    (b_zip : T.mg "zip" = none)
    (b_range : T.mg "range" = none)
    (b_min : T.mg "min" = none)
    (b_list : T.mg "list" = none)
    (b_enumerate : T.mg "enumerate" = none)
    (b_ValueError : T.mg "ValueError" = none)
    (g_DIGIT_REST : ∃ u v, T.mg "DIGIT_REST" = some u ∧ RelV v u ∧ ∀ G μ, Rp T.K G μ (.int 3) v)
    (g_ROUND_REST : ∃ u v, T.mg "ROUND_REST" = some u ∧ RelV v u ∧ ∀ G μ, Rp T.K G μ (.int 7) v)
    (g_MOST_MOMENT : ∃ u v, T.mg "MOST_MOMENT" = some u ∧ RelV v u ∧ ∀ G μ, Rp T.K G μ (.int 300) v)
    (g_MOST_PULLS : ∃ u v, T.mg "MOST_PULLS" = some u ∧ RelV v u ∧ ∀ G μ, Rp T.K G μ (.int 8) v)
    (g_MOST_ROUNDS : ∃ u v, T.mg "MOST_ROUNDS" = some u ∧ RelV v u ∧ ∀ G μ, Rp T.K G μ (.int 4) v)
    (g_MOST_DIGITS : ∃ u v, T.mg "MOST_DIGITS" = some u ∧ RelV v u ∧ ∀ G μ, Rp T.K G μ (.int 3) v)
    (g_MOST_DIGIT : ∃ u v, T.mg "MOST_DIGIT" = some u ∧ RelV v u ∧ ∀ G μ, Rp T.K G μ (.int 6) v)
    (g_MOST_BOXES : ∃ u v, T.mg "MOST_BOXES" = some u ∧ RelV v u ∧ ∀ G μ, Rp T.K G μ (.int 6) v)
    (x_NoPull : T.mg "NoPull" = some (.ref (T.ca .pull)) ∧ XcOk T .pull)
    (x_NoCount : T.mg "NoCount" = some (.ref (T.ca .count)) ∧ XcOk T .count)
    (x_NoLoop : T.mg "NoLoop" = some (.ref (T.ca .loop)) ∧ XcOk T .loop)
    (xF : XcF T [.num, .book, .line, .loop, .pull, .count, .text])
    (e_TapError : T.mg "TapError" = some (.ref (T.ca .tap)) ∧ ∀ c ∈ ([.num, .book, .line, .loop, .pull, .count, .text] : List Xc), PySem.W.exmOne T.K (.ref (T.ca c)) (.ref (T.ca .tap)) = some (isX c .tap))
    (n_NoNumber : XcN T [.num, .book, .line, .loop, .pull, .count, .text] "NoNumber" .num)
    (n_NoBook : XcN T [.num, .book, .line, .loop, .pull, .count, .text] "NoBook" .book)
    (n_NoLine : XcN T [.num, .book, .line, .loop, .pull, .count, .text] "NoLine" .line)
    (n_NoLoop : XcN T [.num, .book, .line, .loop, .pull, .count, .text] "NoLoop" .loop)
    (n_NoPull : XcN T [.num, .book, .line, .loop, .pull, .count, .text] "NoPull" .pull)
    (n_NoCount : XcN T [.num, .book, .line, .loop, .pull, .count, .text] "NoCount" .count)
    (n_NoText : XcN T [.num, .book, .line, .loop, .pull, .count, .text] "NoText" .text) : NdsX T 32 (ndB B_law_k20) := by
  have xc_TapError := And.intro xF e_TapError
  have hn : ∀ ch ∈ C_refused, ∀ p ∈ ch, XcN T [.num, .book, .line, .loop, .pull, .count, .text] p.1 p.2 := fun ch hch p hp => by
    simp only [C_refused, List.mem_cons, List.not_mem_nil, or_false] at hch
    rcases hch with rfl | rfl
    · simp only [List.mem_cons, List.not_mem_nil, or_false] at hp
      rcases hp with rfl | rfl | rfl | rfl
      · exact n_NoNumber
      · exact n_NoBook
      · exact n_NoLine
      · exact n_NoLoop
    · simp only [List.mem_cons, List.not_mem_nil, or_false] at hp
      rcases hp with rfl | rfl | rfl
      · exact n_NoPull
      · exact n_NoCount
      · exact n_NoText
  have xf_refused := fx_in (N := N_refused) (chs := C_refused) (hm _) d_refused bd_refused (by decide +kernel) rfl (by decide) xF (by decide +kernel) hn (by decide)
  have f_bits_of : FnIn T 2 "bits_of" F_bits_of := fn_in (k := 1) (hm _) d_bits_of mt_bits_of (nds_of (And.intro g_DIGIT_REST (And.intro b_int (And.intro b_set (And.intro g_ROUND_REST True.intro)))))
  have f_runs_of : FnIn T 3 "runs_of" F_runs_of := fn_in (k := 2) (hm _) d_runs_of mt_runs_of (nds_of (And.intro b_len (And.intro b_set (And.intro b_sorted (And.intro b_set (And.intro b_max (And.intro b_len (And.intro b_set (And.intro (f_bits_of.up (by omega)) True.intro)))))))))
  have f_is_count : FnIn T 2 "is_count" F_is_count := fn_in (k := 1) (hm _) d_is_count mt_is_count (nds_of (And.intro b_isinstance (And.intro b_int (And.intro b_isinstance (And.intro b_bool True.intro)))))
  have f_is_pull : FnIn T 3 "is_pull" F_is_pull := fn_in (k := 2) (hm _) d_is_pull mt_is_pull (nds_of (And.intro b_isinstance (And.intro b_tuple (And.intro b_len (And.intro b_set (And.intro (f_is_count.up (by omega)) (And.intro g_MOST_MOMENT (And.intro (f_is_count.up (by omega)) (And.intro b_len (And.intro b_set True.intro))))))))))
  have f_need_pulls : FnIn T 4 "need_pulls" F_need_pulls := fn_in (k := 3) (hm _) d_need_pulls mt_need_pulls (nds_of (And.intro b_isinstance (And.intro b_tuple (And.intro b_len (And.intro b_set (And.intro g_MOST_PULLS (And.intro b_all (And.intro b_set (And.intro (f_is_pull.up (by omega)) (And.intro x_NoPull (And.intro b_len (And.intro b_set (And.intro b_len (And.intro b_set (And.intro x_NoPull True.intro)))))))))))))))
  have f_need_rounds : FnIn T 3 "need_rounds" F_need_rounds := fn_in (k := 2) (hm _) d_need_rounds mt_need_rounds (nds_of (And.intro (f_is_count.up (by omega)) (And.intro g_MOST_ROUNDS (And.intro x_NoCount True.intro))))
  have f_is_number : FnIn T 3 "is_number" F_is_number := fn_in (k := 2) (hm _) d_is_number mt_is_number (nds_of (And.intro b_isinstance (And.intro b_tuple (And.intro b_len (And.intro b_set (And.intro g_MOST_DIGITS (And.intro b_all (And.intro b_set (And.intro (f_is_count.up (by omega)) (And.intro g_MOST_DIGIT True.intro))))))))))
  have f_is_loop : FnIn T 4 "is_loop" F_is_loop := fn_in (k := 3) (hm _) d_is_loop mt_is_loop (nds_of (And.intro b_isinstance (And.intro b_tuple (And.intro b_len (And.intro b_set (And.intro g_MOST_BOXES (And.intro b_all (And.intro b_set (And.intro (f_is_number.up (by omega)) (And.intro b_len (And.intro b_set (And.intro b_len (And.intro b_set True.intro)))))))))))))
  have f_need_loop : FnIn T 5 "need_loop" F_need_loop := fn_in (k := 4) (hm _) d_need_loop mt_need_loop (nds_of (And.intro (f_is_loop.up (by omega)) (And.intro x_NoLoop True.intro)))
  have f_runs : FnIn T 6 "runs" F_runs := fn_in (k := 5) (hm _) d_runs mt_runs (nds_of (And.intro (f_need_loop.up (by omega)) (And.intro (f_need_rounds.up (by omega)) (And.intro (f_need_pulls.up (by omega)) (And.intro (f_runs_of.up (by omega)) True.intro)))))
  have f_idle_pulls : FnIn T 7 "idle_pulls" F_idle_pulls := fn_in (k := 6) (hm _) d_idle_pulls mt_idle_pulls (nds_of (And.intro (f_runs.up (by omega)) (And.intro b_len (And.intro b_set (And.intro b_sorted (And.intro b_set True.intro))))))
  have f_longest_wait : FnIn T 8 "longest_wait" F_longest_wait := fn_in (k := 7) (hm _) d_longest_wait mt_longest_wait (nds_of (And.intro (f_runs.up (by omega)) (And.intro (f_idle_pulls.up (by omega)) (And.intro b_sorted (And.intro b_set (And.intro b_zip (And.intro b_max True.intro)))))))
  have f_line : FnIn T 7 "line" F_line := fn_in (k := 6) (hm _) d_line mt_line (nds_of (And.intro (f_runs.up (by omega)) (And.intro (f_is_count.up (by omega)) (And.intro g_MOST_MOMENT (And.intro x_NoCount (And.intro (f_bits_of.up (by omega)) (And.intro b_range (And.intro b_min (And.intro b_tuple (And.intro b_set True.intro))))))))))
  have f_l_told_4 : FnIn T 9 "_law_told" F_l_told_4 := fn_in (k := 8) (hm _) d_l_told_4 mt_l_told_4 (nds_of (And.intro xc_TapError (And.intro ⟨xf_refused, by omega⟩ (And.intro (f_line.up (by omega)) (And.intro (f_runs.up (by omega)) (And.intro (f_idle_pulls.up (by omega)) (And.intro (f_longest_wait.up (by omega)) True.intro)))))))
  have r_l_each : ∀ n, FnIn T (1 + n) "_law_each" (F_l_each n) := by
    intro n
    induction n with
    | zero => exact fn_bad (hm _) d_l_each (mt_l_each fun _ => bad).bd
    | succ n ih => exact fn_in (k := 1 + n) (hm _) d_l_each (mt_l_each (F_l_each n)) (nds_of (And.intro b_isinstance (And.intro b_int (And.intro b_isinstance (And.intro b_tuple (And.intro b_list (And.intro b_set (And.intro b_range (And.intro b_len (And.intro b_set (And.intro ih True.intro)))))))))))
  have f_l_each := r_l_each 30
  have f_l_is_loop : FnIn T 2 "_law_is_loop" F_l_is_loop := fn_in (k := 1) (hm _) d_l_is_loop mt_l_is_loop (nds_of (And.intro b_isinstance (And.intro b_tuple (And.intro b_len (And.intro b_set (And.intro b_isinstance (And.intro b_tuple (And.intro b_len (And.intro b_set (And.intro b_isinstance (And.intro b_bool (And.intro b_isinstance (And.intro b_int True.intro)))))))))))))
  have f_l_bits_1 : FnIn T 2 "_law_bits" F_l_bits_1 := fn_in (k := 1) (hm _) d_l_bits_1 mt_l_bits_1 (nds_of (And.intro b_enumerate (And.intro b_int (And.intro b_set (And.intro b_range True.intro)))))
  have f_l_runs : FnIn T 3 "_law_runs" F_l_runs := fn_in (k := 2) (hm _) d_l_runs mt_l_runs (nds_of (And.intro b_range (And.intro b_len (And.intro b_set (And.intro b_len (And.intro b_set (And.intro (f_l_bits_1.up (by omega)) True.intro)))))))
  have f_l_is_told : FnIn T 10 "_law_is_told" F_l_is_told := fn_in (k := 9) (hm _) d_l_is_told mt_l_is_told (nds_of (And.intro (f_l_runs.up (by omega)) (And.intro b_sorted (And.intro b_set (And.intro b_zip (And.intro b_range (And.intro (f_l_bits_1.up (by omega)) (And.intro b_len (And.intro b_set (And.intro b_sorted (And.intro b_set (And.intro b_max (And.intro b_set (And.intro b_tuple (And.intro b_set (And.intro (f_l_told_4.up (by omega)) (And.intro b_range True.intro)))))))))))))))))
  have f_l_cell : FnIn T 2 "_law_cell" F_l_cell := fn_in (k := 1) (hm _) d_l_cell mt_l_cell (nds_of (And.intro b_len (And.intro b_set (And.intro b_len (And.intro b_set True.intro)))))
  have f_l_drawn : FnIn T 3 "_law_drawn" F_l_drawn := fn_in (k := 2) (hm _) d_l_drawn mt_l_drawn (nds_of (And.intro (f_l_cell.up (by omega)) True.intro))
  have f_l_pulls : FnIn T 4 "_law_pulls" F_l_pulls := fn_in (k := 3) (hm _) d_l_pulls mt_l_pulls (nds_of (And.intro b_range (And.intro (f_l_drawn.up (by omega)) (And.intro (f_l_drawn.up (by omega)) (And.intro (f_l_drawn.up (by omega)) (And.intro (f_l_drawn.up (by omega)) (And.intro b_len (And.intro b_set (And.intro b_int (And.intro b_set (And.intro b_tuple (And.intro b_set True.intro))))))))))))
  have f_l_loop : FnIn T 4 "_law_loop" F_l_loop := fn_in (k := 3) (hm _) d_l_loop mt_l_loop (nds_of (And.intro b_range (And.intro (f_l_drawn.up (by omega)) (And.intro (f_l_drawn.up (by omega)) (And.intro (f_l_drawn.up (by omega)) (And.intro (f_l_drawn.up (by omega)) (And.intro b_int (And.intro b_set (And.intro b_tuple (And.intro b_set True.intro))))))))))
  exact nds_of (And.intro (f_l_loop.up (by omega)) (And.intro (f_l_drawn.up (by omega)) (And.intro (f_l_is_told.up (by omega)) (And.intro (f_l_pulls.up (by omega)) (And.intro (f_l_drawn.up (by omega)) (And.intro (f_l_is_told.up (by omega)) (And.intro (f_l_is_told.up (by omega)) (And.intro b_tuple (And.intro b_set (And.intro b_range (And.intro (f_l_told_4.up (by omega)) (And.intro b_list (And.intro b_set (And.intro b_tuple (And.intro b_set (And.intro b_range (And.intro b_tuple (And.intro b_set (And.intro b_range (And.intro (f_l_each.up (by omega)) (And.intro (f_l_is_loop.up (by omega)) (And.intro (f_is_loop.up (by omega)) (And.intro b_isinstance (And.intro b_bool (And.intro (f_is_loop.up (by omega)) (And.intro (f_l_told_4.up (by omega)) (And.intro b_range (And.intro (f_l_told_4.up (by omega)) (And.intro b_range (And.intro b_len (And.intro b_set (And.intro b_tuple (And.intro b_set (And.intro b_range (And.intro (f_l_told_4.up (by omega)) (And.intro b_range (And.intro (f_l_told_4.up (by omega)) True.intro)))))))))))))))))))))))))))))))))))))
theorem law_fn {P : Program} {w : World} {K : PySem.W.Frag} {h : Heap} {mg : Str → Option Value} {fa : Addr} {t_DIGIT_REST : Tok} {t_ROUND_REST : Tok} {t_MOST_MOMENT : Tok} {t_MOST_PULLS : Tok} {t_MOST_ROUNDS : Tok} {t_MOST_DIGITS : Tok} {t_MOST_DIGIT : Tok} {t_MOST_BOXES : Tok} {C_TapError : Addr} {C_NoNumber : Addr} {C_NoBook : Addr} {C_NoLine : Addr} {C_NoLoop : Addr} {C_NoPull : Addr} {C_NoCount : Addr} {C_NoText : Addr} (X : K.In h) (G : h.Ns mainGlobals mg) (hfa : mg "law" = some (.ref fa))
    (d_bits_of : ∃ f, DefK K "bits_of" (top 18) f)
    (d_runs_of : ∃ f, DefK K "runs_of" (top 27) f)
    (d_is_count : ∃ f, DefK K "is_count" (top 15) f)
    (d_is_pull : ∃ f, DefK K "is_pull" (top 25) f)
    (d_need_pulls : ∃ f, DefK K "need_pulls" (top 26) f)
    (d_need_rounds : ∃ f, DefK K "need_rounds" (top 17) f)
    (d_is_number : ∃ f, DefK K "is_number" (top 16) f)
    (d_is_loop : ∃ f, DefK K "is_loop" (top 23) f)
    (d_need_loop : ∃ f, DefK K "need_loop" (top 24) f)
    (d_runs : ∃ f, DefK K "runs" (top 28) f)
    (d_idle_pulls : ∃ f, DefK K "idle_pulls" (top 29) f)
    (d_longest_wait : ∃ f, DefK K "longest_wait" (top 31) f)
    (d_line : ∃ f, DefK K "line" (top 30) f)
    (d_l_told_4 : ∃ f, DefK K "_law_told" (top 41) f)
    (d_l_each : ∃ f, DefK K "_law_each" (top 40) f)
    (d_l_is_loop : ∃ f, DefK K "_law_is_loop" (top 42) f)
    (d_l_bits_1 : ∃ f, DefK K "_law_bits" (top 35) f)
    (d_l_runs : ∃ f, DefK K "_law_runs" (top 38) f)
    (d_l_is_told : ∃ f, DefK K "_law_is_told" (top 43) f)
    (d_l_cell : ∃ f, DefK K "_law_cell" (top 33) f)
    (d_l_drawn : ∃ f, DefK K "_law_drawn" (top 34) f)
    (d_l_pulls : ∃ f, DefK K "_law_pulls" (top 37) f)
    (d_l_loop : ∃ f, DefK K "_law_loop" (top 36) f)
    (d_law_k20 : ∃ f, DefK K "law" (top 44) f)
    (d_refused : ∃ f, DefK K "_law_refused" (top 39) f)
    (z_int : PySem.W.nsIn K mainGlobals "int" = some none)
    (z_set : PySem.W.nsIn K mainGlobals "set" = some none)
    (z_len : PySem.W.nsIn K mainGlobals "len" = some none)
    (z_sorted : PySem.W.nsIn K mainGlobals "sorted" = some none)
    (z_max : PySem.W.nsIn K mainGlobals "max" = some none)
    (z_isinstance : PySem.W.nsIn K mainGlobals "isinstance" = some none)
    (z_bool : PySem.W.nsIn K mainGlobals "bool" = some none)
    (z_tuple : PySem.W.nsIn K mainGlobals "tuple" = some none)
    (z_all : PySem.W.nsIn K mainGlobals "all" = some none)
    (z_zip : PySem.W.nsIn K mainGlobals "zip" = some none)
    (z_range : PySem.W.nsIn K mainGlobals "range" = some none)
    (z_min : PySem.W.nsIn K mainGlobals "min" = some none)
    (z_list : PySem.W.nsIn K mainGlobals "list" = some none)
    (z_enumerate : PySem.W.nsIn K mainGlobals "enumerate" = some none)
    (z_ValueError : PySem.W.nsIn K mainGlobals "ValueError" = some none)
    (c_DIGIT_REST : PySem.W.nsIn K mainGlobals "DIGIT_REST" = some (some (.int 3 t_DIGIT_REST)))
    (c_ROUND_REST : PySem.W.nsIn K mainGlobals "ROUND_REST" = some (some (.int 7 t_ROUND_REST)))
    (c_MOST_MOMENT : PySem.W.nsIn K mainGlobals "MOST_MOMENT" = some (some (.int 300 t_MOST_MOMENT)))
    (c_MOST_PULLS : PySem.W.nsIn K mainGlobals "MOST_PULLS" = some (some (.int 8 t_MOST_PULLS)))
    (c_MOST_ROUNDS : PySem.W.nsIn K mainGlobals "MOST_ROUNDS" = some (some (.int 4 t_MOST_ROUNDS)))
    (c_MOST_DIGITS : PySem.W.nsIn K mainGlobals "MOST_DIGITS" = some (some (.int 3 t_MOST_DIGITS)))
    (c_MOST_DIGIT : PySem.W.nsIn K mainGlobals "MOST_DIGIT" = some (some (.int 6 t_MOST_DIGIT)))
    (c_MOST_BOXES : PySem.W.nsIn K mainGlobals "MOST_BOXES" = some (some (.int 6 t_MOST_BOXES)))
    (n_TapError : PySem.W.nsIn K mainGlobals "TapError" = some (some (.ref C_TapError)))
    (k_TapError : PySem.W.nsIn K mainGlobals "TapError" = some (some (.ref C_TapError)) → XcK K "TapError" C_TapError)
    (n_NoNumber : PySem.W.nsIn K mainGlobals "NoNumber" = some (some (.ref C_NoNumber)))
    (k_NoNumber : PySem.W.nsIn K mainGlobals "NoNumber" = some (some (.ref C_NoNumber)) → XcK K "NoNumber" C_NoNumber)
    (n_NoBook : PySem.W.nsIn K mainGlobals "NoBook" = some (some (.ref C_NoBook)))
    (k_NoBook : PySem.W.nsIn K mainGlobals "NoBook" = some (some (.ref C_NoBook)) → XcK K "NoBook" C_NoBook)
    (n_NoLine : PySem.W.nsIn K mainGlobals "NoLine" = some (some (.ref C_NoLine)))
    (k_NoLine : PySem.W.nsIn K mainGlobals "NoLine" = some (some (.ref C_NoLine)) → XcK K "NoLine" C_NoLine)
    (n_NoLoop : PySem.W.nsIn K mainGlobals "NoLoop" = some (some (.ref C_NoLoop)))
    (k_NoLoop : PySem.W.nsIn K mainGlobals "NoLoop" = some (some (.ref C_NoLoop)) → XcK K "NoLoop" C_NoLoop)
    (n_NoPull : PySem.W.nsIn K mainGlobals "NoPull" = some (some (.ref C_NoPull)))
    (k_NoPull : PySem.W.nsIn K mainGlobals "NoPull" = some (some (.ref C_NoPull)) → XcK K "NoPull" C_NoPull)
    (n_NoCount : PySem.W.nsIn K mainGlobals "NoCount" = some (some (.ref C_NoCount)))
    (k_NoCount : PySem.W.nsIn K mainGlobals "NoCount" = some (some (.ref C_NoCount)) → XcK K "NoCount" C_NoCount)
    (n_NoText : PySem.W.nsIn K mainGlobals "NoText" = some (some (.ref C_NoText)))
    (k_NoText : PySem.W.nsIn K mainGlobals "NoText" = some (some (.ref C_NoText)) → XcK K "NoText" C_NoText)
    (xg : XcG K)
    (a_TapError : XcA K C_TapError)
    (a_NoNumber : XcA K C_NoNumber)
    (a_NoBook : XcA K C_NoBook)
    (a_NoLine : XcA K C_NoLine)
    (a_NoLoop : XcA K C_NoLoop)
    (a_NoPull : XcA K C_NoPull)
    (a_NoCount : XcA K C_NoCount)
    (a_NoText : XcA K C_NoText)
    (s_NoNumber_TapError : PySem.W.subIn K (.ref C_NoNumber) (.ref C_TapError) = some true)
    (s_NoNumber_NoNumber : PySem.W.subIn K (.ref C_NoNumber) (.ref C_NoNumber) = some true)
    (s_NoNumber_NoBook : PySem.W.subIn K (.ref C_NoNumber) (.ref C_NoBook) = some false)
    (s_NoNumber_NoLine : PySem.W.subIn K (.ref C_NoNumber) (.ref C_NoLine) = some false)
    (s_NoNumber_NoLoop : PySem.W.subIn K (.ref C_NoNumber) (.ref C_NoLoop) = some false)
    (s_NoNumber_NoPull : PySem.W.subIn K (.ref C_NoNumber) (.ref C_NoPull) = some false)
    (s_NoNumber_NoCount : PySem.W.subIn K (.ref C_NoNumber) (.ref C_NoCount) = some false)
    (s_NoNumber_NoText : PySem.W.subIn K (.ref C_NoNumber) (.ref C_NoText) = some false)
    (s_NoBook_TapError : PySem.W.subIn K (.ref C_NoBook) (.ref C_TapError) = some true)
    (s_NoBook_NoNumber : PySem.W.subIn K (.ref C_NoBook) (.ref C_NoNumber) = some false)
    (s_NoBook_NoBook : PySem.W.subIn K (.ref C_NoBook) (.ref C_NoBook) = some true)
    (s_NoBook_NoLine : PySem.W.subIn K (.ref C_NoBook) (.ref C_NoLine) = some false)
    (s_NoBook_NoLoop : PySem.W.subIn K (.ref C_NoBook) (.ref C_NoLoop) = some false)
    (s_NoBook_NoPull : PySem.W.subIn K (.ref C_NoBook) (.ref C_NoPull) = some false)
    (s_NoBook_NoCount : PySem.W.subIn K (.ref C_NoBook) (.ref C_NoCount) = some false)
    (s_NoBook_NoText : PySem.W.subIn K (.ref C_NoBook) (.ref C_NoText) = some false)
    (s_NoLine_TapError : PySem.W.subIn K (.ref C_NoLine) (.ref C_TapError) = some true)
    (s_NoLine_NoNumber : PySem.W.subIn K (.ref C_NoLine) (.ref C_NoNumber) = some false)
    (s_NoLine_NoBook : PySem.W.subIn K (.ref C_NoLine) (.ref C_NoBook) = some false)
    (s_NoLine_NoLine : PySem.W.subIn K (.ref C_NoLine) (.ref C_NoLine) = some true)
    (s_NoLine_NoLoop : PySem.W.subIn K (.ref C_NoLine) (.ref C_NoLoop) = some false)
    (s_NoLine_NoPull : PySem.W.subIn K (.ref C_NoLine) (.ref C_NoPull) = some false)
    (s_NoLine_NoCount : PySem.W.subIn K (.ref C_NoLine) (.ref C_NoCount) = some false)
    (s_NoLine_NoText : PySem.W.subIn K (.ref C_NoLine) (.ref C_NoText) = some false)
    (s_NoLoop_TapError : PySem.W.subIn K (.ref C_NoLoop) (.ref C_TapError) = some true)
    (s_NoLoop_NoNumber : PySem.W.subIn K (.ref C_NoLoop) (.ref C_NoNumber) = some false)
    (s_NoLoop_NoBook : PySem.W.subIn K (.ref C_NoLoop) (.ref C_NoBook) = some false)
    (s_NoLoop_NoLine : PySem.W.subIn K (.ref C_NoLoop) (.ref C_NoLine) = some false)
    (s_NoLoop_NoLoop : PySem.W.subIn K (.ref C_NoLoop) (.ref C_NoLoop) = some true)
    (s_NoLoop_NoPull : PySem.W.subIn K (.ref C_NoLoop) (.ref C_NoPull) = some false)
    (s_NoLoop_NoCount : PySem.W.subIn K (.ref C_NoLoop) (.ref C_NoCount) = some false)
    (s_NoLoop_NoText : PySem.W.subIn K (.ref C_NoLoop) (.ref C_NoText) = some false)
    (s_NoPull_TapError : PySem.W.subIn K (.ref C_NoPull) (.ref C_TapError) = some true)
    (s_NoPull_NoNumber : PySem.W.subIn K (.ref C_NoPull) (.ref C_NoNumber) = some false)
    (s_NoPull_NoBook : PySem.W.subIn K (.ref C_NoPull) (.ref C_NoBook) = some false)
    (s_NoPull_NoLine : PySem.W.subIn K (.ref C_NoPull) (.ref C_NoLine) = some false)
    (s_NoPull_NoLoop : PySem.W.subIn K (.ref C_NoPull) (.ref C_NoLoop) = some false)
    (s_NoPull_NoPull : PySem.W.subIn K (.ref C_NoPull) (.ref C_NoPull) = some true)
    (s_NoPull_NoCount : PySem.W.subIn K (.ref C_NoPull) (.ref C_NoCount) = some false)
    (s_NoPull_NoText : PySem.W.subIn K (.ref C_NoPull) (.ref C_NoText) = some false)
    (s_NoCount_TapError : PySem.W.subIn K (.ref C_NoCount) (.ref C_TapError) = some true)
    (s_NoCount_NoNumber : PySem.W.subIn K (.ref C_NoCount) (.ref C_NoNumber) = some false)
    (s_NoCount_NoBook : PySem.W.subIn K (.ref C_NoCount) (.ref C_NoBook) = some false)
    (s_NoCount_NoLine : PySem.W.subIn K (.ref C_NoCount) (.ref C_NoLine) = some false)
    (s_NoCount_NoLoop : PySem.W.subIn K (.ref C_NoCount) (.ref C_NoLoop) = some false)
    (s_NoCount_NoPull : PySem.W.subIn K (.ref C_NoCount) (.ref C_NoPull) = some false)
    (s_NoCount_NoCount : PySem.W.subIn K (.ref C_NoCount) (.ref C_NoCount) = some true)
    (s_NoCount_NoText : PySem.W.subIn K (.ref C_NoCount) (.ref C_NoText) = some false)
    (s_NoText_TapError : PySem.W.subIn K (.ref C_NoText) (.ref C_TapError) = some true)
    (s_NoText_NoNumber : PySem.W.subIn K (.ref C_NoText) (.ref C_NoNumber) = some false)
    (s_NoText_NoBook : PySem.W.subIn K (.ref C_NoText) (.ref C_NoBook) = some false)
    (s_NoText_NoLine : PySem.W.subIn K (.ref C_NoText) (.ref C_NoLine) = some false)
    (s_NoText_NoLoop : PySem.W.subIn K (.ref C_NoText) (.ref C_NoLoop) = some false)
    (s_NoText_NoPull : PySem.W.subIn K (.ref C_NoText) (.ref C_NoPull) = some false)
    (s_NoText_NoCount : PySem.W.subIn K (.ref C_NoText) (.ref C_NoCount) = some false)
    (s_NoText_NoText : PySem.W.subIn K (.ref C_NoText) (.ref C_NoText) = some true)
    (hF : ∀ ns : List Int, ns.length ≤ 63 → ∃ s, F_law_k20 [.scr ns] [] = .ok (.bl true) s) :
    ∃ fd : FuncData, (∀ (s : Shared) (u : Value), BindsTo s fd ⟨[u], []⟩ [("_law_script", u)]) ∧ ∀ base : Heap, K.In base → base.Ns mainGlobals mg → FnOk P w K mg base (L2.CX P w) 33 fa fd ["_law_script"] (spLaw K) := by
  obtain ⟨f0, d0⟩ := d_law_k20
  have e := hfa.symm.trans (PySem.W.mg_of X G d0.ns)
  cases e
  obtain ⟨oc, od, kV, doc, pm, an, cdv, ct, osl, l, c⟩ := d0.ex
  refine ⟨_, fun s u => .of_eq ((mt_law_k20).bd kV doc pm an cdv ct [u] rfl), fun base _ _ => ?_⟩
  have xF : XcF (⟨P, w, K, mg, base, caOf C_TapError C_NoNumber C_NoBook C_NoLine C_NoLoop C_NoPull C_NoCount C_NoText 0, fun _ => 0⟩ : Rt) [.num, .book, .line, .loop, .pull, .count, .text] := by
    refine ⟨fun c hc => ?_, fun c hc => ?_, PySem.W.mg_none_of X G z_isinstance, PySem.W.mg_none_of X G z_ValueError⟩
    · simp only [List.mem_cons, List.not_mem_nil, or_false] at hc
      rcases hc with rfl | rfl | rfl | rfl | rfl | rfl | rfl
      · exact exc_of (k_NoNumber n_NoNumber) a_NoNumber xg
      · exact exc_of (k_NoBook n_NoBook) a_NoBook xg
      · exact exc_of (k_NoLine n_NoLine) a_NoLine xg
      · exact exc_of (k_NoLoop n_NoLoop) a_NoLoop xg
      · exact exc_of (k_NoPull n_NoPull) a_NoPull xg
      · exact exc_of (k_NoCount n_NoCount) a_NoCount xg
      · exact exc_of (k_NoText n_NoText) a_NoText xg
    · simp only [List.mem_cons, List.not_mem_nil, or_false] at hc
      rcases hc with rfl | rfl | rfl | rfl | rfl | rfl | rfl
      · exact kit_ve a_NoNumber.ve
      · exact kit_ve a_NoBook.ve
      · exact kit_ve a_NoLine.ve
      · exact kit_ve a_NoLoop.ve
      · exact kit_ve a_NoPull.ve
      · exact kit_ve a_NoCount.ve
      · exact kit_ve a_NoText.ve
  have e_TapError : ∀ c ∈ ([.num, .book, .line, .loop, .pull, .count, .text] : List Xc), PySem.W.exmOne K (.ref (caOf C_TapError C_NoNumber C_NoBook C_NoLine C_NoLoop C_NoPull C_NoCount C_NoText 0 c)) (.ref C_TapError) = some (isX c .tap) := fun c hc => by
    simp only [List.mem_cons, List.not_mem_nil, or_false] at hc
    rcases hc with rfl | rfl | rfl | rfl | rfl | rfl | rfl
    · exact PySem.W.exm_ref (k_TapError n_TapError).sb a_TapError.hd (k_TapError n_TapError).ty s_NoNumber_TapError
    · exact PySem.W.exm_ref (k_TapError n_TapError).sb a_TapError.hd (k_TapError n_TapError).ty s_NoBook_TapError
    · exact PySem.W.exm_ref (k_TapError n_TapError).sb a_TapError.hd (k_TapError n_TapError).ty s_NoLine_TapError
    · exact PySem.W.exm_ref (k_TapError n_TapError).sb a_TapError.hd (k_TapError n_TapError).ty s_NoLoop_TapError
    · exact PySem.W.exm_ref (k_TapError n_TapError).sb a_TapError.hd (k_TapError n_TapError).ty s_NoPull_TapError
    · exact PySem.W.exm_ref (k_TapError n_TapError).sb a_TapError.hd (k_TapError n_TapError).ty s_NoCount_TapError
    · exact PySem.W.exm_ref (k_TapError n_TapError).sb a_TapError.hd (k_TapError n_TapError).ty s_NoText_TapError
  have q_NoNumber : ∀ c ∈ ([.num, .book, .line, .loop, .pull, .count, .text] : List Xc), PySem.W.kitOne K (.ref (caOf C_TapError C_NoNumber C_NoBook C_NoLine C_NoLoop C_NoPull C_NoCount C_NoText 0 c)) (.ref C_NoNumber) = some (isX c .num) := fun c hc => by
    simp only [List.mem_cons, List.not_mem_nil, or_false] at hc
    rcases hc with rfl | rfl | rfl | rfl | rfl | rfl | rfl
    · exact kit_ref a_NoNumber.hd (k_NoNumber n_NoNumber).ty s_NoNumber_NoNumber (fun _ => rfl)
    · exact kit_ref a_NoNumber.hd (k_NoNumber n_NoNumber).ty s_NoBook_NoNumber (fun e => by have z1 := s_NoNumber_NoNumber; have z2 := s_NoBook_NoNumber; rw [show C_NoBook = C_NoNumber from e, z1] at z2; exact absurd z2 (by simp))
    · exact kit_ref a_NoNumber.hd (k_NoNumber n_NoNumber).ty s_NoLine_NoNumber (fun e => by have z1 := s_NoNumber_NoNumber; have z2 := s_NoLine_NoNumber; rw [show C_NoLine = C_NoNumber from e, z1] at z2; exact absurd z2 (by simp))
    · exact kit_ref a_NoNumber.hd (k_NoNumber n_NoNumber).ty s_NoLoop_NoNumber (fun e => by have z1 := s_NoNumber_NoNumber; have z2 := s_NoLoop_NoNumber; rw [show C_NoLoop = C_NoNumber from e, z1] at z2; exact absurd z2 (by simp))
    · exact kit_ref a_NoNumber.hd (k_NoNumber n_NoNumber).ty s_NoPull_NoNumber (fun e => by have z1 := s_NoNumber_NoNumber; have z2 := s_NoPull_NoNumber; rw [show C_NoPull = C_NoNumber from e, z1] at z2; exact absurd z2 (by simp))
    · exact kit_ref a_NoNumber.hd (k_NoNumber n_NoNumber).ty s_NoCount_NoNumber (fun e => by have z1 := s_NoNumber_NoNumber; have z2 := s_NoCount_NoNumber; rw [show C_NoCount = C_NoNumber from e, z1] at z2; exact absurd z2 (by simp))
    · exact kit_ref a_NoNumber.hd (k_NoNumber n_NoNumber).ty s_NoText_NoNumber (fun e => by have z1 := s_NoNumber_NoNumber; have z2 := s_NoText_NoNumber; rw [show C_NoText = C_NoNumber from e, z1] at z2; exact absurd z2 (by simp))
  have q_NoBook : ∀ c ∈ ([.num, .book, .line, .loop, .pull, .count, .text] : List Xc), PySem.W.kitOne K (.ref (caOf C_TapError C_NoNumber C_NoBook C_NoLine C_NoLoop C_NoPull C_NoCount C_NoText 0 c)) (.ref C_NoBook) = some (isX c .book) := fun c hc => by
    simp only [List.mem_cons, List.not_mem_nil, or_false] at hc
    rcases hc with rfl | rfl | rfl | rfl | rfl | rfl | rfl
    · exact kit_ref a_NoBook.hd (k_NoBook n_NoBook).ty s_NoNumber_NoBook (fun e => by have z1 := s_NoBook_NoBook; have z2 := s_NoNumber_NoBook; rw [show C_NoNumber = C_NoBook from e, z1] at z2; exact absurd z2 (by simp))
    · exact kit_ref a_NoBook.hd (k_NoBook n_NoBook).ty s_NoBook_NoBook (fun _ => rfl)
    · exact kit_ref a_NoBook.hd (k_NoBook n_NoBook).ty s_NoLine_NoBook (fun e => by have z1 := s_NoBook_NoBook; have z2 := s_NoLine_NoBook; rw [show C_NoLine = C_NoBook from e, z1] at z2; exact absurd z2 (by simp))
    · exact kit_ref a_NoBook.hd (k_NoBook n_NoBook).ty s_NoLoop_NoBook (fun e => by have z1 := s_NoBook_NoBook; have z2 := s_NoLoop_NoBook; rw [show C_NoLoop = C_NoBook from e, z1] at z2; exact absurd z2 (by simp))
    · exact kit_ref a_NoBook.hd (k_NoBook n_NoBook).ty s_NoPull_NoBook (fun e => by have z1 := s_NoBook_NoBook; have z2 := s_NoPull_NoBook; rw [show C_NoPull = C_NoBook from e, z1] at z2; exact absurd z2 (by simp))
    · exact kit_ref a_NoBook.hd (k_NoBook n_NoBook).ty s_NoCount_NoBook (fun e => by have z1 := s_NoBook_NoBook; have z2 := s_NoCount_NoBook; rw [show C_NoCount = C_NoBook from e, z1] at z2; exact absurd z2 (by simp))
    · exact kit_ref a_NoBook.hd (k_NoBook n_NoBook).ty s_NoText_NoBook (fun e => by have z1 := s_NoBook_NoBook; have z2 := s_NoText_NoBook; rw [show C_NoText = C_NoBook from e, z1] at z2; exact absurd z2 (by simp))
  have q_NoLine : ∀ c ∈ ([.num, .book, .line, .loop, .pull, .count, .text] : List Xc), PySem.W.kitOne K (.ref (caOf C_TapError C_NoNumber C_NoBook C_NoLine C_NoLoop C_NoPull C_NoCount C_NoText 0 c)) (.ref C_NoLine) = some (isX c .line) := fun c hc => by
    simp only [List.mem_cons, List.not_mem_nil, or_false] at hc
    rcases hc with rfl | rfl | rfl | rfl | rfl | rfl | rfl
    · exact kit_ref a_NoLine.hd (k_NoLine n_NoLine).ty s_NoNumber_NoLine (fun e => by have z1 := s_NoLine_NoLine; have z2 := s_NoNumber_NoLine; rw [show C_NoNumber = C_NoLine from e, z1] at z2; exact absurd z2 (by simp))
    · exact kit_ref a_NoLine.hd (k_NoLine n_NoLine).ty s_NoBook_NoLine (fun e => by have z1 := s_NoLine_NoLine; have z2 := s_NoBook_NoLine; rw [show C_NoBook = C_NoLine from e, z1] at z2; exact absurd z2 (by simp))
    · exact kit_ref a_NoLine.hd (k_NoLine n_NoLine).ty s_NoLine_NoLine (fun _ => rfl)
    · exact kit_ref a_NoLine.hd (k_NoLine n_NoLine).ty s_NoLoop_NoLine (fun e => by have z1 := s_NoLine_NoLine; have z2 := s_NoLoop_NoLine; rw [show C_NoLoop = C_NoLine from e, z1] at z2; exact absurd z2 (by simp))
    · exact kit_ref a_NoLine.hd (k_NoLine n_NoLine).ty s_NoPull_NoLine (fun e => by have z1 := s_NoLine_NoLine; have z2 := s_NoPull_NoLine; rw [show C_NoPull = C_NoLine from e, z1] at z2; exact absurd z2 (by simp))
    · exact kit_ref a_NoLine.hd (k_NoLine n_NoLine).ty s_NoCount_NoLine (fun e => by have z1 := s_NoLine_NoLine; have z2 := s_NoCount_NoLine; rw [show C_NoCount = C_NoLine from e, z1] at z2; exact absurd z2 (by simp))
    · exact kit_ref a_NoLine.hd (k_NoLine n_NoLine).ty s_NoText_NoLine (fun e => by have z1 := s_NoLine_NoLine; have z2 := s_NoText_NoLine; rw [show C_NoText = C_NoLine from e, z1] at z2; exact absurd z2 (by simp))
  have q_NoLoop : ∀ c ∈ ([.num, .book, .line, .loop, .pull, .count, .text] : List Xc), PySem.W.kitOne K (.ref (caOf C_TapError C_NoNumber C_NoBook C_NoLine C_NoLoop C_NoPull C_NoCount C_NoText 0 c)) (.ref C_NoLoop) = some (isX c .loop) := fun c hc => by
    simp only [List.mem_cons, List.not_mem_nil, or_false] at hc
    rcases hc with rfl | rfl | rfl | rfl | rfl | rfl | rfl
    · exact kit_ref a_NoLoop.hd (k_NoLoop n_NoLoop).ty s_NoNumber_NoLoop (fun e => by have z1 := s_NoLoop_NoLoop; have z2 := s_NoNumber_NoLoop; rw [show C_NoNumber = C_NoLoop from e, z1] at z2; exact absurd z2 (by simp))
    · exact kit_ref a_NoLoop.hd (k_NoLoop n_NoLoop).ty s_NoBook_NoLoop (fun e => by have z1 := s_NoLoop_NoLoop; have z2 := s_NoBook_NoLoop; rw [show C_NoBook = C_NoLoop from e, z1] at z2; exact absurd z2 (by simp))
    · exact kit_ref a_NoLoop.hd (k_NoLoop n_NoLoop).ty s_NoLine_NoLoop (fun e => by have z1 := s_NoLoop_NoLoop; have z2 := s_NoLine_NoLoop; rw [show C_NoLine = C_NoLoop from e, z1] at z2; exact absurd z2 (by simp))
    · exact kit_ref a_NoLoop.hd (k_NoLoop n_NoLoop).ty s_NoLoop_NoLoop (fun _ => rfl)
    · exact kit_ref a_NoLoop.hd (k_NoLoop n_NoLoop).ty s_NoPull_NoLoop (fun e => by have z1 := s_NoLoop_NoLoop; have z2 := s_NoPull_NoLoop; rw [show C_NoPull = C_NoLoop from e, z1] at z2; exact absurd z2 (by simp))
    · exact kit_ref a_NoLoop.hd (k_NoLoop n_NoLoop).ty s_NoCount_NoLoop (fun e => by have z1 := s_NoLoop_NoLoop; have z2 := s_NoCount_NoLoop; rw [show C_NoCount = C_NoLoop from e, z1] at z2; exact absurd z2 (by simp))
    · exact kit_ref a_NoLoop.hd (k_NoLoop n_NoLoop).ty s_NoText_NoLoop (fun e => by have z1 := s_NoLoop_NoLoop; have z2 := s_NoText_NoLoop; rw [show C_NoText = C_NoLoop from e, z1] at z2; exact absurd z2 (by simp))
  have q_NoPull : ∀ c ∈ ([.num, .book, .line, .loop, .pull, .count, .text] : List Xc), PySem.W.kitOne K (.ref (caOf C_TapError C_NoNumber C_NoBook C_NoLine C_NoLoop C_NoPull C_NoCount C_NoText 0 c)) (.ref C_NoPull) = some (isX c .pull) := fun c hc => by
    simp only [List.mem_cons, List.not_mem_nil, or_false] at hc
    rcases hc with rfl | rfl | rfl | rfl | rfl | rfl | rfl
    · exact kit_ref a_NoPull.hd (k_NoPull n_NoPull).ty s_NoNumber_NoPull (fun e => by have z1 := s_NoPull_NoPull; have z2 := s_NoNumber_NoPull; rw [show C_NoNumber = C_NoPull from e, z1] at z2; exact absurd z2 (by simp))
    · exact kit_ref a_NoPull.hd (k_NoPull n_NoPull).ty s_NoBook_NoPull (fun e => by have z1 := s_NoPull_NoPull; have z2 := s_NoBook_NoPull; rw [show C_NoBook = C_NoPull from e, z1] at z2; exact absurd z2 (by simp))
    · exact kit_ref a_NoPull.hd (k_NoPull n_NoPull).ty s_NoLine_NoPull (fun e => by have z1 := s_NoPull_NoPull; have z2 := s_NoLine_NoPull; rw [show C_NoLine = C_NoPull from e, z1] at z2; exact absurd z2 (by simp))
    · exact kit_ref a_NoPull.hd (k_NoPull n_NoPull).ty s_NoLoop_NoPull (fun e => by have z1 := s_NoPull_NoPull; have z2 := s_NoLoop_NoPull; rw [show C_NoLoop = C_NoPull from e, z1] at z2; exact absurd z2 (by simp))
    · exact kit_ref a_NoPull.hd (k_NoPull n_NoPull).ty s_NoPull_NoPull (fun _ => rfl)
    · exact kit_ref a_NoPull.hd (k_NoPull n_NoPull).ty s_NoCount_NoPull (fun e => by have z1 := s_NoPull_NoPull; have z2 := s_NoCount_NoPull; rw [show C_NoCount = C_NoPull from e, z1] at z2; exact absurd z2 (by simp))
    · exact kit_ref a_NoPull.hd (k_NoPull n_NoPull).ty s_NoText_NoPull (fun e => by have z1 := s_NoPull_NoPull; have z2 := s_NoText_NoPull; rw [show C_NoText = C_NoPull from e, z1] at z2; exact absurd z2 (by simp))
  have q_NoCount : ∀ c ∈ ([.num, .book, .line, .loop, .pull, .count, .text] : List Xc), PySem.W.kitOne K (.ref (caOf C_TapError C_NoNumber C_NoBook C_NoLine C_NoLoop C_NoPull C_NoCount C_NoText 0 c)) (.ref C_NoCount) = some (isX c .count) := fun c hc => by
    simp only [List.mem_cons, List.not_mem_nil, or_false] at hc
    rcases hc with rfl | rfl | rfl | rfl | rfl | rfl | rfl
    · exact kit_ref a_NoCount.hd (k_NoCount n_NoCount).ty s_NoNumber_NoCount (fun e => by have z1 := s_NoCount_NoCount; have z2 := s_NoNumber_NoCount; rw [show C_NoNumber = C_NoCount from e, z1] at z2; exact absurd z2 (by simp))
    · exact kit_ref a_NoCount.hd (k_NoCount n_NoCount).ty s_NoBook_NoCount (fun e => by have z1 := s_NoCount_NoCount; have z2 := s_NoBook_NoCount; rw [show C_NoBook = C_NoCount from e, z1] at z2; exact absurd z2 (by simp))
    · exact kit_ref a_NoCount.hd (k_NoCount n_NoCount).ty s_NoLine_NoCount (fun e => by have z1 := s_NoCount_NoCount; have z2 := s_NoLine_NoCount; rw [show C_NoLine = C_NoCount from e, z1] at z2; exact absurd z2 (by simp))
    · exact kit_ref a_NoCount.hd (k_NoCount n_NoCount).ty s_NoLoop_NoCount (fun e => by have z1 := s_NoCount_NoCount; have z2 := s_NoLoop_NoCount; rw [show C_NoLoop = C_NoCount from e, z1] at z2; exact absurd z2 (by simp))
    · exact kit_ref a_NoCount.hd (k_NoCount n_NoCount).ty s_NoPull_NoCount (fun e => by have z1 := s_NoCount_NoCount; have z2 := s_NoPull_NoCount; rw [show C_NoPull = C_NoCount from e, z1] at z2; exact absurd z2 (by simp))
    · exact kit_ref a_NoCount.hd (k_NoCount n_NoCount).ty s_NoCount_NoCount (fun _ => rfl)
    · exact kit_ref a_NoCount.hd (k_NoCount n_NoCount).ty s_NoText_NoCount (fun e => by have z1 := s_NoCount_NoCount; have z2 := s_NoText_NoCount; rw [show C_NoText = C_NoCount from e, z1] at z2; exact absurd z2 (by simp))
  have q_NoText : ∀ c ∈ ([.num, .book, .line, .loop, .pull, .count, .text] : List Xc), PySem.W.kitOne K (.ref (caOf C_TapError C_NoNumber C_NoBook C_NoLine C_NoLoop C_NoPull C_NoCount C_NoText 0 c)) (.ref C_NoText) = some (isX c .text) := fun c hc => by
    simp only [List.mem_cons, List.not_mem_nil, or_false] at hc
    rcases hc with rfl | rfl | rfl | rfl | rfl | rfl | rfl
    · exact kit_ref a_NoText.hd (k_NoText n_NoText).ty s_NoNumber_NoText (fun e => by have z1 := s_NoText_NoText; have z2 := s_NoNumber_NoText; rw [show C_NoNumber = C_NoText from e, z1] at z2; exact absurd z2 (by simp))
    · exact kit_ref a_NoText.hd (k_NoText n_NoText).ty s_NoBook_NoText (fun e => by have z1 := s_NoText_NoText; have z2 := s_NoBook_NoText; rw [show C_NoBook = C_NoText from e, z1] at z2; exact absurd z2 (by simp))
    · exact kit_ref a_NoText.hd (k_NoText n_NoText).ty s_NoLine_NoText (fun e => by have z1 := s_NoText_NoText; have z2 := s_NoLine_NoText; rw [show C_NoLine = C_NoText from e, z1] at z2; exact absurd z2 (by simp))
    · exact kit_ref a_NoText.hd (k_NoText n_NoText).ty s_NoLoop_NoText (fun e => by have z1 := s_NoText_NoText; have z2 := s_NoLoop_NoText; rw [show C_NoLoop = C_NoText from e, z1] at z2; exact absurd z2 (by simp))
    · exact kit_ref a_NoText.hd (k_NoText n_NoText).ty s_NoPull_NoText (fun e => by have z1 := s_NoText_NoText; have z2 := s_NoPull_NoText; rw [show C_NoPull = C_NoText from e, z1] at z2; exact absurd z2 (by simp))
    · exact kit_ref a_NoText.hd (k_NoText n_NoText).ty s_NoCount_NoText (fun e => by have z1 := s_NoText_NoText; have z2 := s_NoCount_NoText; rw [show C_NoCount = C_NoText from e, z1] at z2; exact absurd z2 (by simp))
    · exact kit_ref a_NoText.hd (k_NoText n_NoText).ty s_NoText_NoText (fun _ => rfl)
  have H := chain (T := ⟨P, w, K, mg, base, caOf C_TapError C_NoNumber C_NoBook C_NoLine C_NoLoop C_NoPull C_NoCount C_NoText 0, fun _ => 0⟩) (fun x f e => PySem.W.mg_of X G e) d_bits_of d_runs_of d_is_count d_is_pull d_need_pulls d_need_rounds d_is_number d_is_loop d_need_loop d_runs d_idle_pulls d_longest_wait d_line d_l_told_4 d_l_each d_l_is_loop d_l_bits_1 d_l_runs d_l_is_told d_l_cell d_l_drawn d_l_pulls d_l_loop d_refused (PySem.W.mg_none_of X G z_int) (PySem.W.mg_none_of X G z_set) (PySem.W.mg_none_of X G z_len) (PySem.W.mg_none_of X G z_sorted) (PySem.W.mg_none_of X G z_max) (PySem.W.mg_none_of X G z_isinstance) (PySem.W.mg_none_of X G z_bool) (PySem.W.mg_none_of X G z_tuple) (PySem.W.mg_none_of X G z_all) (PySem.W.mg_none_of X G z_zip) (PySem.W.mg_none_of X G z_range) (PySem.W.mg_none_of X G z_min) (PySem.W.mg_none_of X G z_list) (PySem.W.mg_none_of X G z_enumerate) (PySem.W.mg_none_of X G z_ValueError) (gl_int X G c_DIGIT_REST) (gl_int X G c_ROUND_REST) (gl_int X G c_MOST_MOMENT) (gl_int X G c_MOST_PULLS) (gl_int X G c_MOST_ROUNDS) (gl_int X G c_MOST_DIGITS) (gl_int X G c_MOST_DIGIT) (gl_int X G c_MOST_BOXES) ⟨PySem.W.mg_of X G n_NoPull, XcK.ok (c := .pull) (k_NoPull n_NoPull)⟩ ⟨PySem.W.mg_of X G n_NoCount, XcK.ok (c := .count) (k_NoCount n_NoCount)⟩ ⟨PySem.W.mg_of X G n_NoLoop, XcK.ok (c := .loop) (k_NoLoop n_NoLoop)⟩ xF ⟨PySem.W.mg_of X G n_TapError, e_TapError⟩ ⟨PySem.W.mg_of X G n_NoNumber, q_NoNumber⟩ ⟨PySem.W.mg_of X G n_NoBook, q_NoBook⟩ ⟨PySem.W.mg_of X G n_NoLine, q_NoLine⟩ ⟨PySem.W.mg_of X G n_NoLoop, q_NoLoop⟩ ⟨PySem.W.mg_of X G n_NoPull, q_NoPull⟩ ⟨PySem.W.mg_of X G n_NoCount, q_NoCount⟩ ⟨PySem.W.mg_of X G n_NoText, q_NoText⟩
  exact law_of hF (def_ok (T := ⟨P, w, K, mg, base, caOf C_TapError C_NoNumber C_NoBook C_NoLine C_NoLoop C_NoPull C_NoCount C_NoText 0, fun _ => 0⟩) l c (mt_law_k20).sc (mt_law_k20).hmu (mt_law_k20).tx H)
end BX

set_option Elab.async false
set_option linter.all false
set_option maxRecDepth 100000
set_option maxHeartbeats 0
open PySem PySem.W PyProof.Rows
theorem PySem.Challenge.cw_boxtaps_k20_loops_holds : PySem.Challenge.rw_boxtaps_k20_loops.Holds := by
  w_on; o_law; k_head; (case hw => w_witness2)
  k_fill
  refine BX.walk (l := PySem.Challenge.rw_boxtaps_k20_loops) (x := "_law_script") 33 rfl rfl ⟨rfl, by decide, by decide⟩ (fun w h Y => PySem.W.kIn_of Y) ?F
  case F =>
    intro w mg fa h KX G hmg
    refine' BX.law_fn KX G hmg ?d_bits_of ?d_runs_of ?d_is_count ?d_is_pull ?d_need_pulls ?d_need_rounds ?d_is_number ?d_is_loop ?d_need_loop ?d_runs ?d_idle_pulls ?d_longest_wait ?d_line ?d_l_told_4 ?d_l_each ?d_l_is_loop ?d_l_bits_1 ?d_l_runs ?d_l_is_told ?d_l_cell ?d_l_drawn ?d_l_pulls ?d_l_loop ?d_law_k20 ?d_refused ?z_int ?z_set ?z_len ?z_sorted ?z_max ?z_isinstance ?z_bool ?z_tuple ?z_all ?z_zip ?z_range ?z_min ?z_list ?z_enumerate ?z_ValueError ?c_DIGIT_REST ?c_ROUND_REST ?c_MOST_MOMENT ?c_MOST_PULLS ?c_MOST_ROUNDS ?c_MOST_DIGITS ?c_MOST_DIGIT ?c_MOST_BOXES ?n_TapError ?k_TapError ?n_NoNumber ?k_NoNumber ?n_NoBook ?k_NoBook ?n_NoLine ?k_NoLine ?n_NoLoop ?k_NoLoop ?n_NoPull ?k_NoPull ?n_NoCount ?k_NoCount ?n_NoText ?k_NoText ?xg ?a_TapError ?a_NoNumber ?a_NoBook ?a_NoLine ?a_NoLoop ?a_NoPull ?a_NoCount ?a_NoText ?s_NoNumber_TapError ?s_NoNumber_NoNumber ?s_NoNumber_NoBook ?s_NoNumber_NoLine ?s_NoNumber_NoLoop ?s_NoNumber_NoPull ?s_NoNumber_NoCount ?s_NoNumber_NoText ?s_NoBook_TapError ?s_NoBook_NoNumber ?s_NoBook_NoBook ?s_NoBook_NoLine ?s_NoBook_NoLoop ?s_NoBook_NoPull ?s_NoBook_NoCount ?s_NoBook_NoText ?s_NoLine_TapError ?s_NoLine_NoNumber ?s_NoLine_NoBook ?s_NoLine_NoLine ?s_NoLine_NoLoop ?s_NoLine_NoPull ?s_NoLine_NoCount ?s_NoLine_NoText ?s_NoLoop_TapError ?s_NoLoop_NoNumber ?s_NoLoop_NoBook ?s_NoLoop_NoLine ?s_NoLoop_NoLoop ?s_NoLoop_NoPull ?s_NoLoop_NoCount ?s_NoLoop_NoText ?s_NoPull_TapError ?s_NoPull_NoNumber ?s_NoPull_NoBook ?s_NoPull_NoLine ?s_NoPull_NoLoop ?s_NoPull_NoPull ?s_NoPull_NoCount ?s_NoPull_NoText ?s_NoCount_TapError ?s_NoCount_NoNumber ?s_NoCount_NoBook ?s_NoCount_NoLine ?s_NoCount_NoLoop ?s_NoCount_NoPull ?s_NoCount_NoCount ?s_NoCount_NoText ?s_NoText_TapError ?s_NoText_NoNumber ?s_NoText_NoBook ?s_NoText_NoLine ?s_NoText_NoLoop ?s_NoText_NoPull ?s_NoText_NoCount ?s_NoText_NoText BX.Q.plain
    (case d_bits_of => refine' ⟨_, BX.defk ?a ?l ?c ?k⟩; (case a => k_is); (case l => k_is); (case c => k_is); (case k => k_is))
    (case d_runs_of => refine' ⟨_, BX.defk ?a ?l ?c ?k⟩; (case a => k_is); (case l => k_is); (case c => k_is); (case k => k_is))
    (case d_is_count => refine' ⟨_, BX.defk ?a ?l ?c ?k⟩; (case a => k_is); (case l => k_is); (case c => k_is); (case k => k_is))
    (case d_is_pull => refine' ⟨_, BX.defk ?a ?l ?c ?k⟩; (case a => k_is); (case l => k_is); (case c => k_is); (case k => k_is))
    (case d_need_pulls => refine' ⟨_, BX.defk ?a ?l ?c ?k⟩; (case a => k_is); (case l => k_is); (case c => k_is); (case k => k_is))
    (case d_need_rounds => refine' ⟨_, BX.defk ?a ?l ?c ?k⟩; (case a => k_is); (case l => k_is); (case c => k_is); (case k => k_is))
    (case d_is_number => refine' ⟨_, BX.defk ?a ?l ?c ?k⟩; (case a => k_is); (case l => k_is); (case c => k_is); (case k => k_is))
    (case d_is_loop => refine' ⟨_, BX.defk ?a ?l ?c ?k⟩; (case a => k_is); (case l => k_is); (case c => k_is); (case k => k_is))
    (case d_need_loop => refine' ⟨_, BX.defk ?a ?l ?c ?k⟩; (case a => k_is); (case l => k_is); (case c => k_is); (case k => k_is))
    (case d_runs => refine' ⟨_, BX.defk ?a ?l ?c ?k⟩; (case a => k_is); (case l => k_is); (case c => k_is); (case k => k_is))
    (case d_idle_pulls => refine' ⟨_, BX.defk ?a ?l ?c ?k⟩; (case a => k_is); (case l => k_is); (case c => k_is); (case k => k_is))
    (case d_longest_wait => refine' ⟨_, BX.defk ?a ?l ?c ?k⟩; (case a => k_is); (case l => k_is); (case c => k_is); (case k => k_is))
    (case d_line => refine' ⟨_, BX.defk ?a ?l ?c ?k⟩; (case a => k_is); (case l => k_is); (case c => k_is); (case k => k_is))
    (case d_l_told_4 => refine' ⟨_, BX.defk ?a ?l ?c ?k⟩; (case a => k_is); (case l => k_is); (case c => k_is); (case k => k_is))
    (case d_l_each => refine' ⟨_, BX.defk ?a ?l ?c ?k⟩; (case a => k_is); (case l => k_is); (case c => k_is); (case k => k_is))
    (case d_l_is_loop => refine' ⟨_, BX.defk ?a ?l ?c ?k⟩; (case a => k_is); (case l => k_is); (case c => k_is); (case k => k_is))
    (case d_l_bits_1 => refine' ⟨_, BX.defk ?a ?l ?c ?k⟩; (case a => k_is); (case l => k_is); (case c => k_is); (case k => k_is))
    (case d_l_runs => refine' ⟨_, BX.defk ?a ?l ?c ?k⟩; (case a => k_is); (case l => k_is); (case c => k_is); (case k => k_is))
    (case d_l_is_told => refine' ⟨_, BX.defk ?a ?l ?c ?k⟩; (case a => k_is); (case l => k_is); (case c => k_is); (case k => k_is))
    (case d_l_cell => refine' ⟨_, BX.defk ?a ?l ?c ?k⟩; (case a => k_is); (case l => k_is); (case c => k_is); (case k => k_is))
    (case d_l_drawn => refine' ⟨_, BX.defk ?a ?l ?c ?k⟩; (case a => k_is); (case l => k_is); (case c => k_is); (case k => k_is))
    (case d_l_pulls => refine' ⟨_, BX.defk ?a ?l ?c ?k⟩; (case a => k_is); (case l => k_is); (case c => k_is); (case k => k_is))
    (case d_l_loop => refine' ⟨_, BX.defk ?a ?l ?c ?k⟩; (case a => k_is); (case l => k_is); (case c => k_is); (case k => k_is))
    (case d_law_k20 => refine' ⟨_, BX.defk ?a ?l ?c ?k⟩; (case a => k_is); (case l => k_is); (case c => k_is); (case k => k_is))
    (case d_refused => refine' ⟨_, BX.defk ?a ?l ?c ?k⟩; (case a => k_is); (case l => k_is); (case c => k_is); (case k => k_is))
    (case z_int => k_is)
    (case z_set => k_is)
    (case z_len => k_is)
    (case z_sorted => k_is)
    (case z_max => k_is)
    (case z_isinstance => k_is)
    (case z_bool => k_is)
    (case z_tuple => k_is)
    (case z_all => k_is)
    (case z_zip => k_is)
    (case z_range => k_is)
    (case z_min => k_is)
    (case z_list => k_is)
    (case z_enumerate => k_is)
    (case z_ValueError => k_is)
    (case c_DIGIT_REST => k_is)
    (case c_ROUND_REST => k_is)
    (case c_MOST_MOMENT => k_is)
    (case c_MOST_PULLS => k_is)
    (case c_MOST_ROUNDS => k_is)
    (case c_MOST_DIGITS => k_is)
    (case c_MOST_DIGIT => k_is)
    (case c_MOST_BOXES => k_is)
    (case n_TapError => k_is)
    (case k_TapError => intro e; refine' ⟨e, ?a, ?b, ?c, ?d⟩; (case a => k_exc); (case b => k_is); (case c => k_is); (case d => k_is))
    (case n_NoNumber => k_is)
    (case k_NoNumber => intro e; refine' ⟨e, ?a, ?b, ?c, ?d⟩; (case a => k_exc); (case b => k_is); (case c => k_is); (case d => k_is))
    (case n_NoBook => k_is)
    (case k_NoBook => intro e; refine' ⟨e, ?a, ?b, ?c, ?d⟩; (case a => k_exc); (case b => k_is); (case c => k_is); (case d => k_is))
    (case n_NoLine => k_is)
    (case k_NoLine => intro e; refine' ⟨e, ?a, ?b, ?c, ?d⟩; (case a => k_exc); (case b => k_is); (case c => k_is); (case d => k_is))
    (case n_NoLoop => k_is)
    (case k_NoLoop => intro e; refine' ⟨e, ?a, ?b, ?c, ?d⟩; (case a => k_exc); (case b => k_is); (case c => k_is); (case d => k_is))
    (case n_NoPull => k_is)
    (case k_NoPull => intro e; refine' ⟨e, ?a, ?b, ?c, ?d⟩; (case a => k_exc); (case b => k_is); (case c => k_is); (case d => k_is))
    (case n_NoCount => k_is)
    (case k_NoCount => intro e; refine' ⟨e, ?a, ?b, ?c, ?d⟩; (case a => k_exc); (case b => k_is); (case c => k_is); (case d => k_is))
    (case n_NoText => k_is)
    (case k_NoText => intro e; refine' ⟨e, ?a, ?b, ?c, ?d⟩; (case a => k_exc); (case b => k_is); (case c => k_is); (case d => k_is))
    (case xg => refine' ⟨?a, ?b⟩; (case a => k_is); (case b => k_is))
    (case a_TapError => refine' ⟨?a, ?b, ?c, ?d, ?e, ?f⟩; (case a => k_is); (case b => k_is); (case c => k_is); (case d => k_is); (case e => k_is); (case f => k_is))
    (case a_NoNumber => refine' ⟨?a, ?b, ?c, ?d, ?e, ?f⟩; (case a => k_is); (case b => k_is); (case c => k_is); (case d => k_is); (case e => k_is); (case f => k_is))
    (case a_NoBook => refine' ⟨?a, ?b, ?c, ?d, ?e, ?f⟩; (case a => k_is); (case b => k_is); (case c => k_is); (case d => k_is); (case e => k_is); (case f => k_is))
    (case a_NoLine => refine' ⟨?a, ?b, ?c, ?d, ?e, ?f⟩; (case a => k_is); (case b => k_is); (case c => k_is); (case d => k_is); (case e => k_is); (case f => k_is))
    (case a_NoLoop => refine' ⟨?a, ?b, ?c, ?d, ?e, ?f⟩; (case a => k_is); (case b => k_is); (case c => k_is); (case d => k_is); (case e => k_is); (case f => k_is))
    (case a_NoPull => refine' ⟨?a, ?b, ?c, ?d, ?e, ?f⟩; (case a => k_is); (case b => k_is); (case c => k_is); (case d => k_is); (case e => k_is); (case f => k_is))
    (case a_NoCount => refine' ⟨?a, ?b, ?c, ?d, ?e, ?f⟩; (case a => k_is); (case b => k_is); (case c => k_is); (case d => k_is); (case e => k_is); (case f => k_is))
    (case a_NoText => refine' ⟨?a, ?b, ?c, ?d, ?e, ?f⟩; (case a => k_is); (case b => k_is); (case c => k_is); (case d => k_is); (case e => k_is); (case f => k_is))
    (case s_NoNumber_TapError => k_is)
    (case s_NoNumber_NoNumber => k_is)
    (case s_NoNumber_NoBook => k_is)
    (case s_NoNumber_NoLine => k_is)
    (case s_NoNumber_NoLoop => k_is)
    (case s_NoNumber_NoPull => k_is)
    (case s_NoNumber_NoCount => k_is)
    (case s_NoNumber_NoText => k_is)
    (case s_NoBook_TapError => k_is)
    (case s_NoBook_NoNumber => k_is)
    (case s_NoBook_NoBook => k_is)
    (case s_NoBook_NoLine => k_is)
    (case s_NoBook_NoLoop => k_is)
    (case s_NoBook_NoPull => k_is)
    (case s_NoBook_NoCount => k_is)
    (case s_NoBook_NoText => k_is)
    (case s_NoLine_TapError => k_is)
    (case s_NoLine_NoNumber => k_is)
    (case s_NoLine_NoBook => k_is)
    (case s_NoLine_NoLine => k_is)
    (case s_NoLine_NoLoop => k_is)
    (case s_NoLine_NoPull => k_is)
    (case s_NoLine_NoCount => k_is)
    (case s_NoLine_NoText => k_is)
    (case s_NoLoop_TapError => k_is)
    (case s_NoLoop_NoNumber => k_is)
    (case s_NoLoop_NoBook => k_is)
    (case s_NoLoop_NoLine => k_is)
    (case s_NoLoop_NoLoop => k_is)
    (case s_NoLoop_NoPull => k_is)
    (case s_NoLoop_NoCount => k_is)
    (case s_NoLoop_NoText => k_is)
    (case s_NoPull_TapError => k_is)
    (case s_NoPull_NoNumber => k_is)
    (case s_NoPull_NoBook => k_is)
    (case s_NoPull_NoLine => k_is)
    (case s_NoPull_NoLoop => k_is)
    (case s_NoPull_NoPull => k_is)
    (case s_NoPull_NoCount => k_is)
    (case s_NoPull_NoText => k_is)
    (case s_NoCount_TapError => k_is)
    (case s_NoCount_NoNumber => k_is)
    (case s_NoCount_NoBook => k_is)
    (case s_NoCount_NoLine => k_is)
    (case s_NoCount_NoLoop => k_is)
    (case s_NoCount_NoPull => k_is)
    (case s_NoCount_NoCount => k_is)
    (case s_NoCount_NoText => k_is)
    (case s_NoText_TapError => k_is)
    (case s_NoText_NoNumber => k_is)
    (case s_NoText_NoBook => k_is)
    (case s_NoText_NoLine => k_is)
    (case s_NoText_NoLoop => k_is)
    (case s_NoText_NoPull => k_is)
    (case s_NoText_NoCount => k_is)
    (case s_NoText_NoText => k_is)
