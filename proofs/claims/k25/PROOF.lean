import PyProof.Rows.All
import KE.KNestM
import Wide.All
import OpenK.AllK
import Wide.FinOn
import HandS.ForMost
import HandS.WideBits
import HandS.Text
import HandS.StrMore
import HandS.Exc
import HandS.ExcOwn
import HandS.ExcValue
import HandS.ExcIs
import HandS.IsInst
import HandS.Deep
import HandS.Style
import HandS.CallSlots
import HandS.WordsExc
import HandS.Lambda
import HandS.SortInts
import PyProof.WalkInts
import PyProof.Rows.RuleDivmod
import KE.KIntText
import PyProof.Rows.StrOr
import HandS.Replace
import HandS.Rev
import KE.GoesComp
import HandS.Comp
import HandS.Iter
import HandS.New0
import PyProof.JoinWalk
import HandS.MapJoin
import HandS.ReplaceLit
import PyProof.MeetsStr3
import KE.SortKeyHeap
import KE.SortUse
import HandS.Keys
import HandS.More
import HandS.EndBits
import HandS.Defaults
import HandS.EndTab
import KE.IntBitsLaws
import KE.BitLaws
import PySem.Challenge.RW_floatforge_k25_whole_in_order
set_option Elab.async false
set_option linter.all false
/-! MPA: a small language of data (ints, truths, texts, tuples, lists) and its evaluator: what the program's defs come to, without a heap. -/
namespace MP
open PySem

/-- data -/
inductive D where
  | non | bl (b : Bool) | int (i : Int) | str (l : List Nat) | tup (xs : List D) | lst (xs : List D) | dic | exc (c : Nat) | obj (c : Nat)

/-- what an expression comes to: a value, an exception of the program's class c, or nothing that this language tells -/
inductive R (α : Type) where
  | ok (a : α) | ex (c : Nat) | no

namespace R
def bind {α β : Type} (r : R α) (f : α → R β) : R β := match r with
  | .ok a => f a
  | .ex c => .ex c
  | .no => .no
@[simp] theorem bind_ok {α β : Type} (a : α) (f : α → R β) : (R.ok a).bind f = f a := rfl
@[simp] theorem bind_ex {α β : Type} (c : Nat) (f : α → R β) : (R.ex c : R α).bind f = .ex c := rfl
@[simp] theorem bind_no {α β : Type} (f : α → R β) : (R.no : R α).bind f = .no := rfl
/-- an exception told only where b holds -/
def gd {α : Type} (b : Bool) (r : R α) : R α := match r with
  | .ex c => if b = true then .ex c else .no
  | r => r
@[simp] theorem gd_ok {α : Type} (b : Bool) (a : α) : (R.ok a).gd b = .ok a := rfl
@[simp] theorem gd_no {α : Type} (b : Bool) : (R.no : R α).gd b = .no := rfl
@[simp] theorem gd_true {α : Type} (r : R α) : r.gd true = r := by cases r <;> rfl
end R

inductive BOp where | add | sub | mul | fdiv | mod | shl | shr | pow | and | or | xor
inductive COp where | eq | ne | lt | le | gt | ge | is | isn | in_ | nin
inductive F1 where | len | abs | int | str | list | sorted | sum | max | min | rev
inductive F2 where | max | min | divmod
inductive M0 where | bits | upper
/-- methods of texts with one argument -/
inductive TM where | startswith | zfill | rstrip | partition | split | join | index
/-- the classes that isinstance asks of -/
inductive Cl where
  | int | bool | str | tuple | list | valueError
  | exc (nm : String) (c : Nat)
  | flt (nm : String)
  | obj (nm : String) (c : Nat)
  | way (nm : String)

mutual
inductive E where
  | var (i : Nat)
  | int (i : Int) | bl (b : Bool) | non | dic | str (l : List Nat)
  | glo (x : String) (d : D)
  | bin (o : BOp) (a b : E)
  | neg (a : E)
  | cmp (o : COp) (a b : E)
  | chn (o p : COp) (a b c : E)
  | chn3 (o p q : COp) (a b c d : E)
  | and (a b : E) | or (a b : E) | not (a : E)
  | ite (c a b : E)
  | tup (es : Es) | lst (es : Es)
  | ix (a b : E)
  | slcL (a lo : E) | slcH (a hi : E) | slc (a lo hi : E)
  | call (nm : String) (f : List D → R D) (es : Es) (df : List D)
  | callF (nm : String) (f : List D → R D) (es : Es) (df : List D)
  | lend (i : Nat) (e : E)
  | f1 (f : F1) (a : E) | f2 (f : F2) (a b : E)
  | m0 (m : M0) (a : E) | tm (m : TM) (a b : E)
  | isi (a : E) (c : Cl)
  | lcP (i j : Nat) (el : E) (src : Src)
  | lcX (i : Nat) (el : E) (src : Src)
  | lcXT (is : List Nat) (el : E) (src : Src)
  | lcXC (is : List Nat) (el : E) (src : Src) (cond : E)
  | lcXF (i : Nat) (el : E) (src : Src) (cond : E)
  | lrev (a : E)
  | jrv (a b : E) | lsR (p : E) (l : List Nat) (q t c : E)
  | srtK (p : Nat) (k a : E)
  | lc (i : Nat) (el : E) (src : Src) | lcf (i : Nat) (el : E) (src : Src) (cond : E)
  | mk (nm : String) (c : Nat)
  | meth (m : String) (tbl : Nat → List D → R D) (a : E) (es : Es)
  | oix (i : Nat) (e : E) | onz (i : Nat) | olen (i : Nat)
inductive Es where
  | nil | cons (e : E) (es : Es)
inductive Src where
  | e (a : E) | rng1 (a : E) | rng2 (a b : E) | rng3 (a b c : E) | zip (a b : E)
end

inductive Slot where | un | dat (d : D) | own (xs : List D)
abbrev Env := List Slot

mutual
inductive S where
  | asg (i : Nat) (e : E)
  | asgN (i : Nat) (e : E)
  | asgT (is : List Nat) (e : E)
  | frz (i : Nat)
  | app (i : Nat) (e : E)
  | sti (i : Nat) (e1 e2 : E)
  | ins (i : Nat) (e1 e2 : E)
  | ifs (c : E) (a b : Ss)
  | fors (i : Nat) (src : Src) (b : Ss)
  | forT (is : List Nat) (src : Src) (b : Ss)
  | whl (c : E) (b : Ss)
  | ret (e : E)
  | retN (i : Nat)
  | retA (a b : E)
  | rse (nm : String) (c : Nat)
  | drp (e : E)
  | pas
  | tryx (b : Ss) (nm : String) (i j : Nat)
  | tryk (b : Ss) (nm : String) (i j : Nat) (c1 c2 c3 : Cl)
inductive Ss where
  | nil | cons (s : S) (r : Ss)
end

/-! ### values -/
mutual
/-- == of plain data -/
def D.eqv : D → D → Bool
  | .non, .non => true
  | .bl a, .bl b => a == b
  | .bl a, .int j => (if a then 1 else 0) == j
  | .int i, .bl b => i == (if b then 1 else 0)
  | .int i, .int j => i == j
  | .str x, .str y => x == y
  | .lst xs, .lst ys => eqvs xs ys
  | .tup xs, .tup ys => eqvs xs ys
  | _, _ => false
def eqvs : List D → List D → Bool
  | [], [] => true
  | x :: xs, y :: ys => D.eqv x y && eqvs xs ys
  | _, _ => false
end
mutual
/-- plain data: no objects within; at most n deep -/
def D.plain : Nat → D → Bool
  | _, .non => true
  | _, .bl _ => true
  | _, .int _ => true
  | _, .str l => l.all (· < 1114112)
  | n + 1, .tup xs => plains n xs
  | n + 1, .lst xs => plains n xs
  | _, _ => false
def plains : Nat → List D → Bool
  | _, [] => true
  | n, x :: xs => D.plain n x && plains n xs
end

def line : Nat := 16777216
def bits (i : Int) : Nat := Builtin.Int.intBits i

def addD : D → D → R D
  | .int i, .int j => .ok (.int (i + j))
  | .str a, .str b => if a.length + b.length ≤ line then .ok (.str (a ++ b)) else .no
  | .lst a, .lst b => if a.length + b.length ≤ line then .ok (.lst (a ++ b)) else .no
  | .tup a, .tup b => if 0 < a.length ∧ 0 < b.length ∧ a.length + b.length ≤ line then .ok (.tup (a ++ b)) else .no
  | _, _ => .no
def mulD : D → D → R D
  | .int i, .int j => if bits i + bits j ≤ 134217728 then .ok (.int (i * j)) else .no
  | .lst xs, .int k => if 0 ≤ k ∧ k ≤ 1000000 ∧ xs.length * k.toNat ≤ line then .ok (.lst (List.replicate k.toNat xs).flatten) else .no
  | .str l, .int k => if 0 ≤ k ∧ k ≤ 1000000 ∧ l.length * k.toNat ≤ line then .ok (.str (List.replicate k.toNat l).flatten) else .no
  | _, _ => .no
def fdivD : D → D → R D
  | .int i, .int j => if 0 < j ∧ Builtin.divisionGoesByPylong i j = false then .ok (.int (i / j)) else .no
  | _, _ => .no
def modD : D → D → R D
  | .int i, .int j => if 0 < j then .ok (.int (i % j)) else .no
  | _, _ => .no
def shlD : D → D → R D
  | .int i, .int j => if 0 ≤ j ∧ (bits i : Int) + j ≤ 134217728 then .ok (.int (i * 2 ^ j.toNat)) else .no
  | _, _ => .no
def shrD : D → D → R D
  | .int i, .int j => if 0 ≤ j then .ok (.int (i / 2 ^ j.toNat)) else .no
  | _, _ => .no
def powD : D → D → R D
  | .int i, .int j => if 0 ≤ j ∧ j ≤ 1000000 ∧ i.natAbs < 2 ^ 64 then .ok (.int (i ^ j.toNat)) else .no
  | _, _ => .no
def int2 (f : Int → Int → Int) : D → D → R D
  | .int i, .int j => .ok (.int (f i j))
  | _, _ => .no
def binD : BOp → D → D → R D
  | .add => addD
  | .sub => int2 (· - ·)
  | .mul => mulD
  | .fdiv => fdivD
  | .mod => modD
  | .shl => shlD
  | .shr => shrD
  | .pow => powD
  | .and => int2 Builtin.bitAnd
  | .or => int2 Builtin.bitOr
  | .xor => int2 Builtin.bitXor
def negD : D → R D
  | .int i => .ok (.int (-i))
  | _ => .no
def cmpI (p : Int → Int → Bool) : D → D → R Bool
  | .int i, .int j => .ok (p i j)
  | _, _ => .no
def D.isStr : D → Bool
  | .str _ => true
  | _ => false
def D.isDic : D → Bool
  | .dic => true
  | _ => false
def eqD (x y : D) : R Bool := if x.plain 60 && y.plain 60 then .ok (D.eqv x y) else .no
/-- ==, an empty dict against a text, too -/
def eqE (x y : D) : R Bool := if x.plain 60 && y.plain 60 then .ok (D.eqv x y) else if (x.isDic && y.isStr) || (x.isStr && y.isDic) then .ok false else .no
def isD : D → D → R Bool
  | .non, .non => .ok true
  | _, .non => .ok false
  | .bl a, .bl b => .ok (a == b)
  | _, _ => .no
def inD (x : D) : D → R Bool
  | .lst ys => if x.plain 60 && plains 59 ys then .ok (ys.any fun y => D.eqv y x) else if x.isDic && ys.all D.isStr then .ok false else .no
  | .tup ys => if x.plain 0 && plains 0 ys then .ok (ys.any fun y => D.eqv y x) else .no
  | .str l => match x with
    | .str [c] => .ok (decide (c ∈ l))
    | _ => .no
  | _ => .no
def notR (r : R Bool) : R Bool := r.bind fun b => .ok (!b)
def cmpD : COp → D → D → R Bool
  | .eq, x, y => eqE x y
  | .ne, x, y => notR (eqD x y)
  | .lt, x, y => cmpI (fun i j => decide (i < j)) x y
  | .le, x, y => cmpI (fun i j => decide (i ≤ j)) x y
  | .gt, x, y => cmpI (fun i j => decide (j < i)) x y
  | .ge, x, y => cmpI (fun i j => decide (j ≤ i)) x y
  | .is, x, y => isD x y
  | .isn, x, y => notR (isD x y)
  | .in_, x, y => inD x y
  | .nin, x, y => notR (inD x y)

/-- a place in a sequence of n, counted from the end below nought -/
def place (n : Nat) (i : Int) : Option Nat :=
  if 0 ≤ i then (if i < n then some i.toNat else none) else if -(n : Int) ≤ i then some (i + n).toNat else none
def ixD : D → D → R D
  | .lst xs, .int i => match (place xs.length i).bind (xs[·]?) with
    | some d => .ok d
    | none => .no
  | .tup xs, .int i => match (place xs.length i).bind (xs[·]?) with
    | some d => .ok d
    | none => .no
  | .str l, .int i => if l.length ≤ line then (match (place l.length i).bind (l[·]?) with
    | some c => .ok (.str [c])
    | none => .no) else .no
  | _, _ => .no
/-- a bound of a slice -/
def bnd (n d : Nat) : Option Int → Nat
  | none => d
  | some i => if i < 0 then (i + (n : Int)).toNat else min i.toNat n
def cutL {α : Type} (xs : List α) (lo hi : Option Int) : List α := (xs.drop (bnd xs.length 0 lo)).take (bnd xs.length xs.length hi - bnd xs.length 0 lo)
def slcD (x : D) (lo hi : Option Int) : R D := match x with
  | .lst xs => .ok (.lst (cutL xs lo hi))
  | .str l => if l.length ≤ line then .ok (.str (cutL l lo hi)) else .no
  | _ => .no
def asInts : List D → Option (List Int)
  | [] => some []
  | .int i :: r => (asInts r).map (i :: ·)
  | _ :: _ => none
def isI : D → Cl → R Bool
  | .non, .exc _ _ => .ok false
  | .non, .valueError => .ok false
  | .exc c, .exc _ d => .ok (c == d)
  | .exc _, .valueError => .ok true
  | .int _, .int => .ok true
  | .bl _, .int => .ok true
  | .non, .int => .ok false
  | .str _, .int => .ok false
  | .tup _, .int => .ok false
  | .lst _, .int => .ok false
  | .dic, .int => .ok false
  | .int _, .bool => .ok false
  | .bl _, .bool => .ok true
  | .non, .bool => .ok false
  | .str _, .bool => .ok false
  | .tup _, .bool => .ok false
  | .lst _, .bool => .ok false
  | .dic, .bool => .ok false
  | .int _, .str => .ok false
  | .bl _, .str => .ok false
  | .non, .str => .ok false
  | .str _, .str => .ok true
  | .tup _, .str => .ok false
  | .lst _, .str => .ok false
  | .dic, .str => .ok false
  | .int _, .tuple => .ok false
  | .bl _, .tuple => .ok false
  | .non, .tuple => .ok false
  | .str _, .tuple => .ok false
  | .tup _, .tuple => .ok true
  | .lst _, .tuple => .ok false
  | .int _, .list => .ok false
  | .bl _, .list => .ok false
  | .non, .list => .ok false
  | .str _, .list => .ok false
  | .tup _, .list => .ok false
  | .lst _, .list => .ok true
  | .obj c, .obj _ d => .ok (c == d)
  | .obj _, .way _ => .ok true
  | _, _ => .no
def toS (l : List Nat) : Str := ⟨l.toArray⟩
def ofS (x : Str) : D := .str x.cps.toList
/-- the best of some whole numbers -/
def bestL (f : Int → Int → Int) (xs : List D) : R D := match asInts xs with
  | some (n :: ns) => .ok (.int (ns.foldl f n))
  | _ => .no
def f1D : F1 → D → R D
  | .len, .lst xs => .ok (.int xs.length)
  | .len, .tup xs => .ok (.int xs.length)
  | .len, .str l => if l.length ≤ line then .ok (.int l.length) else .no
  | .abs, .int i => .ok (.int i.natAbs)
  | .int, .int i => .ok (.int i)
  | .int, .bl b => .ok (.int (if b then 1 else 0))
  | .int, .str l => if l.length ≤ 640 then (match PySem.intText? (toS l) with | some n => .ok (.int n) | none => .no) else if l.length ≤ 4300 ∧ l.all (fun c => decide (48 ≤ c) && decide (c ≤ 57)) = true then .ok (.int (NumText.digitsVal l : Nat)) else .no
  | .list, .lst xs => .ok (.lst xs)
  | .rev, .lst xs => .ok (.lst xs.reverse)
  | .list, .tup xs => .ok (.lst xs)
  | .sum, .lst xs => match asInts xs with
    | some ns => .ok (.int ns.sum)
    | none => .no
  | .max, .lst xs => bestL max xs
  | .max, .tup xs => bestL max xs
  | .min, .lst xs => bestL min xs
  | .min, .tup xs => bestL min xs
  | .str, .int i => if i.natAbs.log2 < 12900 then .ok (ofS (toString i)) else .no
  | .sorted, .lst xs => match asInts xs with
    | some ns => .ok (.lst ((ns.mergeSort fun a b => decide (a ≤ b)).map .int))
    | none => .no
  | _, _ => .no
def f2D : F2 → D → D → R D
  | .max, .int i, .int j => .ok (.int (max i j))
  | .min, .int i, .int j => .ok (.int (min i j))
  | .divmod, .int i, .int j => if 0 < j ∧ Builtin.divisionGoesByPylong i j = false then .ok (.tup [.int (i / j), .int (i % j)]) else if j < 0 ∧ Builtin.divisionGoesByPylong i j = false then .ok (.tup [.int (i.fdiv j), .int (i.fmod j)]) else .no
  | _, _, _ => .no
def m0D : M0 → D → R D
  | .bits, .int i => .ok (.int (bits i))
  | .upper, .str l => if l.all (· < 128) = true ∧ l.length ≤ 5000000 then .ok (.str (l.map PyProof.Rows.up1)) else .no
  | _, _ => .no
/-- the class of an object -/
def objD : D → R Nat
  | .obj c => .ok c
  | _ => .no
def strD : D → R Unit
  | .str _ => .ok ()
  | _ => .no
def asStrs : List D → Option (List Str)
  | [] => some []
  | .str l :: r => (asStrs r).map (toS l :: ·)
  | _ :: _ => none
def tmD : TM → D → D → R D
  | .startswith, .str a, .str b => .ok (.bl (Txt.startswith (toS a) (toS b)))
  | .zfill, .str a, .int i => if PadOk i = true then .ok (ofS (Txt.zfill (toS a) i)) else .no
  | .rstrip, .str a, .str b => if a.length ≤ line then .ok (ofS (Txt.rstripChars (toS a) (toS b))) else .no
  | .partition, .str a, .str b => if b.length ≠ 0 ∧ a.length ≤ line then .ok (.tup [ofS (Txt.partition (toS a) (toS b)).1, ofS (Txt.partition (toS a) (toS b)).2.1, ofS (Txt.partition (toS a) (toS b)).2.2]) else .no
  | .split, .str a, .str b => if b.length ≠ 0 ∧ a.length + 2 ≤ line then .ok (.lst ((Txt.split (toS a) (toS b)).map ofS)) else .no
  | .index, .str a, .str b => match Builtin.Str.occurrences (toS a) (toS b) 0 a.length 1 with
    | i :: _ => .ok (.int (i : Nat))
    | [] => .no
  | .join, .str a, .lst xs => match asStrs xs with
    | some ys => if (ys.map (·.length)).sum + ys.length * a.length ≤ 16777216 then .ok (ofS (Txt.join (toS a) ys)) else .no
    | none => .no
  | _, _, _ => .no
/-- the first of a text's places with another text -/
def rep1 (x y z : Str) : Str := if ((Builtin.Str.occurrences x y 0 x.length 1).isEmpty || (y.length == 0 && z.length == 0)) = true then x else Builtin.Str.glued z (Builtin.Str.partsBetween x (Builtin.Str.occurrences x y 0 x.length 1) y.length)
/-- text.replace(" ", "", 1) -/
def rp1D : D → R D
  | .str l => if l.length ≤ 16777216 then .ok (ofS (rep1 (toS l) (toS [32]) (toS []))) else .no
  | _ => .no
/-- sep.join(reversed(..)) -/
def jrvD : D → D → R D
  | .str a, .lst xs => match asStrs xs with
    | some ys => if (ys.reverse.map (·.length)).sum + ys.reverse.length * a.length ≤ 16777216 then .ok (ofS (Txt.join (toS a) ys.reverse)) else .no
    | none => .no
  | _, _ => .no
/-- what a source of a loop yields -/
def itemsD : D → R (List D)
  | .lst xs => .ok xs
  | .tup xs => .ok xs
  | .str l => .ok (l.map fun c => .str [c])
  | _ => .no
def small (i : Int) : Bool := decide (-(4611686018427387904) ≤ i ∧ i < 4611686018427387904)
def rngL (lo : Int) (n : Nat) (c : Int) : List D := (List.range n).map fun (k : Nat) => .int (lo + (k : Int) * c)
def rng2D : D → D → R (List D)
  | .int i, .int j => if small i && small j then .ok (rngL i (j - i).toNat 1) else .no
  | _, _ => .no
def rng1D : D → R (List D)
  | .int j => if small j then .ok (rngL 0 j.toNat 1) else .no
  | _ => .no
/-- a range by steps of c from 1 on -/
def rng3D : D → D → D → R (List D)
  | .int i, .int j, .int c => if small i && small j && decide (0 < c ∧ c < 1000000000) then .ok (rngL i (if i < j then (j - i - 1) / c + 1 else 0).toNat c) else .no
  | _, _, _ => .no
def boolD : D → R Bool
  | .bl b => .ok b
  | _ => .no

/-! ### the evaluator -/
def getS (ρ : Env) (i : Nat) : R D := match ρ[i]? with
  | some (.dat d) => .ok d
  | _ => .no
def pick (g : D → R Bool) (f : D → R D) : List D → R (List D)
  | [] => .ok []
  | x :: xs => match g x with
    | .ok true => (match f x with
      | .ok y => (pick g f xs).bind fun ys => .ok (y :: ys)
      | _ => .no)
    | .ok false => pick g f xs
    | _ => .no
def zipD : D → D → R (List D)
  | .lst xs, .lst ys => if xs.length = ys.length then .ok ((xs.zip ys).map fun p => .tup [p.1, p.2]) else .no
  | _, _ => .no
/-- a comprehension's items, an exception leaves it -/
def pickX (g : D → R Bool) (f : D → R D) : List D → R (List D)
  | [] => .ok []
  | x :: xs => (g x).bind fun b => if b = true then (f x).bind fun y => (pickX g f xs).bind fun ys => .ok (y :: ys) else pickX g f xs
def setAll : List Nat → List D → Env → Option Env
  | [], [], ρ => some ρ
  | i :: is, d :: ds, ρ => setAll is ds (ρ.set i (.dat d))
  | _, _, _ => none
def wipeR (ρ : Env) : List Nat → Env
  | [] => ρ
  | v :: vs => (wipeR ρ vs).set v .un
/-- an item taken apart -/
def bdT (is : List Nat) (x : D) (ρ : Env) : Option Env := match x with
  | .tup ds => setAll is ds (wipeR ρ is)
  | _ => none
def onO {α : Type} (o : Option Env) (f : Env → R α) : R α := match o with
  | some r => f r
  | none => .no
@[simp] theorem onO_some {α : Type} (r : Env) (f : Env → R α) : onO (some r) f = f r := rfl
/-- data that no address is behind -/
def flat1 : D → Bool
  | .int _ => true
  | .bl _ => true
  | .str _ => true
  | .non => true
  | _ => false
def same1 : D → D → Bool
  | .int i, .int j => i == j
  | .bl i, .bl j => i == j
  | .str a, .str b => a == b
  | .non, .non => true
  | _, _ => false
def sameF : List D → List D → Bool
  | [], [] => true
  | x :: xs, y :: ys => same1 x y && sameF xs ys
  | _, _ => false
mutual
/-- does this flat list stand in the data -/
def hasL (xs : List D) : D → Bool
  | .lst ys => sameF xs ys || hasLs xs ys
  | .tup ys => hasLs xs ys
  | _ => false
def hasLs (xs : List D) : List D → Bool
  | [] => false
  | y :: ys => hasL xs y || hasLs xs ys
end
def lstD : D → R D
  | .lst xs => .ok (.lst xs)
  | _ => .no
def intD : D → R Int
  | .int i => .ok i
  | _ => .no

/-- the keys of some data -/
def keysD (f : D → R D) : List D → R (List Int)
  | [] => .ok []
  | x :: xs => match f x with
    | .ok (.int z) => (keysD f xs).bind fun zs => .ok (z :: zs)
    | _ => .no
/-- xs stably by the keys zs -/
def srtB {α : Type} (xs : List α) (zs : List Int) : List α := ((xs.zip zs).mergeSort fun p q => decide (p.2 ≤ q.2)).map (·.1)
mutual
def evE : E → Env → R D
  | .var i, ρ => getS ρ i
  | .int i, _ => .ok (.int i)
  | .bl b, _ => .ok (.bl b)
  | .non, _ => .ok .non
  | .dic, _ => .ok .dic
  | .str l, _ => .ok (.str l)
  | .glo _ d, _ => .ok d
  | .bin o a b, ρ => (evE a ρ).bind fun x => (evE b ρ).bind fun y => binD o x y
  | .neg a, ρ => (evE a ρ).bind negD
  | .cmp o a b, ρ => (evE a ρ).bind fun x => (evE b ρ).bind fun y => (cmpD o x y).bind fun b => .ok (.bl b)
  | .chn o p a b c, ρ => (evE a ρ).bind fun x => (evE b ρ).bind fun y => (cmpD o x y).bind fun t =>
      if t = true then (evE c ρ).bind fun z => (cmpD p y z).bind fun b => .ok (.bl b) else .ok (.bl false)
  | .chn3 o p q a b c d, ρ => (evE a ρ).bind fun x => (evE b ρ).bind fun y => (cmpD o x y).bind fun t =>
      if t = true then (evE c ρ).bind fun z => (cmpD p y z).bind fun t => if t = true then (evE d ρ).bind fun v => (cmpD q z v).bind fun b => .ok (.bl b) else .ok (.bl false) else .ok (.bl false)
  | .and a b, ρ => (evE a ρ).bind fun x => (boolD x).bind fun t => if t = true then (evE b ρ).bind fun y => (boolD y).bind fun u => .ok (.bl u) else .ok (.bl false)
  | .or a b, ρ => (evE a ρ).bind fun x => (boolD x).bind fun t => if t = true then .ok (.bl true) else (evE b ρ).bind fun y => (boolD y).bind fun u => .ok (.bl u)
  | .not a, ρ => (evE a ρ).bind fun x => (boolD x).bind fun t => .ok (.bl (!t))
  | .ite c a b, ρ => (evE c ρ).bind fun x => (boolD x).bind fun t => if t = true then evE a ρ else evE b ρ
  | .tup es, ρ => (evEs es ρ).bind fun xs => .ok (.tup xs)
  | .lst es, ρ => (evEs es ρ).bind fun xs => .ok (.lst xs)
  | .ix a b, ρ => (evE a ρ).bind fun x => (evE b ρ).bind fun y => ixD x y
  | .slcL a lo, ρ => (evE a ρ).bind fun x => (evE lo ρ).bind fun l => (intD l).bind fun i => slcD x (some i) none
  | .slcH a hi, ρ => (evE a ρ).bind fun x => (evE hi ρ).bind fun h => (intD h).bind fun j => slcD x none (some j)
  | .slc a lo hi, ρ => (evE a ρ).bind fun x => (evE lo ρ).bind fun l => (intD l).bind fun i => (evE hi ρ).bind fun h => (intD h).bind fun j => slcD x (some i) (some j)
  | .call _ f es df, ρ => (evEs es ρ).bind fun xs => f (xs ++ df)
  | .callF _ f es df, ρ => (evEs es ρ).bind fun xs => (f (xs ++ df)).bind lstD
  | .lend i e, ρ => match ρ[i]? with
    | some (.own xs) => if xs.all flat1 = true then (evE e (ρ.set i (.dat (.lst xs)))).bind fun d => if hasL xs d = true then .no else .ok d else .no
    | _ => .no
  | .lcX i el src, ρ => (evSrc src ρ).bind fun xs => ((pickX (fun _ => .ok true) (fun x => evE el (ρ.set i (.dat x))) xs).gd (decide (xs.length < line))).bind fun ys => if xs.length < line then .ok (.lst ys) else .no
  | .lcXT is el src, ρ => (evSrc src ρ).bind fun xs => ((pickX (fun _ => .ok true) (fun x => onO (bdT is x ρ) fun r => evE el r) xs).gd (decide (xs.length < line))).bind fun ys => if xs.length < line then .ok (.lst ys) else .no
  | .lcXF i el src cond, ρ => (evSrc src ρ).bind fun xs => ((pickX (fun x => (evE cond (ρ.set i (.dat x))).bind boolD) (fun x => evE el (ρ.set i (.dat x))) xs).gd (decide (xs.length < line))).bind fun ys => if xs.length < line then .ok (.lst ys) else .no
  | .lcXC is el src cond, ρ => (evSrc src ρ).bind fun xs => ((pickX (fun x => onO (bdT is x ρ) fun r => (evE cond r).bind boolD) (fun x => onO (bdT is x ρ) fun r => evE el r) xs).gd (decide (xs.length < line))).bind fun ys => if xs.length < line then .ok (.lst ys) else .no
  | .lrev a, ρ => (evE a ρ).bind fun x => f1D .rev x
  | .jrv a b, ρ => (evE a ρ).bind fun x => (strD x).bind fun _ => (evE b ρ).bind fun y => jrvD x y
  | .lsR p l q t c, ρ => (evE p ρ).bind fun x => (binD .add x (.str l)).bind fun x1 => (evE q ρ).bind fun x2 => (binD .add x1 x2).bind fun x3 => (evE t ρ).bind fun y => (rp1D y).bind fun y1 => (evE c ρ).bind fun z => .ok (.lst [x3, y1, z])
  | .srtK i k a, ρ => (evE a ρ).bind fun x => match x with
      | .lst xs => (keysD (fun d => evE k (ρ.set i (.dat d))) xs).bind fun zs => .ok (.lst (srtB xs zs))
      | _ => .no
  | .f1 f a, ρ => (evE a ρ).bind fun x => f1D f x
  | .f2 f a b, ρ => (evE a ρ).bind fun x => (evE b ρ).bind fun y => f2D f x y
  | .m0 m a, ρ => (evE a ρ).bind fun x => m0D m x
  | .tm m a b, ρ => (evE a ρ).bind fun x => (strD x).bind fun _ => (evE b ρ).bind fun y => tmD m x y
  | .isi a c, ρ => (evE a ρ).bind fun x => (isI x c).bind fun b => .ok (.bl b)
  | .lcP i j el src, ρ => (evSrc src ρ).bind fun xs => (pick (fun _ => .ok true) (fun x => match x with
      | .tup [d, e] => evE el ((ρ.set i (.dat d)).set j (.dat e))
      | _ => .no) xs).bind fun ys => if xs.length < line then .ok (.lst ys) else .no
  | .lc i el src, ρ => (evSrc src ρ).bind fun xs => (pick (fun _ => .ok true) (fun x => evE el (ρ.set i (.dat x))) xs).bind fun ys => if xs.length < line then .ok (.lst ys) else .no
  | .lcf i el src cond, ρ => (evSrc src ρ).bind fun xs =>
      (pick (fun x => (evE cond (ρ.set i (.dat x))).bind boolD) (fun x => evE el (ρ.set i (.dat x))) xs).bind fun ys => if xs.length < line then .ok (.lst ys) else .no
  | .mk _ c, _ => .ok (.obj c)
  | .meth _ tbl a es, ρ => (evE a ρ).bind fun x => (objD x).bind fun c => (evEs es ρ).bind fun xs => tbl c (.obj c :: xs)
  | .oix i e, ρ => match ρ[i]? with
    | some (.own xs) => (evE e ρ).bind fun y => ixD (.lst xs) y
    | _ => .no
  | .onz i, ρ => match ρ[i]? with
    | some (.own xs) => if plains 59 xs then .ok (.bl (!xs.isEmpty)) else .no
    | _ => .no
  | .olen i, ρ => match ρ[i]? with
    | some (.own xs) => .ok (.int xs.length)
    | _ => .no
def evEs : Es → Env → R (List D)
  | .nil, _ => .ok []
  | .cons e es, ρ => (evE e ρ).bind fun x => (evEs es ρ).bind fun xs => .ok (x :: xs)
def evSrc : Src → Env → R (List D)
  | .e a, ρ => (evE a ρ).bind itemsD
  | .rng1 a, ρ => (evE a ρ).bind rng1D
  | .rng2 a b, ρ => (evE a ρ).bind fun x => (evE b ρ).bind fun y => rng2D x y
  | .rng3 a b c, ρ => (evE a ρ).bind fun x => (evE b ρ).bind fun y => (evE c ρ).bind fun z => rng3D x y z
  | .zip a b, ρ => (evE a ρ).bind fun x => (evE b ρ).bind fun y => zipD x y
end
def evT (e : E) (ρ : Env) : R Bool := (evE e ρ).bind boolD

inductive Out where
  | nxt (ρ : Env) | ret (d : D) | retF (xs : List D) | ex (c : Nat) (ρ : Env) | no

def thenO (o : Out) (f : Env → Out) : Out := match o with
  | .nxt ρ => f ρ
  | o => o
@[simp] theorem thenO_nxt (ρ : Env) (f : Env → Out) : thenO (.nxt ρ) f = f ρ := rfl
@[simp] theorem thenO_ret (d : D) (f : Env → Out) : thenO (.ret d) f = .ret d := rfl
@[simp] theorem thenO_retF (xs : List D) (f : Env → Out) : thenO (.retF xs) f = .retF xs := rfl
@[simp] theorem thenO_ex (c : Nat) (ρ : Env) (f : Env → Out) : thenO (.ex c ρ) f = .ex c ρ := rfl
@[simp] theorem thenO_no (f : Env → Out) : thenO .no f = .no := rfl
/-- an expression's end in a statement -/
def withR {α : Type} (r : R α) (ρ : Env) (f : α → Out) : Out := match r with
  | .ok a => f a
  | .ex c => .ex c ρ
  | .no => .no
@[simp] theorem withR_ok {α : Type} (a : α) (ρ : Env) (f : α → Out) : withR (.ok a) ρ f = f a := rfl
@[simp] theorem withR_ex {α : Type} (c : Nat) (ρ : Env) (f : α → Out) : withR (.ex c : R α) ρ f = .ex c ρ := rfl
@[simp] theorem withR_no {α : Type} (ρ : Env) (f : α → Out) : withR (.no : R α) ρ f = .no := rfl
def forGo (step : D → Env → Out) : List D → Env → Out
  | [], ρ => .nxt ρ
  | x :: xs, ρ => thenO (step x ρ) (forGo step xs)
def whGo (test : Env → R Bool) (step : Env → Out) : Nat → Env → Out
  | 0, _ => .no
  | n + 1, ρ => withR (test ρ) ρ fun b => if b = true then thenO (step ρ) (whGo test step n) else .nxt ρ
def stepT (is : List Nat) (f : Env → Out) (x : D) (ρ : Env) : Out := match x with
  | .tup ds => (match setAll is ds ρ with
    | some ρ' => f ρ'
    | none => .no)
  | _ => .no
def fuel : Nat := 1000000000000
/-- a list that was just made -/
def fresh : E → Bool
  | .lst _ => true
  | .f1 .list _ => true
  | .callF _ _ _ _ => true
  | _ => false

mutual
def evS : S → Env → Out
  | .asg i e, ρ => withR (evE e ρ) ρ fun d => .nxt (ρ.set i (.dat d))
  | .asgN i e, ρ => withR (evE e ρ) ρ fun d => match d with
    | .lst xs => if fresh e then .nxt (ρ.set i (.own xs)) else .no
    | _ => .no
  | .asgT is e, ρ => withR (evE e ρ) ρ fun d => match d with
    | .tup ds => (match setAll is ds ρ with
      | some ρ' => .nxt ρ'
      | none => .no)
    | _ => .no
  | .frz i, ρ => match ρ[i]? with
    | some (.own xs) => .nxt (ρ.set i (.dat (.lst xs)))
    | some (.dat _) => .nxt ρ
    | _ => .no
  | .app i e, ρ => match ρ[i]? with
    | some (.own xs) => withR (evE e ρ) ρ fun d => if xs.length < line then .nxt (ρ.set i (.own (xs ++ [d]))) else .no
    | _ => .no
  | .sti i e1 e2, ρ => match ρ[i]? with
    | some (.own xs) => withR (evE e2 ρ) ρ fun d => withR (evE e1 ρ) ρ fun k => match k with
      | .int z => (match place xs.length z with
        | some j => .nxt (ρ.set i (.own (xs.set j d)))
        | none => .no)
      | _ => .no
    | _ => .no
  | .ins i e1 e2, ρ => match ρ[i]? with
    | some (.own xs) => withR (evE e1 ρ) ρ fun k => withR (evE e2 ρ) ρ fun d => match k with
      | .int z => if 0 ≤ z ∧ z ≤ xs.length ∧ xs.length < line then .nxt (ρ.set i (.own (xs.take z.toNat ++ d :: xs.drop z.toNat))) else .no
      | _ => .no
    | _ => .no
  | .ifs c a b, ρ => withR (evT c ρ) ρ fun t => if t = true then evSs a ρ else evSs b ρ
  | .fors i src b, ρ => withR (evSrc src ρ) ρ fun xs => forGo (fun x ρ' => evSs b (ρ'.set i (.dat x))) xs ρ
  | .forT is src b, ρ => withR (evSrc src ρ) ρ fun xs => forGo (stepT is (fun ρ' => evSs b ρ')) xs ρ
  | .whl c b, ρ => whGo (fun ρ' => evT c ρ') (fun ρ' => evSs b ρ') fuel ρ
  | .ret e, ρ => withR (evE e ρ) ρ fun d => .ret d
  | .retN i, ρ => match ρ[i]? with
    | some (.own xs) => .retF xs
    | _ => .no
  | .retA a b, ρ => withR (evE a ρ) ρ fun x => withR (evE b ρ) ρ fun y => match x, y with
    | .lst xs, .lst ys => if xs.length + ys.length ≤ line then .retF (xs ++ ys) else .no
    | _, _ => .no
  | .rse _ c, ρ => .ex c ρ
  | .drp e, ρ => withR (evE e ρ) ρ fun _ => .nxt ρ
  | .pas, ρ => .nxt ρ
  | .tryx b _ i j, ρ => match evSs b ρ with
    | .ex c ρ' => .nxt ((ρ'.set j (.dat (.exc c))).set i .un)
    | o => o
  | .tryk b _ i j c1 c2 c3, ρ => match evSs b ρ with
    | .ex c ρ' => match isI (.exc c) c1, isI (.exc c) c2, isI (.exc c) c3 with
      | .ok t1, .ok t2, .ok t3 => .nxt ((ρ'.set j (.dat (.tup [.bl t1, .bl t2, .bl t3]))).set i .un)
      | _, _, _ => .no
    | o => o
def evSs : Ss → Env → Out
  | .nil, ρ => .nxt ρ
  | .cons s r, ρ => thenO (evS s ρ) fun ρ' => evSs r ρ'
end

/-- a def: n names, np of them parameters -/
def run (n np : Nat) (b : Ss) (args : List D) : R D :=
  if args.length = np then match evSs b (args.map .dat ++ List.replicate (n - np) .un) with
    | .nxt _ => .ok .non
    | .ret d => .ok d
    | .retF xs => .ok (.lst xs)
    | .ex c _ => .ex c
    | .no => .no
  else .no
mutual
/-- every return tells a list of the def's own -/
def onlyF : S → Bool
  | .ret _ => false
  | .ifs _ a b => onlyFs a && onlyFs b
  | .fors _ _ b => onlyFs b
  | .forT _ _ b => onlyFs b
  | .whl _ b => onlyFs b
  | .tryx b _ _ _ => onlyFs b
  | .tryk b _ _ _ _ _ _ => onlyFs b
  | _ => true
def onlyFs : Ss → Bool
  | .nil => true
  | .cons s r => onlyF s && onlyFs r
end
theorem thenO_nr {o : Out} {f : Env → Out} {d : D} (h : o ≠ .ret d) (k : ∀ ρ, f ρ ≠ .ret d) : thenO o f ≠ .ret d := by
  cases o <;> first | exact k _ | exact h | simp
theorem withR_nr {α : Type} {r : R α} {ρ : Env} {f : α → Out} {d : D} (k : ∀ a, f a ≠ .ret d) : withR r ρ f ≠ .ret d := by
  cases r <;> first | exact k _ | simp
theorem forGo_nr {step : D → Env → Out} {d : D} (k : ∀ x ρ, step x ρ ≠ .ret d) : ∀ (xs : List D) (ρ : Env), forGo step xs ρ ≠ .ret d
  | [], ρ => by simp [forGo]
  | x :: xs, ρ => thenO_nr (k x ρ) fun ρ' => forGo_nr k xs ρ'
theorem whGo_nr {test : Env → R Bool} {step : Env → Out} {d : D} (k : ∀ ρ, step ρ ≠ .ret d) : ∀ (n : Nat) (ρ : Env), whGo test step n ρ ≠ .ret d
  | 0, ρ => by simp [whGo]
  | n + 1, ρ => withR_nr fun b => by
    by_cases hb : b = true
    · rw [if_pos hb]; exact thenO_nr (k ρ) fun ρ' => whGo_nr k n ρ'
    · rw [if_neg hb]; simp
mutual
theorem onlyF_nr : ∀ (s : S) (ρ : Env) (d : D), onlyF s = true → evS s ρ ≠ .ret d
  | .asg i e, ρ, d, h => by simp only [evS]; exact withR_nr fun a => by simp
  | .asgN i e, ρ, d, h => by
    simp only [evS]
    exact withR_nr fun a => by split <;> (try split) <;> simp
  | .asgT is e, ρ, d, h => by
    simp only [evS]
    exact withR_nr fun a => by split <;> (try split) <;> simp
  | .frz i, ρ, d, h => by simp only [evS]; split <;> simp
  | .app i e, ρ, d, h => by
    simp only [evS]
    split
    · exact withR_nr fun a => by split <;> simp
    · simp
  | .sti i e1 e2, ρ, d, h => by
    simp only [evS]
    split
    · exact withR_nr fun a => withR_nr fun b => by split <;> (try split) <;> simp
    · simp
  | .ins i e1 e2, ρ, d, h => by
    simp only [evS]
    split
    · exact withR_nr fun a => withR_nr fun b => by split <;> (try split) <;> simp
    · simp
  | .ifs c a b, ρ, d, h => by
    simp only [onlyF, Bool.and_eq_true] at h
    simp only [evS]
    exact withR_nr fun t => by
      split
      · exact onlyFs_nr a ρ d h.1
      · exact onlyFs_nr b ρ d h.2
  | .fors i src b, ρ, d, h => by
    simp only [onlyF] at h
    simp only [evS]
    exact withR_nr fun xs => forGo_nr (fun x ρ' => onlyFs_nr b _ d h) xs ρ
  | .forT is src b, ρ, d, h => by
    simp only [onlyF] at h
    simp only [evS]
    exact withR_nr fun xs => forGo_nr (fun x ρ' => by
      unfold stepT
      split
      · split
        · exact onlyFs_nr b _ d h
        · simp
      · simp) xs ρ
  | .whl c b, ρ, d, h => by
    simp only [onlyF] at h
    simp only [evS]
    exact whGo_nr (fun ρ' => onlyFs_nr b ρ' d h) fuel ρ
  | .ret e, ρ, d, h => by simp [onlyF] at h
  | .retN i, ρ, d, h => by simp only [evS]; split <;> simp
  | .retA a b, ρ, d, h => by
    simp only [evS]
    exact withR_nr fun x => withR_nr fun y => by split <;> (try split) <;> simp
  | .rse nm c, ρ, d, h => by simp [evS]
  | .drp e, ρ, d, h => by simp only [evS]; exact withR_nr fun a => by simp
  | .pas, ρ, d, h => by simp [evS]
  | .tryx b nm i j, ρ, d, h => by
    simp only [onlyF] at h
    have k := onlyFs_nr b ρ d h
    simp only [evS]
    split
    · simp
    · exact k
  | .tryk b nm i j c1 c2 c3, ρ, d, h => by
    simp only [onlyF] at h
    have k := onlyFs_nr b ρ d h
    simp only [evS]
    split
    · split <;> simp
    · exact k
theorem onlyFs_nr : ∀ (b : Ss) (ρ : Env) (d : D), onlyFs b = true → evSs b ρ ≠ .ret d
  | .nil, ρ, d, h => by simp [evSs]
  | .cons s r, ρ, d, h => by
    simp only [onlyFs, Bool.and_eq_true] at h
    simp only [evSs]
    exact thenO_nr (onlyF_nr s ρ d h.1) fun ρ' => onlyFs_nr r ρ' d h.2
end
end MP

set_option Elab.async false
set_option linter.all false
set_option maxRecDepth 100000
set_option maxHeartbeats 4000000
/-! MPB: data in the heap, and what a reading of an expression asks. -/
namespace MP
open PySem L2
open PyProof.Rows hiding St
set_option autoImplicit false

/-- where the program's classes stand -/
structure Tab where
  K : PySem.W.Frag
  exc : Nat → Addr
  obj : Nat → Addr
  exs : List Nat
  objs : List Nat
  flt : Addr
  tab : List Addr

/-- the name that a lambda of the program's bears -/
def qL : Str := "in_order.<locals>.<lambda>"
/-- all stays but tables, which stay tables -/
def Ew (H H' : Hp) : Prop := ∀ a o, H a = some o → H' a = some o ∨ ∃ ps ps', o = .tbl ps ∧ H' a = some (.tbl ps')
theorem Ew.refl (H : Hp) : Ew H H := fun _ _ h => .inl h
theorem Ew.trans {H H1 H2 : Hp} (a : Ew H H1) (b : Ew H1 H2) : Ew H H2 := fun x o h => by
  rcases a x o h with h1 | ⟨ps, ps1, rfl, h1⟩
  · exact b x o h1
  · rcases b x _ h1 with h2 | ⟨_, ps2, _, h2⟩
    · exact .inr ⟨ps, ps1, rfl, h2⟩
    · exact .inr ⟨ps, ps2, rfl, h2⟩
theorem Ew.at {H H' : Hp} (e : Ew H H') {a : Addr} {o : HO} (h : H a = some o) (n : ∀ ps, o ≠ .tbl ps) : H' a = some o := by
  rcases e a o h with z | ⟨ps, _, z, _⟩
  · exact z
  · exact absurd z (n ps)
theorem Ew.nn {H H' : Hp} (e : Ew H H') {a : Addr} (h : H a ≠ none) : H' a ≠ none := by
  cases q : H a with
  | none => exact absurd q h
  | some o =>
    rcases e a o q with z | ⟨_, _, _, z⟩ <;> rw [z] <;> simp
/-- .. and the tables' code objects stay known -/
structure Ex (H H' : Hp) : Prop where
  w : Ew H H'
  tab : ∀ P, LamX.TabS H P qL → LamX.TabS H' P qL
instance {H H' : Hp} : Coe (Ex H H') (Ew H H') := ⟨Ex.w⟩
theorem Ex.refl (H : Hp) : Ex H H := ⟨Ew.refl H, fun _ h => h⟩
theorem Ex.trans {H H1 H2 : Hp} (a : Ex H H1) (b : Ex H1 H2) : Ex H H2 := ⟨a.w.trans b.w, fun P h => b.tab P (a.tab P h)⟩
/-- a table's knowledge leans on no list -/
theorem tab_keep {H H' : Hp} (e : ∀ b o, H b = some o → (∀ xs, o ≠ .lst xs) → H' b = some o) {P : Addr} {q : Str} (t : LamX.TabS H P q) : LamX.TabS H' P q := by
  obtain ⟨ps, h1, h2, h3⟩ := t
  refine ⟨ps, e _ _ h1 (fun xs z => nomatch z), h2, fun pos cv hc => ?_⟩
  obtain ⟨c, e1, e2⟩ := h3 pos cv hc
  exact ⟨c, e1, e _ _ e2 (fun xs z => by unfold LamX.CodeO at z; cases z)⟩
theorem tab_of {H H' : Hp} (e : ∀ b o, H b = some o → H' b = some o) {P : Addr} {q : Str} (t : LamX.TabS H P q) : LamX.TabS H' P q := tab_keep (fun b o h _ => e b o h) t
theorem Ex.of {H H' : Hp} (h : ∀ a o, H a = some o → H' a = some o) : Ex H H' := ⟨fun a o e => .inl (h a o e), fun _ t => tab_of h t⟩
theorem Ex.new {H : Hp} {p : Addr} {o : HO} (h : H p = none) : Ex H (upd H p o) := Ex.of fun a u e => by
  rw [upd_ne (ne_of_none e h)]
  exact e
theorem Ex.at {H H' : Hp} (e : Ex H H') {a : Addr} {o : HO} (h : H a = some o) (n : ∀ ps, o ≠ .tbl ps) : H' a = some o := e.w.at h n
theorem Ex.nn {H H' : Hp} (e : Ex H H') {a : Addr} (h : H a ≠ none) : H' a ≠ none := e.w.nn h
/-- behind Ex a list that was not there ahead is changed -/
theorem Ex.chg {H H1 H2 : Hp} (e : Ex H H1) {a : Addr} (n : H a = none) (h : H1 a = none ∨ ∃ xs, H1 a = some (.lst xs)) (k : ∀ b, b ≠ a → H2 b = H1 b) : Ex H H2 := by
  refine ⟨fun b o q => ?_, fun P t => tab_keep (fun b o q nl => ?_) (e.tab P t)⟩
  · have hb : b ≠ a := fun z => by rw [z, n] at q; cases q
    rw [k b hb]
    exact e.w b o q
  · have hb : b ≠ a := fun z => by
      rw [z] at q
      rcases h with h | ⟨xs, h⟩
      · rw [h] at q; cases q
      · rw [h] at q; cases q; exact nl _ rfl
    rw [k b hb]
    exact q
/-- what stands: the own lists, the tables -/
def Lv (T : Tab) (O : List Addr) (H : Hp) : Prop := (∀ a ∈ O, H a ≠ none) ∧ ∀ P ∈ T.tab, LamX.TabS H P qL
/-- the heap without the addresses of O -/
def hide (O : List Addr) (H : Hp) : Hp := fun b => if b ∈ O then none else H b
theorem hide_out {O : List Addr} {H : Hp} {b : Addr} (h : b ∉ O) : hide O H b = H b := if_neg h
theorem hide_ex {O : List Addr} {H : Hp} : Ew (hide O H) H := fun a o e => by
  unfold hide at e
  split at e
  · cases e
  · exact .inl e
theorem hide_at {O : List Addr} {H : Hp} {a : Addr} {o : HO} (e : hide O H a = some o) : H a = some o := by
  unfold hide at e
  split at e
  · cases e
  · exact e
theorem hide_monoW {O : List Addr} {H H' : Hp} (e : Ew H H') : Ew (hide O H) (hide O H') := fun a o q => by
  unfold hide at q ⊢
  split at q
  · cases q
  · rename_i h
    rw [if_neg h]
    exact e a o q
theorem hide_mono {O : List Addr} {H H' : Hp} (e : Ex H H') : Ew (hide O H) (hide O H') := hide_monoW e.w
theorem hide_sub {O O' : List Addr} {H : Hp} (s : ∀ a ∈ O, a ∈ O') : Ew (hide O' H) (hide O H) := fun a o q => by
  unfold hide at q ⊢
  split at q
  · cases q
  · rename_i h
    rw [if_neg fun z => h (s a z)]
    exact .inl q
theorem hide_upd {O : List Addr} {H : Hp} {a : Addr} {o : HO} (h : a ∈ O) : hide O (upd H a o) = hide O H := by
  funext b
  unfold hide
  split
  · rfl
  · rename_i hb
    exact upd_ne fun z => hb (z ▸ h)
theorem ex_sql {K : PySem.W.Frag} {H H' : Hp} {a : Addr} {xs : List V} (e : Ew H H') (h : SqL K H a xs) : SqL K H' a xs := by
  rcases h with (h | ⟨o, h⟩) | h
  · exact .inl (.inl (e.at h fun _ z => nomatch z))
  · exact .inl (.inr ⟨o, e.at h fun _ z => nomatch z⟩)
  · exact .inr h
theorem ex_sqt {K : PySem.W.Frag} {H H' : Hp} {a : Addr} {xs : List V} (e : Ew H H') (h : SqT K H a xs) : SqT K H' a xs := by
  rcases h with (h | ⟨o, h⟩) | h
  · exact .inl (.inl (e.at h fun _ z => nomatch z))
  · exact .inl (.inr ⟨o, e.at h fun _ z => nomatch z⟩)
  · exact .inr h

/-- an exception of the class cls that was caught, at a -/
def ExH (cls : Value) (a : Addr) : HO := .ext fun h => ∃ (oe : Obj) (vs : Array Value), h.get? a = some oe ∧ Zc cls none oe ∧ oe.data = .fields vs
theorem exH_ok {P : Program} {w : World} {H : Hp} {h : Heap} {a : Addr} {cls : Value} {oe : Obj} {vs : Array Value} (e : h.get? a = some oe) (z : Zc cls none oe) (d : oe.data = .fields vs) : ObjOk P w H h a (ExH cls a) :=
  ⟨⟨oe, vs, e, z, d⟩, ⟨oe, e⟩, fun _ _ ⟨o, v, q, r⟩ k => ⟨o, v, k o q, r⟩⟩
mutual
/-- the value v bears the data d -/
inductive DV (T : Tab) (H : Hp) : D → V → Prop where
  | non : DV T H .non .non
  | bl (b : Bool) : DV T H (.bl b) (.bl b)
  | int (i : Int) : DV T H (.int i) (.int i)
  | str (x : Str) : DV T H (.str x.cps.toList) (.str x)
  | tup {xs : List D} {a : Addr} {vs : List V} (h : SqT T.K H a vs) (r : DVs T H xs vs) : DV T H (.tup xs) (.ref a)
  | lst {xs : List D} {a : Addr} {vs : List V} (h : SqL T.K H a vs) (r : DVs T H xs vs) : DV T H (.lst xs) (.ref a)
  | dic {a : Addr} (h : H a = some (.dK [])) : DV T H .dic (.ref a)
  | exc {c : Nat} {a : Addr} (hc : c ∈ T.exs) (h : H a = some (ExH (.ref (T.exc c)) a)) : DV T H (.exc c) (.ref a)
  | obj {c : Nat} {a dx : Addr} (hc : c ∈ T.objs) (h : H a = some (.ins (T.obj c) dx [])) : DV T H (.obj c) (.ref a)
inductive DVs (T : Tab) (H : Hp) : List D → List V → Prop where
  | nil : DVs T H [] []
  | cons {d : D} {v : V} {ds : List D} {vs : List V} (h : DV T H d v) (r : DVs T H ds vs) : DVs T H (d :: ds) (v :: vs)
end
section
variable {T : Tab} {H H' : Hp}
mutual
theorem DV.mono (e : Ew H H') : ∀ {d : D} {v : V}, DV T H d v → DV T H' d v
  | _, _, .non => .non
  | _, _, .bl b => .bl b
  | _, _, .int i => .int i
  | _, _, .str x => .str x
  | _, _, .tup h r => .tup (ex_sqt e h) (DVs.mono e r)
  | _, _, .lst h r => .lst (ex_sql e h) (DVs.mono e r)
  | _, _, .dic h => .dic (e.at h fun _ z => nomatch z)
  | _, _, .exc hc h => .exc hc (e.at h fun _ z => nomatch z)
  | _, _, .obj hc h => .obj hc (e.at h fun _ z => nomatch z)
theorem DVs.mono (e : Ew H H') : ∀ {ds : List D} {vs : List V}, DVs T H ds vs → DVs T H' ds vs
  | _, _, .nil => .nil
  | _, _, .cons h r => .cons (DV.mono e h) (DVs.mono e r)
end
theorem DVs.length : ∀ {ds : List D} {vs : List V}, DVs T H ds vs → ds.length = vs.length
  | _, _, .nil => rfl
  | _, _, .cons _ r => congrArg (· + 1) (DVs.length r)
theorem DVs.get : ∀ {ds : List D} {vs : List V} {i : Nat} {d : D}, DVs T H ds vs → ds[i]? = some d → ∃ v, vs[i]? = some v ∧ DV T H d v
  | _, _, _, _, .nil, e => by simp at e
  | _, _, 0, _, .cons h _, e => by simp at e; subst e; exact ⟨_, rfl, h⟩
  | _, _, i + 1, d, .cons _ r, e => by
    obtain ⟨v, h1, h2⟩ := DVs.get (i := i) (d := d) r (by simpa using e)
    exact ⟨v, by simpa using h1, h2⟩
theorem DVs.getV : ∀ {ds : List D} {vs : List V} {i : Nat} {v : V}, DVs T H ds vs → vs[i]? = some v → ∃ d, ds[i]? = some d ∧ DV T H d v
  | _, _, _, _, .nil, e => by simp at e
  | _, _, 0, _, .cons h _, e => by simp at e; subst e; exact ⟨_, rfl, h⟩
  | _, _, i + 1, d, .cons _ r, e => by
    obtain ⟨v, h1, h2⟩ := DVs.getV (i := i) (v := d) r (by simpa using e)
    exact ⟨v, by simpa using h1, h2⟩
theorem DVs.append : ∀ {ds es : List D} {vs ws : List V}, DVs T H ds vs → DVs T H es ws → DVs T H (ds ++ es) (vs ++ ws)
  | _, _, _, _, .nil, s => s
  | _, _, _, _, .cons h r, s => .cons h (DVs.append r s)
theorem DVs.drop : ∀ {ds : List D} {vs : List V} (n : Nat), DVs T H ds vs → DVs T H (ds.drop n) (vs.drop n)
  | _, _, 0, r => r
  | _, _, _ + 1, .nil => .nil
  | _, _, n + 1, .cons _ r => DVs.drop n r
theorem DVs.take : ∀ {ds : List D} {vs : List V} (n : Nat), DVs T H ds vs → DVs T H (ds.take n) (vs.take n)
  | _, _, 0, _ => .nil
  | _, _, _ + 1, .nil => .nil
  | _, _, n + 1, .cons h r => .cons h (DVs.take n r)
theorem DVs.set {d : D} {v : V} (h : DV T H d v) : ∀ {ds : List D} {vs : List V} (i : Nat), DVs T H ds vs → DVs T H (ds.set i d) (vs.set i v)
  | _, _, _, .nil => .nil
  | _, _, 0, .cons _ r => .cons h r
  | _, _, i + 1, .cons q r => .cons q (DVs.set h i r)
end

/-! ### data as the library's data -/
mutual
def D.py : D → PyData
  | .non => .none
  | .bl b => .bool b
  | .int i => .int i
  | .str l => .str ⟨l.toArray⟩
  | .tup xs => .tuple (pys xs)
  | .lst xs => .list (pys xs)
  | _ => .none
def pys : List D → List PyData
  | [] => []
  | x :: xs => D.py x :: pys xs
end
mutual
theorem dp_of {T : Tab} {H : Hp} : ∀ {n : Nat} {d : D} {v : V}, DV T H d v → D.plain n d = true → Dp T.K H v d.py
  | _, _, _, .non, _ => .non
  | _, _, _, .bl b, _ => .bl b
  | _, _, _, .int i, _ => .int i
  | _, _, _, .str x, _ => by
    have e : (⟨x.cps.toList.toArray⟩ : Str) = x := by simp
    simp only [D.py, e]
    exact .str x
  | 0, _, _, .tup h r, p => by simp [D.plain] at p
  | n + 1, _, _, .tup h r, p => by
    simp only [D.plain] at p
    exact .tup h (dps_of r p)
  | 0, _, _, .lst h r, p => by simp [D.plain] at p
  | n + 1, _, _, .lst h r, p => by
    simp only [D.plain] at p
    exact .lst h (dps_of r p)
  | n, _, _, .dic h, p => by simp [D.plain] at p
  | n, _, _, .exc hc h, p => by simp [D.plain] at p
  | n, _, _, .obj hc h, p => by simp [D.plain] at p
theorem dps_of {T : Tab} {H : Hp} : ∀ {n : Nat} {ds : List D} {vs : List V}, DVs T H ds vs → plains n ds = true → DpAll T.K H vs (pys ds)
  | _, _, _, .nil, _ => .nil
  | _, _, _, .cons h r, p => by
    simp only [plains, Bool.and_eq_true] at p
    exact .cons (dp_of h p.1) (dps_of r p.2)
end
mutual
theorem lay_of : ∀ {n : Nat} (d : D), D.plain n d = true → (d.py).canLay0 = true ∧ (d.py).depth ≤ n
  | _, .non, _ => ⟨rfl, Nat.zero_le _⟩
  | _, .bl b, _ => ⟨rfl, Nat.zero_le _⟩
  | _, .int i, _ => ⟨rfl, Nat.zero_le _⟩
  | _, .str l, p => by
    simp only [D.plain] at p
    refine ⟨?_, Nat.zero_le _⟩
    simp only [D.py, PyData.canLay0, PyData.strOk]
    simpa using p
  | 0, .tup xs, p => by simp [D.plain] at p
  | n + 1, .tup xs, p => by
    simp only [D.plain] at p
    obtain ⟨h1, h2⟩ := lays_of xs p
    simp only [D.py, PyData.canLay0, PyData.depth]
    exact ⟨h1, by omega⟩
  | 0, .lst xs, p => by simp [D.plain] at p
  | n + 1, .lst xs, p => by
    simp only [D.plain] at p
    obtain ⟨h1, h2⟩ := lays_of xs p
    simp only [D.py, PyData.canLay0, PyData.depth]
    exact ⟨h1, by omega⟩
  | n, .dic, p => by simp [D.plain] at p
  | n, .exc c, p => by simp [D.plain] at p
  | n, .obj c, p => by simp [D.plain] at p
theorem lays_of : ∀ {n : Nat} (ds : List D), plains n ds = true → PyData.canLayAll0 (pys ds) = true ∧ PyData.depthAll (pys ds) ≤ n
  | _, [], _ => ⟨rfl, Nat.zero_le _⟩
  | n, x :: xs, p => by
    simp only [plains, Bool.and_eq_true] at p
    obtain ⟨a1, a2⟩ := lay_of x p.1
    obtain ⟨b1, b2⟩ := lays_of xs p.2
    simp only [pys, PyData.canLayAll0, PyData.depthAll, a1, b1, Bool.and_self, true_and]
    omega
end
theorem shaped_of {d : D} (p : D.plain 60 d = true) : SeqAt.shaped d.py = true := by
  obtain ⟨h1, h2⟩ := lay_of d p
  unfold SeqAt.shaped
  rw [h1, Bool.true_and]
  exact decide_eq_true (by omega)
mutual
theorem eqv_py : ∀ (n m : Nat) (d e : D), D.plain n d = true → D.plain m e = true → PyData.eqv d.py e.py = D.eqv d e
  | n, m, .non, e, _, q => by cases e <;> first | (simp [D.plain] at q; done) | simp [D.py, PyData.eqv, D.eqv]
  | n, m, .bl b, e, _, q => by cases e <;> first | (simp [D.plain] at q; done) | simp [D.py, PyData.eqv, D.eqv]
  | n, m, .int i, e, _, q => by cases e <;> first | (simp [D.plain] at q; done) | simp [D.py, PyData.eqv, D.eqv]
  | n, m, .str l, e, _, q => by
    cases e <;> first | (simp [D.plain] at q; done) | (simp [D.py, PyData.eqv, D.eqv]; done) | skip
    rename_i l'
    simp only [D.py, PyData.eqv, D.eqv]
    by_cases z : l = l'
    · subst z; simp
    · have z2 : ¬ (⟨l.toArray⟩ : Str) = ⟨l'.toArray⟩ := fun q => z (by simpa using q)
      rw [beq_eq_false_iff_ne.mpr z2, beq_eq_false_iff_ne.mpr z]
  | 0, m, .tup xs, e, p, q => by simp [D.plain] at p
  | n + 1, m, .tup xs, e, p, q => by
    cases e with
    | tup ys =>
      cases m with
      | zero => simp [D.plain] at q
      | succ m =>
        simp only [D.plain] at p q
        simp only [D.py, PyData.eqv, D.eqv]
        exact eqvs_py n m xs ys p q
    | _ => first | (simp [D.plain] at q; done) | simp [D.py, PyData.eqv, D.eqv]
  | 0, m, .lst xs, e, p, q => by simp [D.plain] at p
  | n + 1, m, .lst xs, e, p, q => by
    cases e with
    | lst ys =>
      cases m with
      | zero => simp [D.plain] at q
      | succ m =>
        simp only [D.plain] at p q
        simp only [D.py, PyData.eqv, D.eqv]
        exact eqvs_py n m xs ys p q
    | _ => first | (simp [D.plain] at q; done) | simp [D.py, PyData.eqv, D.eqv]
  | n, m, .dic, e, p, q => by simp [D.plain] at p
  | n, m, .exc c, e, p, q => by simp [D.plain] at p
  | n, m, .obj c, e, p, q => by simp [D.plain] at p
theorem eqvs_py : ∀ (n m : Nat) (ds es : List D), plains n ds = true → plains m es = true → PyData.eqvAll (pys ds) (pys es) = eqvs ds es
  | n, m, [], [], _, _ => rfl
  | n, m, [], y :: ys, _, _ => by simp [pys, PyData.eqvAll, eqvs]
  | n, m, x :: xs, [], _, _ => by simp [pys, PyData.eqvAll, eqvs]
  | n, m, x :: xs, y :: ys, p, q => by
    simp only [plains, Bool.and_eq_true] at p q
    simp only [pys, PyData.eqvAll, eqvs]
    rw [eqv_py n m x y p.1 q.1, eqvs_py n m xs ys p.2 q.2]
end
theorem any_py : ∀ (n m : Nat) (ds : List D) (x : D), plains n ds = true → D.plain m x = true → ((pys ds).any fun z => PyData.eqv z x.py) = ds.any fun y => D.eqv y x
  | n, m, [], x, _, _ => rfl
  | n, m, y :: ys, x, p, q => by
    simp only [plains, Bool.and_eq_true] at p
    simp only [pys, List.any_cons]
    rw [eqv_py n m y x p.1 q, any_py n m ys x p.2 q]

/-! ### the environment in the frame -/
def SlotOk (T : Tab) (O : List Addr) (H : Hp) (s : Slot) (o : Option (Option V)) : Prop := match s with
  | .un => True
  | .dat d => ∃ v, o = some (some v) ∧ DV T (hide O H) d v
  | .own xs => ∃ a vs, o = some (some (.ref a)) ∧ a ∈ O ∧ H a = some (.lst vs) ∧ DVs T (hide O H) xs vs
structure Rl (T : Tab) (O : List Addr) (σ : St) (ρ : Env) (H : Hp) : Prop where
  live : Lv T O H
  len : σ.length = ρ.length
  at_ : ∀ (i : Nat) (s : Slot), ρ[i]? = some s → SlotOk T O H s σ[i]?
  sep : ∀ (i j : Nat) (xs ys : List D) (a : Addr), ρ[i]? = some (.own xs) → ρ[j]? = some (.own ys) → σ[i]? = some (some (.ref a)) → σ[j]? = some (some (.ref a)) → i = j
theorem live_mono {T : Tab} {O : List Addr} {H H' : Hp} (e : Ex H H') (l : Lv T O H) : Lv T O H' := ⟨fun a ha => e.nn (l.1 a ha), fun P hp => e.tab P (l.2 P hp)⟩
theorem live_new {T : Tab} {O : List Addr} {H : Hp} (l : Lv T O H) {p : Addr} (h : H p = none) : p ∉ O := fun z => l.1 p z h
theorem SlotOk.mono {T : Tab} {O : List Addr} {H H' : Hp} (e : Ex H H') {s : Slot} {o : Option (Option V)} (h : SlotOk T O H s o) : SlotOk T O H' s o := by
  cases s with
  | un => trivial
  | dat d => obtain ⟨v, h1, h2⟩ := h; exact ⟨v, h1, h2.mono (hide_mono e)⟩
  | own xs => obtain ⟨a, vs, h1, h2, h3, h4⟩ := h; exact ⟨a, vs, h1, h2, e.at h3 fun _ z => (nomatch z), h4.mono (hide_mono e)⟩
theorem Rl.mono {T : Tab} {O : List Addr} {σ : St} {ρ : Env} {H H' : Hp} (e : Ex H H') (h : Rl T O σ ρ H) : Rl T O σ ρ H' :=
  ⟨live_mono e h.live, h.len, fun i s q => (h.at_ i s q).mono e, h.sep⟩
/-- a slot is given data -/
theorem Rl.setd {T : Tab} {O : List Addr} {σ : St} {ρ : Env} {H : Hp} (h : Rl T O σ ρ H) {d : D} {v : V} (dv : DV T (hide O H) d v) (i : Nat) : Rl T O (σ.set i (some v)) (ρ.set i (.dat d)) H := by
  refine ⟨h.live, by rw [List.length_set, List.length_set]; exact h.len, fun j s q => ?_, fun j k xs ys a h1 h2 h3 h4 => ?_⟩
  · by_cases e : i = j
    · subst e
      have hl : i < ρ.length := by
        have := (List.getElem?_eq_some_iff.mp q).1
        rwa [List.length_set] at this
      rw [List.getElem?_set_self hl] at q
      cases q
      exact ⟨v, by rw [List.getElem?_set_self (by rw [h.len]; exact hl)], dv⟩
    · rw [List.getElem?_set_ne e] at q ⊢
      exact h.at_ j s q
  · have nj : i ≠ j := fun e => by
      subst e
      by_cases hl : i < ρ.length
      · rw [List.getElem?_set_self hl] at h1; cases h1
      · rw [List.getElem?_eq_none (by simpa using hl)] at h1; cases h1
    have nk : i ≠ k := fun e => by
      subst e
      by_cases hl : i < ρ.length
      · rw [List.getElem?_set_self hl] at h2; cases h2
      · rw [List.getElem?_eq_none (by simpa using hl)] at h2; cases h2
    rw [List.getElem?_set_ne nj] at h1 h3
    rw [List.getElem?_set_ne nk] at h2 h4
    exact h.sep j k xs ys a h1 h2 h3 h4
/-- a slot is forgotten -/
theorem Rl.setn {T : Tab} {O : List Addr} {σ : St} {ρ : Env} {H : Hp} (h : Rl T O σ ρ H) (i : Nat) (x : Option V) : Rl T O (σ.set i x) (ρ.set i .un) H := by
  refine ⟨h.live, by rw [List.length_set, List.length_set]; exact h.len, fun j s q => ?_, fun j k xs ys a h1 h2 h3 h4 => ?_⟩
  · by_cases e : i = j
    · subst e
      have hl : i < ρ.length := by
        have := (List.getElem?_eq_some_iff.mp q).1
        rwa [List.length_set] at this
      rw [List.getElem?_set_self hl] at q
      cases q
      trivial
    · rw [List.getElem?_set_ne e] at q ⊢
      exact h.at_ j s q
  · have nj : i ≠ j := fun e => by
      subst e
      by_cases hl : i < ρ.length
      · rw [List.getElem?_set_self hl] at h1; cases h1
      · rw [List.getElem?_eq_none (by simpa using hl)] at h1; cases h1
    have nk : i ≠ k := fun e => by
      subst e
      by_cases hl : i < ρ.length
      · rw [List.getElem?_set_self hl] at h2; cases h2
      · rw [List.getElem?_eq_none (by simpa using hl)] at h2; cases h2
    rw [List.getElem?_set_ne nj] at h1 h3
    rw [List.getElem?_set_ne nk] at h2 h4
    exact h.sep j k xs ys a h1 h2 h3 h4
theorem Rl.get {T : Tab} {O : List Addr} {σ : St} {ρ : Env} {H : Hp} (h : Rl T O σ ρ H) {i : Nat} {d : D} (e : getS ρ i = .ok d) : ∃ v, σ[i]? = some (some v) ∧ DV T (hide O H) d v := by
  unfold getS at e
  split at e
  · rename_i d' q
    cases e
    exact h.at_ i _ q
  · cases e

/-! ### what is wanted of an expression's end -/
section
variable {T : Tab} {W : WX} {O : List Addr} {σ : St} {ρ : Env} {H H1 : Hp}
def PoE (T : Tab) (W : WX) (O : List Addr) (σ : St) (H : Hp) (Q : VK) : R D → Prop
  | .ok d => ∀ v H', Ex H H' → DV T (hide O H') d v → Q v H'
  | .ex c => ∀ H', Ex H H' → c ∈ T.exs → W (.ref (T.exc c)) none σ H'
  | .no => False
def PoA (T : Tab) (W : WX) (O : List Addr) (σ : St) (H : Hp) (Q : List V → Hp → Prop) : R (List D) → Prop
  | .ok d => ∀ v H', Ex H H' → DVs T (hide O H') d v → Q v H'
  | .ex c => ∀ H', Ex H H' → c ∈ T.exs → W (.ref (T.exc c)) none σ H'
  | .no => False
def PoT (T : Tab) (W : WX) (σ : St) (H : Hp) (Q : Bool → Hp → Prop) : R Bool → Prop
  | .ok b => ∀ H', Ex H H' → Q b H'
  | .ex c => ∀ H', Ex H H' → c ∈ T.exs → W (.ref (T.exc c)) none σ H'
  | .no => False
theorem PoE.mono {Q : VK} {r : R D} (e : Ex H H1) (p : PoE T W O σ H Q r) : PoE T W O σ H1 Q r := by
  cases r with
  | ok d => exact fun v H' e' dv => p v H' (e.trans e') dv
  | ex c => exact fun H' e' => p H' (e.trans e')
  | no => exact p
theorem PoA.mono {Q : List V → Hp → Prop} {r : R (List D)} (e : Ex H H1) (p : PoA T W O σ H Q r) : PoA T W O σ H1 Q r := by
  cases r with
  | ok d => exact fun v H' e' dv => p v H' (e.trans e') dv
  | ex c => exact fun H' e' => p H' (e.trans e')
  | no => exact p
theorem PoT.mono {Q : Bool → Hp → Prop} {r : R Bool} (e : Ex H H1) (p : PoT T W σ H Q r) : PoT T W σ H1 Q r := by
  cases r with
  | ok d => exact fun H' e' => p H' (e.trans e')
  | ex c => exact fun H' e' => p H' (e.trans e')
  | no => exact p
def tE (T : Tab) (W : WX) (m : E) : TE := fun σ H Q => ∃ O ρ, Rl T O σ ρ H ∧ PoE T W O σ H Q (evE m ρ)
def tEs (T : Tab) (W : WX) (m : Es) : TA := fun σ H Q => ∃ O ρ, Rl T O σ ρ H ∧ PoA T W O σ H Q (evEs m ρ)
def tT (T : Tab) (W : WX) (m : E) : TT := fun σ H Q => ∃ O ρ, Rl T O σ ρ H ∧ PoT T W σ H Q (evT m ρ)
/-- what is wanted, in general: the rest of a reckoning -/
structure Want (T : Tab) (W : WX) (O : List Addr) (σ : St) (H : Hp) {β : Type} (P : Hp → R β → Prop) : Prop where
  mono : ∀ {H1 r}, Ex H H1 → P H r → P H1 r
  ex : ∀ c, P H (.ex c) → ∀ H', Ex H H' → c ∈ T.exs → W (.ref (T.exc c)) none σ H'
  no : ¬ P H .no
theorem wantE {Q : VK} : Want T W O σ H fun H r => PoE T W O σ H Q r := ⟨PoE.mono, fun _ p => p, fun p => p⟩
theorem wantA {Q : List V → Hp → Prop} : Want T W O σ H fun H r => PoA T W O σ H Q r := ⟨PoA.mono, fun _ p => p, fun p => p⟩
theorem wantT {Q : Bool → Hp → Prop} : Want T W O σ H fun H r => PoT T W σ H Q r := ⟨PoT.mono, fun _ p => p, fun p => p⟩
/-- an expression ahead of the rest -/
theorem tE_bind {β : Type} {P : Hp → R β → Prop} {m : E} {f : D → R β} {Kn : VK} (w : Want T W O σ H P) (h : Rl T O σ ρ H) (p : P H ((evE m ρ).bind f)) (k : ∀ d v H1, Ex H H1 → DV T (hide O H1) d v → P H1 (f d) → Kn v H1) : tE T W m σ H Kn := by
  refine ⟨O, ρ, h, ?_⟩
  cases e : evE m ρ with
  | ok d =>
    rw [e] at p
    exact fun v H' e' dv => k d v H' e' dv (w.mono e' p)
  | ex c =>
    rw [e] at p
    exact w.ex c p
  | no =>
    rw [e] at p
    exact absurd p w.no
theorem tEs_bind {β : Type} {P : Hp → R β → Prop} {m : Es} {f : List D → R β} {Kn : List V → Hp → Prop} (w : Want T W O σ H P) (h : Rl T O σ ρ H) (p : P H ((evEs m ρ).bind f)) (k : ∀ d v H1, Ex H H1 → DVs T (hide O H1) d v → P H1 (f d) → Kn v H1) : tEs T W m σ H Kn := by
  refine ⟨O, ρ, h, ?_⟩
  cases e : evEs m ρ with
  | ok d =>
    rw [e] at p
    exact fun v H' e' dv => k d v H' e' dv (w.mono e' p)
  | ex c =>
    rw [e] at p
    exact w.ex c p
  | no =>
    rw [e] at p
    exact absurd p w.no
theorem tT_bind {β : Type} {P : Hp → R β → Prop} {m : E} {f : Bool → R β} {Kn : Bool → Hp → Prop} (w : Want T W O σ H P) (h : Rl T O σ ρ H) (p : P H ((evT m ρ).bind f)) (k : ∀ b H1, Ex H H1 → P H1 (f b) → Kn b H1) : tT T W m σ H Kn := by
  refine ⟨O, ρ, h, ?_⟩
  cases e : evT m ρ with
  | ok d =>
    rw [e] at p
    exact fun H' e' => k d H' e' (w.mono e' p)
  | ex c =>
    rw [e] at p
    exact w.ex c p
  | no =>
    rw [e] at p
    exact absurd p w.no
end
theorem pe_weak {X : Cx} {e : Expr} {t t' : TE} (h : PE X e t) (w : ∀ σ H Q, t' σ H Q → t σ H Q) : PE X e t' := ⟨fun pins s σ H Q I q => h.run pins s σ H Q I (w σ H Q q)⟩
theorem pt_weak {X : Cx} {e : Expr} {t t' : TT} (h : PT X e t) (w : ∀ σ H Q, t' σ H Q → t σ H Q) : PT X e t' := ⟨fun pins s σ H Q I q => h.run pins s σ H Q I (w σ H Q q)⟩
theorem pw_weak {X : Cx} {e : Expr} {t t' : TT} (h : PW X e t) (w : ∀ σ H Q, t' σ H Q → t σ H Q) : PW X e t' := ⟨fun wh pins s σ H Q I q => h.run wh pins s σ H Q I (w σ H Q q)⟩
theorem pa_weak {X : Cx} {e : List Expr} {t t' : TA} (h : PA X e t) (w : ∀ σ H Q, t' σ H Q → t σ H Q) : PA X e t' := ⟨fun pos pins s σ H Q I q => h.run pos pins s σ H Q I (w σ H Q q)⟩
end MP

set_option Elab.async false
set_option linter.all false
set_option maxRecDepth 100000
set_option maxHeartbeats 4000000
set_option autoImplicit false
/-! MPC: each operation of the language against the layer's rules. -/
namespace PySem.SeqAt
open Sem (wp)
open Builtin
open AutoSeq1 (wpAny_loadPart')
open MeetsSeq
theorem dict_eq_declines_str (l : Addr) (es : Array DictEntry) (n : Nat) (dd : Option Addr) (sl : Array (Option Value)) (b : Str) (u : Tok) :
    Meets (Builtin.«dict.__eq__» ⟨[.ref l, .str b u], []⟩) (fun _ R s => s.heap.get? l = some { cls := .type "dict", dict := dd, data := .dict es n, slots := sl } ∧ R (.ok (.ret .notImplemented)) s) :=
  .of_wp fun prog w A R s h => by obtain ⟨hp, g, d, tk, os⟩ := s; obtain ⟨hl, h⟩ := h; have f1 := F.sub_str_dict; wp_walk using wpAny_loadPart' hl; exact ⟨_, rfl, h⟩
theorem str_eq_declines_dict (b : Str) (u : Tok) (l : Addr) (es : Array DictEntry) (n : Nat) (dd : Option Addr) (sl : Array (Option Value)) :
    Meets (Builtin.«str.__eq__» ⟨[.str b u, .ref l], []⟩) (fun _ R s => s.heap.get? l = some { cls := .type "dict", dict := dd, data := .dict es n, slots := sl } ∧ R (.ok (.ret .notImplemented)) s) :=
  .of_wp fun prog w A R s h => by obtain ⟨hp, g, d, tk, os⟩ := s; obtain ⟨hl, h⟩ := h; wp_walk using wpAny_loadPart' hl, wpAny_load hl; exact ⟨_, rfl, h⟩
section
variable {A : Around} {s : Shared}
theorem RcAt.dict_str {l : Addr} {o : Obj} {es : Array DictEntry} {n : Nat} (b : Str) (u : Tok) (ho : s.heap.get? l = some o) (hc : o.cls = .type "dict") (hd : o.data = .dict es n) (hu : A.units < cLine) : RcAt A s (.ref l) (.str b u) false := fun prog w E Q h => by
  obtain ⟨cls, dd, data, sl⟩ := o
  simp only at hc hd
  subst hc hd
  exact rc_eq_decline_or (k := false) ⟨_, ho, rfl⟩ (typeIs_str s b u) (by decide) F.sub_str_dict F.slot_dict_eq F.slot_str_eq_refl
    (fun _ hq => call_meets F.slot_dict_eq ⟨_, ho, rfl⟩ F.entry_dict_eq (F.args_dict_eq_2 _ _) (dict_eq_declines_str l es n dd sl b u) ⟨ho, hq⟩)
    (fun _ hq => call_meets F.slot_str_eq_refl (typeIs_str s b u) F.entry_str_eq (F.args_str_eq_2 _ _) (str_eq_declines_dict b u l es n dd sl) ⟨ho, hq⟩)
    (fun _ hq => wpAny_of_eq (rfl : isSame (.ref l) (.str b u) = pure false) hq) (.inr hu) h
theorem RcAt.str_dict {l : Addr} {o : Obj} {es : Array DictEntry} {n : Nat} (b : Str) (u : Tok) (ho : s.heap.get? l = some o) (hc : o.cls = .type "dict") (hd : o.data = .dict es n) (hu : A.units < cLine) : RcAt A s (.str b u) (.ref l) false := fun prog w E Q h => by
  obtain ⟨cls, dd, data, sl⟩ := o
  simp only at hc hd
  subst hc hd
  exact rc_eq_decline_or (k := false) (typeIs_str s b u) ⟨_, ho, rfl⟩ (by decide) F.sub_dict_str F.slot_str_eq F.slot_dict_eq_refl
    (fun _ hq => call_meets F.slot_str_eq (typeIs_str s b u) F.entry_str_eq (F.args_str_eq_2 _ _) (str_eq_declines_dict b u l es n dd sl) ⟨ho, hq⟩)
    (fun _ hq => call_meets F.slot_dict_eq_refl ⟨_, ho, rfl⟩ F.entry_dict_eq (F.args_dict_eq_2 _ _) (dict_eq_declines_str l es n dd sl b u) ⟨ho, hq⟩)
    (fun _ hq => wpAny_of_eq (rfl : isSame (.str b u) (.ref l) = pure false) hq) (.inr hu) h
theorem EqAt.str_dict {l : Addr} {o : Obj} {es : Array DictEntry} {n : Nat} (b : Str) (u : Tok) (ho : s.heap.get? l = some o) (hc : o.cls = .type "dict") (hd : o.data = .dict es n) (hu : A.units < cLine) : EqAt A s (.str b u) (.ref l) false := fun prog w E Q h => by
  unfold eqBool
  refine wpAny_holding ?_
  refine wpAny_ite_split (fun hab => absurd (eq_of_beq hab) nofun) (fun _ => ?_)
  exact wpAny_bind (RcAt.str_dict b u ho hc hd hu prog w E _ (wpAny_truthy_bool h))
end
end PySem.SeqAt
/-! int of a long text of figures, str of a long number, a text times a number -/
namespace MP.LI
open PySem PySem.NumText
theorem none_key {K : PySem.W.Frag} {h : Heap} {a : Addr} {m : Str → Option Value} {n : Str} (kin : K.In h) (g : h.Ns a m) (e : PySem.W.nsIn K a n = some none) : m n = none := by
  obtain ⟨o, es, ep, at_, data, _, find⟩ := g
  rw [← find n]
  simp only [PySem.W.nsIn] at e
  split at e
  · rename_i look
    have same := kin _ _ look
    rw [at_] at same
    cases same
    cases data
    split at e
    · cases e
    · rename_i nf
      simp only [nsFind, findBy]
      rw [← Array.find?_toList, nf]
      rfl
  · cases e
theorem limit_of {K : PySem.W.Frag} {h : Heap} (kin : K.In h) (nl : h.NoLimit) (e : PySem.W.nsIn K cStatics "sys.int_max_str_digits" = some none) : h.NoDigits := by
  obtain ⟨mc, g, _⟩ := nl
  exact ⟨mc, g, none_key kin g e⟩
theorem take_figs : ∀ {l : List Nat}, AllDigits l → l.takeWhile (· != 0) = l
  | [], _ => rfl
  | c :: r, h => by
    have hc := h c (List.mem_cons_self ..)
    have hr := take_figs (l := r) fun d hd => h d (List.mem_cons_of_mem _ hd)
    rw [List.takeWhile_cons, if_pos (by simp; omega), hr]
theorem text_figs {x : Str} (h : AllDigits x.cps.toList) : numTextOf x = x.cps.toList := by
  show (if _ then _ else _) = _
  rw [if_pos]
  rw [← Array.all_toList]
  exact List.all_eq_true.mpr fun c hc => by have := h c hc; exact decide_eq_true (by omega)
theorem seen_figs {x : Str} (h : AllDigits x.cps.toList) : numSeenOf x = x.cps.toList := by
  show (numTextOf x).takeWhile (· != 0) = _
  rw [text_figs h, take_figs h]
theorem wp_long {M : Model} {A : Around} {E : Value → Shared → Prop} {s : Shared} {Q : Value → Shared → Prop} {v : Value} {text : List Nat} {n : Int}
    (long : ¬ (text.takeWhile (· != 0)).length ≤ 640) (nd : s.heap.NoDigits) (hr : (int_private% "readNumeral") 4300 10 (text.takeWhile (· != 0)) = (int_private% "Numeral.value") n)
    (whole : ((text.takeWhile (· != 0)).length == text.length) = true) (h : Q (.int n s.toks) { s with toks := s.toks + 1 }) :
    wpAny M A ((int_private% "intFromText") v text 10) Q E s := by
  obtain ⟨hp, g, d, tk, os⟩ := s
  obtain ⟨mc, hns, nokey⟩ := nd
  repeat (any_goals (first | assumption | (with_reducible refine wpAny_nsGet hns ?_; rw [nokey]) | (with_reducible refine wpAny_ite_false (decide_eq_false long) ?_) | (with_reducible refine wpAny_ite_true (decide_eq_true whole) ?_) | wp_step))
  all_goals (try rw [hr])
  all_goals (try dsimp only)
  repeat (any_goals (first | assumption | (with_reducible refine wpAny_ite_true (decide_eq_true whole) ?_) | wp_step))
structure Kept (p : Prop) : Prop where
  out : p
set_option maxHeartbeats 4000000 in
theorem meets_long {x : Str} {u : Tok} {n : Int} (figs : AllDigits x.cps.toList) (len1 : 640 < x.length) (len2 : x.length ≤ 4300) (hn : intText? x = some n) :
    Meets (Builtin.«int.__new__» ⟨[.type "int", .str x u], []⟩) (fun _ R s => s.heap.NoDigits ∧ R (.ok (.ret (.int n s.toks))) { s with toks := s.toks + 1 }) := by
  rintro prog w A R ⟨hp, g, d, tk, os⟩ ⟨nd, h⟩
  have f1 := F.conv_sub_int
  have f2 := F.madeHere_int
  have f3 := PySem.W.KIN.str_int
  have f4 := PySem.W.KIN.str_idx
  have f5 := PySem.W.KIN.str_trunc
  have f6 : typeOf (.str x u) = pure (.type "str") := rfl
  have ln : x.cps.toList.length = x.length := Array.length_toList
  have long : ¬ (numSeenOf x).length ≤ 640 := by rw [seen_figs figs, ln]; omega
  have got : (int_private% "readNumeral") 4300 10 (numSeenOf x) = (int_private% "Numeral.value") n ∧ ((numSeenOf x).length == (numTextOf x).length) = true := by
    rcases read4300 x (by rw [sizeLine_eq]; omega) with ⟨m, h1, h2, h3⟩ | ⟨h1, _⟩
    · rw [hn] at h1
      cases h1
      exact ⟨h3, h2⟩
    · rw [hn] at h1
      cases h1
  have kept := Kept.mk (And.intro nd (And.intro long got))
  clear nd long got hn len1 len2 ln figs
  refine wpAny_mono (Q := fun fin s' => fin = .done (.ret (.int n tk)) ∧ s' = ⟨hp, g, d, tk + 1, os⟩) (E := fun _ _ => False) ?_ (fun fin s' q => by obtain ⟨rfl, rfl⟩ := q; exact h) (fun _ _ q => q.elim)
  clear h
  repeat (any_goals (first
    | assumption
    | ((with_reducible show wpAny _ _ ((int_private% "intFromText") _ _ _) _ _ _); refine wp_long kept.out.2.1 kept.out.1 kept.out.2.2.1 kept.out.2.2.2 ?_)
    | wp_step))
  all_goals first | exact ⟨rfl, rfl⟩ | skip
theorem call_long {prog : Program} {w : World} {A : Around} {E : Value → Shared → Prop} {s : Shared} {Q : Value → Shared → Prop} {x : Str} {t : Tok} {n : Int} (figs : AllDigits x.cps.toList) (len1 : 640 < x.length) (len2 : x.length ≤ 4300) (hn : intText? x = some n) (nd : s.heap.NoDigits)
    (h : Q (.int n s.toks) { s with toks := s.toks + 1 }) : wpAny (model prog w) A (call (.type "int") [.str x t]) Q E s :=
  call_int_1 (meets_long figs len1 len2 hn) ⟨nd, rfl, h⟩
end MP.LI
namespace MP
open PySem L2
section
variable {X : Cx}
theorem call_int_long (hd : PySem.W.nsIn X.K cStatics "sys.int_max_str_digits" = some none) : CallR X (.type "int") (fun xs H Q => ∃ (a : Str) (n : Int), xs = [.str a] ∧ NumText.AllDigits a.cps.toList ∧ 640 < a.length ∧ a.length ≤ 4300 ∧ PySem.intText? a = some n ∧ Q (.int n) H) := by
  intro pins s σ H xs us Q I rs h
  obtain ⟨a, n, rfl, figs, l1, l2, hn, q⟩ := h
  cases rs with
  | cons r1 rs =>
    cases rs
    obtain ⟨t, rfl⟩ := r1
    exact LI.call_long figs l1 l2 hn (LI.limit_of I.kIn I.nolimit hd) ⟨.int n, H, I.tok _, ⟨_, rfl⟩, q⟩
theorem call_str_long (hc : X.calm = true) (hd : PySem.W.nsIn X.K cStatics "sys.int_max_str_digits" = some none) : CallR X (.type "str") (fun xs H Q => ∃ i : Int, xs = [.int i] ∧ i.natAbs.log2 < 12900 ∧ Q (.str (toString i)) H) := by
  intro pins s σ H xs us Q I rs h
  obtain ⟨i, rfl, hz, q⟩ := h
  obtain ⟨u, rfl, t, rfl⟩ := vals1 rs
  have lt : i.natAbs < 10 ^ 4300 := Nat.lt_of_lt_of_le (PyProof.Rows.lt_of_log2 hz) PyProof.Rows.pow_lo
  refine PyProof.Rows.str_of_int_or (I.ok.hd hc) (LI.limit_of I.kIn I.nolimit hd) (fun _ => ⟨.str _, H, I.tok _, ⟨_, rfl⟩, q⟩) (fun ge => absurd lt (Nat.not_lt.mpr ge))
theorem fold_times (a : Array Nat) : ∀ (m : Nat) (acc : Array Nat), ((List.replicate m a).foldl (· ++ ·) acc).toList = acc.toList ++ (List.replicate m a.toList).flatten
  | 0, acc => by simp
  | m + 1, acc => by
    rw [List.replicate_succ, List.foldl_cons, fold_times a m (acc ++ a), List.replicate_succ, List.flatten_cons, Array.toList_append, List.append_assoc]
theorem op_repS : OpR X (binaryOp .Mult) (fun x y H Q => ∃ (a : Str) (k : Int), x = .str a ∧ y = .int k ∧ 0 ≤ k ∧ k ≤ 1000000 ∧ a.length * k.toNat ≤ sizeLine ∧ Q (.str ⟨(List.replicate k.toNat a.cps.toList).flatten.toArray⟩) H) := by
  intro pins s σ H x y v u Q I rx ry h
  obtain ⟨a, k, rfl, rfl, k0, k1, hz, q⟩ := h
  obtain ⟨t, rfl⟩ := rx
  obtain ⟨t2, rfl⟩ := ry
  have e63 : (2 : Int) ^ 63 = 9223372036854775808 := by decide
  have el : a.cps.toList.length = a.length := Array.length_toList
  rw [sizeLine_eq] at hz
  refine P.mul_str ?_ ?_ ?_ ?_
  · rw [e63, decide_eq_false (by omega), decide_eq_false (by omega)]; rfl
  · intro k2 _ h3
    rw [e63] at h3
    have h4 : (a.length : Int) * k ≤ 16777216 := by
      have : ((a.length * k.toNat : Nat) : Int) = (a.length : Int) * k := by rw [Int.natCast_mul, Int.toNat_of_nonneg k0]
      omega
    have h5 : (9223372036854775808 - 1 : Int) / k + 1 ≤ (a.length : Int) := by omega
    have h6 := Int.mul_le_mul_of_nonneg_right h5 k0
    have h7 := Int.lt_ediv_add_one_mul_self (9223372036854775808 - 1 : Int) (show 0 < k by omega)
    omega
  · intro _ _
    exact decide_eq_false (by rw [sizeLine_eq]; omega)
  · by_cases k2 : k < 1
    · rw [if_pos k2]
      obtain rfl : k = 0 := by omega
      exact ⟨by rw [sizeLine_eq]; decide, .str _, H, I.tok _, ⟨_, rfl⟩, q⟩
    · rw [if_neg k2]
      by_cases c : (k == 1 || a.length == 0) = true
      · rw [if_pos c]
        have e : (⟨(List.replicate k.toNat a.cps.toList).flatten.toArray⟩ : Str) = a := by
          rw [Bool.or_eq_true, beq_iff_eq, beq_iff_eq] at c
          rcases c with rfl | c
          · rw [show Int.toNat 1 = 1 from rfl, List.replicate_succ, List.flatten_cons, List.replicate_zero, List.flatten_nil, List.append_nil]
          · have e0 : a.cps.toList = [] := List.eq_nil_of_length_eq_zero (by rw [el, c])
            have e1 : (List.replicate k.toNat ([] : List Nat)).flatten = [] := by simp
            rw [e0, e1, ← e0]
        rw [e] at q
        exact ⟨.str a, H, I, ⟨_, rfl⟩, q⟩
      · rw [if_neg c]
        have e : (List.replicate k.toNat a.cps).foldl (fun x1 x2 => x1 ++ x2) #[] = (List.replicate k.toNat a.cps.toList).flatten.toArray := by
          have := fold_times a.cps k.toNat #[]
          rw [show (#[] : Array Nat).toList = [] from rfl, List.nil_append] at this
          rw [← this, Array.toArray_toList]
        rw [e]
        refine ⟨?_, .str _, H, I.tok _, ⟨_, rfl⟩, q⟩
        show (List.replicate k.toNat a.cps.toList).flatten.toArray.size ≤ _
        rw [List.size_toArray, List.length_flatten, List.map_replicate, List.sum_replicate_nat, el, sizeLine_eq, Nat.mul_comm]
        omega
end
end MP

/-! list(reversed(a list)) -/
namespace MP.LI
open PySem PyProof.Rows
section
variable {prog : Program} {w : World} {A : Around} {E : Value → Shared → Prop} {s : Shared}
theorem call_list_rev {it l : Addr} {items : Array Value} {Q : Value → Shared → Prop} (hh : A.handled = none) (rev : s.heap.IsRevIter it l ((items.size : Int) - 1)) (src : s.heap.IsList l items) (ne : l ≠ it) (small : items.size ≤ sizeLine)
    (hQ : ∀ (h' : Heap) (tk : Nat) (acc : Array Value) (c : Nat), (∀ b o, b ≠ it → s.heap.get? b = some o → h'.get? b = some o) → h'.get? s.heap.objs.size = some { cls := .type "list", dict := none, data := .seq acc c, slots := #[] } → ItemsOf (fun i v => items[items.size - 1 - i]? = some v) acc items.size →
      Q (.ref s.heap.objs.size) { s with heap := h', toks := tk }) : wpAny (model prog w) A (call (.type "list") [.ref it]) Q E s := by
  have walk := (Walks.listRev (prog := prog) (w := w) (A := A.in1.in1) hh it l ne items).toS
  obtain ⟨oi, at_i, _⟩ := id rev
  obtain ⟨ol, at_l, _⟩ := id src
  have Si : s.heap.objs.size ≠ it := Nat.ne_of_gt (Heap.lt_size at_i)
  have Sl : s.heap.objs.size ≠ l := Nat.ne_of_gt (Heap.lt_size at_l)
  have Sf : s.heap.objs.size ∉ [it, l] := by simp only [List.mem_cons, List.not_mem_nil, or_false, not_or]; exact ⟨Si, Sl⟩
  refine callType_codes (Q₁ := fun v t => v = .ref s.heap.objs.size ∧ t = { s with heap := s.heap.push { cls := .type "list", data := .seq #[] } }) PySem.F.called_list (PySem.F.typeCall_list_1 _) PySem.F.entry_list_init (code_list_new _ ⟨rfl, rfl⟩) fun v t made => ?_
  obtain ⟨rfl, rfl⟩ := made
  have S1 : (s.heap.push { cls := .type "list", data := .seq #[] }).get? s.heap.objs.size = some { cls := .type "list", data := .seq #[] } := Heap.get?_push_size _ rfl
  refine ⟨⟨_, S1, rfl⟩, PySem.F.args_list_init_2 _ _, ?_⟩
  show wpAny _ A.in1.in1 (do let old ← Builtin.List.listItems (.ref s.heap.objs.size); Builtin.List.listUpdate (.ref s.heap.objs.size) (fun _ => #[]); letGo old.toList.reverse; Builtin.List.listExtendWith (.ref s.heap.objs.size) (.ref it) .none) _ _ _
  refine wpAny_bind ?_
  unfold Builtin.List.listItems
  refine wpAny_bind (wpAny_seqItems S1 rfl (wpAny_pure ?_))
  show wpAny _ A.in1.in1 (updateSeq s.heap.objs.size (fun _ => #[]) >>= fun _ => letGo (#[] : Array Value).toList.reverse >>= fun _ => Builtin.List.listExtendWith (.ref s.heap.objs.size) (.ref it) .none) _ _ _
  refine wpAny_bind (wpAny_updateSeq S1 rfl ?_)
  have S2 := Heap.get?_update_self (Obj.mapSeq (fun _ => (#[] : Array Value))) S1 rfl
  refine wpAny_bind (wpAny_letGo ?_)
  have stay : ∀ b o, s.heap.get? b = some o → ((s.heap.push { cls := .type "list", data := .seq #[] }).update s.heap.objs.size (Obj.mapSeq (fun _ => (#[] : Array Value)))).get? b = some o := fun b o e =>
    (Heap.get?_update_other _ _ (Ne.symm (Nat.ne_of_lt (Heap.lt_size e)))).trans (Heap.get?_push_of_some _ e)
  have rev2 : ((s.heap.push { cls := .type "list", data := .seq #[] }).update s.heap.objs.size (Obj.mapSeq (fun _ => (#[] : Array Value)))).IsRevIter it l ((items.size : Int) - 1) := rev.at fun o e => stay _ o e
  have src2 : ((s.heap.push { cls := .type "list", data := .seq #[] }).update s.heap.objs.size (Obj.mapSeq (fun _ => (#[] : Array Value)))).IsList l items := src.at fun o e => stay _ o e
  generalize (s.heap.push { cls := .type "list", data := .seq #[] }).update s.heap.objs.size (Obj.mapSeq (fun _ => (#[] : Array Value))) = hp at *
  have ty : ({ s with heap := hp } : Shared).TypeIs (.ref it) "list_reverseiterator" := Heap.IsRevIter.typeIs (s := { s with heap := hp }) rev2
  have n1 : Builtin.List.listSameRef (.ref s.heap.objs.size) (.ref it) = false := by simp [Builtin.List.listSameRef, Si]
  unfold Builtin.List.listExtendWith
  refine wpAny_bind (wpAny_typeOf ty ?_)
  rw [if_neg (by rw [n1]; decide)]
  refine wpAny_bind (wpAny_pyIter_revIter (s := { s with heap := hp }) rev2 ?_)
  refine wpAny_bind (wpAny_holding ?_)
  unfold Builtin.List.listLengthHint
  refine wpAny_bind (wpAny_specialOf ty RT.nolen_lri ?_)
  show wpAny _ A.in1.in1 (specialOf (Value.ref it) (Str.ofString "__length_hint__") >>= _) _ _ _
  refine wpAny_bind (wpAny_specialOf ty RT.hint_lri ?_)
  generalize hid : ("list_reverseiterator.__length_hint__" : String) = id0
  wp_delta
  rw [show splitId id0 = some ("list_reverseiterator", "__length_hint__") from by subst hid; decide +kernel]
  subst hid
  refine wpAny_bind (wpAny_isInstance (b := true) ty (by rw [isSubtype_type]; kernel_rfl) ?_)
  refine wpAny_pure ?_
  rw [if_neg (by decide)]
  have e0 : ((items.size : Nat) : Int) - 1 - ((0 : Nat) : Int) = (items.size : Int) - 1 := by omega
  refine wpAny_pure ⟨plainId_quiet PySem.F.plain_extend_loop _, codeAny_extend_loopS walk small _ Sf _ items.size 0 _ _ _ rfl (Nat.zero_le _) ⟨Nat.zero_le _, by rw [e0]; exact rev2, src2⟩ S2 (ItemsOf.nil _) fun t acc c moved S3 its => ?_⟩
  rw [Moved.eq_with moved]
  refine ⟨rfl, hQ t.heap t.toks acc c (fun b o nb e => moved.heap b o (fun mem => ?_) (stay b o e)) S3 its⟩
  rcases List.mem_cons.mp mem with q | mem
  · exact absurd (Heap.lt_size e) (by rw [q]; exact Nat.lt_irrefl _)
  · exact nb (List.mem_singleton.mp mem)
end
end MP.LI
namespace MP
open PySem L2
open PyProof.Rows hiding St
section
variable {X : Cx}
def tListRev (K : PySem.W.Frag) (te : TE) : TE := fun σ H Q => te σ H fun v H1 => ∃ (a : Addr) (xs : List V), v = .ref a ∧ SqL K H1 a xs ∧ ∀ q, H1 q = none → Q (.ref q) (upd H1 q (.lst xs.reverse))
theorem pe_listRev {e : Expr} {te : TE} {p p2 pos pos2 : Pos} (hc : X.calm = true) (hg : Gl X "list") (hm : X.mg "list" = none) (hg2 : Gl X "reversed") (hm2 : X.mg "reversed" = none) (he : PE X e te)
    (hs : starEach [e] X.env = (false, eval e X.env) :: starEach [] X.env := by rfl)
    (hs2 : starEach [.Call (.Name "reversed" p2) [e] [] pos2] X.env = (false, eval (.Call (.Name "reversed" p2) [e] [] pos2) X.env) :: starEach [] X.env := by rfl) :
    PE X (.Call (.Name "list" p) [.Call (.Name "reversed" p2) [e] [] pos2] [] pos) (tListRev X.K te) := by
  refine ⟨fun pins s σ H Q I h => ?_⟩
  refine Call_ (ld_blt I hg hm (show bootBuiltins "list" = some (.type "list") from by decide +kernel) (PyProof.Rows.callWith_type1 (args_cons (Call_ (ld_blt I hg2 hm2 PyProof.Rows.boot_reversed (PyProof.Rows.callWith_type1 (args_cons (thn (he.run pins s σ H _ I h) fun u s1 ⟨v, H1, I1, r1, q1⟩ => args_nil ?_) hs) hs rfl))) hs2) hs2 rfl))
  obtain ⟨a, xs, ev, hq, q⟩ := q1
  subst ev
  obtain rfl : u = Value.ref a := r1
  obtain ⟨its, rv, p', hz⟩ := I1.list hq
  refine call_reversed_list p'.isList (args_nil ?_)
  have k0 : ∀ b o, s1.heap.get? b = some o → (s1.heap.push (revObj a ((its.toArray.size : Int) - 1))).get? b = some o := fun b o e => Heap.get?_push_of_some _ e
  have I2 : Inv X pins σ H1 { s1 with heap := s1.heap.push (revObj a ((its.toArray.size : Int) - 1)) } := I1.kept (t' := s1.toks) k0
  obtain ⟨f0, f1, f2, f3, f4, f5⟩ := I1.fpOk (H' := H1) (b := s1.heap.objs.size) (Nat.le_refl _) (I1.hok.fresh (Nat.le_refl _))
  have hl := p'.isList
  obtain ⟨ol, hol, _⟩ := id hl
  have hne : a ≠ s1.heap.objs.size := Nat.ne_of_lt (Heap.lt_size hol)
  have hn : its.toArray.size ≤ sizeLine := by rw [List.size_toArray, ← rv.length]; exact hz
  refine LI.call_list_rev (s := { s1 with heap := s1.heap.push (revObj a ((its.toArray.size : Int) - 1)) }) (I1.ok.hd hc) ⟨_, Heap.get?_push_size _ rfl, rfl, rfl⟩ (hl.push _) hne hn fun h' tk acc c hk hS hi => ?_
  refine ⟨.ref _, upd H1 (s1.heap.push (revObj a ((its.toArray.size : Int) - 1))).objs.size (.lst xs.reverse), Inv.turnedNew (t' := tk) (ch := [s1.heap.objs.size]) I2 (fun b o hb e => hk b o (fun q => hb (by simp [q])) e) (fun b hb => ?_) (Nat.le_refl _) (show ObjOk X.prog X.w _ _ _ (.lst xs.reverse) from ⟨by rw [List.length_reverse]; exact hz, acc.toList, c, RT.vals_rev rv hi, ?_⟩), rfl, q _ (I2.hok.fresh (Nat.le_refl _))⟩
  · obtain rfl : b = s1.heap.objs.size := by simpa using hb
    exact ⟨f0, f1, f2, f3, f4, f5⟩
  · rw [Array.toArray_toList]
    exact hS
end
end MP

namespace MP
open PySem L2
open PyProof.Rows hiding St

structure Cxt (X : Cx) (T : Tab) : Prop where
  hK : X.K = T.K
  calm : X.calm = true
  units : X.A.units + 65 < cLine
  exT : ∀ c ∈ T.exs, ExcC X.K (T.exc c)
  exI : ∀ c ∈ T.exs, ∀ d ∈ T.exs, PySem.W.kitOne X.K (.ref (T.exc c)) (.ref (T.exc d)) = some (c == d)
  exV : ∀ c ∈ T.exs, PySem.W.kitOne X.K (.ref (T.exc c)) (.type "ValueError") = some true
  exN : ∀ c ∈ T.exs, PySem.W.kitOne X.K (.type "NoneType") (.ref (T.exc c)) = some false
  exF : ∀ c ∈ T.exs, PySem.W.exmOne X.K (.ref (T.exc c)) (.ref T.flt) = some true
  exM : ∀ c ∈ T.exs, PySem.W.excIn X.K (T.exc c) [.type "ValueError", .type "Exception", .type "BaseException", .type "object"] "ValueError.__new__" = true ∧ PySem.W.keepIn X.K (.ref (T.exc c)) = true ∧ PySem.W.typeIn X.K (.ref (T.exc c)) = some (.type "type")
  dig : PySem.W.nsIn X.K cStatics "sys.int_max_str_digits" = some none

/-- what is wanted of a value by an operation that raises nothing -/
def PoV (T : Tab) (O : List Addr) (H : Hp) (Q : VK) : R D → Prop
  | .ok d => ∀ v H', Ex H H' → DV T (hide O H') d v → Q v H'
  | _ => False
def PoB (H : Hp) (Q : Bool → Prop) : R Bool → Prop
  | .ok b => Q b
  | _ => False
def rB (T : Tab) (g : D → D → R D) : R2 := fun x y H Q => ∃ O dx dy, Lv T O H ∧ DV T (hide O H) dx x ∧ DV T (hide O H) dy y ∧ PoV T O H Q (g dx dy)
def rC (T : Tab) (g : D → D → R Bool) : R2 := fun x y H Q => ∃ O dx dy, Lv T O H ∧ DV T (hide O H) dx x ∧ DV T (hide O H) dy y ∧ PoB H (fun b => Q (.bl b) H) (g dx dy)
def rF (T : Tab) (g : D → R D) : V → Hp → VK → Prop := fun x H Q => ∃ O dx, Lv T O H ∧ DV T (hide O H) dx x ∧ PoV T O H Q (g dx)
theorem strlen (x : Str) : x.cps.toList.length = x.length := Array.length_toList
theorem line_eq : line = sizeLine := sizeLine_eq.symm
section
variable {T : Tab} {X : Cx}

theorem PoV.int {O : List Addr} {H : Hp} {Q : VK} {i : Int} (p : PoV T O H Q (.ok (.int i))) : Q (.int i) H := p _ H (Ex.refl H) (.int i)
theorem PoV.bl {O : List Addr} {H : Hp} {Q : VK} {i : Bool} (p : PoV T O H Q (.ok (.bl i))) : Q (.bl i) H := p _ H (Ex.refl H) (.bl i)
theorem PoV.str {O : List Addr} {H : Hp} {Q : VK} {l : List Nat} {x : Str} (p : PoV T O H Q (.ok (.str l))) (e : x.cps.toList = l) : Q (.str x) H := by
  subst e
  exact p _ H (Ex.refl H) (.str x)
/-- a new list -/
theorem PoV.lst {O : List Addr} {H : Hp} {Q : VK} {ds : List D} {vs : List V} {a : Addr} (l : Lv T O H) (p : PoV T O H Q (.ok (.lst ds))) (r : DVs T (hide O H) ds vs) (n : H a = none) : Q (.ref a) (upd H a (.lst vs)) :=
  p _ _ (Ex.new n) (.lst (SqL.of (by rw [hide_out (live_new l n)]; exact upd_same)) (r.mono (hide_mono (Ex.new n))))
theorem PoV.tup {O : List Addr} {H : Hp} {Q : VK} {ds : List D} {vs : List V} {a : Addr} (l : Lv T O H) (p : PoV T O H Q (.ok (.tup ds))) (r : DVs T (hide O H) ds vs) (n : H a = none) : Q (.ref a) (upd H a (.tup vs)) :=
  p _ _ (Ex.new n) (.tup (SqT.of (by rw [hide_out (live_new l n)]; exact upd_same)) (r.mono (hide_mono (Ex.new n))))

/-! ### arithmetic -/
theorem op_catL : OpR X (binaryOp .Add) (fun x y H Q => ∃ l b xs zs, x = .ref l ∧ y = .ref b ∧ SqL X.K H l xs ∧ SqL X.K H b zs ∧ xs.length + zs.length ≤ sizeLine ∧ ∀ p, H p = none → Q (.ref p) (upd H p (.lst (xs ++ zs)))) := by
  intro pins s σ H x y v u Q I rx ry h
  obtain ⟨l, b, xs, zs, rfl, rfl, hH, hB, hz, q⟩ := h
  cases rx
  cases ry
  obtain ⟨its, r, ⟨⟨oc, od, dt, sl⟩, n, e, hc, hd, hdt⟩, _⟩ := I.list hH
  obtain ⟨its2, r2, ⟨⟨oc2, od2, dt2, sl2⟩, n2, e2, hc2, hd2, hdt2⟩, _⟩ := I.list hB
  simp only at hc hd hdt hc2 hd2 hdt2
  subst hc hd hdt hc2 hd2 hdt2
  have h1 := r.length
  have h2 := r2.length
  have ea : its.toArray ++ its2.toArray = (its ++ its2).toArray := by simp
  refine concat_meets ⟨_, e, rfl⟩ ⟨_, e2, rfl⟩ noFill_list_add seq_list_add PySem.F.slot_list_add PySem.F.entry_list_add (PySem.F.args_list_add_2 _ _) (list_addW l b its.toArray its2.toArray n n2 none none sl sl2 (by simp; omega)) ⟨e, e2, ?_⟩
  rw [ea]
  exact ⟨.ref _, _, I.lnew (t' := s.toks) (r.append r2) (by rw [List.length_append]; omega), rfl, q _ I.fresh⟩
theorem o_add (C : Cxt X T) : OpR X (binaryOp .Add) (rB T addD) := by
  rintro pins s σ H x y v u Q I rx ry ⟨O, dx, dy, l, hx, hy, p⟩
  cases hx with
  | int i => cases hy with
    | int j => exact op_add pins s σ H _ _ v u Q I rx ry ⟨i, j, rfl, rfl, p.int⟩
    | _ => exact False.elim p
  | str a => cases hy with
    | str b =>
      simp only [addD] at p
      split at p
      · rename_i h
        rw [strlen, strlen, line_eq] at h
        refine op_add_str pins s σ H _ _ v u Q I rx ry ⟨a, b, rfl, rfl, h, p.str ?_⟩
        show (a.cps ++ b.cps).toList = _
        simp
      · exact False.elim p
    | _ => exact False.elim p
  | lst h r => cases hy with
    | lst h2 r2 =>
      simp only [addD] at p
      split at p
      · rename_i hl
        rw [r.length, r2.length, line_eq] at hl
        exact op_catL pins s σ H _ _ v u Q I rx ry ⟨_, _, _, _, rfl, rfl, by rw [C.hK]; exact ex_sql hide_ex h, by rw [C.hK]; exact ex_sql hide_ex h2, hl, fun a n => p.lst l (r.append r2) n⟩
      · exact False.elim p
    | _ => exact False.elim p
  | tup h r => cases hy with
    | tup h2 r2 =>
      simp only [addD] at p
      split at p
      · rename_i hl
        rw [r.length, r2.length, line_eq] at hl
        refine op_catT pins s σ H _ _ v u Q I rx ry ⟨_, _, _, _, rfl, rfl, by rw [C.hK]; exact ex_sqt hide_ex h, by rw [C.hK]; exact ex_sqt hide_ex h2, ?_, hl.2.2, ?_, fun _ a n => p.tup l (r.append r2) n⟩
        · intro z
          rw [z] at hl
          exact absurd hl.1 (by decide)
        · intro z
          rw [z] at hl
          exact absurd hl.2.1 (by decide)
      · exact False.elim p
    | _ => exact False.elim p
  | _ => cases hy <;> exact False.elim p
theorem o_int2 {op : Operator} {f : Int → Int → Int} (h : OpR X (binaryOp op) (rI0 fun i j => .int (f i j))) : OpR X (binaryOp op) (rB T (int2 f)) := by
  rintro pins s σ H x y v u Q I rx ry ⟨O, dx, dy, l, hx, hy, p⟩
  cases hx with
  | int i => cases hy with
    | int j => exact h pins s σ H _ _ v u Q I rx ry ⟨i, j, rfl, rfl, p.int⟩
    | _ => exact False.elim p
  | _ => cases hy <;> exact False.elim p
theorem DVs.rep {T : Tab} {H : Hp} {ds : List D} {vs : List V} (r : DVs T H ds vs) : ∀ k : Nat, DVs T H (List.replicate k ds).flatten (List.replicate k vs).flatten
  | 0 => .nil
  | k + 1 => by
    rw [List.replicate_succ, List.flatten_cons, List.replicate_succ, List.flatten_cons]
    exact r.append (DVs.rep r k)
theorem op_repL : OpR X (binaryOp .Mult) (fun x y H Q => ∃ l k xs, x = .ref l ∧ y = .int k ∧ SqL X.K H l xs ∧ -(2 ^ 63) ≤ k ∧ k < 2 ^ 63 ∧ xs.length * k.toNat ≤ sizeLine ∧ ∀ p, H p = none → Q (.ref p) (upd H p (.lst (List.replicate k.toNat xs).flatten))) := by
  intro pins s σ H x y v u Q I rx ry h
  obtain ⟨l, k, xs, rfl, rfl, hH, h1, h2, hz, q⟩ := h
  cases rx
  obtain ⟨t, rfl⟩ := ry
  obtain ⟨its, r, ⟨⟨oc, od, dt, sl⟩, n, e, hc, hd, hdt⟩, _⟩ := I.list hH
  simp only at hc hd hdt
  subst hc hd hdt
  have hl := r.length
  have hlen : its.toArray.size * k.toNat ≤ sizeLine := by rw [List.size_toArray, ← hl]; exact hz
  have hcap : ¬ its.toArray.size * k.toNat > (2 ^ 63 - 1) / 8 := by
    have : (sizeLine : Nat) ≤ (2 ^ 63 - 1) / 8 := by decide
    omega
  have hfit : ¬ (!Builtin.List.listFitsIndex k) = true := by
    rw [fitsIndex_both h1 h2]
    exact Bool.false_ne_true
  have hlong : ¬ Builtin.List.listTooLong (its.toArray.size * k.toNat) = true := by
    rw [notLongL hlen]
    exact Bool.false_ne_true
  have hnew : List.foldl (fun x1 x2 => x1 ++ x2) #[] (List.replicate (if its.toArray.isEmpty = true then 0 else k.toNat) its.toArray) = (List.replicate k.toNat its).flatten.toArray := by
    have f0 : ∀ m : Nat, List.foldl (fun x1 x2 => x1 ++ x2) #[] (List.replicate m its.toArray) = (List.replicate m its).flatten.toArray := fun m => by
      have := foldl_rep its m []
      rw [List.nil_append] at this
      exact this
    rw [f0]
    cases its with
    | nil => simp
    | cons a r' => rw [if_neg (by simp)]
  refine wpAny_binaryOp_repeat_ref (T := "list") (U := "int") (by decide) ⟨_, e, rfl⟩ (fun s' => typeIs_int s' k t) noFill_list_mul F.fills_int_mul F.slot_int_rmul repeat_list F.slot_int_index.lookup
    (call_meets F.slot_int_rmul (typeIs_int s k t) F.entry_int_rmul (F.args_int_rmul_2 _ _) (lm_int_rmul_list_any k t l its.toArray n none sl)
      ⟨e, rfl, ⟨_, e, rfl⟩, call_meets F.slot_list_mul ⟨_, e, rfl⟩ F.entry_list_mul (F.args_list_mul_2 _ _) (lm_list_mul_any l its.toArray n none sl k t hfit hcap hlong) ⟨e, ?_⟩⟩)
  rw [hnew]
  exact ⟨.ref _, _, I.lnew (t' := s.toks) (r.rep k.toNat) (by rw [PyProof.Rows.lm_len_rep_flat, Nat.mul_comm]; exact hz), rfl, q _ I.fresh⟩
theorem o_mul (C : Cxt X T) : OpR X (binaryOp .Mult) (rB T mulD) := by
  rintro pins s σ H x y v u Q I rx ry ⟨O, dx, dy, l, hx, hy, p⟩
  cases hx with
  | int i => cases hy with
    | int j =>
      simp only [mulD] at p
      split at p
      · rename_i h
        refine op_mulX pins s σ H _ _ v u Q I rx ry ⟨i, j, rfl, rfl, ?_, p.int⟩
        show (Builtin.Int.intBits i : Int) + (Builtin.Int.intBits j : Int) ≤ 134217728
        unfold bits at h
        omega
      · exact False.elim p
    | _ => exact False.elim p
  | lst h r => cases hy with
    | int k =>
      simp only [mulD] at p
      split at p
      · rename_i hk
        have e63 : (2 : Int) ^ 63 = 9223372036854775808 := by decide
        refine op_repL pins s σ H _ _ v u Q I rx ry ⟨_, k, _, rfl, rfl, by rw [C.hK]; exact ex_sql hide_ex h, by rw [e63]; omega, by rw [e63]; omega, by rw [← r.length]; have := hk.2.2; rw [line_eq] at this; exact this, fun a n => p.lst l (r.rep _) n⟩
      · exact False.elim p
    | _ => exact False.elim p
  | str z => cases hy with
    | int k =>
      simp only [mulD] at p
      split at p
      · rename_i hk
        refine op_repS pins s σ H _ _ v u Q I rx ry ⟨z, k, rfl, rfl, hk.1, hk.2.1, by have := hk.2.2; rw [strlen, line_eq] at this; exact this, p.str rfl⟩
      · exact False.elim p
    | _ => exact False.elim p
  | _ => cases hy <;> exact False.elim p
theorem op_fdivP : OpR X (binaryOp .FloorDiv) (rI CDivP fun i j => .int (i / j)) := opI fun i j _ _ _ _ _ hc q =>
  floordiv_int (by have := hc.1; omega) (by rw [Int.fdiv_eq_ediv_of_nonneg i (by have := hc.1; omega)]; exact q) (.inl hc.2)
theorem o_fdiv : OpR X (binaryOp .FloorDiv) (rB T fdivD) := by
  rintro pins s σ H x y v u Q I rx ry ⟨O, dx, dy, l, hx, hy, p⟩
  cases hx with
  | int i => cases hy with
    | int j =>
      simp only [fdivD] at p
      split at p
      · rename_i h
        exact op_fdivP pins s σ H _ _ v u Q I rx ry ⟨i, j, rfl, rfl, h, p.int⟩
      · exact False.elim p
    | _ => exact False.elim p
  | _ => cases hy <;> exact False.elim p
theorem o_mod : OpR X (binaryOp .Mod) (rB T modD) := by
  rintro pins s σ H x y v u Q I rx ry ⟨O, dx, dy, l, hx, hy, p⟩
  cases hx with
  | int i => cases hy with
    | int j =>
      simp only [modD] at p
      split at p
      · rename_i h
        exact op_mod pins s σ H _ _ v u Q I rx ry ⟨i, j, rfl, rfl, h, p.int⟩
      · exact False.elim p
    | _ => exact False.elim p
  | _ => cases hy <;> exact False.elim p
theorem o_shl : OpR X (binaryOp .LShift) (rB T shlD) := by
  rintro pins s σ H x y v u Q I rx ry ⟨O, dx, dy, l, hx, hy, p⟩
  cases hx with
  | int i => cases hy with
    | int j =>
      simp only [shlD] at p
      split at p
      · rename_i h
        refine op_shlW pins s σ H _ _ v u Q I rx ry ⟨i, j, rfl, rfl, ⟨h.1, ?_⟩, p.int⟩
        have e : (2 : Int) ^ 27 = 134217728 := by decide
        rw [e]
        exact h.2
      · exact False.elim p
    | _ => exact False.elim p
  | _ => cases hy <;> exact False.elim p
theorem o_shr : OpR X (binaryOp .RShift) (rB T shrD) := by
  rintro pins s σ H x y v u Q I rx ry ⟨O, dx, dy, l, hx, hy, p⟩
  cases hx with
  | int i => cases hy with
    | int j =>
      simp only [shrD] at p
      split at p
      · rename_i h
        exact op_shr pins s σ H _ _ v u Q I rx ry ⟨i, j, rfl, rfl, h, p.int⟩
      · exact False.elim p
    | _ => exact False.elim p
  | _ => cases hy <;> exact False.elim p
theorem o_pow : OpR X (binaryOp .Pow) (rB T powD) := by
  rintro pins s σ H x y v u Q I rx ry ⟨O, dx, dy, l, hx, hy, p⟩
  cases hx with
  | int i => cases hy with
    | int j =>
      simp only [powD] at p
      split at p
      · rename_i h
        exact op_pow pins s σ H _ _ v u Q I rx ry ⟨i, j, rfl, rfl, h, p.int⟩
      · exact False.elim p
    | _ => exact False.elim p
  | _ => cases hy <;> exact False.elim p
def opB : BOp → Operator
  | .add => .Add
  | .sub => .Sub
  | .mul => .Mult
  | .fdiv => .FloorDiv
  | .mod => .Mod
  | .shl => .LShift
  | .shr => .RShift
  | .pow => .Pow
  | .and => .BitAnd
  | .or => .BitOr
  | .xor => .BitXor
theorem o_bin (C : Cxt X T) : ∀ o : BOp, OpR X (binaryOp (opB o)) (rB T (binD o))
  | .add => o_add C
  | .sub => o_int2 op_sub
  | .mul => o_mul C
  | .fdiv => o_fdiv
  | .mod => o_mod
  | .shl => o_shl
  | .shr => o_shr
  | .pow => o_pow
  | .and => o_int2 op_and
  | .or => o_int2 op_or
  | .xor => o_int2 op_xor
theorem o_neg : UnR X (unaryOp .USub) (rF T negD) := by
  rintro pins s σ H x v Q I rx ⟨O, dx, l, hx, p⟩
  cases hx with
  | int i => exact un_neg pins s σ H _ v Q I rx ⟨i, rfl, p.int⟩
  | _ => exact False.elim p

/-! ### comparisons -/
theorem o_cmpI {op : CmpOp} {f : Int → Int → Bool} (h : OpR X (compareOp op) (rI0 fun i j => .bl (f i j))) : OpR X (compareOp op) (rC T (cmpI f)) := by
  rintro pins s σ H x y v u Q I rx ry ⟨O, dx, dy, l, hx, hy, p⟩
  cases hx with
  | int i => cases hy with
    | int j => exact h pins s σ H _ _ v u Q I rx ry ⟨i, j, rfl, rfl, p⟩
    | _ => exact False.elim p
  | _ => cases hy <;> exact False.elim p
theorem PoB.not {H : Hp} {Q : Bool → Prop} {r : R Bool} (p : PoB H Q (notR r)) : PoB H (fun b => Q (!b)) r := by
  cases r with
  | ok b => exact p
  | ex c => exact p
  | no => exact p
theorem dp_h {d : D} {v : V} {O : List Addr} {H : Hp} (h : DV T (hide O H) d v) (p : D.plain 60 d = true) : Dp T.K H v d.py := dp_of (h.mono hide_ex) p
theorem dic_there {pins : List (Addr × Obj)} {σ : L2.St} {H : Hp} {s : Shared} (I : Inv X pins σ H s) {a : Addr} (h : H a = some (.dK [])) : ∃ o es n, s.heap.get? a = some o ∧ o.cls = .type "dict" ∧ o.data = .dict es n := by
  obtain ⟨_, _, vs, _, o, es, ep, h1, h2, h3, _⟩ := (show ObjOk X.prog X.w H s.heap a (.dK []) from I.hok a _ h)
  exact ⟨o, es, ep, h1, h2.1, h3⟩
theorem dic_cases {x y : D} (h : ((x.isDic && y.isStr) || (x.isStr && y.isDic)) = true) : (x = .dic ∧ ∃ z, y = .str z) ∨ ((∃ z, x = .str z) ∧ y = .dic) := by
  cases x <;> cases y <;> simp [D.isDic, D.isStr] at h ⊢
theorem rc_dicstr {pins : List (Addr × Obj)} {σ : L2.St} {H : Hp} {s : Shared} (I : Inv X pins σ H s) (hu : X.A.units < cLine) {O : List Addr} {dx dy : D} {x y : V} {v u : Value} (rx : RelV x v) (ry : RelV y u) (hx : DV T (hide O H) dx x) (hy : DV T (hide O H) dy y)
    (h : ((dx.isDic && dy.isStr) || (dx.isStr && dy.isDic)) = true) : PySem.SeqAt.RcAt X.A s v u false := by
  rcases dic_cases h with ⟨rfl, z, rfl⟩ | ⟨⟨z, rfl⟩, rfl⟩
  · cases hx with
    | dic ha =>
      cases hy with
      | str z =>
        obtain ⟨t, rfl⟩ := ry
        cases rx
        obtain ⟨o, es, n, h1, h2, h3⟩ := dic_there I (hide_at ha)
        exact PySem.SeqAt.RcAt.dict_str z t h1 h2 h3 hu
  · cases hy with
    | dic ha =>
      cases hx with
      | str z =>
        obtain ⟨t, rfl⟩ := rx
        cases ry
        obtain ⟨o, es, n, h1, h2, h3⟩ := dic_there I (hide_at ha)
        exact PySem.SeqAt.RcAt.str_dict z t h1 h2 h3 hu
theorem dic_in {pins : List (Addr × Obj)} {σ : L2.St} {H : Hp} {s : Shared} (I : Inv X pins σ H s) (hu : X.A.units + 65 < cLine) {O : List Addr} {dx : D} {ys : List D} {x : V} {a : Addr} {vs : List V} {v : Value} (hK : X.K = T.K) (rx : RelV x v) (hx : DV T (hide O H) dx x) (hl : SqL T.K (hide O H) a vs) (r : DVs T (hide O H) ys vs) (h1 : dx.isDic = true) (h2 : ys.all D.isStr = true) :
    ∃ items, s.heap.IsList a items ∧ ∀ y, y ∈ items → PySem.SeqAt.EqAt X.A.in1 s y v false := by
  obtain ⟨its, rv, p, _⟩ := I.list (show SqL X.K H a vs by rw [hK]; exact ex_sql hide_ex hl)
  refine ⟨its.toArray, p.isList, fun y hy => ?_⟩
  cases dx with
  | dic =>
    cases hx with
    | dic ha =>
      cases rx
      obtain ⟨o, es, n, k1, k2, k3⟩ := dic_there I (hide_at ha)
      have hy : y ∈ its := by simpa using hy
      obtain ⟨i, hi, rfl⟩ := List.mem_iff_getElem.mp hy
      have hvl : i < vs.length := by rw [rv.length]; exact hi
      obtain ⟨w, hw⟩ : ∃ w, vs[i]? = some w := ⟨_, List.getElem?_eq_getElem hvl⟩
      obtain ⟨q, hq, rw⟩ := rv.get hw
      rw [List.getElem?_eq_getElem hi] at hq
      cases hq
      obtain ⟨d, hd, dw⟩ := r.getV hw
      have hs := List.all_eq_true.mp h2 d (List.mem_of_getElem? hd)
      cases d with
      | str z =>
        cases dw with
        | str z =>
          obtain ⟨t, e⟩ := (show ∃ t, its[i] = Value.str z t from rw)
          rw [e]
          exact PySem.SeqAt.EqAt.str_dict z t k1 k2 k3 (by show X.A.units + 1 < cLine; omega)
      | _ => cases hs
  | _ => cases h1
theorem o_eq (C : Cxt X T) : OpR X (compareOp .Eq) (rC T eqE) := by
  rintro pins s σ H x y v u Q I rx ry ⟨O, dx, dy, l, hx, hy, p⟩
  unfold eqE at p
  split at p
  · rename_i h
    rw [Bool.and_eq_true] at h
    refine op_eqD (by have := C.units; omega) pins s σ H _ _ v u Q I rx ry ⟨dx.py, dy.py, ?_, ?_, shaped_of h.1, shaped_of h.2, ?_⟩
    · rw [C.hK]; exact dp_h hx h.1
    · rw [C.hK]; exact dp_h hy h.2
    · rw [eqv_py 60 60 dx dy h.1 h.2]; exact p
  · split at p
    · rename_i h
      exact rc_dicstr I (by have := C.units; omega) rx ry hx hy h _ _ _ _ ⟨.bl false, H, I, rfl, p⟩
    · exact False.elim p
theorem o_ne (C : Cxt X T) : OpR X (compareOp .NotEq) (rC T fun x y => notR (eqD x y)) := by
  rintro pins s σ H x y v u Q I rx ry ⟨O, dx, dy, l, hx, hy, p⟩
  have p := PoB.not p
  unfold eqD at p
  split at p
  · rename_i h
    rw [Bool.and_eq_true] at h
    refine op_neD (by have := C.units; omega) pins s σ H _ _ v u Q I rx ry ⟨dx.py, dy.py, ?_, ?_, shaped_of h.1, shaped_of h.2, ?_⟩
    · rw [C.hK]; exact dp_h hx h.1
    · rw [C.hK]; exact dp_h hy h.2
    · rw [eqv_py 60 60 dx dy h.1 h.2]; exact p
  · exact False.elim p
theorem dec_beq (a b : Bool) : decide (a = b) = (a == b) := by cases a <;> cases b <;> rfl
theorem o_is : OpR X (compareOp .Is) (rC T isD) := by
  rintro pins s σ H x y v u Q I rx ry ⟨O, dx, dy, l, hx, hy, p⟩
  cases hy with
  | non => cases hx <;> exact op_isN pins s σ H _ _ v u Q I rx ry ⟨rfl, p⟩
  | bl b => cases hx with
    | bl a => exact op_isBl pins s σ H _ _ v u Q I rx ry ⟨a, b, rfl, rfl, by rw [dec_beq]; exact p⟩
    | _ => exact False.elim p
  | _ => cases hx <;> exact False.elim p
theorem o_isn : OpR X (compareOp .IsNot) (rC T fun x y => notR (isD x y)) := by
  rintro pins s σ H x y v u Q I rx ry ⟨O, dx, dy, l, hx, hy, p⟩
  cases hy with
  | non => cases hx <;> exact op_notN pins s σ H _ _ v u Q I rx ry ⟨rfl, p⟩
  | bl b => cases hx with
    | bl a => exact op_notBl pins s σ H _ _ v u Q I rx ry ⟨a, b, rfl, rfl, by rw [dec_beq]; exact p⟩
    | _ => exact False.elim p
  | _ => cases hx <;> exact False.elim p
theorem shaped_l {ys : List D} (h : plains 59 ys = true) : SeqAt.shaped (.list (pys ys)) = true := by
  have := shaped_of (d := .lst ys) (by simp only [D.plain]; exact h)
  simpa only [D.py] using this
theorem str1 {z : Str} {c : Nat} (h : z.cps.toList = [c]) : z = ⟨#[c]⟩ := by
  obtain ⟨a⟩ := z
  have : a = #[c] := by
    apply Array.ext'
    exact h
  rw [this]
theorem flat_of {H : Hp} {d : D} {v : V} (h : DV T H d v) (p : D.plain 0 d = true) : flatV v = true := by
  cases h <;> first | rfl | (simp [D.plain] at p)
theorem flats_of {H : Hp} : ∀ {ds : List D} {vs : List V}, DVs T H ds vs → plains 0 ds = true → vs.all flatV = true
  | _, _, .nil, _ => rfl
  | _, _, .cons h r, p => by
    simp only [plains, Bool.and_eq_true] at p
    rw [List.all_cons, flat_of h p.1, flats_of r p.2]
    rfl
theorem eqV_of {H : Hp} {d e : D} {v w : V} (h : DV T H d v) (k : DV T H e w) (p : D.plain 0 d = true) (q : D.plain 0 e = true) : eqV v w = D.eqv d e := by
  cases h <;> first | (simp [D.plain] at p; done) | (cases k <;> first | (simp [D.plain] at q; done) | (simp [eqV, D.eqv]; done) | skip)
  rename_i x y
  simp only [eqV, D.eqv]
  by_cases z : x = y
  · subst z; simp
  · have z2 : ¬ x.cps.toList = y.cps.toList := fun q => z (by obtain ⟨a⟩ := x; obtain ⟨b⟩ := y; simp at q; rw [q])
    rw [beq_eq_false_iff_ne.mpr z2, beq_eq_false_iff_ne.mpr z]
theorem inV_of {H : Hp} {d : D} {w : V} (k : DV T H d w) (q : D.plain 0 d = true) : ∀ {ds : List D} {vs : List V}, DVs T H ds vs → plains 0 ds = true → inV w vs = ds.any fun y => D.eqv y d
  | _, _, .nil, _ => rfl
  | _, _, .cons h r, p => by
    simp only [plains, Bool.and_eq_true] at p
    have ih := inV_of k q r p.2
    unfold inV at ih ⊢
    rw [List.any_cons, List.any_cons, eqV_of h k p.1 q, ih]
theorem o_in (C : Cxt X T) : OpR X (compareOp .In) (rC T inD) := by
  rintro pins s σ H x y v u Q I rx ry ⟨O, dx, dy, l, hx, hy, p⟩
  cases hy with
  | @lst ys a vs h r =>
    simp only [inD] at p
    split at p
    · rename_i hp
      rw [Bool.and_eq_true] at hp
      refine op_inD C.units pins s σ H _ _ v u Q I rx ry ⟨dx.py, pys ys, ?_, ?_, shaped_of hp.1, shaped_l hp.2, ?_⟩
      · rw [C.hK]; exact dp_h hx hp.1
      · rw [C.hK]; exact .lst (ex_sql hide_ex h) (dps_of (r.mono hide_ex) hp.2)
      · rw [any_py 59 60 ys dx hp.2 hp.1]; exact p
    · split at p
      · rename_i hp
        rw [Bool.and_eq_true] at hp
        obtain ⟨items, g1, g2⟩ := dic_in I C.units C.hK rx hx h r hp.1 hp.2
        cases ry
        refine PySem.SeqAt.in_listAt (fun _ => false) g1 g2 ?_
        rw [show items.any (fun _ => false) = false by simp]
        exact ⟨.bl _, H, I, rfl, p⟩
      · exact False.elim p
  | str z => cases hx with
    | str w =>
      simp only [inD] at p
      split at p
      · rename_i c e
        have e := str1 (D.str.inj e)
        exact op_in_sign pins s σ H _ _ v u Q I rx ry ⟨c, z, by rw [e], rfl, p⟩
      · exact False.elim p
    | _ => exact False.elim p
  | @tup ys a vs h r =>
    simp only [inD] at p
    split at p
    · rename_i hp
      rw [Bool.and_eq_true] at hp
      refine op_in_seq pins s σ H _ _ v u Q I rx ry ⟨a, vs, rfl, .inr (by rw [C.hK]; exact ex_sqt hide_ex h), flat_of hx hp.1, flats_of r hp.2, ?_⟩
      rw [inV_of hx hp.1 r hp.2]
      exact p
    · exact False.elim p
  | _ => cases hx <;> exact False.elim p
theorem o_nin (C : Cxt X T) : OpR X (compareOp .NotIn) (rC T fun x y => notR (inD x y)) := by
  rintro pins s σ H x y v u Q I rx ry ⟨O, dx, dy, l, hx, hy, p⟩
  have p := PoB.not p
  cases hy with
  | @lst ys a vs h r =>
    simp only [inD] at p
    split at p
    · rename_i hp
      rw [Bool.and_eq_true] at hp
      refine op_notInD C.units pins s σ H _ _ v u Q I rx ry ⟨dx.py, pys ys, ?_, ?_, shaped_of hp.1, shaped_l hp.2, ?_⟩
      · rw [C.hK]; exact dp_h hx hp.1
      · rw [C.hK]; exact .lst (ex_sql hide_ex h) (dps_of (r.mono hide_ex) hp.2)
      · rw [any_py 59 60 ys dx hp.2 hp.1]; exact p
    · split at p
      · rename_i hp
        rw [Bool.and_eq_true] at hp
        obtain ⟨items, g1, g2⟩ := dic_in I C.units C.hK rx hx h r hp.1 hp.2
        cases ry
        refine PySem.SeqAt.notIn_listAt (fun _ => false) g1 g2 ?_
        rw [show items.any (fun _ => false) = false by simp]
        exact ⟨.bl _, H, I, rfl, p⟩
      · exact False.elim p
  | str z => cases hx with
    | str w =>
      simp only [inD] at p
      split at p
      · rename_i c e
        have e := str1 (D.str.inj e)
        exact op_notIn_sign pins s σ H _ _ v u Q I rx ry ⟨c, z, by rw [e], rfl, p⟩
      · exact False.elim p
    | _ => exact False.elim p
  | @tup ys a vs h r =>
    simp only [inD] at p
    split at p
    · rename_i hp
      rw [Bool.and_eq_true] at hp
      refine op_notIn_seq pins s σ H _ _ v u Q I rx ry ⟨a, vs, rfl, .inr (by rw [C.hK]; exact ex_sqt hide_ex h), flat_of hx hp.1, flats_of r hp.2, ?_⟩
      rw [inV_of hx hp.1 r hp.2]
      exact p
    · exact False.elim p
  | _ => cases hx <;> exact False.elim p
def opC : COp → CmpOp
  | .eq => .Eq
  | .ne => .NotEq
  | .lt => .Lt
  | .le => .LtE
  | .gt => .Gt
  | .ge => .GtE
  | .is => .Is
  | .isn => .IsNot
  | .in_ => .In
  | .nin => .NotIn
theorem o_cmp (C : Cxt X T) : ∀ o : COp, OpR X (compareOp (opC o)) (rC T (cmpD o))
  | .eq => o_eq C
  | .ne => o_ne C
  | .lt => o_cmpI op_lt
  | .le => o_cmpI op_le
  | .gt => o_cmpI op_gt
  | .ge => o_cmpI op_ge
  | .is => o_is
  | .isn => o_isn
  | .in_ => o_in C
  | .nin => o_nin C

/-! ### places, slices -/
theorem place_ix (n : Nat) (i : Int) : place n i = ixN n i := rfl
theorem o_ix (C : Cxt X T) : IxR X (rB T ixD) := by
  rintro e1 e2 pins s σ H x y v u Q I rx ry ⟨O, dx, dy, l, hx, hy, p⟩ hs
  cases hy with
  | int i => cases hx with
    | @lst xs a vs h r =>
      simp only [ixD] at p
      split at p
      · rename_i d e
        rw [place_ix, Option.bind_eq_some_iff] at e
        obtain ⟨j, e1, e2⟩ := e
        obtain ⟨w, hw, dw⟩ := r.get e2
        refine ix_list _ _ pins s σ H _ _ v u Q I rx ry ⟨a, vs, i, w, rfl, rfl, by rw [C.hK]; exact ex_sql hide_ex h, ?_, p _ H (Ex.refl H) dw⟩ hs
        unfold atI
        rw [← r.length, e1]
        exact hw
      · exact False.elim p
    | @tup xs a vs h r =>
      simp only [ixD] at p
      split at p
      · rename_i d e
        rw [place_ix, Option.bind_eq_some_iff] at e
        obtain ⟨j, e1, e2⟩ := e
        obtain ⟨w, hw, dw⟩ := r.get e2
        refine ix_tup _ _ pins s σ H _ _ v u Q I rx ry ⟨a, vs, i, w, rfl, rfl, by rw [C.hK]; exact ex_sqt hide_ex h, ?_, p _ H (Ex.refl H) dw⟩ hs
        unfold atI
        rw [← r.length, e1]
        exact hw
      · exact False.elim p
    | str z =>
      simp only [ixD] at p
      split at p
      · rename_i hl
        split at p
        · rename_i c e
          rw [place_ix, Option.bind_eq_some_iff] at e
          obtain ⟨j, e1, e2⟩ := e
          refine ix_str _ _ pins s σ H _ _ v u Q I rx ry ⟨z, i, c, rfl, rfl, by rw [← line_eq, ← strlen]; exact hl, ?_, p.str rfl⟩ hs
          unfold atI
          rw [e1]
          exact e2
        · exact False.elim p
      · exact False.elim p
    | _ => exact False.elim p
  | _ => cases hx <;> exact False.elim p
def rS (T : Tab) : V → Option Int → Option Int → Hp → VK → Prop := fun x lo hi H Q => ∃ O dx, Lv T O H ∧ DV T (hide O H) dx x ∧ PoV T O H Q (slcD dx lo hi)
theorem cut_V {α : Type} (xs : List α) (lo hi : Option Int) : cutL xs lo hi = (xs.drop (HT.sIx xs.length 0 lo)).take (HT.sIx xs.length xs.length hi - HT.sIx xs.length 0 lo) := by
  have e : ∀ (n d : Nat) (o : Option Int), bnd n d o = HT.sIx n d o := fun n d o => by cases o <;> rfl
  unfold cutL
  rw [e, e]
theorem o_slc (C : Cxt X T) : SlR X (rS T) := by
  rintro pins s σ H x v vl vu lo hi sl Q I rx hs pl pu ⟨O, dx, l, hx, p⟩
  cases hx with
  | @lst xs a vs h r =>
    refine sl_list pins s σ H _ v vl vu lo hi sl Q I rx hs pl pu ⟨a, vs, rfl, by rw [C.hK]; exact ex_sql hide_ex h, fun b n => ?_⟩
    refine PoV.lst (T := T) (O := O) l p ?_ n
    rw [cut_V, r.length]
    exact (r.drop _).take _
  | str z =>
    simp only [slcD] at p
    split at p
    · rename_i hl
      refine sl_str pins s σ H _ v vl vu lo hi sl Q I rx hs pl pu ⟨z, rfl, by rw [← line_eq, ← strlen]; exact hl, p.str ?_⟩
      rw [cut_V, strlen]
      rfl
    · exact False.elim p
  | _ => exact False.elim p

/-! ### built-ins -/
def nmF1 : F1 → String
  | .len => "len"
  | .abs => "abs"
  | .int => "int"
  | .str => "str"
  | .list => "list"
  | .sorted => "sorted"
  | .sum => "sum"
  | .max => "max"
  | .min => "min"
  | .rev => "reversed"
def rL1 (T : Tab) (g : D → R D) : List V → Hp → VK → Prop := fun xs H Q => ∃ x, xs = [x] ∧ rF T g x H Q
def rL2 (T : Tab) (g : D → D → R D) : List V → Hp → VK → Prop := fun xs H Q => ∃ x y, xs = [x, y] ∧ rB T g x y H Q
theorem b_len (C : Cxt X T) : CallR X (.builtin "len") (rL1 T (f1D .len)) := by
  rintro pins s σ H xs us Q I r ⟨x, rfl, O, dx, l, hx, p⟩
  cases hx with
  | @lst ds a vs h q => exact call_len_seq pins s σ H _ us Q I r ⟨a, vs, rfl, .inl (by rw [C.hK]; exact ex_sql hide_ex h), by rw [← q.length]; exact p.int⟩
  | @tup ds a vs h q => exact call_len_seq pins s σ H _ us Q I r ⟨a, vs, rfl, .inr (by rw [C.hK]; exact ex_sqt hide_ex h), by rw [← q.length]; exact p.int⟩
  | str z =>
    simp only [f1D] at p
    split at p
    · rename_i hl
      exact call_len_str pins s σ H _ us Q I r ⟨z, rfl, by rw [← line_eq, ← strlen]; exact hl, by rw [← strlen]; exact p.int⟩
    · exact False.elim p
  | _ => exact False.elim p
theorem b_abs : CallR X (.builtin "abs") (rL1 T (f1D .abs)) := by
  rintro pins s σ H xs us Q I r ⟨x, rfl, O, dx, l, hx, p⟩
  cases hx with
  | int i =>
    have e : (if i < 0 then -i else i) = ((i.natAbs : Nat) : Int) := by split <;> omega
    exact call_abs pins s σ H _ us Q I r ⟨i, rfl, by rw [e]; exact p.int⟩
  | _ => exact False.elim p
theorem b_int (C : Cxt X T) : CallR X (.type "int") (rL1 T (f1D .int)) := by
  rintro pins s σ H xs us Q I r ⟨x, rfl, O, dx, l, hx, p⟩
  cases hx with
  | int i => exact call_int1 pins s σ H _ us Q I r (.inl ⟨i, rfl, p.int⟩)
  | bl b => exact call_int1 pins s σ H _ us Q I r (.inr ⟨b, rfl, p.int⟩)
  | str z =>
    simp only [f1D] at p
    split at p
    · rename_i h
      rw [strlen] at h
      split at p
      · rename_i n e
        rw [show toS z.cps.toList = z by unfold toS; simp] at e
        exact call_int_str pins s σ H _ us Q I r ⟨z, n, rfl, e, h, p.int⟩
      · exact False.elim p
    · rename_i hs
      split at p
      · rename_i h
        have figs : NumText.AllDigits z.cps.toList := fun c hc => by
          have := List.all_eq_true.mp h.2 c hc
          simp only [Bool.and_eq_true, decide_eq_true_eq] at this
          exact this
        have ne : z.cps.toList ≠ [] := fun e => hs (by rw [e]; decide)
        rw [strlen] at hs h
        exact call_int_long C.dig pins s σ H _ us Q I r ⟨z, _, rfl, figs, by omega, h.1, intText_digits figs ne h.1, p.int⟩
      · exact False.elim p
  | _ => exact False.elim p
theorem b_list (C : Cxt X T) : CallR X (.type "list") (rL1 T (f1D .list)) := by
  rintro pins s σ H xs us Q I r ⟨x, rfl, O, dx, l, hx, p⟩
  cases hx with
  | @lst ds a vs h q => exact call_list_of pins s σ H _ us Q I r ⟨a, vs, rfl, .inl (by rw [C.hK]; exact ex_sql hide_ex h), fun b n => p.lst l q n⟩
  | @tup ds a vs h q => exact call_list_of pins s σ H _ us Q I r ⟨a, vs, rfl, .inr (by rw [C.hK]; exact ex_sqt hide_ex h), fun b n => p.lst l q n⟩
  | _ => exact False.elim p
theorem ints_of {H : Hp} : ∀ {ds : List D} {vs : List V} {ns : List Int}, DVs T H ds vs → asInts ds = some ns → vs = ns.map V.int
  | _, _, _, .nil, e => by cases e; rfl
  | _, _, ns, .cons h r, e => by
    cases h with
    | int i =>
      simp only [asInts, Option.map_eq_some_iff] at e
      obtain ⟨ms, e1, rfl⟩ := e
      rw [ints_of r e1]
      rfl
    | _ => simp [asInts] at e
theorem b_sum (C : Cxt X T) : CallR X (.builtin "sum") (rL1 T (f1D .sum)) := by
  rintro pins s σ H xs us Q I r ⟨x, rfl, O, dx, l, hx, p⟩
  cases hx with
  | @lst ds a vs h q =>
    simp only [f1D] at p
    split at p
    · rename_i ns e
      have e2 := ints_of q e
      subst e2
      exact cr_sum C.calm pins s σ H _ us Q I r ⟨a, ns, rfl, by rw [C.hK]; exact ex_sql hide_ex h, p.int⟩
    · exact False.elim p
  | _ => exact False.elim p
theorem foldl_max : ∀ (ns : List Int) (n : Int), (ns.foldl max n = n ∨ ns.foldl max n ∈ ns) ∧ n ≤ ns.foldl max n ∧ ∀ y ∈ ns, y ≤ ns.foldl max n
  | [], n => ⟨.inl rfl, Int.le_refl _, fun _ h => nomatch h⟩
  | m :: ns, n => by
    obtain ⟨h1, h2, h3⟩ := foldl_max ns (max n m)
    rw [List.foldl_cons]
    refine ⟨?_, by omega, fun y hy => ?_⟩
    · rcases h1 with h1 | h1
      · by_cases c : n ≤ m
        · right; rw [h1]; rw [show max n m = m by omega]; exact List.mem_cons_self
        · left; rw [h1]; omega
      · exact .inr (List.mem_cons_of_mem _ h1)
    · rcases List.mem_cons.mp hy with rfl | hy
      · omega
      · exact h3 y hy
theorem foldl_min : ∀ (ns : List Int) (n : Int), (ns.foldl min n = n ∨ ns.foldl min n ∈ ns) ∧ ns.foldl min n ≤ n ∧ ∀ y ∈ ns, ns.foldl min n ≤ y
  | [], n => ⟨.inl rfl, Int.le_refl _, fun _ h => nomatch h⟩
  | m :: ns, n => by
    obtain ⟨h1, h2, h3⟩ := foldl_min ns (min n m)
    rw [List.foldl_cons]
    refine ⟨?_, by omega, fun y hy => ?_⟩
    · rcases h1 with h1 | h1
      · by_cases c : m ≤ n
        · right; rw [h1]; rw [show min n m = m by omega]; exact List.mem_cons_self
        · left; rw [h1]; omega
      · exact .inr (List.mem_cons_of_mem _ h1)
    · rcases List.mem_cons.mp hy with rfl | hy
      · omega
      · exact h3 y hy
theorem is_max {ns : List Int} {n m : Int} (h : m ∈ n :: ns) (g : ∀ y, y ∈ n :: ns → y ≤ m) : m = ns.foldl max n := by
  obtain ⟨h1, h2, h3⟩ := foldl_max ns n
  have q : ns.foldl max n ∈ n :: ns := by
    rcases h1 with q | q
    · rw [q]; exact List.mem_cons_self
    · exact List.mem_cons_of_mem _ q
  have r1 := g _ q
  rcases List.mem_cons.mp h with rfl | h
  · omega
  · have := h3 m h; omega
theorem is_min {ns : List Int} {n m : Int} (h : m ∈ n :: ns) (g : ∀ y, y ∈ n :: ns → m ≤ y) : m = ns.foldl min n := by
  obtain ⟨h1, h2, h3⟩ := foldl_min ns n
  have q : ns.foldl min n ∈ n :: ns := by
    rcases h1 with q | q
    · rw [q]; exact List.mem_cons_self
    · exact List.mem_cons_of_mem _ q
  have r1 := g _ q
  rcases List.mem_cons.mp h with rfl | h
  · omega
  · have := h3 m h; omega
section
variable {prog : Program} {w : World} {A : Around} {E : Value → Shared → Prop} {s : Shared} {l : Addr}
theorem old_keptT {it : Obj} {h' : Heap} (hk : ∀ b o, b ∉ [s.heap.objs.size] → (s.heap.push it).get? b = some o → h'.get? b = some o) :
    ∀ b o, s.heap.get? b = some o → h'.get? b = some o := fun b o e => by
  refine hk b o (fun hm => ?_) (Heap.get?_push_of_some _ e)
  rcases List.mem_cons.mp hm with e1 | hm
  · exact absurd (e1 ▸ Heap.lt_size e) (Nat.lt_irrefl _)
  · cases hm
theorem max_rawT {its : List Value} {ns : List Int} {Q : Value → Shared → Prop} (hh : A.handled = none) (hl : s.heap.IsTuple l its.toArray) (hi : IntsAre its ns) (hne : 0 < ns.length)
    (h : ∀ h' tk M t', (∀ b o, s.heap.get? b = some o → h'.get? b = some o) → M ∈ ns → (∀ a, a ∈ ns → a ≤ M) → Q (.int M t') { s with heap := h', toks := tk }) : wpAny (model prog w) A (call (.builtin "max") [.ref l]) Q E s := by
  obtain ⟨xs, e⟩ := hi.allInts.items
  have hn : numsOf (intItems xs).toList = ns := by rw [← e]; exact hi.numsOf
  rw [nums_intItems] at hn
  subst hn
  rw [e] at hl
  have hsz : 0 < xs.size := by simpa using hne
  have hlt : l < s.heap.objs.size := by obtain ⟨_, e, _⟩ := hl; exact Heap.lt_size e
  refine call_max_walk (wpAny_pyIter_tuple hl ?_)
  refine ⟨_, _, _, _, _, _, _, rfl, Walks.tuple (A := A.in1) hh _ l (Nat.ne_of_lt hlt) (intItems xs), ⟨⟨_, Heap.get?_push_size _ rfl, rfl, rfl⟩, hl.push _⟩, fun c hc => ?_, by simpa [intItems] using hsz, CmpOf.ints_gt (numAt xs) (fun _ _ => intItems_at), fun v h' tk hP hk => ?_⟩
  · show c < (s.heap.push _).objs.size
    rw [Heap.size_push]
    rcases List.mem_cons.mp hc with rfl | hc
    · exact Nat.lt_succ_self _
    · rcases List.mem_cons.mp hc with rfl | hc
      · exact Nat.lt_succ_of_lt hlt
      · cases hc
  · have hP : (intItems xs)[argBest (fun i j => decide (numAt xs i > numAt xs j)) (xs.size - 1)]? = some v := by simpa [intItems] using hP
    obtain ⟨t, rfl⟩ := intItems_at hP
    obtain ⟨h1, h2⟩ := argBest_gt (numAt xs) (xs.size - 1)
    refine h h' tk _ t (old_keptT hk) ?_ fun a ha => ?_
    · rw [numAt_eq]; exact PySem.getD_mem (by rw [List.length_map, Array.length_toList]; omega)
    · obtain ⟨j, hj, rfl⟩ := mem_getD ha
      rw [List.length_map, Array.length_toList] at hj
      rw [← numAt_eq]; exact h2 j (by omega)
theorem min_rawT {its : List Value} {ns : List Int} {Q : Value → Shared → Prop} (hh : A.handled = none) (hl : s.heap.IsTuple l its.toArray) (hi : IntsAre its ns) (hne : 0 < ns.length)
    (h : ∀ h' tk M t', (∀ b o, s.heap.get? b = some o → h'.get? b = some o) → M ∈ ns → (∀ a, a ∈ ns → M ≤ a) → Q (.int M t') { s with heap := h', toks := tk }) : wpAny (model prog w) A (call (.builtin "min") [.ref l]) Q E s := by
  obtain ⟨xs, e⟩ := hi.allInts.items
  have hn : numsOf (intItems xs).toList = ns := by rw [← e]; exact hi.numsOf
  rw [nums_intItems] at hn
  subst hn
  rw [e] at hl
  have hsz : 0 < xs.size := by simpa using hne
  have hlt : l < s.heap.objs.size := by obtain ⟨_, e, _⟩ := hl; exact Heap.lt_size e
  refine call_min_walk (wpAny_pyIter_tuple hl ?_)
  refine ⟨_, _, _, _, _, _, _, rfl, Walks.tuple (A := A.in1) hh _ l (Nat.ne_of_lt hlt) (intItems xs), ⟨⟨_, Heap.get?_push_size _ rfl, rfl, rfl⟩, hl.push _⟩, fun c hc => ?_, by simpa [intItems] using hsz, CmpOf.ints_lt (numAt xs) (fun _ _ => intItems_at), fun v h' tk hP hk => ?_⟩
  · show c < (s.heap.push _).objs.size
    rw [Heap.size_push]
    rcases List.mem_cons.mp hc with rfl | hc
    · exact Nat.lt_succ_self _
    · rcases List.mem_cons.mp hc with rfl | hc
      · exact Nat.lt_succ_of_lt hlt
      · cases hc
  · have hP : (intItems xs)[argBest (fun i j => decide (numAt xs i < numAt xs j)) (xs.size - 1)]? = some v := by simpa [intItems] using hP
    obtain ⟨t, rfl⟩ := intItems_at hP
    obtain ⟨h1, h2⟩ := argBest_lt (numAt xs) (xs.size - 1)
    refine h h' tk _ t (old_keptT hk) ?_ fun a ha => ?_
    · rw [numAt_eq]; exact PySem.getD_mem (by rw [List.length_map, Array.length_toList]; omega)
    · obtain ⟨j, hj, rfl⟩ := mem_getD ha
      rw [List.length_map, Array.length_toList] at hj
      rw [← numAt_eq]; exact h2 j (by omega)
end
theorem cr_maxT (hc : X.calm = true) : CallR X (.builtin "max") (fun vs H Q => ∃ (a : Addr) (ns : List Int), vs = [V.ref a] ∧ SqT X.K H a (ns.map V.int) ∧ 0 < ns.length ∧ ∀ m, m ∈ ns → (∀ y, y ∈ ns → y ≤ m) → Q (.int m) H) := by
  intro pins s σ H vs us Q I r h
  obtain ⟨a, ns, rfl, hs, hne, q⟩ := h
  obtain ⟨its, rv, hl, _⟩ := I.tuple hs
  rw [Vals.ref1 r]
  exact max_rawT (I.ok.hd hc) hl rv.ints hne fun h' tk m t' hk h1 h2 => ⟨.int _, H, I.kept hk, ⟨_, rfl⟩, q m h1 h2⟩
theorem cr_minT (hc : X.calm = true) : CallR X (.builtin "min") (fun vs H Q => ∃ (a : Addr) (ns : List Int), vs = [V.ref a] ∧ SqT X.K H a (ns.map V.int) ∧ 0 < ns.length ∧ ∀ m, m ∈ ns → (∀ y, y ∈ ns → m ≤ y) → Q (.int m) H) := by
  intro pins s σ H vs us Q I r h
  obtain ⟨a, ns, rfl, hs, hne, q⟩ := h
  obtain ⟨its, rv, hl, _⟩ := I.tuple hs
  rw [Vals.ref1 r]
  exact min_rawT (I.ok.hd hc) hl rv.ints hne fun h' tk m t' hk h1 h2 => ⟨.int _, H, I.kept hk, ⟨_, rfl⟩, q m h1 h2⟩
theorem b_max (C : Cxt X T) : CallR X (.builtin "max") (rL1 T (f1D .max)) := by
  rintro pins s σ H xs us Q I r ⟨x, rfl, O, dx, l, hx, p⟩
  cases hx with
  | @lst ds a vs h q =>
    simp only [f1D, bestL] at p
    split at p
    · rename_i n ns e
      have e2 := ints_of q e
      subst e2
      exact cr_max C.calm pins s σ H _ us Q I r ⟨a, n :: ns, rfl, by rw [C.hK]; exact ex_sql hide_ex h, Nat.succ_pos _, fun m h1 h2 => by rw [is_max h1 h2]; exact p.int⟩
    · exact False.elim p
  | @tup ds a vs h q =>
    simp only [f1D, bestL] at p
    split at p
    · rename_i n ns e
      have e2 := ints_of q e
      subst e2
      exact cr_maxT C.calm pins s σ H _ us Q I r ⟨a, n :: ns, rfl, by rw [C.hK]; exact ex_sqt hide_ex h, Nat.succ_pos _, fun m h1 h2 => by rw [is_max h1 h2]; exact p.int⟩
    · exact False.elim p
  | _ => exact False.elim p
theorem b_min (C : Cxt X T) : CallR X (.builtin "min") (rL1 T (f1D .min)) := by
  rintro pins s σ H xs us Q I r ⟨x, rfl, O, dx, l, hx, p⟩
  cases hx with
  | @lst ds a vs h q =>
    simp only [f1D, bestL] at p
    split at p
    · rename_i n ns e
      have e2 := ints_of q e
      subst e2
      exact cr_min C.calm pins s σ H _ us Q I r ⟨a, n :: ns, rfl, by rw [C.hK]; exact ex_sql hide_ex h, Nat.succ_pos _, fun m h1 h2 => by rw [is_min h1 h2]; exact p.int⟩
    · exact False.elim p
  | @tup ds a vs h q =>
    simp only [f1D, bestL] at p
    split at p
    · rename_i n ns e
      have e2 := ints_of q e
      subst e2
      exact cr_minT C.calm pins s σ H _ us Q I r ⟨a, n :: ns, rfl, by rw [C.hK]; exact ex_sqt hide_ex h, Nat.succ_pos _, fun m h1 h2 => by rw [is_min h1 h2]; exact p.int⟩
    · exact False.elim p
  | _ => exact False.elim p
theorem b_str (C : Cxt X T) : CallR X (.type "str") (rL1 T (f1D .str)) := by
  rintro pins s σ H xs us Q I r ⟨x, rfl, O, dx, l, hx, p⟩
  cases hx with
  | int i =>
    simp only [f1D] at p
    split at p
    · rename_i h
      exact call_str_long C.calm C.dig pins s σ H _ us Q I r ⟨i, rfl, h, p.str rfl⟩
    · exact False.elim p
  | _ => exact False.elim p
theorem ints_V {H : Hp} : ∀ (ns : List Int), DVs T H (ns.map D.int) (ns.map V.int)
  | [] => .nil
  | n :: ns => .cons (.int n) (ints_V ns)
theorem sort_uniq {ns ms : List Int} (hp : ms.Perm ns) (hs : ms.Pairwise (· ≤ ·)) : ms = ns.mergeSort fun a b => decide (a ≤ b) := by
  have h1 : (ns.mergeSort fun a b => decide (a ≤ b)).Perm ns := List.mergeSort_perm _ _
  have h2 : (ns.mergeSort fun a b => decide (a ≤ b)).Pairwise (· ≤ ·) := by
    have := List.pairwise_mergeSort (le := fun (a b : Int) => decide (a ≤ b)) (fun a b c h g => by simp only [decide_eq_true_eq] at *; omega) (fun a b => by simp only [Bool.or_eq_true, decide_eq_true_eq]; omega) ns
    exact this.imp fun h => of_decide_eq_true h
  exact List.Perm.eq_of_pairwise (le := (· ≤ ·)) (fun a b _ _ h g => Int.le_antisymm h g) hs h2 (hp.trans h1.symm)
theorem b_sorted (C : Cxt X T) : CallR X (.builtin "sorted") (rL1 T (f1D .sorted)) := by
  rintro pins s σ H xs us Q I r ⟨x, rfl, O, dx, l, hx, p⟩
  cases hx with
  | @lst ds a vs h q =>
    simp only [f1D] at p
    split at p
    · rename_i ns e
      have e2 := ints_of q e
      subst e2
      exact cr_sortedI pins s σ H _ us Q I r ⟨a, ns, rfl, by rw [C.hK]; exact ex_sql hide_ex h, fun ns' b h1 h2 n => by
        rw [sort_uniq h1 h2]
        exact p.lst l (ints_V _) n⟩
    · exact False.elim p
  | _ => exact False.elim p
theorem call_divmodN : CallR X (.builtin "divmod") (fun xs H Q => ∃ i j, xs = [.int i, .int j] ∧ (j < 0 ∧ Builtin.divisionGoesByPylong i j = false) ∧ ∀ p, H p = none → Q (.ref p) (upd H p (.tup [.int (i.fdiv j), .int (i.fmod j)]))) := by
  intro pins s σ H xs us Q I r h
  obtain ⟨i, j, rfl, ⟨h1, h2⟩, q⟩ := h
  obtain ⟨u, w', rfl, ⟨t, rfl⟩, ⟨t', rfl⟩⟩ := vals2 r
  refine divmod_int (by omega) ?_ (.inl h2)
  have hn : H s.heap.objs.size = none := I.hok.fresh (Nat.le_refl _)
  refine ⟨.ref s.heap.objs.size, _, ?_, rfl, q _ hn⟩
  refine I.laid (fun b o e => Heap.get?_push_of_some _ e) (Nat.le_refl _) ⟨by simp only [List.length_cons, List.length_nil]; rw [sizeLine_eq]; decide, [.int (i.fdiv j) s.toks, .int (i.fmod j) (s.toks + 1)], .cons ⟨_, rfl⟩ (.cons ⟨_, rfl⟩ .nil), ?_⟩
  exact ⟨_, Heap.get?_push_size s.heap rfl, rfl, 0, rfl⟩
theorem b_max2 (C : Cxt X T) : CallR X (.builtin "max") (rL2 T (f2D .max)) := by
  rintro pins s σ H xs us Q I r ⟨x, y, rfl, O, dx, dy, l, hx, hy, p⟩
  cases hx with
  | int i => cases hy with
    | int j =>
      have e : (if j > i then j else i) = max i j := by split <;> omega
      exact call_max2 C.calm pins s σ H _ us Q I r ⟨i, j, rfl, by rw [e]; exact p.int⟩
    | _ => exact False.elim p
  | _ => cases hy <;> exact False.elim p
theorem b_min2 (C : Cxt X T) : CallR X (.builtin "min") (rL2 T (f2D .min)) := by
  rintro pins s σ H xs us Q I r ⟨x, y, rfl, O, dx, dy, l, hx, hy, p⟩
  cases hx with
  | int i => cases hy with
    | int j =>
      have e : (if j < i then j else i) = min i j := by split <;> omega
      exact call_min2 C.calm pins s σ H _ us Q I r ⟨i, j, rfl, by rw [e]; exact p.int⟩
    | _ => exact False.elim p
  | _ => cases hy <;> exact False.elim p
theorem b_divmod : CallR X (.builtin "divmod") (rL2 T (f2D .divmod)) := by
  rintro pins s σ H xs us Q I r ⟨x, y, rfl, O, dx, dy, l, hx, hy, p⟩
  cases hx with
  | int i => cases hy with
    | int j =>
      simp only [f2D] at p
      split at p
      · rename_i h
        exact call_divmodW pins s σ H _ us Q I r ⟨i, j, rfl, h, fun b n => p.tup l (.cons (.int _) (.cons (.int _) .nil)) n⟩
      · split at p
        · rename_i h
          exact call_divmodN pins s σ H _ us Q I r ⟨i, j, rfl, h, fun b n => p.tup l (.cons (.int _) (.cons (.int _) .nil)) n⟩
        · exact False.elim p
    | _ => exact False.elim p
  | _ => cases hy <;> exact False.elim p

/-! ### isinstance -/
def rI2 (T : Tab) (c : Cl) (cv : V) : List V → Hp → VK → Prop := fun xs H Q => ∃ x, xs = [x, cv] ∧ ∃ O dx, Lv T O H ∧ DV T (hide O H) dx x ∧ PoB H (fun b => Q (.bl b) H) (isI dx c)
theorem tyx_sql {K : PySem.W.Frag} {H : Hp} {a : Addr} {xs : List V} (h : SqL K H a xs) : TyX K H (.ref a) (.type "list") := by
  rcases h with (h | ⟨o, h⟩) | ⟨o, its, n, h, hc, _⟩
  · exact .base (.lst h)
  · exact .base (.frz h)
  · exact .kList h hc
theorem tyx_sqt {K : PySem.W.Frag} {H : Hp} {a : Addr} {xs : List V} (h : SqT K H a xs) : TyX K H (.ref a) (.type "tuple") := by
  rcases h with (h | ⟨o, h⟩) | ⟨o, its, n, h, hc, _⟩
  · exact .base (.tup h)
  · exact .fTuple h
  · exact .kTuple h hc
def tyName : D → Option String
  | .non => some "NoneType"
  | .bl _ => some "bool"
  | .int _ => some "int"
  | .str _ => some "str"
  | .tup _ => some "tuple"
  | .lst _ => some "list"
  | .dic => some "dict"
  | _ => none
/-- what is asked of a class whose objects isinstance asks of -/
structure IsoC (K : PySem.W.Frag) (C : Addr) : Prop where
  cl : Cls K C
  ha : PySem.W.findIn K (.ref C) "__class__" = some (some (.builtin "object.__class__"))
  hn : PySem.W.specialIn K (.builtin "object.__class__") "__get__" = some (some (.builtin "getset_descriptor.__get__"))
  ht : PySem.W.takesIn K (.builtin "object.__class__") = some true
  hm : PySem.W.mroIn K C (.type "object") = some true
theorem b_isi (C : Cxt X T) {c : Cl} {cv : V} {cw : Value} (k : ClsV cv cw) (hb : ∀ (d : D) (t : String) (b : Bool), tyName d = some t → isI d c = .ok b → PySem.W.kitOne X.K (.type t) cw = some b)
    (hx : ∀ e ∈ T.exs, ∀ b : Bool, isI (.exc e) c = .ok b → PySem.W.kitOne X.K (.ref (T.exc e)) cw = some b) (ho : ∀ e ∈ T.objs, ∀ b : Bool, isI (.obj e) c = .ok b → IsoC X.K (T.obj e) ∧ PySem.W.kitOne X.K (.ref (T.obj e)) cw = some b) : CallR X (.builtin "isinstance") (rI2 T c cv) := by
  rintro pins s σ H xs us Q I r ⟨x, rfl, O, dx, l, hd, p⟩
  cases q : isI dx c with
  | ok b =>
    rw [q] at p
    have p : Q (.bl b) H := p
    cases hd with
    | non => exact call_isi pins s σ H _ us Q I r ⟨_, _, .type "NoneType", cw, b, rfl, k, .base .non, hb _ _ b rfl q, p⟩
    | bl y => exact call_isi pins s σ H _ us Q I r ⟨_, _, .type "bool", cw, b, rfl, k, .base (.bl y), hb _ _ b rfl q, p⟩
    | int y => exact call_isi pins s σ H _ us Q I r ⟨_, _, .type "int", cw, b, rfl, k, .base (.int y), hb _ _ b rfl q, p⟩
    | str y => exact call_isi pins s σ H _ us Q I r ⟨_, _, .type "str", cw, b, rfl, k, .base (.str y), hb _ _ b rfl q, p⟩
    | tup h _ => exact call_isi pins s σ H _ us Q I r ⟨_, _, .type "tuple", cw, b, rfl, k, tyx_sqt (by rw [C.hK]; exact ex_sqt hide_ex h), hb _ _ b rfl q, p⟩
    | lst h _ => exact call_isi pins s σ H _ us Q I r ⟨_, _, .type "list", cw, b, rfl, k, tyx_sql (by rw [C.hK]; exact ex_sql hide_ex h), hb _ _ b rfl q, p⟩
    | dic h => exact call_isi pins s σ H _ us Q I r ⟨_, _, .type "dict", cw, b, rfl, k, .base (.dK (hide_at h)), hb _ _ b rfl q, p⟩
    | @exc e a hc h =>
      obtain ⟨u1, u2, rfl, r1, r2⟩ := vals2 r
      cases (show u1 = Value.ref a from r1)
      have e2 := k.eq r2
      subst e2
      obtain ⟨⟨oe, vs, hget, hz, hv⟩, _⟩ := I.hok a _ (hide_at h)
      have J : PySem.W.InstAt s.heap a oe (T.exc e) none := by
        obtain ⟨oc, od, oda, osl⟩ := oe
        obtain ⟨h1, h2⟩ := hz
        dsimp only at h1 h2 hv
        subst h1 h2 hv
        exact ⟨hget, rfl, rfl, trivial⟩
      have X := C.exT e hc
      exact PySem.W.kia_one (PySem.W.handS_kitx_exc X.hg X.hk X.hs X.hd X.ha X.hn X.ht X.hm) I.kIn J (hx e hc b q) (fun z => nomatch z) fun tk => ⟨.bl b, H, I.kept (t' := tk) fun _ _ z => z, rfl, p⟩
    | @obj e a dx hc h =>
      obtain ⟨IC, kq⟩ := ho e hc b q
      exact call_isi pins s σ H _ us Q I r ⟨_, _, .ref (T.obj e), cw, b, rfl, k, .base (.ins (hide_at h) IC.cl IC.ha IC.hn IC.ht IC.hm), kq, p⟩
  | ex c => rw [q] at p; exact False.elim p
  | no => rw [q] at p; exact False.elim p
/-- a built-in class -/
def tyCl : Cl → Option String
  | .int => some "int"
  | .bool => some "bool"
  | .str => some "str"
  | .tuple => some "tuple"
  | .list => some "list"
  | .valueError => some "ValueError"
  | _ => none
theorem b_isiT (C : Cxt X T) {c : Cl} {n : String} (hn : tyCl c = some n) : CallR X (.builtin "isinstance") (rI2 T c (.ty n)) := by
  refine b_isi C (.ty n) (fun d t b ht hi => ?_) (fun e he b hi => ?_) (fun e he b hi => ?_)
  · refine kit_ty ?_
    cases c <;> simp only [tyCl, Option.some.injEq, reduceCtorEq] at hn <;> subst hn <;> cases d <;> simp only [tyName, Option.some.injEq, reduceCtorEq] at ht <;> subst ht <;> simp only [isI, R.ok.injEq, reduceCtorEq] at hi <;> subst hi <;> decide +kernel
  · cases c <;> simp only [tyCl, Option.some.injEq, reduceCtorEq] at hn <;> simp only [isI, R.ok.injEq, reduceCtorEq] at hi
    subst hn hi
    exact C.exV e he
  · cases c <;> simp only [tyCl, Option.some.injEq, reduceCtorEq] at hn <;> simp only [isI, reduceCtorEq] at hi
theorem b_isiE (C : Cxt X T) {nm : String} {c : Nat} (hc : c ∈ T.exs) : CallR X (.builtin "isinstance") (rI2 T (.exc nm c) (.ref (T.exc c))) := by
  refine b_isi C (.own _) (fun d t b ht hi => ?_) (fun e he b hi => ?_) (fun e he b hi => ?_)
  · cases d <;> simp only [tyName, Option.some.injEq, reduceCtorEq] at ht <;> subst ht <;> simp only [isI, R.ok.injEq, reduceCtorEq] at hi
    subst hi
    exact C.exN c hc
  · simp only [isI, R.ok.injEq] at hi
    subst hi
    exact C.exI e he c hc
  · simp only [isI, reduceCtorEq] at hi
theorem b_isiO (C : Cxt X T) {nm : String} {c : Nat} (ho : ∀ e ∈ T.objs, IsoC X.K (T.obj e) ∧ PySem.W.kitOne X.K (.ref (T.obj e)) (.ref (T.obj c)) = some (e == c)) : CallR X (.builtin "isinstance") (rI2 T (.obj nm c) (.ref (T.obj c))) := by
  refine b_isi C (.own _) (fun d t b ht hi => ?_) (fun e he b hi => ?_) (fun e he b hi => ?_)
  · cases d <;> simp only [isI, reduceCtorEq] at hi <;> simp only [tyName, reduceCtorEq] at ht
  · simp only [isI, reduceCtorEq] at hi
  · simp only [isI, R.ok.injEq] at hi
    subst hi
    exact ho e he
theorem b_isiW (C : Cxt X T) {nm : String} {aw : Addr} (ho : ∀ e ∈ T.objs, IsoC X.K (T.obj e) ∧ PySem.W.kitOne X.K (.ref (T.obj e)) (.ref aw) = some true) : CallR X (.builtin "isinstance") (rI2 T (.way nm) (.ref aw)) := by
  refine b_isi C (.own _) (fun d t b ht hi => ?_) (fun e he b hi => ?_) (fun e he b hi => ?_)
  · cases d <;> simp only [isI, reduceCtorEq] at hi <;> simp only [tyName, reduceCtorEq] at ht
  · simp only [isI, reduceCtorEq] at hi
  · simp only [isI, R.ok.injEq] at hi
    subst hi
    exact ho e he
end
end MP

set_option Elab.async false
set_option linter.all false
set_option maxRecDepth 100000
set_option maxHeartbeats 4000000
set_option autoImplicit false
/-! MPY: a list comprehension that an exception may leave. -/
namespace MP
open PySem PySem.Spec L2
open PyProof.Rows hiding St
/-- a block that an exception may leave -/
abbrev blkX (X : Cx) (s : Shared) (H : Hp) (scope : Scope) (cenv : PySem.Env) (fp : List Addr) (xe : Value → Shared → Prop) : Cx := (X.blk s H scope cenv fp).tr [] xe
def wOut (W : WX) (σ : St) : WX := fun cls d _ H => W cls d σ H
section
variable {M : Model} {A : Around} {E : Value → Shared → Prop} {s : Shared} {base : Heap} {env : PySem.Env} {outer : List PySem.Env} {e L : Addr} {Z : Obj → Prop}
/-- the frame notes an exception that another one noted last -/
theorem looks_anyZ {fl : Value} {Q : Unit → Shared → Prop} (hZ : HandSPX.Steady Z) (hfr : A.frames = some (env :: outer)) (hf : env.frame = some L) (hkb : base.StaysIn s.heap) (hen : base.get? e = none) (hl : s.heap.FunFrames base (env :: outer)) (ht : HandSPX.TracedZ s.heap base e Z fl) (hfl : (fl == rawInt L) = false)
    (hQ : ∀ h', HandSPX.HeldZ base (env :: outer) e Z L h' → s.heap.UpToSlots h' → Q () { s with heap := h' }) : wpAny M A (noteFrame (.ref e) env) Q E s := by
  obtain ⟨oe, vs, T, oT, ts, he, hz, hd, h1, hnT, hTe, hT, hdT, h3⟩ := ht
  unfold noteFrame
  simp only [hf]
  refine wpAny_bind (wpAny_field he hd h1 ?_)
  rw [if_pos (show (Value.ref T != Value.none) = true from by simp)]
  refine wpAny_bind (wpAny_field hT hdT h3 ?_)
  rw [if_neg (show ¬ ((fl == rawInt L) = true) from by rw [hfl]; exact Bool.false_ne_true)]
  refine wpAny_bind (wpAny_setField hT hdT (Array.getElem?_eq_some_iff.mp h3).1 ?_)
  have other : ∀ b, b ≠ T → (s.heap.update T (Obj.mapFields (·.setIfInBounds 3 Value.none))).get? b = s.heap.get? b := fun b hb => Heap.get?_update_other _ _ (Ne.symm hb)
  have noRecord : ∀ b o, s.heap.get? b = some o → (∀ vs, o.data ≠ .fields vs) → b ≠ T := fun b o hb hnf q => by
    rw [q, hT] at hb; injection hb with hb; subst hb; exact hnf ts hdT
  refine HandSPX.wpAny_entryZ hZ hfr (hl.of_keeps fun b o hb hnf => ⟨o, (other b (noRecord b o hb hnf)).trans hb, rfl⟩) hf ((other e (Ne.symm hTe)).trans he)
    (fun b o hbo => (other b fun q => by rw [q, hnT] at hbo; cases hbo).trans (hkb b o hbo)) hen hd (Array.getElem?_eq_some_iff.mp h1).1 hz fun h' hN => ?_
  obtain ⟨x1, x2, x3, x4⟩ := hN
  exact hQ h' ⟨x1, hen, x2, x3⟩ fun b o hb hnf => x4 b o ((other b (noRecord b o hb hnf)).trans hb) hnf
theorem rawInt_ne {a b : Addr} (h : a ≠ b) : (rawInt a == rawInt b) = false := by
  have : rawInt a ≠ rawInt b := fun q => h (Int.ofNat_inj.mp (by simpa [rawInt] using q))
  simpa using this
/-- whatever stands of it: noted by the frame -/
theorem sky_note {B : Heap} {C a : Addr} {Q : Unit → Shared → Prop} (hZ : HandSPX.Steady Z) (hfr : A.frames = some (env :: outer)) (hf : env.frame = some L) (hC : C ≠ L) (x : Sky B (env :: outer) a Z C s.heap)
    (hQ : ∀ h', HandSPX.HeldZ B (env :: outer) a Z L h' → s.heap.UpToSlots h' → Q () { s with heap := h' }) : wpAny M A (noteFrame (.ref a) env) Q E s := by
  rcases x with ⟨hB, hn, hl, oe, vs, he, hz, hd, h1⟩ | fl | hh
  · exact HandSPX.look_newZ hZ hfr hl hf he hB hn hd h1 hz hQ
  · exact HandSPX.looks_onZ hZ hfr hf fl hQ
  · exact looks_anyZ hZ hfr hf hh.1 hh.2.1 hh.2.2.1 hh.2.2.2 (rawInt_ne hC) hQ
theorem funFrames_but {h h' B B' : Heap} {C : Addr} (k : ∀ b, b ≠ C → h'.get? b = h.get? b) (kB : ∀ b, B.get? b = none → B'.get? b = none) : ∀ {l : List PySem.Env}, h.FunFrames B l → (∀ b ∈ frs l, b ≠ C) → h'.FunFrames B' l
  | [], _, _ => trivial
  | env :: l, hl, hn => by
    obtain ⟨hk, ⟨L, o, hf, hb, ho, hd⟩, hr⟩ := hl
    have hL : L ≠ C := hn L (List.mem_filterMap.mpr ⟨env, List.mem_cons_self, hf⟩)
    exact ⟨hk, ⟨L, o, hf, kB L hb, (k L hL).trans ho, hd⟩, funFrames_but k kB hr fun b hb => by
      obtain ⟨e, he, q⟩ := List.mem_filterMap.mp hb
      exact hn b (List.mem_filterMap.mpr ⟨e, List.mem_cons_of_mem _ he, q⟩)⟩
end
section
variable {X : Cx} {pins : List (Addr × Obj)} {σ : St} {H : Hp} {W : WX}
/-- an exception that leaves the block -/
theorem takes_blk {s3 : Shared} {H3 : Hp} {scope : Scope} {own : List (Str × Nat)} {ce : PySem.Env} {fp : List Addr} {use : Option (Value → Sem Unit)} {Qf : Value → Shared → Prop} {D : Addr} (tk : Takes X W)
    (hst : (X.env.frame = some X.env.locals ∧ X.stack = X.env :: X.outer) ∨ ∀ c d σ H, ¬ W c d σ H) (I3 : Inv X pins σ H3 s3) (f3 : ∀ b ∈ fp, FpOk X pins H3 b ∧ b < s3.heap.objs.size) (cL : ce.locals = s3.heap.objs.size) (cF : ce.frame = X.env.frame) :
    Takes (blkX X s3 H3 scope ce fp (notedBy (model X.prog X.w) X.A ce fun e s' => compEnds (model X.prog X.w) X.A X.xe use Qf (.ref D) ce (.error e) s')) (wOut W σ) := by
  intro u s' ⟨a, B, sI, pins', σ', H', cls, d, hu, J, nb, up, sky, na, os, ag, w⟩
  subst hu
  rcases hst with ⟨hf, hst⟩ | hno
  case inr => exact absurd w (hno _ _ _ _)
  have hfr : X.A.frames = some (X.env :: X.outer) := by rw [I3.ok.frames, hst]
  have frC : ∀ b ∈ frs X.stack, b ≠ ce.locals := fun b hb => by
    obtain ⟨_, o, e, _⟩ := I3.stack.mem hb
    rw [cL]
    exact Nat.ne_of_lt (Heap.lt_size e)
  have hCL : ce.locals ≠ X.env.locals := fun z => frC X.env.locals (by rw [hst]; exact List.mem_filterMap.mpr ⟨X.env, List.mem_cons_self, hf⟩) z.symm
  have sky : Sky B (X.env :: X.outer) a (Zc cls d) ce.locals s'.heap := by rw [← hst]; exact sky
  have nfe : noteFrame (.ref a) ce = noteFrame (.ref a) X.env := by unfold noteFrame PySem.frameOf; rw [cF]
  show wpAny (model X.prog X.w) X.A (noteFrame (.ref a) ce) _ _ s'
  rw [nfe]
  refine sky_note Zc.steady hfr hf hCL sky fun h1 hh1 up1 => ?_
  show CompFails (model X.prog X.w) X.A X.xe ce (.ref a) { s' with heap := h1 }
  obtain ⟨m, ⟨oC, es, ep, hoC, hdC, hsk, hnf⟩, _⟩ := J.loc
  have hoC : sI.heap.get? ce.locals = some oC := hoC
  have hBC : B.get? ce.locals = some oC := nb _ _ hoC fun hb => frC _ hb rfl
  obtain ⟨k1, k2, k3, oe, vs, T, oT, ts, he, hz, hd, ht1, hnT, hTe, hT, hdT, ht3⟩ := id hh1
  have aC : a ≠ ce.locals := fun z => by rw [z, hBC] at k2; cases k2
  have TC : T ≠ ce.locals := fun z => by rw [z, hBC] at hnT; cases hnT
  refine ⟨m, ⟨oC, es, ep, k1 _ _ hBC, hdC, hsk, hnf⟩, fun h2 m2 _ sb => ?_⟩
  have k : ∀ b, b ≠ ce.locals → h2.get? b = h1.get? b := fun b hb => sb.2 b hb
  obtain ⟨B', b1, b2⟩ := restrict B fun b => decide (b ≠ ce.locals)
  obtain ⟨G, g1, g2⟩ := restrict sI.heap fun b => decide (b ≠ ce.locals)
  have kB : ∀ b, B.get? b = none → B'.get? b = none := fun b hb => by
    by_cases q : b = ce.locals
    · exact b2 b (by simp [q])
    · rw [b1 b (by simp [q])]; exact hb
  have ofB : ∀ b o, B'.get? b = some o → b ≠ ce.locals ∧ B.get? b = some o := fun b o q => by
    by_cases z : b = ce.locals
    · rw [b2 b (by simp [z])] at q; cases q
    · rw [b1 b (by simp [z])] at q; exact ⟨z, q⟩
  have ofG : ∀ b o, G.get? b = some o → b ≠ ce.locals ∧ sI.heap.get? b = some o := fun b o q => by
    by_cases z : b = ce.locals
    · rw [g2 b (by simp [z])] at q; cases q
    · rw [g1 b (by simp [z])] at q; exact ⟨z, q⟩
  have hh2 : HandSPX.HeldZ B' (X.env :: X.outer) a (Zc cls d) X.env.locals h2 := by
    refine ⟨fun b o q => ?_, kB a k2, funFrames_but k kB k3 (by rw [← hst]; exact frC), oe, vs, T, oT, ts, (k a aC).trans he, hz, hd, ht1, kB T hnT, hTe, (k T TC).trans hT, hdT, ht3⟩
    obtain ⟨z, q⟩ := ofB b o q
    rw [k b z]
    exact k1 b o q
  have hJC : H' ce.locals = none := J.free
  have I7 : Inv X pins σ H' sI := I3.call' (ch := fp) J.os J.base J.hok J.bare fun b hb => ⟨(f3 b hb).1.2.2.2.1, (f3 b hb).1.2.1, (f3 b hb).1.2.2.2.2.1, (f3 b hb).1.2.2.2.2.2⟩
  obtain ⟨f0, f1, f2, f3', f4, f5⟩ := I3.fpOk (H' := H') (b := ce.locals) (by rw [cL]; exact Nat.le_refl _) hJC
  have I8 : Inv X pins σ H' { sI with heap := G } := I7.turned (t' := sI.toks) (fun b o hb e => by rw [g1 b (by simp [hb])]; exact e) f0 f1 f3' f4 f5
  unfold PySem.passOn
  refine wpAny_bind (wpAny_field ((k a aC).trans he) hd ht1 ?_)
  rw [if_neg (show ¬ ((Value.ref T == Value.none) = true) from by simp)]
  have fin : wpAny (model X.prog X.w) X.A (setFlight (.ref a) ce.frame) (fun _ s4 => wpAny (model X.prog X.w) X.A (throw (.ref a) : Sem Value) (fun _ _ => False) X.xe s4) X.xe { s' with heap := h2 } := by
    rw [cF, hf]
    refine HandSPX.setFlight_onZ hh2 fun h4 hh4 up4 => wpAny_throw (tk _ _ ?_)
    refine ⟨a, B', { sI with heap := G }, pins, σ, H', cls, d, rfl, I8, fun b o q hb => ?_, fun b o q hd => ?_, .inr (.inr (by rw [hst]; exact hh4)), na, os, ag, w⟩
    · obtain ⟨z, q⟩ := ofG b o q
      rw [b1 b (by simp [z])]
      exact nb b o q hb
    · obtain ⟨z, q⟩ := ofG b o q
      obtain ⟨sl, q1⟩ := up b o q hd
      obtain ⟨sl1, q2⟩ := up1 b _ q1 hd
      obtain ⟨sl2, q3⟩ := up4 b _ ((k b z).trans q2) hd
      exact ⟨sl2, q3⟩
  first
    | exact wpAny_bind (wpAny_pure (wpAny_bind fin))
    | exact wpAny_bind fin
end
section
variable {X : Cx} {W : WX}
theorem Inv.toX {s s' : Shared} {H H' : Hp} {scope : Scope} {ce : PySem.Env} {fp : List Addr} {xe : Value → Shared → Prop} {σ : St} (I : Inv (X.blk s H scope ce fp) [] σ H' s') : Inv (blkX X s H scope ce fp xe) [] σ H' s' := I.toTry xe
theorem lc_coreX {pins : List (Addr × Obj)} {s : Shared} {σ : St} {H : Hp} {Q : VK} {elt tg iter : Expr} {ifs : List Expr} {scope : Scope} {own : List (Str × Nat)} {pos pos' : Pos} {wi : TI} {g : TG} {tt : WX → TT} {te : WX → TE} {use : Option (Value → Sem Unit)} {Qf : Value → Shared → Prop}
    (hc : X.calm = true) (hN : X.N.Nodup) (I : Inv X pins σ H s) (hi : PI X tg iter wi) (ok : BlkOk X.N X.env.scope scope own) (tk : Takes X W)
    (hst : (X.env.frame = some X.env.locals ∧ X.stack = X.env :: X.outer) ∨ ∀ c d σ H, ¬ W c d σ H)
    (hg : ∀ (s : Shared) (H : Hp) (C : Addr) (cl : List (Str × Addr)) (fp : List Addr) (xe : Value → Shared → Prop), PG (blkX X s H scope (compEnvC scope cl C X.env) fp xe) tg g)
    (ht : ∀ (s : Shared) (H : Hp) (C : Addr) (cl : List (Str × Addr)) (fp : List Addr) (xe : Value → Shared → Prop) (W' : WX), Takes (blkX X s H scope (compEnvC scope cl C X.env) fp xe) W' → PTs (blkX X s H scope (compEnvC scope cl C X.env) fp xe) ifs (tt W'))
    (he : ∀ (s : Shared) (H : Hp) (C : Addr) (cl : List (Str × Addr)) (fp : List Addr) (xe : Value → Shared → Prop) (W' : WX), Takes (blkX X s H scope (compEnvC scope cl C X.env) fp xe) W' → PE (blkX X s H scope (compEnvC scope cl C X.env) fp xe) elt (te W')) (hs : ∀ x, foldedSetIterable iter X.env x = pure x)
    (h : tLc wi g (tt (wOut W σ)) (te (wOut W σ)) (own.map (·.2)) σ H Q)
    (hRR : ∀ D (ce : PySem.Env) s' m H', Inv X pins σ H' s' → Q (.ref D) H' → s'.heap.Ns ce.locals m → FpOk X pins H' ce.locals → compEnds (model X.prog X.w) X.A X.xe use Qf (.ref D) ce (.ok .next) s') :
    wpAny (model X.prog X.w) X.A (comprehension (.ListComp elt [⟨tg, iter, ifs, 0⟩] scope pos) scope X.env pos' (newList []) false (eval iter X.env) use) Qf X.xe s := by
  have hfree : ∀ y ∈ scope.names, y.2 = .free → ∃ c, X.env.cells.lookup y.1 = some c := fun y hy e => by
    rcases ok.free y hy e with k | k
    · exact I.ok.has _ (.inl k)
    · exact I.ok.has _ (.inr k)
  refine comprehension_at (use := use) rfl hs (closure_ok hfree) ok.kind (fun y hy e => by rw [ok.uniq y hy, e])
    (thn (hi.run pins s σ H _ I h) fun xv s1 hx => thn hx fun itv s2 h2 => ?_)
  obtain ⟨it, fp, tn, J, H2, e, I2, T, st2, f2, q⟩ := h2
  subst e
  refine wpAny_newObj_type (newEnv_comp ?_) (by show 0 ≤ sizeLine; decide)
  generalize hD : s2.heap.objs.size = D
  have hDn : H2 D = none := I2.hok.fresh (Nat.le_of_eq hD)
  obtain ⟨Wm, ⟨m0, w0⟩, turn⟩ := q D hDn
  -- the new list
  generalize hs3 : ({ s2 with heap := s2.heap.push { cls := .type "list", data := .seq ([] : List Value).toArray } } : Shared) = s3
  have I3 : Inv X pins σ (upd H2 D (.lst [])) s3 := by
    rw [← hs3]
    refine I2.laid (t' := s2.toks) (fun b o e => Heap.get?_push_of_some _ e) (Nat.le_of_eq hD) ⟨Nat.zero_le _, [], 0, .nil, ?_⟩
    rw [← hD]
    exact Heap.get?_push_size _ rfl
  have h3 : s3.heap = s2.heap.push { cls := .type "list", data := .seq ([] : List Value).toArray } := by rw [← hs3]
  have sz : ∀ b ∈ fp, b < s2.heap.objs.size := fun b hb => by
    obtain ⟨o, e, _⟩ := T.obj _ _ st2 b hb
    exact Heap.lt_size e
  have f3 : ∀ b ∈ fp, FpOk X pins (upd H2 D (.lst [])) b ∧ b < s3.heap.objs.size := fun b hb => by
    have hlt := sz b hb
    refine ⟨⟨?_, (f2 b hb).2⟩, by rw [h3, Heap.size_push]; exact Nat.lt_succ_of_lt hlt⟩
    rw [upd_ne (by rw [← hD]; exact Nat.ne_of_lt hlt)]
    exact (f2 b hb).1
  have st3 : tn 0 s3.heap := T.keep _ _ _ st2 fun b _ o e => by rw [h3]; exact Heap.get?_push_of_some _ e
  have I4 := block_start I3 ok hN f3
  have pg := hg s3 (upd H2 D (.lst [])) s3.heap.objs.size (cellsFrom (s3.heap.objs.size + 1) scope.names (cloFrom X.env.cells scope.names [])) fp
  have pt := ht s3 (upd H2 D (.lst [])) s3.heap.objs.size (cellsFrom (s3.heap.objs.size + 1) scope.names (cloFrom X.env.cells scope.names [])) fp
  have pe := he s3 (upd H2 D (.lst [])) s3.heap.objs.size (cellsFrom (s3.heap.objs.size + 1) scope.names (cloFrom X.env.cells scope.names [])) fp
  show codeAny _ _ (.compStart (.ListComp elt [⟨tg, iter, ifs, 0⟩] scope pos) 0 (.ref it) (.ref D) (compEnvC scope (cellsFrom (s3.heap.objs.size + 1) scope.names (cloFrom X.env.cells scope.names [])) s3.heap.objs.size X.env)) (compEnds (model X.prog X.w) X.A X.xe use Qf (.ref D) (compEnvC scope (cellsFrom (s3.heap.objs.size + 1) scope.names (cloFrom X.env.cells scope.names [])) s3.heap.objs.size X.env)) { s3 with heap := pushCells (s3.heap.push { cls := .type "dict", data := .dict #[] }) scope.names }
  have nfp : ∀ b ∈ fp, (upd H2 D (.lst [])) b = none := fun b hb => (f3 b hb).1.1
  have cF : (compEnvC scope (cellsFrom (s3.heap.objs.size + 1) scope.names (cloFrom X.env.cells scope.names [])) s3.heap.objs.size X.env).frame = X.env.frame := rfl
  generalize hce : compEnvC scope (cellsFrom (s3.heap.objs.size + 1) scope.names (cloFrom X.env.cells scope.names [])) s3.heap.objs.size X.env = ce at I4 pg pt pe cF ⊢
  have cL : ce.locals = s3.heap.objs.size := by subst hce; rfl
  generalize hH3 : upd H2 D (.lst []) = H3 at I3 I4 pg pt pe w0 nfp f3
  have tkB := takes_blk (use := use) (Qf := Qf) (D := D) (scope := scope) (own := own) (ce := ce) (fp := fp) tk hst I3 f3 cL cF
  generalize hxe : (notedBy (model X.prog X.w) X.A ce fun e s' => compEnds (model X.prog X.w) X.A X.xe use Qf (.ref D) ce (.error e) s') = xe at tkB
  have pg := pg xe
  have pt := pt xe _ tkB
  have pe := pe xe _ tkB
  have I4 : Inv (blkX X s3 H3 scope ce fp xe) [] _ _ _ := Inv.toX I4
  generalize hs4 : ({ s3 with heap := pushCells (s3.heap.push { cls := .type "dict", data := .dict #[] }) scope.names } : Shared) = s4 at I4 ⊢
  have st4 : tn 0 s4.heap := T.keep _ _ _ st3 fun b _ o e => by rw [← hs4]; exact pushCells_keeps _ _ _ _ (Heap.get?_push_of_some _ e)
  have stat : ∀ {σ' : St} {H' : Hp} {s' : Shared}, Inv (blkX X s3 H3 scope ce fp xe) [] σ' H' s' → (∀ b ∈ fp, H' b = none) → ∀ b ∈ fp, FpOk (blkX X s3 H3 scope ce fp xe) [] H' b := fun {σ' H' s'} I' hn b hb =>
    ⟨hn b hb, (I'.ok.exf b hb).1, I'.ok.exfs b hb, .inl hb, fun x c e => (I'.ok.exf b hb).2 x c e, fun p hp => absurd (show p ∈ ([] : List (Addr × Obj)) ++ [] from hp) (by simp)⟩
  have loop : codeAny (model X.prog X.w) X.A (.compLoop (.ListComp elt [⟨tg, iter, ifs, 0⟩] scope pos) 0 (.ref it) (.ref D) ce) (compEnds (model X.prog X.w) X.A X.xe use Qf (.ref D) ce) s4 := by
    refine compLoop_any (fun n s' => ∃ i H', Inv (blkX X s3 H3 scope ce fp xe) [] (wipe σ (own.map (·.2))) H' s' ∧ tn i s'.heap ∧ (∀ b ∈ fp, H' b = none) ∧ Wm i n H') ?_ m0 ⟨0, H3, I4, st4, nfp, w0⟩
    rw [hxe]
    rintro n s5 ⟨i, H5, I5, st5, n5, w5⟩
    rcases turn i n H5 w5 with ⟨stop, qq⟩ | ⟨go, Nx, hNx, step⟩
    · have td := T.done (blkX X s3 H3 scope ce fp xe) rfl rfl rfl hc i [] s5 _ H5 (fun _ _ => False) I5 (stat I5 n5) st5 stop
      refine thnF td fun r s6 ⟨hr, I6⟩ => ?_
      subst hr
      -- back in the def's context
      have I7 : Inv X pins σ H5 s6 := I3.call' (ch := fp) I6.os I6.base I6.hok I6.bare fun b hb => ⟨(f3 b hb).1.2.2.2.1, (f3 b hb).1.2.1, (f3 b hb).1.2.2.2.2.1, (f3 b hb).1.2.2.2.2.2⟩
      have nC : H5 ce.locals = none := I6.free
      obtain ⟨m, hn, _⟩ := I6.loc
      have hn : s6.heap.Ns ce.locals m := hn
      exact hRR D ce s6 m H5 I7 qq hn (I3.fpOk (by rw [cL]; exact Nat.le_refl _) nC)
    · have ti := T.item (blkX X s3 H3 scope ce fp xe) rfl rfl rfl hc i [] s5 _ H5 (fun _ _ => False) I5 (stat I5 n5) st5 go
      refine thnF ti fun r s6 ⟨u, hr, h6⟩ => ?_
      subst hr
      refine thnF h6 fun _ s7 ⟨x, H7, I7, r7, y7, st7, n7⟩ => ?_
      have I7' := I7.pinned (stat I7 n7) (T.obj _ _ st7)
      refine thn (pg.run _ s7 _ H7 x u _ I7' r7 (step x H7 y7)) fun _ s8 ⟨σ8, H8, I8, hw8, q8⟩ => ?_
      refine thn (pt.run _ s8 σ8 H8 _ I8 q8) fun b s9 ⟨H9, I9, q9⟩ => ?_
      -- the turn's end
      have fin : ∀ {s' : Shared} {H' : Hp}, Inv (blkX X s3 H3 scope ce fp xe) ([] ++ pinsAt fp s7.heap) σ8 H' s' → Nx H' → ∃ m, m < n ∧ ∃ i H', Inv (blkX X s3 H3 scope ce fp xe) [] (wipe σ (own.map (·.2))) H' s' ∧ tn i s'.heap ∧ (∀ b ∈ fp, H' b = none) ∧ Wm i m H' := fun {s' H'} I' nx => by
        obtain ⟨m', hm, w'⟩ := hNx H' nx
        have pin' : ∀ b ∈ fp, ∀ o, s7.heap.get? b = some o → s'.heap.get? b = some o ∧ H' b = none := fun b hb o e =>
          let z := I'.pin (b, o) (List.mem_append_right _ (List.mem_append_right _ (mem_pinsAt hb e)))
          ⟨z.1, z.2.1⟩
        have hl : (wipe σ (own.map (·.2))).length = σ8.length := by rw [← hw8, wipe_length]
        refine ⟨m', hm, i + 1, H', (I'.unpinned (pins := [])).weak hl (fun j v e => ?_), T.keep _ _ _ st7 fun b hb o e => (pin' b hb o e).1, fun b hb => ?_, w'⟩
        · rw [← hw8] at e
          exact (wipe_some e).1
        · obtain ⟨o, e, _⟩ := T.obj _ _ st7 b hb
          exact (pin' b hb o e).2
      cases b with
      | false =>
        simp only [Bool.false_eq_true, if_false] at q9 ⊢
        exact fin I9 q9
      | true =>
        simp only [if_true] at q9 ⊢
        refine thn (pe.run _ s9 σ8 H9 _ I9 q9) fun z s10 ⟨yv, H10, I10, r10, acc, hD10, hz10, nx⟩ => ?_
        exact app_ok (X := blkX X s3 H3 scope ce fp xe) I10 hD10 hz10 r10 fun s11 I11 => fin I11 nx
  exact codeAny_compStart_list loop (T.self X.A 0 _ _ _ st4 loop)
end
section
variable {X : Cx} {W : WX}
/-- where an exception may go on from a block -/
def Outs (X : Cx) (W : WX) : Prop := (X.env.frame = some X.env.locals ∧ X.stack = X.env :: X.outer) ∨ ∀ c d σ H, ¬ W c d σ H
abbrev tLcX (W : WX) (wi : TI) (g : TG) (tt : WX → TT) (te : WX → TE) (vs : List Nat) : TE := fun σ H Q => tLc wi g (tt (wOut W σ)) (te (wOut W σ)) vs σ H Q
/-- as a value -/
theorem pe_lcX {elt tg iter : Expr} {ifs : List Expr} {scope : Scope} {own : List (Str × Nat)} {pos : Pos} {wi : TI} {g : TG} {tt : WX → TT} {te : WX → TE} (hc : X.calm = true) (hN : X.N.Nodup) (hi : PI X tg iter wi) (ok : BlkOk X.N X.env.scope scope own) (tk : Takes X W) (hst : Outs X W)
    (hg : ∀ (s : Shared) (H : Hp) (C : Addr) (cl : List (Str × Addr)) (fp : List Addr) (xe : Value → Shared → Prop), PG (blkX X s H scope (compEnvC scope cl C X.env) fp xe) tg g)
    (ht : ∀ (s : Shared) (H : Hp) (C : Addr) (cl : List (Str × Addr)) (fp : List Addr) (xe : Value → Shared → Prop) (W' : WX), Takes (blkX X s H scope (compEnvC scope cl C X.env) fp xe) W' → PTs (blkX X s H scope (compEnvC scope cl C X.env) fp xe) ifs (tt W'))
    (he : ∀ (s : Shared) (H : Hp) (C : Addr) (cl : List (Str × Addr)) (fp : List Addr) (xe : Value → Shared → Prop) (W' : WX), Takes (blkX X s H scope (compEnvC scope cl C X.env) fp xe) W' → PE (blkX X s H scope (compEnvC scope cl C X.env) fp xe) elt (te W')) (hs : ∀ x, foldedSetIterable iter X.env x = pure x := by intro _; rfl) :
    PE X (.ListComp elt [⟨tg, iter, ifs, 0⟩] scope pos) (tLcX W wi g tt te (own.map (·.2))) := by
  refine ⟨fun pins s σ H Q I h => ?_⟩
  rw [eval_ListComp]
  refine lc_coreX hc hN I hi ok tk hst hg ht he hs h fun D ce s' m H' I' q hn f => ⟨m, hn, fun h'' sb => ?_⟩
  obtain ⟨f0, f1, f2, f3, f4, f5⟩ := f
  exact ⟨.ref D, H', I'.turned (t' := s'.toks) (fun b o hb e => (sb.2 b hb).trans e) f0 f1 f3 f4 f5, rfl, q⟩
/-- name = [..] on one line, the name a local -/
theorem ps_setLcX {i : Nat} {y : Str} {py : Pos} {elt tg iter : Expr} {ifs : List Expr} {scope : Scope} {own : List (Str × Nat)} {pos spos : Pos} {wi : TI} {g : TG} {tt : WX → TT} {te : WX → TE} (hc : X.calm = true) (hN : X.N.Nodup) (hy : X.N[i]? = some y) (hyl : X.env.scope.names.lookup y = some .local)
    (hsw : swapsWith (.ListComp elt [⟨tg, iter, ifs, 0⟩] scope pos) (some (.Name y py)) spos.line X.env = pure true) (hi : PI X tg iter wi) (ok : BlkOk X.N X.env.scope scope own) (tk : Takes X W) (hst : Outs X W)
    (hg : ∀ (s : Shared) (H : Hp) (C : Addr) (cl : List (Str × Addr)) (fp : List Addr) (xe : Value → Shared → Prop), PG (blkX X s H scope (compEnvC scope cl C X.env) fp xe) tg g)
    (ht : ∀ (s : Shared) (H : Hp) (C : Addr) (cl : List (Str × Addr)) (fp : List Addr) (xe : Value → Shared → Prop) (W' : WX), Takes (blkX X s H scope (compEnvC scope cl C X.env) fp xe) W' → PTs (blkX X s H scope (compEnvC scope cl C X.env) fp xe) ifs (tt W'))
    (he : ∀ (s : Shared) (H : Hp) (C : Addr) (cl : List (Str × Addr)) (fp : List Addr) (xe : Value → Shared → Prop) (W' : WX), Takes (blkX X s H scope (compEnvC scope cl C X.env) fp xe) W' → PE (blkX X s H scope (compEnvC scope cl C X.env) fp xe) elt (te W')) (hs : ∀ x, foldedSetIterable iter X.env x = pure x := by intro _; rfl) :
    PS X (.Assign [.Name y py] (.ListComp elt [⟨tg, iter, ifs, 0⟩] scope pos) spos) (tAsg (tLcX W wi g tt te (own.map (·.2))) (gName i)) := by
  refine ⟨fun pins s σ H D I h => ?_⟩
  rw [exec_Assign_Name_used _ _ _ _ hsw]
  refine wpAny_bind (wpAny_standAt (wpAny_bind ?_))
  show wpAny _ X.A (do let _ ← comprehension (.ListComp elt [⟨tg, iter, ifs, 0⟩] scope pos) scope X.env (firstIterPos [⟨tg, iter, ifs, 0⟩] pos) (newList []) false (eval iter X.env) (some (assign (.Name y py) X.env))) _ _ s
  have h : tLcX W wi g tt te (own.map (·.2)) σ H (fun x H1 => gName i x σ H1 D.nx) := h
  refine wpAny_bind (thn (lc_coreX (Qf := fun _ s' => SP X pins D .next s') hc hN I hi ok tk hst hg ht he hs h fun L ce s' m H' I' q hn f => ?_) fun _ s' hq => wpAny_pure (wpAny_pure hq))
  show wpAny _ _ (assign (.Name y py) X.env (.ref L)) _ _ _
  refine wpAny_assign_Name (store_ok2 (v := V.ref L) I' hN hy (.inl hyl) rfl (fun s2 I2 ⟨a, sb, ha⟩ => ?_) (.inr hyl))
  obtain ⟨f0, f1, f2, f3, f4, f5⟩ := f
  have haC : ce.locals ≠ a := by
    rcases ha with z | z
    · rw [z]; exact f1
    · exact fun e => f4 y a z e.symm
  refine ⟨m, hn.sameBut sb haC, fun h3 sb3 => ?_⟩
  exact ⟨_, H', I2.turned (t' := s2.toks) (fun b o hb e => (sb3.2 b hb).trans e) f0 f1 f3 f4 f5, q⟩
end
end MP

set_option Elab.async false
set_option linter.all false
set_option maxRecDepth 100000
set_option maxHeartbeats 8000000
set_option autoImplicit false
/-! MPD: the syntax held against the language; each expression comes to what the evaluator tells. -/
namespace MP
open PySem L2
open PyProof.Rows hiding St

/-! ### the look at the syntax -/
/-- one parameter, no name of its own beside: captured ones and globals -/
structure LamP (sc scope : Scope) (p : Str) : Prop where
  kind : scope.kind = .function
  co : scope.isCoroutine = false
  gen : scope.isGenerator = false
  par : scope.names.lookup p = some .local
  own : ∀ y ∈ scope.names, y.2 ≠ .cell ∧ (y.2 = .local → y.1 = p)
  free : ∀ y ∈ scope.names, y.2 = .free → sc.names.lookup y.1 = some .cell ∨ sc.names.lookup y.1 = some .free
def lamPB (sc scope : Scope) (p : Str) : Bool :=
  decide (scope.kind = .function) && !scope.isCoroutine && !scope.isGenerator && decide (scope.names.lookup p = some .local) && scope.names.all fun y => !decide (y.2 = .cell) && (!decide (y.2 = .local) || decide (y.1 = p)) && (!decide (y.2 = .free) || decide (sc.names.lookup y.1 = some .cell) || decide (sc.names.lookup y.1 = some .free))
theorem lamP_by {sc scope : Scope} {p : Str} (h : lamPB sc scope p = true) : LamP sc scope p := by
  unfold lamPB at h
  simp only [Bool.and_eq_true, Bool.or_eq_true, Bool.not_eq_true', decide_eq_true_eq, decide_eq_false_iff_not, List.all_eq_true] at h
  obtain ⟨⟨⟨⟨h1, h2⟩, h3⟩, hp⟩, h4⟩ := h
  refine ⟨h1, h2, h3, hp, fun y hy => ⟨(h4 y hy).1.1, fun e => ?_⟩, fun y hy e => ?_⟩
  · rcases (h4 y hy).1.2 with z | z
    · exact absurd e z
    · exact z
  · rcases (h4 y hy).2 with (z | z) | z
    · exact absurd e z
    · exact .inl z
    · exact .inr z
def vis (sc : Scope) (x : Str) : Bool := match sc.names.lookup x with
  | some .local => true
  | some .cell => true
  | some .free => true
  | _ => false
def isOwn (sc : Scope) (x : Str) : Bool := match sc.names.lookup x with
  | some .local => true
  | some .cell => true
  | _ => false
def isGl (sc : Scope) (x : Str) : Bool := match sc.names.lookup x with
  | some .globalImplicit => true
  | _ => false
def okName (x : Str) : Bool := !(x == ("__debug__" : Str)) && !(x == ("__classdict__" : Str)) && !(x == ("__name__" : Str))
def shp : Expr → Bool
  | .Starred _ _ => false
  | .Set _ _ _ => false
  | .Slice _ _ _ _ => false
  | _ => true
def noSuper : Expr → Bool
  | .Call _ [] _ _ => false
  | _ => true
/-- a call of a global name with arguments -/
def chkF (sc : Scope) (nm : String) (x : Str) : Bool := decide (x = Str.ofString nm) && isGl sc x && okName x
def nmCl : Cl → String
  | .int => "int"
  | .bool => "bool"
  | .str => "str"
  | .tuple => "tuple"
  | .list => "list"
  | .valueError => "ValueError"
  | .exc nm _ => nm
  | .flt nm => nm
  | .obj nm _ => nm
  | .way nm => nm
def f1ok : F1 → Bool
  | .len => true
  | .abs => true
  | .int => true
  | .list => true
  | .sum => true
  | .max => true
  | .min => true
  | .str => true
  | .sorted => true
  | _ => false
def nmF2 : F2 → String
  | .max => "max"
  | .min => "min"
  | .divmod => "divmod"
def clx : Cl → Bool
  | .exc _ _ => true
  | .valueError => true
  | _ => false
def clok : Cl → Bool
  | .flt _ => false
  | _ => true
def nmTM : TM → Str
  | .startswith => "startswith"
  | .zfill => "zfill"
  | .rstrip => "rstrip"
  | .partition => "partition"
  | .split => "split"
  | .join => "join"
  | .index => "index"
/-- a block's names taken apart -/
def chkTg (N : List Str) (scope : Scope) : List Nat → List Expr → Bool
  | [], [] => true
  | i :: is, .Name x _ :: es => decide (N[i]? = some x) && isOwn scope x && chkTg N scope is es
  | _, _ => false
def tgN : List Expr → List Str
  | .Name x _ :: es => x :: tgN es
  | _ => []
def noComp : Expr → Bool
  | .ListComp _ _ _ _ => false
  | .SetComp _ _ _ _ => false
  | .DictComp _ _ _ _ _ => false
  | _ => true
def lenEs : Es → Nat
  | .nil => 0
  | .cons _ r => lenEs r + 1
mutual
def chkE (N : List Str) (sc : Scope) : E → Expr → Bool
  | .var i, e => match e with
    | .Name x _ => decide (N[i]? = some x) && vis sc x && okName x
    | _ => false
  | .int i, e => match e with
    | .Constant (.int j) _ _ => decide (i = j)
    | _ => false
  | .bl b, e => match e with
    | .Constant (.bool c) _ _ => decide (b = c)
    | _ => false
  | .non, e => match e with
    | .Constant .none _ _ => true
    | _ => false
  | .dic, e => match e with
    | .Dict [] [] _ => true
    | _ => false
  | .str l, e => match e with
    | .Constant (.str x) _ _ => decide (x.cps.toList = l)
    | _ => false
  | .glo nm _, e => match e with
    | .Name x _ => chkF sc nm x
    | _ => false
  | .bin o a b, e => match e with
    | .BinOp l op r _ => decide (op = opB o) && chkE N sc a l && chkE N sc b r
    | _ => false
  | .neg a, e => match e with
    | .UnaryOp .USub l _ => chkE N sc a l
    | _ => false
  | .cmp o a b, e => match e with
    | .Compare l [op] [r] _ => decide (op = opC o) && chkE N sc a l && chkE N sc b r && shp r
    | _ => false
  | .chn o p a b c, e => match e with
    | .Compare l [op, op'] [r, r'] _ => decide (op = opC o) && decide (op' = opC p) && chkE N sc a l && chkE N sc b r && chkE N sc c r' && shp r'
    | _ => false
  | .chn3 o p q a b c d, e => match e with
    | .Compare l [op, op', op2] [r, r', r2] _ => decide (op = opC o) && decide (op' = opC p) && decide (op2 = opC q) && chkE N sc a l && chkE N sc b r && chkE N sc c r' && chkE N sc d r2 && shp r2
    | _ => false
  | .and a b, e => match e with
    | .BoolOp .And (x :: y :: []) _ => chkE N sc a x && chkE N sc b y
    | .BoolOp .And (x :: y :: z :: r) pos => chkE N sc a x && chkE N sc b (.BoolOp .And (y :: z :: r) pos)
    | _ => false
  | .or a b, e => match e with
    | .BoolOp .Or (x :: y :: []) _ => chkE N sc a x && chkE N sc b y
    | .BoolOp .Or (x :: y :: z :: r) pos => chkE N sc a x && chkE N sc b (.BoolOp .Or (y :: z :: r) pos)
    | _ => false
  | .not a, e => match e with
    | .UnaryOp .Not x _ => chkE N sc a x
    | _ => false
  | .tup es, e => match e with
    | .Tuple xs _ _ => chkEs N sc es xs && decide (lenEs es ≤ 1000)
    | _ => false
  | .lst es, e => match e with
    | .List xs _ => chkEs N sc es xs && decide (lenEs es ≤ 1000)
    | _ => false
  | .ix a b, e => match e with
    | .Subscript x y _ => chkE N sc a x && chkE N sc b y && shp y
    | _ => false
  | .slcL a lo, e => match e with
    | .Subscript x (.Slice (some l) none none _) _ => chkE N sc a x && chkE N sc lo l
    | _ => false
  | .slcH a hi, e => match e with
    | .Subscript x (.Slice none (some h) none _) _ => chkE N sc a x && chkE N sc hi h
    | _ => false
  | .slc a lo hi, e => match e with
    | .Subscript x (.Slice (some l) (some h) none _) _ => chkE N sc a x && chkE N sc lo l && chkE N sc hi h
    | _ => false
  | .call nm _ es _, e => match e with
    | .Call (.Name x _) (y :: ys) [] _ => chkF sc nm x && chkEs N sc es (y :: ys)
    | _ => false
  | .callF nm _ es _, e => match e with
    | .Call (.Name x _) (y :: ys) [] _ => chkF sc nm x && chkEs N sc es (y :: ys)
    | _ => false
  | .lend _ a, e => noComp e && chkE N sc a e
  | .f1 f a, e => match e with
    | .Call (.Name x _) [y] [] _ => f1ok f && chkF sc (nmF1 f) x && chkE N sc a y && shp y
    | _ => false
  | .f2 f a b, e => match e with
    | .Call (.Name x _) [y, z] [] _ => chkF sc (nmF2 f) x && chkE N sc a y && chkE N sc b z && shp y && shp z
    | _ => false
  | .m0 m a, e => match e with
    | .Call (.Attribute x n apos) [] [] pos => (match m with
      | .bits => decide (n = ("bit_length" : Str))
      | .upper => decide (n = ("upper" : Str))) && chkE N sc a x && noSuper x && (apos.endLine == pos.line)
    | _ => false
  | .tm m a b, e => match e with
    | .Call (.Attribute x n apos) [y] [] pos => decide (n = nmTM m) && chkE N sc a x && chkE N sc b y && noSuper x && shp y && (apos.endLine == pos.line)
    | _ => false
  | .mk nm _, e => match e with
    | .Call (.Name x _) [] [] _ => chkF sc nm x
    | _ => false
  | .meth m _ a es, e => match e with
    | .Call (.Attribute x n apos) (y :: ys) [] pos => decide (n = Str.ofString m) && chkE N sc a x && noSuper x && chkEs N sc es (y :: ys) && (apos.endLine == pos.line) && decide ((y :: ys).length < 30)
    | _ => false
  | .isi a c, e => match e with
    | .Call (.Name x _) [y, .Name z _] [] _ => clok c && chkF sc "isinstance" x && chkF sc (nmCl c) z && chkE N sc a y && shp y
    | _ => false
  | .lcP i j el src, e => match e with
    | .ListComp elt [⟨.Tuple [.Name x _, .Name y _] _ _, iter, [], 0⟩] scope _ => decide (N[i]? = some x) && decide (N[j]? = some y) && decide (i ≠ j) && isOwn scope x && isOwn scope y && blkC N sc scope [(x, i), (y, j)] && chkE N (relS scope sc) el elt && chkSrcT N sc src iter && shp iter
    | _ => false
  | .jrv a b, e => match e with
    | .Call (.Attribute o n apos) [.Call (.Name y _) [z] [] _] [] pos => decide (n = ("join" : Str)) && chkF sc "reversed" y && chkE N sc a o && chkE N sc b z && noSuper o && shp z && (apos.endLine == pos.line)
    | _ => false
  | .lsR p l q t c, e => match e with
    | .List [.BinOp (.BinOp ep .Add (.Constant (.str s) _ _) _) .Add eq _, .Call (.Attribute o n apos) [.Constant (.str y) _ _, .Constant (.str z) _ _, .Constant (.int 1) _ _] [] pos, ec] _ => decide (n = ("replace" : Str)) && decide (s.cps.toList = l) && decide (y.cps.toList = [32]) && decide (z.cps.toList = []) && chkE N sc p ep && chkE N sc q eq && chkE N sc t o && noSuper o && chkE N sc c ec && shp ec && (apos.endLine == pos.line)
    | _ => false
  | .srtK p k a, e => match e with
    | .Call (.Name x _) [y] [⟨some kw, .Lambda ⟨[], [⟨z, none, _⟩], none, [], [], none, []⟩ body scope _, _⟩] _ => chkF sc "sorted" x && decide (kw = Str.ofString "key") && chkE N sc a y && shp y && decide (N[p]? = some z) && lamPB sc scope z && chkE N scope k body
    | _ => false
  | .lrev a, e => match e with
    | .Call (.Name x _) [.Call (.Name y _) [z] [] _] [] _ => chkF sc "list" x && chkF sc "reversed" y && chkE N sc a z && shp z
    | _ => false
  | .lcX i el src, e => match e with
    | .ListComp elt [⟨.Name y _, iter, [], 0⟩] scope _ => decide (N[i]? = some y) && isOwn scope y && blkC N sc scope [(y, i)] && chkE N (relS scope sc) el elt && chkSrc N sc src iter && shp iter
    | _ => false
  | .lcXT is el src, e => match e with
    | .ListComp elt [⟨.Tuple ts _ _, iter, [], 0⟩] scope _ => chkTg N scope is ts && blkC N sc scope ((tgN ts).zip is) && chkE N (relS scope sc) el elt && chkSrcT N sc src iter && shp iter
    | _ => false
  | .lcXF i el src cond, e => match e with
    | .ListComp elt [⟨.Name y _, iter, [c], 0⟩] scope _ => decide (N[i]? = some y) && isOwn scope y && blkC N sc scope [(y, i)] && chkE N (relS scope sc) el elt && chkSrc N sc src iter && shp iter && chkE N (relS scope sc) cond c
    | _ => false
  | .lcXC is el src cond, e => match e with
    | .ListComp elt [⟨.Tuple ts _ _, iter, [c], 0⟩] scope _ => chkTg N scope is ts && blkC N sc scope ((tgN ts).zip is) && chkE N (relS scope sc) el elt && chkSrcT N sc src iter && shp iter && chkE N (relS scope sc) cond c
    | _ => false
  | .lc i el src, e => match e with
    | .ListComp elt [⟨.Name y _, iter, [], 0⟩] scope _ => decide (N[i]? = some y) && isOwn scope y && blkC N sc scope [(y, i)] && chkE N (relS scope sc) el elt && chkSrc N sc src iter && shp iter
    | _ => false
  | .lcf i el src cond, e => match e with
    | .ListComp elt [⟨.Name y _, iter, [c], 0⟩] scope _ => decide (N[i]? = some y) && isOwn scope y && blkC N sc scope [(y, i)] && chkE N (relS scope sc) el elt && chkSrc N sc src iter && shp iter && chkE N (relS scope sc) cond c
    | _ => false
  | .oix i b, e => match e with
    | .Subscript (.Name x _) y _ => decide (N[i]? = some x) && vis sc x && okName x && chkE N sc b y && shp y
    | _ => false
  | .onz i, e => match e with
    | .Compare (.Name x _) [.NotEq] [.List [] _] _ => decide (N[i]? = some x) && vis sc x && okName x
    | _ => false
  | .olen i, e => match e with
    | .Call (.Name f _) [.Name x _] [] _ => chkF sc "len" f && decide (N[i]? = some x) && vis sc x && okName x
    | _ => false
  | _, _ => false
def chkEs (N : List Str) (sc : Scope) : Es → List Expr → Bool
  | .nil, es => match es with
    | [] => true
    | _ => false
  | .cons a r, es => match es with
    | x :: xs => chkE N sc a x && shp x && chkEs N sc r xs
    | _ => false
def chkSrcT (N : List Str) (sc : Scope) : Src → Expr → Bool
  | .zip a b, e => match e with
    | .Call (.Name x _) [y, z] [] _ => chkF sc "zip" x && chkE N sc a y && chkE N sc b z && shp y && shp z
    | _ => false
  | .e a, e => chkE N sc a e
  | .rng1 a, e => match e with
    | .Call (.Name x _) [y] [] _ => chkF sc "range" x && chkE N sc a y && shp y
    | _ => false
  | _, _ => false
def chkSrc (N : List Str) (sc : Scope) : Src → Expr → Bool
  | .e a, e => chkE N sc a e
  | .rng1 a, e => match e with
    | .Call (.Name x _) [y] [] _ => chkF sc "range" x && chkE N sc a y && shp y
    | _ => false
  | .rng2 a b, e => match e with
    | .Call (.Name x _) [y, z] [] _ => chkF sc "range" x && chkE N sc a y && chkE N sc b z && shp y && shp z
    | _ => false
  | .rng3 a b c, e => match e with
    | .Call (.Name x _) [y, z, w] [] _ => chkF sc "range" x && chkE N sc a y && chkE N sc b z && chkE N sc c w && shp y && shp z && shp w
    | _ => false
  | _, _ => false
end

/-! ### what a text leans on -/
inductive Need where
  | fn (nm : String) (f : List D → R D) (df : List D)
  | fnF (nm : String) (f : List D → R D) (df : List D)
  | fnL (nm : String) (f : List D → R D) (df : List D)
  | outs
  | lam
  | exc (nm : String) (c : Nat)
  | blt (nm : String)
  | glo (nm : String) (d : D)
  | flt (nm : String)
  | cls (nm : String) (c : Nat)
  | meth (m : String) (tbl : Nat → List D → R D)
  | iso (nm : String) (c : Nat)
  | isw (nm : String)
def clNeed (Φ : Need → Prop) : Cl → Prop
  | .exc nm d => Φ (.exc nm d)
  | .obj nm d => Φ (.iso nm d)
  | .way nm => Φ (.isw nm)
  | c => Φ (.blt (nmCl c))
/-- within a block -/
def inB (Φ : Need → Prop) : Need → Prop
  | .outs => False
  | .lam => False
  | n => Φ n
/-- within a lambda -/
def inL (Φ : Need → Prop) : Need → Prop
  | .fn nm f df => Φ (.fnL nm f df)
  | .fnF _ _ _ => False
  | .fnL _ _ _ => False
  | .meth _ _ => False
  | .outs => False
  | .lam => False
  | n => Φ n
section
variable {Φ : Need → Prop}
theorem inB_fn {a : String} {b : List D → R D} {c : List D} : inB Φ (.fn a b c) = Φ (.fn a b c) := rfl
theorem inB_fnF {a : String} {b : List D → R D} {c : List D} : inB Φ (.fnF a b c) = Φ (.fnF a b c) := rfl
theorem inB_fnL {a : String} {b : List D → R D} {c : List D} : inB Φ (.fnL a b c) = Φ (.fnL a b c) := rfl
theorem inL_fn {a : String} {b : List D → R D} {c : List D} : inL Φ (.fn a b c) = Φ (.fnL a b c) := rfl
theorem inL_blt {a : String} : inL Φ (.blt a) = Φ (.blt a) := rfl
theorem inL_glo {a : String} {d : D} : inL Φ (.glo a d) = Φ (.glo a d) := rfl
theorem inB_exc {a : String} {c : Nat} : inB Φ (.exc a c) = Φ (.exc a c) := rfl
theorem inB_blt {a : String} : inB Φ (.blt a) = Φ (.blt a) := rfl
theorem inB_glo {a : String} {d : D} : inB Φ (.glo a d) = Φ (.glo a d) := rfl
theorem inB_flt {a : String} : inB Φ (.flt a) = Φ (.flt a) := rfl
theorem inB_cls {a : String} {c : Nat} : inB Φ (.cls a c) = Φ (.cls a c) := rfl
theorem inB_meth {a : String} {b : Nat → List D → R D} : inB Φ (.meth a b) = Φ (.meth a b) := rfl
theorem inB_iso {a : String} {c : Nat} : inB Φ (.iso a c) = Φ (.iso a c) := rfl
theorem inB_isw {a : String} : inB Φ (.isw a) = Φ (.isw a) := rfl
end
mutual
def okE (Φ : Need → Prop) : E → Prop
  | .glo nm d => Φ (.glo nm d)
  | .bin _ a b => okE Φ a ∧ okE Φ b
  | .neg a => okE Φ a
  | .cmp _ a b => okE Φ a ∧ okE Φ b
  | .chn _ _ a b c => okE Φ a ∧ okE Φ b ∧ okE Φ c
  | .chn3 _ _ _ a b c d => okE Φ a ∧ okE Φ b ∧ okE Φ c ∧ okE Φ d
  | .and a b => okE Φ a ∧ okE Φ b
  | .or a b => okE Φ a ∧ okE Φ b
  | .not a => okE Φ a
  | .tup es => okEs Φ es
  | .lst es => okEs Φ es
  | .ix a b => okE Φ a ∧ okE Φ b
  | .slcL a b => okE Φ a ∧ okE Φ b
  | .slcH a b => okE Φ a ∧ okE Φ b
  | .slc a b c => okE Φ a ∧ okE Φ b ∧ okE Φ c
  | .call nm f es df => Φ (.fn nm f df) ∧ okEs Φ es
  | .callF nm f es df => Φ (.fnF nm f df) ∧ okEs Φ es
  | .lend _ a => okE Φ a
  | .f1 f a => Φ (.blt (nmF1 f)) ∧ okE Φ a
  | .f2 f a b => Φ (.blt (nmF2 f)) ∧ okE Φ a ∧ okE Φ b
  | .m0 _ a => okE Φ a
  | .tm _ a b => okE Φ a ∧ okE Φ b
  | .mk nm c => Φ (.cls nm c)
  | .meth m tbl a es => Φ (.meth m tbl) ∧ okE Φ a ∧ okEs Φ es
  | .isi a c => Φ (.blt "isinstance") ∧ clNeed Φ c ∧ okE Φ a
  | .lc _ el src => okE (inB Φ) el ∧ okSrc Φ src
  | .lcP _ _ el src => okE (inB Φ) el ∧ okSrc Φ src
  | .lcX _ el src => okE (inB Φ) el ∧ okSrc Φ src ∧ Φ .outs
  | .lcXT _ el src => okE (inB Φ) el ∧ okSrc Φ src ∧ Φ .outs
  | .lcXC _ el src c => okE (inB Φ) el ∧ okSrc Φ src ∧ okE (inB Φ) c ∧ Φ .outs
  | .lcXF _ el src c => okE (inB Φ) el ∧ okSrc Φ src ∧ okE (inB Φ) c ∧ Φ .outs
  | .srtK _ k a => Φ (.blt "sorted") ∧ Φ .lam ∧ okE (inL Φ) k ∧ okE Φ a
  | .lrev a => Φ (.blt "list") ∧ Φ (.blt "reversed") ∧ okE Φ a
  | .jrv a b => Φ (.blt "reversed") ∧ okE Φ a ∧ okE Φ b
  | .lsR p _ q t c => okE Φ p ∧ okE Φ q ∧ okE Φ t ∧ okE Φ c
  | .lcf _ el src c => okE (inB Φ) el ∧ okSrc Φ src ∧ okE (inB Φ) c
  | .oix _ b => okE Φ b
  | .olen _ => Φ (.blt "len")
  | _ => True
def okEs (Φ : Need → Prop) : Es → Prop
  | .nil => True
  | .cons a r => okE Φ a ∧ okEs Φ r
def okSrc (Φ : Need → Prop) : Src → Prop
  | .e a => okE Φ a
  | .rng1 a => Φ (.blt "range") ∧ okE Φ a
  | .rng2 a b => Φ (.blt "range") ∧ okE Φ a ∧ okE Φ b
  | .rng3 a b c => Φ (.blt "range") ∧ okE Φ a ∧ okE Φ b ∧ okE Φ c
  | .zip a b => Φ (.blt "zip") ∧ okE Φ a ∧ okE Φ b
end
/-- the promise of a def that comes to f -/
def spF (T : Tab) (f : List D → R D) : Sp := fun vs H Q E => ∃ O ds, Lv T O H ∧ DVs T (hide O H) ds vs ∧ (match f ds with
  | .ok d => ∀ v H', Ex H H' → DV T (hide O H') d v → Q v H'
  | .ex c => ∀ H', Ex H H' → c ∈ T.exs → E (.ref (T.exc c)) none H'
  | .no => False)
/-- the promise of a def that comes to f and tells a list of its own making -/
def spN (T : Tab) (f : List D → R D) : Sp := fun vs H Q E => ∃ O ds, Lv T O H ∧ DVs T (hide O H) ds vs ∧ (match f ds with
  | .ok (.lst xs) => ∀ a us H', Ex H H' → H a = none → H' a = some (.lst us) → DVs T (hide (a :: O) H') xs us → Q (.ref a) H'
  | .ok _ => False
  | .ex c => ∀ H', Ex H H' → c ∈ T.exs → E (.ref (T.exc c)) none H'
  | .no => False)
/-- what a class without __init__ must have to be made -/
structure Mk0 (K : PySem.W.Frag) (C : Addr) : Prop where
  makes : PySem.W.makesIn K C = true
  init : PySem.W.findIn K (.ref C) "__init__" = some (some (.builtin "object.__init__"))
  top : PySem.W.mroIn K C (.type "object") = some true
  kp : PySem.W.keepIn K (.ref C) = true
def Holds (X : Cx) (T : Tab) : Need → Prop
  | .cls nm c => X.mg (Str.ofString nm) = some (.ref (T.obj c)) ∧ c ∈ T.objs ∧ Mk0 X.K (T.obj c)
  | .meth m tbl => ∀ c ∈ T.objs, ∃ k f fd ps, Room k X.A ∧ Cls X.K (T.obj c) ∧ Meth X.K (T.obj c) (Str.ofString m) f ∧ FnOk X.prog X.w X.K X.mg X.base (L2.CX X.prog X.w) k f fd ps (spF T (tbl c)) ∧ Binds X.K fd ps []
  | .fn nm f df => ∃ k fa fd ps dvs ds, Room k X.A ∧ X.mg (Str.ofString nm) = some (.ref fa) ∧ PySem.W.keepIn X.K (.ref fa) = true ∧ FnOk X.prog X.w X.K X.mg X.base (L2.CX X.prog X.w) k fa fd ps (spF T f) ∧ Binds X.K fd ps ds ∧ Vals dvs ds ∧ ∀ H, DVs T H df dvs
  | .fnF nm f df => ∃ k fa fd ps dvs ds, Room k X.A ∧ X.mg (Str.ofString nm) = some (.ref fa) ∧ PySem.W.keepIn X.K (.ref fa) = true ∧ FnOk X.prog X.w X.K X.mg X.base (L2.CX X.prog X.w) k fa fd ps (spN T f) ∧ Binds X.K fd ps ds ∧ Vals dvs ds ∧ ∀ H, DVs T H df dvs
  | .fnL nm f df => ∃ k fa fd ps dvs ds, Room (k + 3) X.A ∧ X.mg (Str.ofString nm) = some (.ref fa) ∧ PySem.W.keepIn X.K (.ref fa) = true ∧ FnOk X.prog X.w X.K X.mg X.base (L2.CX X.prog X.w) k fa fd ps (spF T f) ∧ Binds X.K fd ps ds ∧ Vals dvs ds ∧ ∀ H, DVs T H df dvs
  | .lam => ∃ c P, X.env.code = .ref c ∧ LamX.TabB X.base X.mg c P ∧ P ∈ T.tab ∧ X.env.qual ++ "<lambda>" = qL ∧ Room 3 X.A
  | .outs => X.env.frame = some X.env.locals ∧ X.stack = X.env :: X.outer
  | .exc nm c => X.mg (Str.ofString nm) = some (.ref (T.exc c)) ∧ c ∈ T.exs
  | .blt nm => X.mg (Str.ofString nm) = none
  | .flt nm => X.mg (Str.ofString nm) = some (.ref T.flt)
  | .iso nm c => X.mg (Str.ofString nm) = some (.ref (T.obj c)) ∧ ∀ e ∈ T.objs, IsoC X.K (T.obj e) ∧ PySem.W.kitOne X.K (.ref (T.obj e)) (.ref (T.obj c)) = some (e == c)
  | .isw nm => ∃ aw, X.mg (Str.ofString nm) = some (.ref aw) ∧ ∀ e ∈ T.objs, IsoC X.K (T.obj e) ∧ PySem.W.kitOne X.K (.ref (T.obj e)) (.ref aw) = some true
  | .glo nm d => ∃ v u, X.mg (Str.ofString nm) = some u ∧ RelV v u ∧ ∀ H, DV T H d v

/-! ### small facts of the syntax -/
section
variable {X : Cx} {sc : Scope}
theorem vis_ok {x : Str} (hs : X.env.scope = sc) (h : vis sc x = true) : Vis X.env.scope x := by
  rw [hs]
  unfold vis at h
  split at h
  · exact .inl (by assumption)
  · exact .inr (.inl (by assumption))
  · exact .inr (.inr (by assumption))
  · cases h
theorem gl_ok {x : Str} (hs : X.env.scope = sc) (h : isGl sc x = true) : Gl X x := by
  show X.env.scope.names.lookup x = some .globalImplicit
  rw [hs]
  unfold isGl at h
  split at h
  · assumption
  · cases h
theorem okName_1 {x : Str} (h : okName x = true) : (x == ("__debug__" : Str)) = false := by
  unfold okName at h
  simp only [Bool.and_eq_true, Bool.not_eq_true'] at h
  exact h.1.1
theorem okName_2 {x : Str} (h : okName x = true) : (x == ("__classdict__" : Str)) = false := by
  unfold okName at h
  simp only [Bool.and_eq_true, Bool.not_eq_true'] at h
  exact h.1.2
theorem okName_3 {x : Str} (h : okName x = true) : x ≠ ("__name__" : Str) := by
  unfold okName at h
  simp only [Bool.and_eq_true, Bool.not_eq_true'] at h
  exact fun z => by rw [z] at h; exact absurd h.2 (by simp)
structure FOk (X : Cx) (nm : String) (x : Str) : Prop where
  eq : x = Str.ofString nm
  gl : Gl X x
  n1 : (x == ("__debug__" : Str)) = false
  n3 : x ≠ ("__name__" : Str)
theorem chkF_ok {x : Str} {nm : String} (hs : X.env.scope = sc) (h : chkF sc nm x = true) : FOk X nm x := by
  unfold chkF at h
  simp only [Bool.and_eq_true, decide_eq_true_eq] at h
  exact ⟨h.1.1, gl_ok hs h.1.2, okName_1 h.2, okName_3 h.2⟩
theorem shp_star {e : Expr} {es : List Expr} {env : PySem.Env} (h : shp e = true) : starEach (e :: es) env = (false, eval e env) :: starEach es env := by
  cases e <;> first | rfl | (cases h)
theorem shp_mark {e : Expr} {op : CmpOp} (h : shp e = true) : behindInMarks op e = false := by
  cases e <;> first | rfl | (cases h)
theorem shp_ix {e : Expr} (h : shp e = true) : PlainIx e := by
  intro o i
  cases e <;> first | rfl | (cases h)
theorem shp_fold {e : Expr} {env : PySem.Env} (h : shp e = true) (x : Value) : foldedSetIterable e env x = pure x := by
  cases e <;> first | rfl | (cases h)
theorem super_ok {e : Expr} {n : Str} {env : PySem.Env} {w : Sem Value} (h : noSuper e = true) : attributeBase e n env w = w := by
  cases e with
  | Call f as ks p =>
    cases as with
    | nil => cases h
    | cons a as => cases f <;> rfl
  | _ => rfl
def allShp : List Expr → Bool
  | [] => true
  | e :: es => shp e && allShp es
theorem star_plain {pos : Pos} {env : PySem.Env} : ∀ {es : List Expr}, allShp es = true → (backTo pos (starEach es env)).any (·.1) = false := by
  intro es h
  have : ∀ {es : List Expr}, allShp es = true → ∀ p ∈ starEach es env, p.1 = false := by
    intro es
    induction es with
    | nil => intro _ p hp; cases hp
    | cons e es ih =>
      intro h p hp
      unfold allShp at h
      rw [Bool.and_eq_true] at h
      rw [shp_star h.1] at hp
      rcases List.mem_cons.mp hp with rfl | hp
      · rfl
      · exact ih h.2 p hp
  have k := this h
  unfold backTo
  rw [List.any_map, List.any_eq_false]
  intro p hp
  simp [k p hp]
end
end MP

set_option Elab.async false
set_option linter.all false
set_option maxRecDepth 100000
set_option maxHeartbeats 8000000
set_option autoImplicit false
/-! MPE: expressions come to what the evaluator tells. -/
namespace MP
open PySem L2
open PyProof.Rows hiding St

section
variable {X : Cx} {T : Tab} {W : WX} {O : List Addr} {σ : St} {ρ : Env} {H : Hp}
theorem PoE.v {Q : VK} {r : R D} (p : PoE T W O σ H Q r) (n : ∀ c, r ≠ .ex c) : PoV T O H Q r := by
  cases r with
  | ok d => exact p
  | ex c => exact absurd rfl (n c)
  | no => exact p
theorem PoE.b {Q : VK} {r : R Bool} (p : PoE T W O σ H Q (r.bind fun b => .ok (.bl b))) (n : ∀ c, r ≠ .ex c) : PoB H (fun b => Q (.bl b) H) r := by
  cases r with
  | ok d => exact p _ H (Ex.refl H) (.bl d)
  | ex c => exact absurd rfl (n c)
  | no => exact p
theorem PoT.b {Q : Bool → Hp → Prop} {r : R Bool} (p : PoT T W σ H Q r) (n : ∀ c, r ≠ .ex c) : PoB H (fun b => Q b H) r := by
  cases r with
  | ok d => exact p H (Ex.refl H)
  | ex c => exact absurd rfl (n c)
  | no => exact p
theorem PoB.imp {Q Q' : Bool → Prop} {r : R Bool} (p : PoB H Q r) (h : ∀ b, Q b → Q' b) : PoB H Q' r := by
  cases r with
  | ok b => exact h b p
  | ex c => exact p
  | no => exact p
/-! ### operations raise nothing -/
theorem binD_nex : ∀ (o : BOp) (x y : D) (c : Nat), binD o x y ≠ .ex c := by
  intro o x y c
  cases o <;> cases x <;> cases y <;> simp only [binD, addD, mulD, fdivD, modD, shlD, shrD, powD, int2, ne_eq, reduceCtorEq, not_false_eq_true] <;> (split <;> simp)
theorem negD_nex : ∀ (x : D) (c : Nat), negD x ≠ .ex c := by
  intro x c
  cases x <;> simp [negD]
theorem cmpI_nex (f : Int → Int → Bool) : ∀ (x y : D) (c : Nat), cmpI f x y ≠ .ex c := by
  intro x y c
  cases x <;> cases y <;> simp [cmpI]
theorem notR_nex {r : R Bool} (n : ∀ c, r ≠ .ex c) : ∀ c, notR r ≠ .ex c := by
  intro c
  cases r <;> simp [notR]
  rename_i c'
  exact absurd rfl (n c')
theorem eqD_nex (x y : D) (c : Nat) : eqD x y ≠ .ex c := by
  unfold eqD
  split <;> simp
theorem eqE_nex (x y : D) (c : Nat) : eqE x y ≠ .ex c := by
  unfold eqE
  split <;> (try split) <;> simp
theorem isD_nex (x y : D) (c : Nat) : isD x y ≠ .ex c := by
  cases x <;> cases y <;> simp [isD]
theorem ite_nex {p : Prop} [Decidable p] {α : Type} {x y : R α} {c : Nat} (hx : x ≠ .ex c) (hy : y ≠ .ex c) : (if p then x else y) ≠ .ex c := by
  by_cases h : p
  · rw [if_pos h]; exact hx
  · rw [if_neg h]; exact hy
theorem inD_nex (x y : D) (c : Nat) : inD x y ≠ .ex c := by
  cases y with
  | lst ys => exact ite_nex (by simp) (ite_nex (by simp) (by simp))
  | tup ys => exact ite_nex (by simp) (by simp)
  | str l =>
    simp only [inD]
    split <;> simp
  | _ => simp [inD]
theorem cmpD_nex : ∀ (o : COp) (x y : D) (c : Nat), cmpD o x y ≠ .ex c
  | .eq, x, y => eqE_nex x y
  | .ne, x, y => notR_nex (eqD_nex x y)
  | .lt, x, y => cmpI_nex _ x y
  | .le, x, y => cmpI_nex _ x y
  | .gt, x, y => cmpI_nex _ x y
  | .ge, x, y => cmpI_nex _ x y
  | .is, x, y => isD_nex x y
  | .isn, x, y => notR_nex (isD_nex x y)
  | .in_, x, y => inD_nex x y
  | .nin, x, y => notR_nex (inD_nex x y)
theorem ixD_nex (x y : D) (c : Nat) : ixD x y ≠ .ex c := by
  cases x <;> cases y <;> simp only [ixD, ne_eq, reduceCtorEq, not_false_eq_true] <;> (repeat' split) <;> simp
theorem slcD_nex (x : D) (lo hi : Option Int) (c : Nat) : slcD x lo hi ≠ .ex c := by
  cases x <;> simp only [slcD, ne_eq, reduceCtorEq, not_false_eq_true] <;> (split <;> simp)
theorem f1D_nex (f : F1) (x : D) (c : Nat) : f1D f x ≠ .ex c := by
  cases f <;> cases x <;> simp only [f1D, bestL, ne_eq, reduceCtorEq, not_false_eq_true] <;> (repeat' split) <;> simp [ofS]
theorem f2D_nex (f : F2) (x y : D) (c : Nat) : f2D f x y ≠ .ex c := by
  cases f <;> cases x <;> cases y <;> simp only [f2D, ne_eq, reduceCtorEq, not_false_eq_true] <;> (repeat' split) <;> simp
theorem tmD_nex (m : TM) (x y : D) (c : Nat) : tmD m x y ≠ .ex c := by
  cases m <;> cases x <;> cases y <;> simp only [tmD, ne_eq, reduceCtorEq, not_false_eq_true] <;> (repeat' split) <;> simp
theorem isI_nex (x : D) (k : Cl) (c : Nat) : isI x k ≠ .ex c := by
  cases x <;> cases k <;> simp [isI]
theorem pick_nex (g : D → R Bool) (f : D → R D) : ∀ (xs : List D) (c : Nat), pick g f xs ≠ .ex c
  | [], c => by simp [pick]
  | x :: xs, c => by
    have ih := pick_nex g f xs
    unfold pick
    split
    · split
      · cases e : pick g f xs with
        | ok y => simp
        | ex d => exact absurd e (ih d)
        | no => simp
      · simp
    · exact ih c
    · simp

/-- an expression's test, by its value -/
theorem pt_gen {e : Expr} {m : E} (h : PE X e (tE T W m)) (he : ∀ whole, isTrue e X.env whole = (do let v ← whole; standAt e.pos; holding [v] (truthy v))) : PT X e (tT T W m) := by
  refine pt_weak (pt_val h he) fun σ H Q ⟨O, ρ, hr, p⟩ => ?_
  refine tE_bind wantT hr (show PoT T W σ H Q ((evE m ρ).bind boolD) from p) fun d v H1 e1 dv p1 => ?_
  cases dv with
  | bl b => exact ⟨b, rfl, p1 H1 (Ex.refl H1)⟩
  | _ => exact False.elim p1

/-! ### sources -/
def Yl (T : Tab) (O : List Addr) (H0 : Hp) (J : It) (ds : List D) : Prop := ∀ (i : Nat) (O' : List Addr) (H : Hp), Ew (hide O H0) (hide O' H) → Lv T O' H →
  (∀ d, ds[i]? = some d → J.go i H ∧ ∀ x H', J.yld i H x H' → Ex H H' ∧ DV T (hide O' H') d x) ∧ (ds.length ≤ i → J.stop i H)
def tI (T : Tab) (W : WX) (m : Src) : TI := fun σ H R => ∃ O ρ, Rl T O σ ρ H ∧ (match evSrc m ρ with
  | .ok ds => ∀ J H', Ex H H' → Yl T O H' J ds → R J H'
  | .ex c => ∀ H', Ex H H' → c ∈ T.exs → W (.ref (T.exc c)) none σ H'
  | .no => False)
theorem pi_weak {tg it : Expr} {t t' : TI} (h : PI X tg it t) (w : ∀ σ H R, t' σ H R → t σ H R) : PI X tg it t' := ⟨fun pins s σ H R I q => h.run pins s σ H R I (w σ H R q)⟩
theorem yl_list (hK : X.K = T.K) {a : Addr} {vs : List V} {ds : List D} (h : SqL T.K (hide O H) a vs) (r : DVs T (hide O H) ds vs) : Yl T O H (Itl X.K a) ds := by
  intro i O' H1 e l
  refine ⟨fun d hd => ?_, fun hi => ⟨vs, by rw [hK]; exact ex_sql (e.trans hide_ex) h, by rw [← r.length]; exact hi⟩⟩
  obtain ⟨w, hw, dw⟩ := r.get hd
  refine ⟨⟨vs, w, by rw [hK]; exact ex_sql (e.trans hide_ex) h, hw⟩, fun x H' y => ?_⟩
  obtain ⟨rfl, y⟩ := y
  have z := y vs (by rw [hK]; exact ex_sql (e.trans hide_ex) h)
  rw [hw] at z
  cases z
  exact ⟨Ex.refl _, dw.mono e⟩
theorem yl_zip (hK : X.K = T.K) {a b : Addr} {vs ws : List V} {ds es : List D} (h : SqL T.K (hide O H) a vs) (r : DVs T (hide O H) ds vs) (h2 : SqL T.K (hide O H) b ws) (r2 : DVs T (hide O H) es ws) : Yl T O H (Itz X.K a b) ((ds.zip es).map fun p => .tup [p.1, p.2]) := by
  intro i O' H1 e l
  have q1 : SqL X.K H1 a vs := by rw [hK]; exact ex_sql (e.trans hide_ex) h
  have q2 : SqL X.K H1 b ws := by rw [hK]; exact ex_sql (e.trans hide_ex) h2
  refine ⟨fun d hd => ?_, fun hi => ⟨vs, ws, q1, q2, ?_⟩⟩
  · rw [List.getElem?_map] at hd
    cases hz : (ds.zip es)[i]? with
    | none => rw [hz] at hd; cases hd
    | some p =>
      rw [hz] at hd
      cases hd
      obtain ⟨k1, k2⟩ := List.getElem?_zip_eq_some.mp hz
      obtain ⟨x, hx, dx⟩ := r.get k1
      obtain ⟨y, hy, dy⟩ := r2.get k2
      refine ⟨⟨vs, ws, x, y, q1, q2, hx, hy⟩, fun v H' yl => ?_⟩
      obtain ⟨t, x', y', rfl, n, rfl, z1, z2⟩ := yl
      have w1 := z1 vs q1
      have w2 := z2 ws q2
      rw [hx] at w1
      rw [hy] at w2
      cases w1
      cases w2
      have m := e.trans (hide_mono (O := O') (Ex.new (o := .tup [x, y]) n))
      exact ⟨Ex.new n, .tup (SqT.of (by rw [hide_out (live_new l n)]; exact upd_same)) (.cons (dx.mono m) (.cons (dy.mono m) .nil))⟩
  · rw [List.length_map, List.length_zip] at hi
    rw [← r.length, ← r2.length]
    omega
theorem yl_tup (hK : X.K = T.K) {a : Addr} {vs : List V} {ds : List D} (h : SqT T.K (hide O H) a vs) (r : DVs T (hide O H) ds vs) : Yl T O H (Itt X.K a) ds := by
  intro i O' H1 e l
  refine ⟨fun d hd => ?_, fun hi => ⟨vs, by rw [hK]; exact ex_sqt (e.trans hide_ex) h, by rw [← r.length]; exact hi⟩⟩
  obtain ⟨w, hw, dw⟩ := r.get hd
  refine ⟨⟨vs, w, by rw [hK]; exact ex_sqt (e.trans hide_ex) h, hw⟩, fun x H' y => ?_⟩
  obtain ⟨rfl, y⟩ := y
  have z := y vs (by rw [hK]; exact ex_sqt (e.trans hide_ex) h)
  rw [hw] at z
  cases z
  exact ⟨Ex.refl _, dw.mono e⟩
theorem yl_str {x : Str} : Yl T O H (Its x) (x.cps.toList.map fun c => .str [c]) := by
  intro i O' H1 e l
  refine ⟨fun d hd => ?_, fun hi => by
    rw [List.length_map, Array.length_toList] at hi
    exact hi⟩
  rw [List.getElem?_map] at hd
  cases q : x.cps.toList[i]? with
  | none => rw [q] at hd; cases hd
  | some c =>
    rw [q] at hd
    have e1 : D.str [c] = d := Option.some.inj hd
    subst e1
    have hc : x.cps[i]? = some c := by simpa using q
    have hi : i < x.cps.size := by
      rw [Array.getElem?_eq_some_iff] at hc
      exact hc.1
    refine ⟨hi, fun v H' y => ?_⟩
    obtain ⟨rfl, c', e2, rfl⟩ := y
    rw [hc] at e2
    cases e2
    exact ⟨Ex.refl _, .str ⟨#[c]⟩⟩
theorem yl_rng {lo c : Int} {n : Nat} : Yl T O H (Itc lo c n) (rngL lo n c) := by
  intro i O' H1 e l
  unfold rngL
  refine ⟨fun d hd => ?_, fun hi => by
    rw [List.length_map, List.length_range] at hi
    exact hi⟩
  rw [List.getElem?_map] at hd
  by_cases hi : i < n
  · rw [List.getElem?_range hi] at hd
    have e1 := Option.some.inj hd
    subst e1
    refine ⟨hi, fun v H' y => ?_⟩
    obtain ⟨rfl, rfl⟩ := y
    exact ⟨Ex.refl _, .int _⟩
  · rw [List.getElem?_eq_none (by simpa using hi)] at hd
    cases hd
theorem yl_rng1 {lo : Int} {n : Nat} : Yl T O H (Itr lo n) (rngL lo n 1) := by
  intro i O' H1 e l
  obtain ⟨h1, h2⟩ := yl_rng (T := T) (O := O) (H := H) (lo := lo) (c := 1) (n := n) i O' H1 e l
  refine ⟨fun d hd => ⟨(h1 d hd).1, fun x H' y => (h1 d hd).2 x H' ?_⟩, h2⟩
  obtain ⟨y1, y2⟩ := y
  exact ⟨y1, by rw [y2, Int.mul_one]⟩
theorem pi_any {tg it : Expr} {m : E} (hK : X.K = T.K) (h : PE X it (tE T W m)) : PI X tg it (tI T W (.e m)) := by
  refine ⟨fun pins s σ H R I ⟨O, ρ, hr, p⟩ => ?_⟩
  have p : (match (evE m ρ).bind itemsD with
    | .ok ds => ∀ J H', Ex H H' → Yl T O H' J ds → R J H'
    | .ex c => ∀ H', Ex H H' → c ∈ T.exs → W (.ref (T.exc c)) none σ H'
    | .no => False) := p
  cases e : evE m ρ with
  | ok d =>
    rw [e] at p
    cases d with
    | lst ds =>
      refine (pi_list h).run pins s σ H R I ⟨O, ρ, hr, ?_⟩
      rw [e]
      intro v H' e' dv
      cases dv with
      | lst h r => exact ⟨_, rfl, ⟨_, by rw [hK]; exact ex_sql hide_ex h⟩, p _ _ e' (yl_list hK h r)⟩
    | tup ds =>
      refine (pi_tup h).run pins s σ H R I ⟨O, ρ, hr, ?_⟩
      rw [e]
      intro v H' e' dv
      cases dv with
      | tup h r => exact ⟨_, rfl, ⟨_, by rw [hK]; exact ex_sqt hide_ex h⟩, p _ _ e' (yl_tup hK h r)⟩
    | str l =>
      refine (pi_str h).run pins s σ H R I ⟨O, ρ, hr, ?_⟩
      rw [e]
      intro v H' e' dv
      cases dv with
      | str x => exact ⟨x, rfl, p _ _ e' yl_str⟩
    | _ => exact False.elim p
  | ex c =>
    rw [e] at p
    refine (pi_list h).run pins s σ H R I ⟨O, ρ, hr, ?_⟩
    rw [e]
    exact p
  | no =>
    rw [e] at p
    exact False.elim p
/-- a list of arguments, by the expressions -/
theorem pa1 {e : Expr} {t : TE} (h : PE X e t) (hs : shp e = true) : PA X [e] (tCons t tNil) := pa_cons h pa_nil (shp_star hs)
theorem pa2 {e e' : Expr} {t t' : TE} (h : PE X e t) (h' : PE X e' t') (hs : shp e = true) (hs' : shp e' = true) : PA X [e, e'] (tCons t (tCons t' tNil)) := pa_cons h (pa1 h' hs') (shp_star hs)
theorem pa3 {e e' e2 : Expr} {t t' t2 : TE} (h : PE X e t) (h' : PE X e' t') (h2 : PE X e2 t2) (hs : shp e = true) (hs' : shp e' = true) (hs2 : shp e2 = true) : PA X [e, e', e2] (tCons t (tCons t' (tCons t2 tNil))) := pa_cons h (pa2 h' h2 hs' hs2) (shp_star hs)
theorem small_ok {i : Int} (h : small i = true) : -(2 ^ 62) ≤ i ∧ i < 2 ^ 62 := by
  unfold small at h
  have h := of_decide_eq_true h
  have e : (2 : Int) ^ 62 = 4611686018427387904 := by decide
  rw [e]
  exact h
theorem rgc_ok {i j c : Int} (hi : small i = true) (hj : small j = true) (hc : 0 < c ∧ c < 1000000000) : RgC i j c (if i < j then (j - i - 1) / c + 1 else 0).toNat := by
  have h1 := of_decide_eq_true (show decide (-(4611686018427387904) ≤ i ∧ i < 4611686018427387904) = true from hi)
  have h2 := of_decide_eq_true (show decide (-(4611686018427387904) ≤ j ∧ j < 4611686018427387904) = true from hj)
  have e : Builtin.Range.rangeSize i j c = if i < j then (j - i - 1) / c + 1 else 0 := by
    unfold Builtin.Range.rangeSize
    rw [if_pos hc.1]
  have hn : 0 ≤ (if i < j then (j - i - 1) / c + 1 else 0) ∧ (if i < j then (j - i - 1) / c + 1 else 0) < 9223372036854775808 := by
    split
    · have a := Int.ediv_nonneg (show 0 ≤ j - i - 1 by omega) (show 0 ≤ c by omega)
      have b := Int.ediv_le_self c (show 0 ≤ j - i - 1 by omega)
      omega
    · omega
  refine ⟨by omega, by omega, ?_, ?_⟩
  · unfold Builtin.Range.small
    rw [e]
    have e63 : (2 : Int) ^ 63 = 9223372036854775808 := by decide
    simp only [Builtin.Range.rangeFitsLong, e63, Bool.and_eq_true, Bool.or_eq_true, decide_eq_true_eq, beq_iff_eq, if_pos hc.1]
    refine ⟨⟨⟨⟨⟨by omega, by omega⟩, by omega, by omega⟩, by omega, by omega⟩, by omega, by omega⟩, .inr ⟨by omega, by omega⟩⟩
  · rw [e]
    omega
end
end MP

set_option Elab.async false
set_option linter.all false
set_option maxRecDepth 100000
set_option maxHeartbeats 16000000
set_option autoImplicit false
/-! MPF: each expression that the look lets pass comes to what the evaluator tells. -/
namespace MP
open PySem L2
open PyProof.Rows hiding St

structure SndE (X : Cx) (T : Tab) (W : WX) (m : E) (e : Expr) : Prop where
  pe : PE X e (tE T W m)
  pt : PT X e (tT T W m)
  pw : ∀ op vs pos, e = .BoolOp op vs pos → PW X e (tT T W m)
/-- where an expression stands -/
structure At (X : Cx) (T : Tab) (W : WX) (N : List Str) (sc : Scope) : Prop where
  C : Cxt X T
  hN : X.N = N
  nd : N.Nodup
  hs : X.env.scope = sc
  tk : Takes X W

section
variable {T : Tab}
/-- in a comprehension's block -/
theorem At.blk {X : Cx} {W : WX} {N : List Str} {sc scope : Scope} (A : At X T W N sc) (s : Shared) (H : Hp) (C : Addr) (cl : List (Str × Addr)) (fp : List Addr) : At (X.blk s H scope (compEnvC scope cl C X.env) fp) T (fun _ _ _ _ => False) N (relS scope sc) :=
  ⟨⟨A.C.hK, A.C.calm, A.C.units, A.C.exT, A.C.exI, A.C.exV, A.C.exN, A.C.exF, A.C.exM, A.C.dig⟩, A.hN, A.nd, by rw [← A.hs]; rfl, takes0⟩
theorem snd_of {X : Cx} {W : WX} {m : E} {e : Expr} (h : PE X e (tE T W m)) (he : ∀ whole, isTrue e X.env whole = (do let v ← whole; standAt e.pos; holding [v] (truthy v))) (hb : ∀ op vs pos, e ≠ .BoolOp op vs pos) : SndE X T W m e :=
  ⟨h, pt_gen h he, fun op vs pos q => absurd q (hb op vs pos)⟩

/-! ### the cases -/
section
variable {X : Cx} {W : WX} {N : List Str} {sc : Scope}
theorem s_var {i : Nat} {x : Str} {pos : Pos} (A : At X T W N sc) (h1 : N[i]? = some x) (h2 : vis sc x = true) (h3 : okName x = true) : SndE X T W (.var i) (.Name x pos) := by
  refine snd_of (pe_weak (pe_var (i := i) (by rw [A.hN]; exact h1) (vis_ok A.hs h2) (okName_1 h3) (okName_2 h3)) fun σ H Q ⟨O, ρ, hr, p⟩ => ?_) (fun _ => rfl) (fun _ _ _ q => nomatch q)
  have p : PoE T W O σ H Q (getS ρ i) := p
  cases e : getS ρ i with
  | ok d =>
    rw [e] at p
    obtain ⟨v, h4, h5⟩ := hr.get e
    exact ⟨v, h4, p v H (Ex.refl H) h5⟩
  | ex c =>
    unfold getS at e
    split at e <;> cases e
  | no => rw [e] at p; exact False.elim p
theorem s_int {i : Int} {k : Nat} {pos : Pos} : SndE X T W (.int i) (.Constant (.int i) k pos) :=
  snd_of (pe_weak pe_int fun σ H Q ⟨O, ρ, hr, p⟩ => p _ H (Ex.refl H) (.int i)) (fun _ => rfl) (fun _ _ _ q => nomatch q)
theorem s_bl {i : Bool} {k : Nat} {pos : Pos} : SndE X T W (.bl i) (.Constant (.bool i) k pos) :=
  snd_of (pe_weak pe_bl fun σ H Q ⟨O, ρ, hr, p⟩ => p _ H (Ex.refl H) (.bl i)) (fun _ => rfl) (fun _ _ _ q => nomatch q)
theorem s_non {k : Nat} {pos : Pos} : SndE X T W .non (.Constant .none k pos) :=
  snd_of (pe_weak pe_non fun σ H Q ⟨O, ρ, hr, p⟩ => p _ H (Ex.refl H) .non) (fun _ => rfl) (fun _ _ _ q => nomatch q)
theorem s_str {l : List Nat} {x : Str} {k : Nat} {pos : Pos} (h : x.cps.toList = l) : SndE X T W (.str l) (.Constant (.str x) k pos) :=
  snd_of (pe_weak pe_str fun σ H Q ⟨O, ρ, hr, p⟩ => p _ H (Ex.refl H) (by rw [← h]; exact .str x)) (fun _ => rfl) (fun _ _ _ q => nomatch q)
theorem s_glo {nm : String} {d : D} {x : Str} {pos : Pos} (f : FOk X nm x) (h : Holds X T (.glo nm d)) : SndE X T W (.glo nm d) (.Name x pos) := by
  obtain ⟨v, u, h1, h2, h3⟩ := h
  obtain ⟨rfl, g, n1, n3⟩ := f
  exact snd_of (pe_weak (pe_glob g h1 h2 n1) fun σ H Q ⟨O, ρ, hr, p⟩ => p _ H (Ex.refl H) (h3 _)) (fun _ => rfl) (fun _ _ _ q => nomatch q)
theorem s_bin (A : At X T W N sc) {o : BOp} {a b : E} {l r : Expr} {pos : Pos} (ha : PE X l (tE T W a)) (hb : PE X r (tE T W b)) : SndE X T W (.bin o a b) (.BinOp l (opB o) r pos) := by
  refine snd_of (pe_weak (pe_op (o_bin A.C o) ha hb) fun σ H Q ⟨O, ρ, hr, p⟩ => ?_) (fun _ => rfl) (fun _ _ _ q => nomatch q)
  exact tE_bind wantE hr (show PoE T W O σ H Q ((evE a ρ).bind fun x => (evE b ρ).bind fun y => binD o x y) from p) fun dx x H1 e1 d1 p1 => tE_bind wantE (hr.mono e1) p1 fun dy y H2 e2 d2 p2 =>
    ⟨O, dx, dy, live_mono (e1.trans e2) hr.live, d1.mono (hide_mono e2), d2, p2.v (binD_nex o dx dy)⟩
theorem s_neg {a : E} {l : Expr} {pos : Pos} (ha : PE X l (tE T W a)) : SndE X T W (.neg a) (.UnaryOp .USub l pos) := by
  refine snd_of (pe_weak (pe_un (o_neg (T := T)) ha) fun σ H Q ⟨O, ρ, hr, p⟩ => ?_) (fun _ => rfl) (fun _ _ _ q => nomatch q)
  exact tE_bind wantE hr (show PoE T W O σ H Q ((evE a ρ).bind negD) from p) fun dx x H1 e1 d1 p1 => ⟨O, dx, live_mono e1 hr.live, d1, p1.v (negD_nex dx)⟩
theorem s_cmp (A : At X T W N sc) {o : COp} {a b : E} {l r : Expr} {pos : Pos} (ha : PE X l (tE T W a)) (hb : PE X r (tE T W b)) (hs : shp r = true) : SndE X T W (.cmp o a b) (.Compare l [opC o] [r] pos) := by
  refine ⟨pe_weak (pe_cmpR (o_cmp A.C o) ha hb (shp_mark hs)) fun σ H Q ⟨O, ρ, hr, p⟩ => ?_, pt_weak (pt_cmpR (o_cmp A.C o) ha hb (shp_mark hs)) fun σ H Q ⟨O, ρ, hr, p⟩ => ?_, fun _ _ _ q => nomatch q⟩
  · exact tE_bind wantE hr (show PoE T W O σ H Q ((evE a ρ).bind fun x => (evE b ρ).bind fun y => (cmpD o x y).bind fun b => .ok (.bl b)) from p) fun dx x H1 e1 d1 p1 => tE_bind wantE (hr.mono e1) p1 fun dy y H2 e2 d2 p2 =>
      ⟨O, dx, dy, live_mono (e1.trans e2) hr.live, d1.mono (hide_mono e2), d2, p2.b (cmpD_nex o dx dy)⟩
  · have p : PoT T W σ H Q ((evE a ρ).bind fun x => (evE b ρ).bind fun y => cmpD o x y) := by
      have p : PoT T W σ H Q (((evE a ρ).bind fun x => (evE b ρ).bind fun y => (cmpD o x y).bind fun b => .ok (.bl b)).bind boolD) := p
      cases ea : evE a ρ with
      | ok dx =>
        rw [ea] at p
        cases eb : evE b ρ with
        | ok dy =>
          rw [eb] at p
          show PoT T W σ H Q (cmpD o dx dy)
          cases ec : cmpD o dx dy with
          | ok k => simp only [R.bind_ok, ec, boolD] at p; exact p
          | ex k => simp only [R.bind_ok, R.bind_ex, ec] at p; exact p
          | no => simp only [R.bind_ok, R.bind_no, ec] at p; exact p
        | ex c => rw [eb] at p; exact p
        | no => rw [eb] at p; exact p
      | ex c => rw [ea] at p; exact p
      | no => rw [ea] at p; exact p
    exact tE_bind wantT hr p fun dx x H1 e1 d1 p1 => tE_bind wantT (hr.mono e1) p1 fun dy y H2 e2 d2 p2 =>
      ⟨O, dx, dy, live_mono (e1.trans e2) hr.live, d1.mono (hide_mono e2), d2, (p2.b (cmpD_nex o dx dy)).imp fun b q => ⟨b, rfl, q⟩⟩
theorem s_chn (A : At X T W N sc) {o o' : COp} {a b c : E} {l r r' : Expr} {pos : Pos} (ha : PE X l (tE T W a)) (hb : PE X r (tE T W b)) (hc : PE X r' (tE T W c)) (hs : shp r' = true) : SndE X T W (.chn o o' a b c) (.Compare l [opC o, opC o'] [r, r'] pos) := by
  have hm : lastMarks [opC o, opC o'] [r, r'] = false := shp_mark hs
  have key : ∀ {σ : L2.St} {H : Hp} {Q : VK}, tE T W (.chn o o' a b c) σ H Q → tChain (rC T (cmpD o)) (rC T (cmpD o')) (tE T W a) (tE T W b) (tE T W c) σ H Q := by
    intro σ H Q ⟨O, ρ, hr, p⟩
    exact tE_bind wantE hr (show PoE T W O σ H Q ((evE a ρ).bind fun x => (evE b ρ).bind fun y => (cmpD o x y).bind fun t => if t = true then (evE c ρ).bind fun z => (cmpD o' y z).bind fun b => .ok (.bl b) else .ok (.bl false)) from p) fun dx x H1 e1 d1 p1 => tE_bind wantE (hr.mono e1) p1 fun dy y H2 e2 d2 p2 => by
      refine ⟨O, dx, dy, live_mono (e1.trans e2) hr.live, d1.mono (hide_mono e2), d2, ?_⟩
      cases ec : cmpD o dx dy with
      | ok k =>
        refine ⟨k, rfl, ?_⟩
        rw [ec] at p2
        cases k with
        | true =>
          rw [if_pos rfl]
          exact tE_bind wantE (hr.mono (e1.trans e2)) p2 fun dz z H3 e3 d3 p3 => ⟨O, dy, dz, live_mono ((e1.trans e2).trans e3) hr.live, d2.mono (hide_mono e3), d3, p3.b (cmpD_nex o' dy dz)⟩
        | false =>
          rw [if_neg Bool.false_ne_true]
          exact p2 _ H2 (Ex.refl H2) (.bl false)
      | ex k => exact absurd ec (cmpD_nex o dx dy k)
      | no => rw [ec] at p2; exact p2
  refine ⟨pe_weak (pe_chain (o_cmp A.C o) (o_cmp A.C o') ha hb hc hm) fun σ H Q q => key q, pt_weak (pt_chain (o_cmp A.C o) (o_cmp A.C o') ha hb hc hm) fun σ H Q ⟨O, ρ, hr, p⟩ => ?_, fun _ _ _ q => nomatch q⟩
  refine key ⟨O, ρ, hr, ?_⟩
  have p : PoT T W σ H Q ((evE (.chn o o' a b c) ρ).bind boolD) := p
  cases e : evE (.chn o o' a b c) ρ with
  | ok d =>
    rw [e] at p
    intro v H' e' dv
    cases dv with
    | bl k => exact ⟨k, rfl, p H' e'⟩
    | _ => exact False.elim p
  | ex c => rw [e] at p; exact p
  | no => rw [e] at p; exact p
/-- a op1 b op2 c op3 d -/
def tChain3 (r r' r2 : R2) (ta tb tc td : TE) : TE := fun σ H Q => ta σ H fun x H1 => tb σ H1 fun y H2 => r x y H2 fun z H3 => ∃ k, z = .bl k ∧
  (if k = true then tc σ H3 fun v H4 => r' y v H4 fun z' H5 => ∃ k', z' = .bl k' ∧ (if k' = true then td σ H5 fun u H6 => r2 v u H6 Q else Q (.bl false) H5) else Q (.bl false) H3)
theorem pe_chain3 {op op' op2 : CmpOp} {r r' r2 : R2} {a b c d : Expr} {ta tb tc td : TE} {pos : Pos} (ho : OpR X (compareOp op) r) (ho' : OpR X (compareOp op') r') (ho2 : OpR X (compareOp op2) r2) (ha : PE X a ta) (hb : PE X b tb) (hc : PE X c tc) (hd : PE X d td)
    (hm : lastMarks [op, op', op2] [b, c, d] = false) : PE X (.Compare a [op, op', op2] [b, c, d] pos) (tChain3 r r' r2 ta tb tc td) := by
  refine ⟨fun pins s σ H Q I h => ?_⟩
  refine Compare_chain (thn (ha.run pins s σ H _ I h) fun v s1 ⟨x, H1, I1, r1, q1⟩ => chain_link (thn (hb.run pins s1 σ H1 _ I1 q1) fun u s2 ⟨y, H2, I2, r2', q2⟩ =>
    thn (ho pins s2 σ H2 x y v u _ I2 r1 r2' q2) fun d s3 ⟨z, H3, I3, r3, k, e, q3⟩ => ?_)) hm
  subst e
  cases r3
  refine wpAny_truthy_bool ?_
  cases k with
  | false => exact ite_ff ⟨.bl false, H3, I3, rfl, q3⟩
  | true =>
    refine ite_tt (chain_link (thn (hc.run pins s3 σ H3 _ I3 q3) fun w' s4 ⟨z', H4, I4, r4, q4⟩ => thn (ho' pins s4 σ H4 y z' u w' _ I4 r2' r4 q4) fun d s5 ⟨z2, H5, I5, r5, k', e', q5⟩ => ?_))
    subst e'
    cases r5
    refine wpAny_truthy_bool ?_
    cases k' with
    | false => exact ite_ff ⟨.bl false, H5, I5, rfl, q5⟩
    | true => exact ite_tt (chain_last (thn (hd.run pins s5 σ H5 _ I5 q5) fun w2 s6 ⟨z3, H6, I6, r6, q6⟩ => ho2 pins s6 σ H6 z' z3 w' w2 Q I6 r4 r6 q6))
theorem pt_chain3 {op op' op2 : CmpOp} {r r' r2 : R2} {a b c d : Expr} {ta tb tc td : TE} {pos : Pos} (ho : OpR X (compareOp op) r) (ho' : OpR X (compareOp op') r') (ho2 : OpR X (compareOp op2) r2) (ha : PE X a ta) (hb : PE X b tb) (hc : PE X c tc) (hd : PE X d td)
    (hm : lastMarks [op, op', op2] [b, c, d] = false) : PT X (.Compare a [op, op', op2] [b, c, d] pos) (tTest (tChain3 r r' r2 ta tb tc td)) := by
  refine ⟨fun pins s σ H Q I h => ?_⟩
  refine isTrue_chain (thn (ha.run pins s σ H _ I h) fun v s1 ⟨x, H1, I1, r1, q1⟩ => test_link (thn (hb.run pins s1 σ H1 _ I1 q1) fun u s2 ⟨y, H2, I2, r2', q2⟩ =>
    thn (ho pins s2 σ H2 x y v u _ I2 r1 r2' q2) fun d s3 ⟨z, H3, I3, r3, k, e, q3⟩ => ?_)) hm
  subst e
  cases r3
  refine wpAny_truthy_bool ?_
  cases k with
  | false =>
    obtain ⟨k', e', q'⟩ := q3
    cases e'
    exact ite_ff ⟨H3, I3, q'⟩
  | true =>
    refine ite_tt (test_link (thn (hc.run pins s3 σ H3 _ I3 q3) fun w' s4 ⟨z', H4, I4, r4, q4⟩ => thn (ho' pins s4 σ H4 y z' u w' _ I4 r2' r4 q4) fun d s5 ⟨z2, H5, I5, r5, k', e', q5⟩ => ?_))
    subst e'
    cases r5
    refine wpAny_truthy_bool ?_
    cases k' with
    | false =>
      obtain ⟨k2, e2, q'⟩ := q5
      cases e2
      exact ite_ff ⟨H5, I5, q'⟩
    | true =>
      refine ite_tt (test_last (thn (hd.run pins s5 σ H5 _ I5 q5) fun w2 s6 ⟨z3, H6, I6, r6, q6⟩ => thn (ho2 pins s6 σ H6 z' z3 w' w2 _ I6 r4 r6 q6) fun d s7 ⟨z4, H7, I7, r7, k3, e3, q7⟩ => ?_))
      subst e3
      cases r7
      exact wpAny_truthy_bool ⟨H7, I7, q7⟩
theorem s_chn3 (A : At X T W N sc) {o o' o2 : COp} {a b c d : E} {l r r' r2 : Expr} {pos : Pos} (ha : PE X l (tE T W a)) (hb : PE X r (tE T W b)) (hc : PE X r' (tE T W c)) (hd : PE X r2 (tE T W d)) (hs : shp r2 = true) : SndE X T W (.chn3 o o' o2 a b c d) (.Compare l [opC o, opC o', opC o2] [r, r', r2] pos) := by
  have hm : lastMarks [opC o, opC o', opC o2] [r, r', r2] = false := shp_mark hs
  have key : ∀ {σ : L2.St} {H : Hp} {Q : VK}, tE T W (.chn3 o o' o2 a b c d) σ H Q → tChain3 (rC T (cmpD o)) (rC T (cmpD o')) (rC T (cmpD o2)) (tE T W a) (tE T W b) (tE T W c) (tE T W d) σ H Q := by
    intro σ H Q ⟨O, ρ, hr, p⟩
    exact tE_bind wantE hr (show PoE T W O σ H Q ((evE a ρ).bind fun x => (evE b ρ).bind fun y => (cmpD o x y).bind fun t => if t = true then (evE c ρ).bind fun z => (cmpD o' y z).bind fun t => if t = true then (evE d ρ).bind fun v => (cmpD o2 z v).bind fun b => .ok (.bl b) else .ok (.bl false) else .ok (.bl false)) from p) fun dx x H1 e1 d1 p1 => tE_bind wantE (hr.mono e1) p1 fun dy y H2 e2 d2 p2 => by
      refine ⟨O, dx, dy, live_mono (e1.trans e2) hr.live, d1.mono (hide_mono e2), d2, ?_⟩
      cases ec : cmpD o dx dy with
      | ok k =>
        refine ⟨k, rfl, ?_⟩
        rw [ec] at p2
        cases k with
        | true =>
          rw [if_pos rfl]
          refine tE_bind wantE (hr.mono (e1.trans e2)) p2 fun dz z H3 e3 d3 p3 => ?_
          refine ⟨O, dy, dz, live_mono ((e1.trans e2).trans e3) hr.live, d2.mono (hide_mono e3), d3, ?_⟩
          cases ec2 : cmpD o' dy dz with
          | ok k' =>
            refine ⟨k', rfl, ?_⟩
            rw [ec2] at p3
            cases k' with
            | true =>
              rw [if_pos rfl]
              exact tE_bind wantE (hr.mono ((e1.trans e2).trans e3)) p3 fun dv v H4 e4 d4 p4 => ⟨O, dz, dv, live_mono (((e1.trans e2).trans e3).trans e4) hr.live, d3.mono (hide_mono e4), d4, p4.b (cmpD_nex o2 dz dv)⟩
            | false =>
              rw [if_neg Bool.false_ne_true]
              exact p3 _ H3 (Ex.refl H3) (.bl false)
          | ex k' => exact absurd ec2 (cmpD_nex o' dy dz k')
          | no => rw [ec2] at p3; exact p3
        | false =>
          rw [if_neg Bool.false_ne_true]
          exact p2 _ H2 (Ex.refl H2) (.bl false)
      | ex k => exact absurd ec (cmpD_nex o dx dy k)
      | no => rw [ec] at p2; exact p2
  refine ⟨pe_weak (pe_chain3 (o_cmp A.C o) (o_cmp A.C o') (o_cmp A.C o2) ha hb hc hd hm) fun σ H Q q => key q, pt_weak (pt_chain3 (o_cmp A.C o) (o_cmp A.C o') (o_cmp A.C o2) ha hb hc hd hm) fun σ H Q ⟨O, ρ, hr, p⟩ => ?_, fun _ _ _ q => nomatch q⟩
  refine key ⟨O, ρ, hr, ?_⟩
  have p : PoT T W σ H Q ((evE (.chn3 o o' o2 a b c d) ρ).bind boolD) := p
  cases e : evE (.chn3 o o' o2 a b c d) ρ with
  | ok d =>
    rw [e] at p
    intro v H' e' dv
    cases dv with
    | bl k => exact ⟨k, rfl, p H' e'⟩
    | _ => exact False.elim p
  | ex c => rw [e] at p; exact p
  | no => rw [e] at p; exact p
theorem evT_and (a b : E) (ρ : Env) : evT (.and a b) ρ = (evT a ρ).bind fun t => if t = true then evT b ρ else .ok false := by
  show ((evE a ρ).bind fun x => (boolD x).bind fun t => if t = true then (evE b ρ).bind fun y => (boolD y).bind fun u => .ok (.bl u) else .ok (.bl false)).bind boolD = ((evE a ρ).bind boolD).bind _
  cases evE a ρ with
  | ok x =>
    show ((boolD x).bind _).bind boolD = (boolD x).bind _
    cases boolD x with
    | ok t =>
      cases t with
      | true =>
        show ((evE b ρ).bind fun y => (boolD y).bind fun u => .ok (.bl u)).bind boolD = (evE b ρ).bind boolD
        cases evE b ρ with
        | ok y =>
          show ((boolD y).bind fun u => .ok (.bl u)).bind boolD = boolD y
          cases boolD y <;> rfl
        | ex c => rfl
        | no => rfl
      | false => rfl
    | ex c => rfl
    | no => rfl
  | ex c => rfl
  | no => rfl
theorem evT_or (a b : E) (ρ : Env) : evT (.or a b) ρ = (evT a ρ).bind fun t => if t = true then .ok true else evT b ρ := by
  show ((evE a ρ).bind fun x => (boolD x).bind fun t => if t = true then .ok (.bl true) else (evE b ρ).bind fun y => (boolD y).bind fun u => .ok (.bl u)).bind boolD = ((evE a ρ).bind boolD).bind _
  cases evE a ρ with
  | ok x =>
    show ((boolD x).bind _).bind boolD = (boolD x).bind _
    cases boolD x with
    | ok t =>
      cases t with
      | false =>
        show ((evE b ρ).bind fun y => (boolD y).bind fun u => .ok (.bl u)).bind boolD = (evE b ρ).bind boolD
        cases evE b ρ with
        | ok y =>
          show ((boolD y).bind fun u => .ok (.bl u)).bind boolD = boolD y
          cases boolD y <;> rfl
        | ex c => rfl
        | no => rfl
      | true => rfl
    | ex c => rfl
    | no => rfl
  | ex c => rfl
  | no => rfl
theorem evT_not (a : E) (ρ : Env) : evT (.not a) ρ = (evT a ρ).bind fun t => .ok (!t) := by
  show ((evE a ρ).bind fun x => (boolD x).bind fun t => .ok (.bl (!t))).bind boolD = ((evE a ρ).bind boolD).bind _
  cases evE a ρ with
  | ok x =>
    show ((boolD x).bind _).bind boolD = (boolD x).bind _
    cases boolD x <;> rfl
  | ex c => rfl
  | no => rfl
theorem w_and {a b : E} {σ : L2.St} {H : Hp} {Q : Bool → Hp → Prop} (h : tT T W (.and a b) σ H Q) : tAnd (tT T W a) (tT T W b) σ H Q := by
  obtain ⟨O, ρ, hr, p⟩ := h
  rw [evT_and] at p
  refine tT_bind wantT hr p fun t H1 e1 p1 => ?_
  cases t with
  | true => exact ⟨O, ρ, hr.mono e1, p1⟩
  | false => exact p1 H1 (Ex.refl H1)
theorem w_or {a b : E} {σ : L2.St} {H : Hp} {Q : Bool → Hp → Prop} (h : tT T W (.or a b) σ H Q) : tOr (tT T W a) (tT T W b) σ H Q := by
  obtain ⟨O, ρ, hr, p⟩ := h
  rw [evT_or] at p
  refine tT_bind wantT hr p fun t H1 e1 p1 => ?_
  cases t with
  | false => exact ⟨O, ρ, hr.mono e1, p1⟩
  | true => exact p1 H1 (Ex.refl H1)
theorem v_and {a b : E} {σ : L2.St} {H : Hp} {Q : VK} (h : tE T W (.and a b) σ H Q) : tAndV (tE T W a) (tE T W b) σ H Q := by
  obtain ⟨O, ρ, hr, p⟩ := h
  refine tE_bind wantE hr (show PoE T W O σ H Q ((evE a ρ).bind fun x => (boolD x).bind fun t => if t = true then (evE b ρ).bind fun y => (boolD y).bind fun u => .ok (.bl u) else .ok (.bl false)) from p) fun dx x H1 e1 d1 p1 => ?_
  cases d1 with
  | bl t =>
    refine ⟨t, rfl, ?_⟩
    cases t with
    | true =>
      rw [if_pos rfl]
      refine tE_bind wantE (hr.mono e1) p1 fun dy y H2 e2 d2 p2 => ?_
      cases d2 with
      | bl u => exact p2 _ H2 (Ex.refl H2) (.bl u)
      | _ => exact False.elim p2
    | false =>
      rw [if_neg Bool.false_ne_true]
      exact p1 _ H1 (Ex.refl H1) (.bl false)
  | _ => exact False.elim p1
theorem v_or {a b : E} {σ : L2.St} {H : Hp} {Q : VK} (h : tE T W (.or a b) σ H Q) : tOrV (tE T W a) (tE T W b) σ H Q := by
  obtain ⟨O, ρ, hr, p⟩ := h
  refine tE_bind wantE hr (show PoE T W O σ H Q ((evE a ρ).bind fun x => (boolD x).bind fun t => if t = true then .ok (.bl true) else (evE b ρ).bind fun y => (boolD y).bind fun u => .ok (.bl u)) from p) fun dx x H1 e1 d1 p1 => ?_
  cases d1 with
  | bl t =>
    refine ⟨t, rfl, ?_⟩
    cases t with
    | false =>
      rw [if_neg Bool.false_ne_true]
      refine tE_bind wantE (hr.mono e1) p1 fun dy y H2 e2 d2 p2 => ?_
      cases d2 with
      | bl u => exact p2 _ H2 (Ex.refl H2) (.bl u)
      | _ => exact False.elim p2
    | true =>
      rw [if_pos rfl]
      exact p1 _ H1 (Ex.refl H1) (.bl true)
  | _ => exact False.elim p1
theorem s_and2 {a b : E} {x y : Expr} {pos : Pos} (ha : SndE X T W a x) (hb : SndE X T W b y) : SndE X T W (.and a b) (.BoolOp .And [x, y] pos) :=
  have w : PW X (.BoolOp .And [x, y] pos) (tT T W (.and a b)) := pw_weak (pw_and ha.pt (pw_and1 hb.pt)) fun σ H Q q => w_and q
  ⟨pe_weak (pe_and ha.pe (pe_one hb.pe)) fun σ H Q q => v_and q, w.pt, fun _ _ _ _ => w⟩
theorem s_and3 {a b : E} {x y z : Expr} {r : List Expr} {pos : Pos} (ha : SndE X T W a x) (hb : SndE X T W b (.BoolOp .And (y :: z :: r) pos)) : SndE X T W (.and a b) (.BoolOp .And (x :: y :: z :: r) pos) :=
  have w : PW X (.BoolOp .And (x :: y :: z :: r) pos) (tT T W (.and a b)) := pw_weak (pw_and ha.pt (hb.pw _ _ _ rfl)) fun σ H Q q => w_and q
  ⟨pe_weak (pe_and ha.pe hb.pe) fun σ H Q q => v_and q, w.pt, fun _ _ _ _ => w⟩
theorem s_or2 {a b : E} {x y : Expr} {pos : Pos} (ha : SndE X T W a x) (hb : SndE X T W b y) : SndE X T W (.or a b) (.BoolOp .Or [x, y] pos) :=
  have w : PW X (.BoolOp .Or [x, y] pos) (tT T W (.or a b)) := pw_weak (pw_or ha.pt (pw_or1 hb.pt)) fun σ H Q q => w_or q
  ⟨pe_weak (pe_or ha.pe (pe_one hb.pe)) fun σ H Q q => v_or q, w.pt, fun _ _ _ _ => w⟩
theorem s_or3 {a b : E} {x y z : Expr} {r : List Expr} {pos : Pos} (ha : SndE X T W a x) (hb : SndE X T W b (.BoolOp .Or (y :: z :: r) pos)) : SndE X T W (.or a b) (.BoolOp .Or (x :: y :: z :: r) pos) :=
  have w : PW X (.BoolOp .Or (x :: y :: z :: r) pos) (tT T W (.or a b)) := pw_weak (pw_or ha.pt (hb.pw _ _ _ rfl)) fun σ H Q q => w_or q
  ⟨pe_weak (pe_or ha.pe hb.pe) fun σ H Q q => v_or q, w.pt, fun _ _ _ _ => w⟩
theorem s_not {a : E} {x : Expr} {pos : Pos} (ha : SndE X T W a x) : SndE X T W (.not a) (.UnaryOp .Not x pos) := by
  refine ⟨pe_weak (pe_not ha.pe) fun σ H Q ⟨O, ρ, hr, p⟩ => ?_, pt_weak (pt_not ha.pt) fun σ H Q ⟨O, ρ, hr, p⟩ => ?_, fun _ _ _ q => nomatch q⟩
  · refine tE_bind wantE hr (show PoE T W O σ H Q ((evE a ρ).bind fun x => (boolD x).bind fun t => .ok (.bl (!t))) from p) fun dx x H1 e1 d1 p1 => ?_
    cases d1 with
    | bl t => exact ⟨t, rfl, p1 _ H1 (Ex.refl H1) (.bl _)⟩
    | _ => exact False.elim p1
  · rw [evT_not] at p
    exact tT_bind wantT hr p fun t H1 e1 p1 => p1 H1 (Ex.refl H1)
theorem s_tup {es : Es} {xs : List Expr} {k : Nat} {pos : Pos} (h : PA X xs (tEs T W es)) (hl : ∀ ds ρ, evEs es ρ = .ok ds → ds.length ≤ sizeLine) : SndE X T W (.tup es) (.Tuple xs k pos) := by
  refine snd_of (pe_weak (pe_tup h) fun σ H Q ⟨O, ρ, hr, p⟩ => ?_) (fun _ => rfl) (fun _ _ _ q => nomatch q)
  refine ⟨O, ρ, hr, ?_⟩
  have p : PoE T W O σ H Q ((evEs es ρ).bind fun xs => .ok (.tup xs)) := p
  cases e : evEs es ρ with
  | ok ds =>
    rw [e] at p
    intro vs H' e' dv
    exact ⟨by rw [← dv.length]; exact hl ds ρ e, fun b n => PoV.tup (T := T) (O := O) (live_mono e' hr.live) (PoE.mono e' p) dv n⟩
  | ex c => rw [e] at p; exact p
  | no => rw [e] at p; exact p
theorem s_dic {pos : Pos} : SndE X T W .dic (.Dict [] [] pos) := by
  refine snd_of (pe_weak pe_dnewK fun σ H Q ⟨O, ρ, hr, p⟩ => ?_) (fun _ => rfl) (fun _ _ _ q => nomatch q)
  have p : ∀ v H', Ex H H' → DV T (hide O H') .dic v → Q v H' := p
  exact fun b n => p _ _ (Ex.new n) (.dic (by rw [hide_out (fun q => hr.live.1 b q n)]; exact upd_same))
theorem s_lst {es : Es} {xs : List Expr} {pos : Pos} (h : PA X xs (tEs T W es)) (hl : ∀ ds ρ, evEs es ρ = .ok ds → ds.length ≤ sizeLine) : SndE X T W (.lst es) (.List xs pos) := by
  refine snd_of (pe_weak (pe_lst h) fun σ H Q ⟨O, ρ, hr, p⟩ => ?_) (fun _ => rfl) (fun _ _ _ q => nomatch q)
  refine ⟨O, ρ, hr, ?_⟩
  have p : PoE T W O σ H Q ((evEs es ρ).bind fun xs => .ok (.lst xs)) := p
  cases e : evEs es ρ with
  | ok ds =>
    rw [e] at p
    intro vs H' e' dv
    exact ⟨by rw [← dv.length]; exact hl ds ρ e, fun b n => PoV.lst (T := T) (O := O) (live_mono e' hr.live) (PoE.mono e' p) dv n⟩
  | ex c => rw [e] at p; exact p
  | no => rw [e] at p; exact p
theorem s_ix (A : At X T W N sc) {a b : E} {l r : Expr} {pos : Pos} (ha : PE X l (tE T W a)) (hb : PE X r (tE T W b)) (hs : shp r = true) : SndE X T W (.ix a b) (.Subscript l r pos) := by
  refine snd_of (pe_weak (pe_ix (o_ix A.C) ha hb (shp_ix hs)) fun σ H Q ⟨O, ρ, hr, p⟩ => ?_) (fun _ => rfl) (fun _ _ _ q => nomatch q)
  exact tE_bind wantE hr (show PoE T W O σ H Q ((evE a ρ).bind fun x => (evE b ρ).bind fun y => ixD x y) from p) fun dx x H1 e1 d1 p1 => tE_bind wantE (hr.mono e1) p1 fun dy y H2 e2 d2 p2 =>
    ⟨O, dx, dy, live_mono (e1.trans e2) hr.live, d1.mono (hide_mono e2), d2, p2.v (ixD_nex dx dy)⟩
theorem s_slcL (A : At X T W N sc) {a b : E} {l r : Expr} {pos p2 : Pos} (ha : PE X l (tE T W a)) (hb : PE X r (tE T W b)) : SndE X T W (.slcL a b) (.Subscript l (.Slice (some r) none none p2) pos) := by
  refine snd_of (pe_weak (pe_slice (o_slc A.C) ha (po_some hb) po_none) fun σ H Q ⟨O, ρ, hr, p⟩ => ?_) (fun _ => rfl) (fun _ _ _ q => nomatch q)
  refine tE_bind wantE hr (show PoE T W O σ H Q ((evE a ρ).bind fun x => (evE b ρ).bind fun l => (intD l).bind fun i => slcD x (some i) none) from p) fun dx x H1 e1 d1 p1 => tE_bind wantE (hr.mono e1) p1 fun dy y H2 e2 d2 p2 => ?_
  cases d2 with
  | int i => exact ⟨i, rfl, O, dx, live_mono (e1.trans e2) hr.live, d1.mono (hide_mono e2), p2.v (slcD_nex dx _ _)⟩
  | _ => exact False.elim p2
theorem s_slcH (A : At X T W N sc) {a b : E} {l r : Expr} {pos p2 : Pos} (ha : PE X l (tE T W a)) (hb : PE X r (tE T W b)) : SndE X T W (.slcH a b) (.Subscript l (.Slice none (some r) none p2) pos) := by
  refine snd_of (pe_weak (pe_slice (o_slc A.C) ha po_none (po_some hb)) fun σ H Q ⟨O, ρ, hr, p⟩ => ?_) (fun _ => rfl) (fun _ _ _ q => nomatch q)
  refine tE_bind wantE hr (show PoE T W O σ H Q ((evE a ρ).bind fun x => (evE b ρ).bind fun l => (intD l).bind fun i => slcD x none (some i)) from p) fun dx x H1 e1 d1 p1 => tE_bind wantE (hr.mono e1) p1 fun dy y H2 e2 d2 p2 => ?_
  cases d2 with
  | int i => exact ⟨i, rfl, O, dx, live_mono (e1.trans e2) hr.live, d1.mono (hide_mono e2), p2.v (slcD_nex dx _ _)⟩
  | _ => exact False.elim p2
theorem s_slc (A : At X T W N sc) {a b c : E} {l r r' : Expr} {pos p2 : Pos} (ha : PE X l (tE T W a)) (hb : PE X r (tE T W b)) (hc : PE X r' (tE T W c)) : SndE X T W (.slc a b c) (.Subscript l (.Slice (some r) (some r') none p2) pos) := by
  refine snd_of (pe_weak (pe_slice (o_slc A.C) ha (po_some hb) (po_some hc)) fun σ H Q ⟨O, ρ, hr, p⟩ => ?_) (fun _ => rfl) (fun _ _ _ q => nomatch q)
  refine tE_bind wantE hr (show PoE T W O σ H Q ((evE a ρ).bind fun x => (evE b ρ).bind fun l => (intD l).bind fun i => (evE c ρ).bind fun h => (intD h).bind fun j => slcD x (some i) (some j)) from p) fun dx x H1 e1 d1 p1 => tE_bind wantE (hr.mono e1) p1 fun dy y H2 e2 d2 p2 => ?_
  cases d2 with
  | int i =>
    refine ⟨i, rfl, ?_⟩
    refine tE_bind wantE (hr.mono (e1.trans e2)) p2 fun dz z H3 e3 d3 p3 => ?_
    cases d3 with
    | int j => exact ⟨j, rfl, O, dx, live_mono ((e1.trans e2).trans e3) hr.live, d1.mono (hide_mono (e2.trans e3)), p3.v (slcD_nex dx _ _)⟩
    | _ => exact False.elim p3
  | _ => exact False.elim p2
theorem s_call (A : At X T W N sc) {nm : String} {f : List D → R D} {es : Es} {df : List D} {x : Str} {y : Expr} {ys : List Expr} {px pos : Pos} (F : FOk X nm x) (h : Holds X T (.fn nm f df)) (ha : PA X (y :: ys) (tEs T W es)) (hy : allShp (y :: ys) = true) : SndE X T W (.call nm f es df) (.Call (.Name x px) (y :: ys) [] pos) := by
  obtain ⟨k, fa, fd, ps, dvs, ds, hr1, hm, hk, hF, hb, hv, hd⟩ := h
  obtain ⟨rfl, g, n1, n3⟩ := F
  have hy2 : shp y = true ∧ allShp ys = true := by
    simp only [allShp, Bool.and_eq_true] at hy
    exact hy
  refine snd_of (pe_weak (pe_callSD hF hr1 g hm hk hb hv (fun σ => passAt A.tk σ) ha n1 (shp_star hy2.1) (star_plain hy2.2)) fun σ H Q ⟨O, ρ, hr, p⟩ => ?_) (fun _ => rfl) (fun _ _ _ q => nomatch q)
  refine tEs_bind wantE hr (show PoE T W O σ H Q ((evEs es ρ).bind fun xs => f (xs ++ df)) from p) fun dx vs H1 e1 d1 p1 => ?_
  refine ⟨O, dx ++ df, live_mono e1 hr.live, d1.append (hd _), ?_⟩
  cases e : f (dx ++ df) with
  | ok d => rw [e] at p1; exact p1
  | ex c => rw [e] at p1; exact p1
  | no => rw [e] at p1; exact p1
theorem rl1_of (A : At X T W N sc) {a : E} {y : Expr} {g : D → R D} {x : Str} {px pos : Pos} {t' : E} (hp : PE X (.Call (.Name x px) [y] [] pos) (tCB (rL1 T g) (tCons (tE T W a) tNil))) (he : ∀ ρ, evE t' ρ = (evE a ρ).bind g) (hg : ∀ d c, g d ≠ .ex c) : SndE X T W t' (.Call (.Name x px) [y] [] pos) := by
  refine snd_of (pe_weak hp fun σ H Q ⟨O, ρ, hr, p⟩ => ?_) (fun _ => rfl) (fun _ _ _ q => nomatch q)
  rw [he] at p
  exact tE_bind wantE hr p fun dx x H1 e1 d1 p1 => ⟨x, rfl, O, dx, live_mono e1 hr.live, d1, p1.v (hg dx)⟩
theorem rl2_of (A : At X T W N sc) {a b : E} {y z : Expr} {g : D → D → R D} {x : Str} {px pos : Pos} {t' : E} (hp : PE X (.Call (.Name x px) [y, z] [] pos) (tCB (rL2 T g) (tCons (tE T W a) (tCons (tE T W b) tNil)))) (he : ∀ ρ, evE t' ρ = (evE a ρ).bind fun u => (evE b ρ).bind fun v => g u v) (hg : ∀ d e c, g d e ≠ .ex c) : SndE X T W t' (.Call (.Name x px) [y, z] [] pos) := by
  refine snd_of (pe_weak hp fun σ H Q ⟨O, ρ, hr, p⟩ => ?_) (fun _ => rfl) (fun _ _ _ q => nomatch q)
  rw [he] at p
  exact tE_bind wantE hr p fun dx x H1 e1 d1 p1 => tE_bind wantE (hr.mono e1) p1 fun dy y H2 e2 d2 p2 => ⟨x, y, rfl, O, dx, dy, live_mono (e1.trans e2) hr.live, d1.mono (hide_mono e2), d2, p2.v (hg dx dy)⟩
theorem s_f1 (A : At X T W N sc) {f : F1} {a : E} {x : Str} {y : Expr} {px pos : Pos} (hf : f1ok f = true) (F : FOk X (nmF1 f) x) (h : Holds X T (.blt (nmF1 f))) (ha : PE X y (tE T W a)) (hy : shp y = true) : SndE X T W (.f1 f a) (.Call (.Name x px) [y] [] pos) := by
  have pa := pa1 ha hy
  have st : starEach [y] X.env = (false, eval y X.env) :: starEach [] X.env := shp_star hy
  obtain ⟨rfl, g, n1, n3⟩ := F
  cases f with
  | len => exact rl1_of A (pe_callB (b_len A.C) g h boot_len pa n3 n1 st rfl) (fun _ => rfl) (f1D_nex _)
  | abs => exact rl1_of A (pe_callB b_abs g h (by decide +kernel) pa n3 n1 st rfl) (fun _ => rfl) (f1D_nex _)
  | int => exact rl1_of A (pe_callTy (b_int A.C) g h (by decide +kernel) pa n3 n1 st rfl) (fun _ => rfl) (f1D_nex _)
  | list => exact rl1_of A (pe_callTy (b_list A.C) g h (by decide +kernel) pa n3 n1 st rfl) (fun _ => rfl) (f1D_nex _)
  | sum => exact rl1_of A (pe_callB (b_sum A.C) g h (by decide +kernel) pa n3 n1 st rfl) (fun _ => rfl) (f1D_nex _)
  | max => exact rl1_of A (pe_callB (b_max A.C) g h (by decide +kernel) pa n3 n1 st rfl) (fun _ => rfl) (f1D_nex _)
  | min => exact rl1_of A (pe_callB (b_min A.C) g h (by decide +kernel) pa n3 n1 st rfl) (fun _ => rfl) (f1D_nex _)
  | sorted => exact rl1_of A (pe_callB (b_sorted A.C) g h (by decide +kernel) pa n3 n1 st rfl) (fun _ => rfl) (f1D_nex _)
  | str => exact rl1_of A (pe_callTy (b_str A.C) g h (by decide +kernel) pa n3 n1 st rfl) (fun _ => rfl) (f1D_nex _)
  | _ => cases hf
theorem s_f2 (A : At X T W N sc) {f : F2} {a b : E} {x : Str} {y z : Expr} {px pos : Pos} (F : FOk X (nmF2 f) x) (h : Holds X T (.blt (nmF2 f))) (ha : PE X y (tE T W a)) (hb : PE X z (tE T W b)) (hy : shp y = true) (hz : shp z = true) : SndE X T W (.f2 f a b) (.Call (.Name x px) [y, z] [] pos) := by
  have pa := pa2 ha hb hy hz
  have st : starEach [y, z] X.env = (false, eval y X.env) :: starEach [z] X.env := shp_star hy
  have pl : (backTo pos (starEach [z] X.env)).any (·.1) = false := star_plain (by simp [allShp, hz])
  obtain ⟨rfl, g, n1, n3⟩ := F
  cases f with
  | max => exact rl2_of A (pe_callB (b_max2 A.C) g h (by decide +kernel) pa n3 n1 st pl) (fun _ => rfl) (f2D_nex _)
  | min => exact rl2_of A (pe_callB (b_min2 A.C) g h (by decide +kernel) pa n3 n1 st pl) (fun _ => rfl) (f2D_nex _)
  | divmod => exact rl2_of A (pe_callB b_divmod g h (by decide +kernel) pa n3 n1 st pl) (fun _ => rfl) (f2D_nex _)
theorem s_bits {a : E} {y : Expr} {apos pos : Pos} (ha : PE X y (tE T W a)) (hy : noSuper y = true) (hl : (apos.endLine == pos.line) = true) : SndE X T W (.m0 .bits a) (.Call (.Attribute y "bit_length" apos) [] [] pos) := by
  refine snd_of (pe_weak (pe_bits ha (super_ok hy) hl) fun σ H Q ⟨O, ρ, hr, p⟩ => ?_) (fun _ => rfl) (fun _ _ _ q => nomatch q)
  refine tE_bind wantE hr (show PoE T W O σ H Q ((evE a ρ).bind fun x => m0D .bits x) from p) fun dx x H1 e1 d1 p1 => ?_
  cases d1 with
  | int i => exact ⟨i, rfl, p1 _ H1 (Ex.refl H1) (.int _)⟩
  | _ => exact False.elim p1
theorem s_upper {a : E} {y : Expr} {apos pos : Pos} (ha : PE X y (tE T W a)) (hy : noSuper y = true) (hl : (apos.endLine == pos.line) = true) : SndE X T W (.m0 .upper a) (.Call (.Attribute y "upper" apos) [] [] pos) := by
  refine snd_of (pe_weak (pe_upper ha (super_ok hy) hl) fun σ H Q ⟨O, ρ, hr, p⟩ => ?_) (fun _ => rfl) (fun _ _ _ q => nomatch q)
  refine tE_bind wantE hr (show PoE T W O σ H Q ((evE a ρ).bind fun x => m0D .upper x) from p) fun dx x H1 e1 d1 p1 => ?_
  cases d1 with
  | str x =>
    simp only [m0D] at p1
    split at p1
    · rename_i h
      have hA : ∀ c ∈ x.cps.toList, c < 128 := fun c hc => of_decide_eq_true (List.all_eq_true.mp h.1 c hc)
      refine ⟨⟨x, rfl⟩, x, rfl, rfl, by have := h.2; rw [strlen] at this; omega, ?_⟩
      rw [PyProof.Rows.upper_ascii hA]
      exact p1 _ H1 (Ex.refl H1) (by
        have e : x.cps.toList.map PyProof.Rows.up1 = (⟨x.cps.map PyProof.Rows.up1⟩ : Str).cps.toList := by simp
        rw [e]
        exact .str _)
    · exact False.elim p1
  | _ => exact False.elim p1
theorem s_isi (A : At X T W N sc) {a : E} {c : Cl} {x z : Str} {y : Expr} {px pz pos : Pos} (F : FOk X "isinstance" x) (G : FOk X (nmCl c) z) (h : Holds X T (.blt "isinstance")) (hc : clNeed (Holds X T) c) (ha : PE X y (tE T W a)) (hy : shp y = true) (hco : clok c = true) : SndE X T W (.isi a c) (.Call (.Name x px) [y, .Name z pz] [] pos) := by
  have st : starEach [y, .Name z pz] X.env = (false, eval y X.env) :: starEach [.Name z pz] X.env := shp_star hy
  obtain ⟨rfl, g, n1, n3⟩ := F
  obtain ⟨rfl, g2, m1, m3⟩ := G
  have key : ∀ cv : V, CallR X (.builtin "isinstance") (rI2 T c cv) → PE X (.Name (Str.ofString (nmCl c)) pz) (tC cv) → SndE X T W (.isi a c) (.Call (.Name (Str.ofString "isinstance") px) [y, .Name (Str.ofString (nmCl c)) pz] [] pos) := by
    intro cv hr0 hz
    refine snd_of (pe_weak (pe_callB hr0 g h (by decide +kernel) (pa_cons ha (pa_cons hz pa_nil) st) n3 n1 st rfl) fun σ H Q ⟨O, ρ, hr, p⟩ => ?_) (fun _ => rfl) (fun _ _ _ q => nomatch q)
    exact tE_bind wantE hr (show PoE T W O σ H Q ((evE a ρ).bind fun x => (isI x c).bind fun b => .ok (.bl b)) from p) fun dx x H1 e1 d1 p1 => ⟨x, rfl, O, dx, live_mono e1 hr.live, d1, p1.b (isI_nex dx c)⟩
  cases c with
  | exc nm d =>
    obtain ⟨h1, h2⟩ := hc
    exact key _ (b_isiE A.C h2) (pe_glob g2 h1 rfl m1)
  | obj nm d =>
    obtain ⟨h1, h2⟩ := hc
    exact key _ (b_isiO A.C h2) (pe_glob g2 h1 rfl m1)
  | way nm =>
    obtain ⟨aw, h1, h2⟩ := hc
    exact key _ (b_isiW A.C h2) (pe_glob g2 h1 rfl m1)
  | int => exact key _ (b_isiT A.C rfl) (pe_bltn g2 hc (by decide +kernel) rfl m3 m1)
  | bool => exact key _ (b_isiT A.C rfl) (pe_bltn g2 hc (by decide +kernel) rfl m3 m1)
  | str => exact key _ (b_isiT A.C rfl) (pe_bltn g2 hc (by decide +kernel) rfl m3 m1)
  | tuple => exact key _ (b_isiT A.C rfl) (pe_bltn g2 hc (by decide +kernel) rfl m3 m1)
  | list => exact key _ (b_isiT A.C rfl) (pe_bltn g2 hc (by decide +kernel) rfl m3 m1)
  | valueError => exact key _ (b_isiT A.C rfl) (pe_bltn g2 hc (by decide +kernel) rfl m3 m1)
  | flt nm => cases hco

/-! ### methods of texts -/
theorem toS_eq (x : Str) : toS x.cps.toList = x := by
  unfold toS
  simp
theorem strs_of {O : List Addr} {H : Hp} : ∀ {ds : List D} {vs : List V} {ys : List Str}, DVs T (hide O H) ds vs → asStrs ds = some ys → vs = ys.map V.str
  | _, _, _, .nil, e => by cases e; rfl
  | _, _, ys, .cons h r, e => by
    cases h with
    | str x =>
      simp only [asStrs, Option.map_eq_some_iff] at e
      obtain ⟨ms, e1, rfl⟩ := e
      rw [strs_of r e1, toS_eq]
      rfl
    | _ => simp [asStrs] at e
theorem dvs_strs {H : Hp} : ∀ (ys : List Str), DVs T H (ys.map ofS) (ys.map V.str)
  | [] => .nil
  | y :: r => .cons (.str y) (dvs_strs r)
theorem PoV.ofS {O : List Addr} {H : Hp} {Q : VK} {x : Str} (p : PoV T O H Q (.ok (ofS x))) : Q (.str x) H := p _ H (Ex.refl H) (.str x)
def idTM : TM → String
  | .startswith => "str.startswith"
  | .zfill => "str.zfill"
  | .rstrip => "str.rstrip"
  | .partition => "str.partition"
  | .split => "str.split"
  | .join => "str.join"
  | .index => "str.index"
def rTM (T : Tab) (m : TM) : V → List V → Hp → VK → Prop := fun x xs H Q => ∃ y, xs = [y] ∧ rB T (tmD m) x y H Q
theorem m_tm (A : At X T W N sc) : ∀ m : TM, MtR X (idTM m) (rTM T m) := by
  rintro m pins s σ H x xs v us Q I rx rs ⟨y, rfl, O, dx, dy, l, hx, hy, p⟩
  cases m with
  | startswith =>
    cases hx with
    | str a => cases hy with
      | str b =>
        have p : PoV T O H Q (.ok (.bl (Txt.startswith (toS a.cps.toList) (toS b.cps.toList)))) := p
        rw [toS_eq, toS_eq] at p
        exact mt_startswith pins s σ H _ _ v us Q I rx rs ⟨a, b, rfl, rfl, p.bl⟩
      | _ => exact False.elim p
    | _ => cases hy <;> exact False.elim p
  | zfill =>
    cases hx with
    | str a => cases hy with
      | int i =>
        have p : PoV T O H Q (if PadOk i = true then .ok (ofS (Txt.zfill (toS a.cps.toList) i)) else .no) := p
        rw [toS_eq] at p
        split at p
        · rename_i h
          exact mt_zfill pins s σ H _ _ v us Q I rx rs ⟨a, i, rfl, rfl, h, p.ofS⟩
        · exact False.elim p
      | _ => exact False.elim p
    | _ => cases hy <;> exact False.elim p
  | rstrip =>
    cases hx with
    | str a => cases hy with
      | str b =>
        have p : PoV T O H Q (if a.cps.toList.length ≤ line then .ok (ofS (Txt.rstripChars (toS a.cps.toList) (toS b.cps.toList))) else .no) := p
        rw [toS_eq, toS_eq, strlen, line_eq] at p
        split at p
        · rename_i h
          exact mt_rstripChars pins s σ H _ _ v us Q I rx rs ⟨a, b, rfl, rfl, h, p.ofS⟩
        · exact False.elim p
      | _ => exact False.elim p
    | _ => cases hy <;> exact False.elim p
  | partition =>
    cases hx with
    | str a => cases hy with
      | str b =>
        have p : PoV T O H Q (if b.cps.toList.length ≠ 0 ∧ a.cps.toList.length ≤ line then .ok (.tup [ofS (Txt.partition (toS a.cps.toList) (toS b.cps.toList)).1, ofS (Txt.partition (toS a.cps.toList) (toS b.cps.toList)).2.1, ofS (Txt.partition (toS a.cps.toList) (toS b.cps.toList)).2.2]) else .no) := p
        rw [toS_eq, toS_eq, strlen, strlen, line_eq] at p
        split at p
        · rename_i h
          exact mt_partition pins s σ H _ _ v us Q I rx rs ⟨a, b, rfl, rfl, by simpa using h.1, h.2, fun q n => p.tup l (.cons (.str _) (.cons (.str _) (.cons (.str _) .nil))) n⟩
        · exact False.elim p
      | _ => exact False.elim p
    | _ => cases hy <;> exact False.elim p
  | split =>
    cases hx with
    | str a => cases hy with
      | str b =>
        have p : PoV T O H Q (if b.cps.toList.length ≠ 0 ∧ a.cps.toList.length + 2 ≤ line then .ok (.lst ((Txt.split (toS a.cps.toList) (toS b.cps.toList)).map ofS)) else .no) := p
        rw [toS_eq, toS_eq, strlen, strlen, line_eq] at p
        split at p
        · rename_i h
          exact mt_split pins s σ H _ _ v us Q I rx rs ⟨a, b, rfl, rfl, by simpa using h.1, h.2, fun q n => p.lst l (dvs_strs _) n⟩
        · exact False.elim p
      | _ => exact False.elim p
    | _ => cases hy <;> exact False.elim p
  | join =>
    cases hx with
    | str a => cases hy with
      | @lst ds q vs h r =>
        have p : PoV T O H Q (match asStrs ds with
          | some ys => if (ys.map (·.length)).sum + ys.length * a.cps.toList.length ≤ 16777216 then .ok (ofS (Txt.join (toS a.cps.toList) ys)) else .no
          | none => .no) := p
        rw [toS_eq, strlen] at p
        split at p
        · rename_i ys e
          split at p
          · rename_i hz
            have e2 := strs_of r e
            subst e2
            exact mt_join pins s σ H _ _ v us Q I rx rs ⟨a, q, ys, rfl, rfl, .inl (by rw [A.C.hK]; exact ex_sql hide_ex h), hz, p.ofS⟩
          · exact False.elim p
        · exact False.elim p
      | _ => exact False.elim p
    | _ => cases hy <;> exact False.elim p
  | index =>
    cases hx with
    | str a => cases hy with
      | str b =>
        have p : PoV T O H Q (match Builtin.Str.occurrences (toS a.cps.toList) (toS b.cps.toList) 0 a.cps.toList.length 1 with
          | i :: _ => .ok (.int (i : Nat))
          | [] => .no) := p
        rw [toS_eq, toS_eq, strlen] at p
        split at p
        · rename_i i r e
          exact mt_sindex pins s σ H _ _ v us Q I rx rs ⟨a, b, i, r, rfl, rfl, e, p.int⟩
        · exact False.elim p
      | _ => exact False.elim p
    | _ => cases hy <;> exact False.elim p
theorem s_tm (A : At X T W N sc) {m : TM} {a b : E} {x y : Expr} {apos pos : Pos} (ha : PE X x (tE T W a)) (hb : PE X y (tE T W b)) (hx : noSuper x = true) (hy : shp y = true) (hl : (apos.endLine == pos.line) = true) : SndE X T W (.tm m a b) (.Call (.Attribute x (nmTM m) apos) [y] [] pos) := by
  have st : starEach [y] X.env = (false, eval y X.env) :: starEach [] X.env := shp_star hy
  have key : PE X (.Call (.Attribute x (nmTM m) apos) [y] [] pos) (tBM X.K "str" (rTM T m) (tE T W a) (tCons (tE T W b) tNil)) := by
    have hm := m_tm A m
    cases m with
    | startswith => exact pe_bm PySem.F.plainAttrs_str PySem.F.slot_str_startswith PySem.F.type_str_startswith hm ha (pa1 hb hy) (super_ok hx) (by rw [st]; rfl) hl st rfl
    | zfill => exact pe_bm PySem.F.plainAttrs_str PySem.F.slot_str_zfill PySem.F.type_str_zfill hm ha (pa1 hb hy) (super_ok hx) (by rw [st]; rfl) hl st rfl
    | rstrip => exact pe_bm PySem.F.plainAttrs_str PySem.F.slot_str_rstrip PySem.F.type_str_rstrip hm ha (pa1 hb hy) (super_ok hx) (by rw [st]; rfl) hl st rfl
    | partition => exact pe_bm PySem.F.plainAttrs_str PySem.F.slot_str_partition PySem.F.type_str_partition hm ha (pa1 hb hy) (super_ok hx) (by rw [st]; rfl) hl st rfl
    | split => exact pe_bm PySem.F.plainAttrs_str PySem.F.slot_str_split PySem.F.type_str_split hm ha (pa1 hb hy) (super_ok hx) (by rw [st]; rfl) hl st rfl
    | join => exact pe_bm PySem.F.plainAttrs_str PySem.F.slot_str_join PySem.F.type_str_join hm ha (pa1 hb hy) (super_ok hx) (by rw [st]; rfl) hl st rfl
    | index => exact pe_bm PySem.F.plainAttrs_str PySem.F.slot_str_index PySem.F.type_str_index hm ha (pa1 hb hy) (super_ok hx) (by rw [st]; rfl) hl st rfl
  refine snd_of (pe_weak key fun σ H Q ⟨O, ρ, hr, p⟩ => ?_) (fun _ => rfl) (fun _ _ _ q => nomatch q)
  refine tE_bind wantE hr (show PoE T W O σ H Q ((evE a ρ).bind fun x => (strD x).bind fun _ => (evE b ρ).bind fun y => tmD m x y) from p) fun dx x H1 e1 d1 p1 => ?_
  cases d1 with
  | str x => exact ⟨rfl, tE_bind wantE (hr.mono e1) (show PoE T W O σ H1 Q ((evE b ρ).bind fun y => tmD m _ y) from p1) fun dy y H2 e2 d2 p2 => ⟨y, rfl, O, _, dy, live_mono (e1.trans e2) hr.live, .str x, d2, p2.v (tmD_nex m _ dy)⟩⟩
  | _ => exact False.elim p1
/-! ### objects -/
theorem run_make0 {C : Addr} {pins : List (Addr × Obj)} {σ : L2.St} {H : Hp} {s : Shared} {Q : VK} (M : Mk0 X.K C) (I : Inv X pins σ H s)
    (h : ∀ x dx, H x = none → H dx = none → dx ≠ x → Q (.ref x) (upd (upd H dx (.own x)) x (.ins C dx []))) :
    wpAny (model X.prog X.w) X.A (call (.ref C) []) (EP X pins σ Q) X.xe s := by
  have I2 := Inv.made (C := C) I
  have hq := h (s.heap.objs.size + 1) s.heap.objs.size (I.hok.fresh (Nat.le_succ _)) (I.hok.fresh (Nat.le_refl _)) (Nat.ne_of_lt (Nat.lt_succ_self _))
  refine wpAny_call (make_map0 I.kIn M.makes M.init (fun self => PySem.W.Looks.of_pure (PySem.W.oi_bind self)) ?_)
  have ho : ((s.heap.push PySem.W.emptyDict).push (PySem.W.instObj C s.heap.objs.size)).get? (s.heap.objs.size + 1) = some (PySem.W.instObj C s.heap.objs.size) := by
    have := Heap.get?_push_size (s.heap.push PySem.W.emptyDict) (o := PySem.W.instObj C s.heap.objs.size) rfl
    rwa [Heap.size_push] at this
  have t1 : PySem.W.Looks (model X.prog X.w) ((s.heap.push PySem.W.emptyDict).push (PySem.W.instObj C s.heap.objs.size)) (typeOf (.ref (s.heap.objs.size + 1))) (.ref C) := NwA.type_at ho rfl
  have t2 : PySem.W.Looks (model X.prog X.w) ((s.heap.push PySem.W.emptyDict).push (PySem.W.instObj C s.heap.objs.size)) (isInstance (.ref (s.heap.objs.size + 1)) (.type "object")) true := t1.andThen (PySem.W.looks_mroIn I2.kIn M.top)
  refine codeAny_call_builtin PySem.W.oi_plain PySem.W.entry_oi (@PySem.W.check_slot (model X.prog X.w) _ _ _ "object.__init__" "object" "__init__" (.ref (s.heap.objs.size + 1)) [] [] _ PySem.W.oi_kind PySem.W.oi_split t2 (NwA.oi_args_any _ _ _) ?_)
  rw [PySem.W.oi_run]
  exact wpAny_pure ⟨rfl, ⟨V.ref (s.heap.objs.size + 1), _, I2, rfl, hq⟩⟩
def tMk0 (C : Addr) : TE := fun σ H Q => ∀ x dx, H x = none → H dx = none → dx ≠ x → Q (.ref x) (upd (upd H dx (.own x)) x (.ins C dx []))
theorem pe_mk0 {C : Addr} {x : Str} {p pos : Pos} (M : Mk0 X.K C) (hg : Gl X x) (hm : X.mg x = some (.ref C)) (hdb : (x == ("__debug__" : Str)) = false) : PE X (.Call (.Name x p) [] [] pos) (tMk0 C) := by
  refine ⟨fun pins s σ H Q I h => ?_⟩
  refine wpAny_Call_Name_kw (ld_glob I hg hm ?_ hdb)
  exact PySem.W.callWith_K0 I.kIn M.kp (run_make0 M I h)
theorem s_mk (A : At X T W N sc) {nm : String} {c : Nat} {x : Str} {px pos : Pos} (F : FOk X nm x) (h : Holds X T (.cls nm c)) : SndE X T W (.mk nm c) (.Call (.Name x px) [] [] pos) := by
  obtain ⟨h1, h2, h3⟩ := h
  obtain ⟨rfl, g, n1, n3⟩ := F
  refine snd_of (pe_weak (pe_mk0 h3 g h1 n1) fun σ H Q ⟨O, ρ, hr, p⟩ => ?_) (fun _ => rfl) (fun _ _ _ q => nomatch q)
  have p : ∀ v H', Ex H H' → DV T (hide O H') (.obj c) v → Q v H' := p
  intro y dx hy hd ne
  have e1 : Ex H (upd (upd H dx (.own y)) y (.ins (T.obj c) dx [])) := Ex.of fun a o q => by
    rw [upd_ne (ne_of_none q hy), upd_ne (ne_of_none q hd)]
    exact q
  exact p _ _ e1 (.obj h2 (by rw [hide_out (fun q => hr.live.1 y q hy)]; exact upd_same))
/-- o.m(e, ..), the method by the object's class -/
def tMethD (T : Tab) (ms : Nat → Sp) (E : L2.St → XK) (ta : TE) (t : TA) : TE := fun σ H Q => ta σ H fun x H1 => ∃ a c dx, x = .ref a ∧ c ∈ T.objs ∧ H1 a = some (.ins (T.obj c) dx []) ∧ t σ H1 fun vs H2 => ms c (x :: vs) H2 Q (E σ)
theorem meth_tree {o : Expr} {m : Str} {apos pos : Pos} {args : List Expr} {env : PySem.Env} (hb : attributeBase o m env (eval o env) = eval o env) (hf : methodCallForm (args.length + ([] : List Keyword).length) (backTo pos (starEach args env)) (backToKw pos (keywordEach [] env)) = true) (hl : (apos.endLine == pos.line) = true) :
    eval (.Call (.Attribute o m apos) args [] pos) env = (do
      let ov ← eval o env
      standAt apos.atName
      let (f, first) ← holding [ov] (getMethod ov m (do return (← importBound o env).getD true))
      callWith pos f first (backTo pos (starEach args env)) (backToKw pos (keywordEach [] env))) := by
  have hpos : methodCallPos true o env apos pos = pure pos := by unfold methodCallPos; simp [hl]
  rw [arm_eval_Call, hb]
  unfold methodCall
  rw [hf, hpos]
  simp only [pure_bind]
  rfl
theorem star_few {pos : Pos} {env : PySem.Env} {es : List Expr} (h : allShp es = true) (hl : es.length < 30) : methodCallForm (es.length + ([] : List Keyword).length) (backTo pos (starEach es env)) (backToKw pos (keywordEach [] env)) = true := by
  have k := star_plain (pos := pos) (env := env) h
  have k2 : (backTo pos (starEach es env)).all (!·.1) = true := by
    rw [List.all_eq_true]
    rw [List.any_eq_false] at k
    intro p hp
    have := k p hp
    simpa using this
  unfold methodCallForm
  rw [k2]
  have e : (backToKw pos (keywordEach [] env)) = [] := rfl
  rw [e]
  simp
  exact hl
theorem pe_methD {m : Str} {ms : Nat → Sp} {o e : Expr} {es : List Expr} {ta : TE} {t : TA} {apos pos : Pos} {E : L2.St → XK} (he : PE X o ta)
    (hm : ∀ c ∈ T.objs, ∃ k f fd ps, Room k X.A ∧ Cls X.K (T.obj c) ∧ Meth X.K (T.obj c) m f ∧ FnOk X.prog X.w X.K X.mg X.base (L2.CX X.prog X.w) k f fd ps (ms c) ∧ Binds X.K fd ps [])
    (hx : ∀ σ, PassesAt (L2.CX X.prog X.w) X σ (E σ)) (ha : PA X (e :: es) t) (hb : attributeBase o m X.env (eval o X.env) = eval o X.env) (hs : allShp (e :: es) = true) (hn : (e :: es).length < 30) (hl : (apos.endLine == pos.line) = true) :
    PE X (.Call (.Attribute o m apos) (e :: es) [] pos) (tMethD T ms E ta t) := by
  have hs2 : shp e = true ∧ allShp es = true := by
    simp only [allShp, Bool.and_eq_true] at hs
    exact hs
  refine ⟨fun pins s σ H Q I h => ?_⟩
  refine PySem.W.methodCall_KW (thn (he.run pins s σ H _ I h) fun u s1 ⟨x, H1, I1, rx, a, c, dx, ex, hc, ea, q⟩ => ?_) (meth_tree hb (star_few hs hn) hl)
  subst ex
  obtain rfl : u = Value.ref a := rx
  obtain ⟨k, f, fd, ps, hr, h1, h2, h3, h4⟩ := hm c hc
  refine getmeth_ok I1 ea h1 h2 rfl ?_
  refine PySem.W.callWith_K (first := [.ref a]) (h₀ := X.base) I.ok.mod.kin h2.kp (thn (ha.run pos pins s1 σ H1 _ I1 q) fun us s2 ⟨vs, H2, I2, r, q2⟩ => ⟨I2.kIn, ?_⟩) (shp_star hs2.1) (star_plain hs2.2)
  exact run_fnSD (dvs := []) (ds := []) (us := .ref a :: us) (vs := .ref a :: vs) (E := E) h3 hr h4 .nil (hx σ) I2 (.cons rfl r) (by rw [List.append_nil]; exact q2)
theorem s_meth (A : At X T W N sc) {m : String} {tbl : Nat → List D → R D} {a : E} {es : Es} {x y : Expr} {ys : List Expr} {apos pos : Pos} (h : Holds X T (.meth m tbl)) (ha : PE X x (tE T W a)) (hx : noSuper x = true) (hes : PA X (y :: ys) (tEs T W es)) (hy : allShp (y :: ys) = true) (hl : (apos.endLine == pos.line) = true) (hn : (y :: ys).length < 30) :
    SndE X T W (.meth m tbl a es) (.Call (.Attribute x (Str.ofString m) apos) (y :: ys) [] pos) := by
  refine snd_of (pe_weak (pe_methD (ms := fun c => spF T (tbl c)) ha h (fun σ => passAt A.tk σ) hes (super_ok hx) hy hn hl) fun σ H Q ⟨O, ρ, hr, p⟩ => ?_) (fun _ => rfl) (fun _ _ _ q => nomatch q)
  refine tE_bind wantE hr (show PoE T W O σ H Q ((evE a ρ).bind fun x => (objD x).bind fun c => (evEs es ρ).bind fun xs => tbl c (.obj c :: xs)) from p) fun dx v H1 e1 d1 p1 => ?_
  cases d1 with
  | @obj c b dx hc hb =>
    refine ⟨b, c, dx, rfl, hc, hide_at hb, ?_⟩
    refine tEs_bind wantE (hr.mono e1) (show PoE T W O σ H1 Q ((evEs es ρ).bind fun xs => tbl c (.obj c :: xs)) from p1) fun ds vs H2 e2 d2 p2 => ?_
    refine ⟨O, .obj c :: ds, live_mono (e1.trans e2) hr.live, .cons (.obj hc ((hide_mono e2).at hb fun _ z => (nomatch z))) d2, ?_⟩
    cases e : tbl c (.obj c :: ds) with
    | ok d => rw [e] at p2; exact p2
    | ex c => rw [e] at p2; exact p2
    | no => rw [e] at p2; exact p2
  | _ => exact False.elim p1
/-! ### comprehensions -/
theorem wipe_set {σ : L2.St} {i : Nat} {x y : Option V} : (σ.set i x).set i y = σ.set i y := by
  rw [List.set_set]
theorem Rl.hideD {O : List Addr} {σ : L2.St} {ρ : Env} {H H' : Hp} {D0 : Addr} (h : Rl T O σ ρ H) (e : Ex H H') (n : H D0 = none) (l : H' D0 ≠ none) : Rl T (D0 :: O) σ ρ H' := by
  have hx : Ew (hide O H) (hide (D0 :: O) H') := fun a o q => by
    unfold hide at q ⊢
    split at q
    · cases q
    · rename_i ha
      have hne : a ≠ D0 := fun z => by rw [z, n] at q; cases q
      rw [if_neg (by simp only [List.mem_cons, not_or]; exact ⟨hne, ha⟩)]
      exact e.w a o q
  refine ⟨⟨fun a ha => ?_, (live_mono e h.live).2⟩, h.len, fun i s q => ?_, h.sep⟩
  · rcases List.mem_cons.mp ha with rfl | ha
    · exact l
    · exact (live_mono e h.live).1 a ha
  · have z := h.at_ i s q
    cases s with
    | un => trivial
    | dat d => obtain ⟨v, h1, h2⟩ := z; exact ⟨v, h1, h2.mono hx⟩
    | own xs => obtain ⟨a, vs, h1, h2, h3, h4⟩ := z; exact ⟨a, vs, h1, List.mem_cons_of_mem _ h2, e.at h3 fun _ z => (nomatch z), h4.mono hx⟩
theorem pick_cons {g : D → R Bool} {f : D → R D} {x : D} {xs ys : List D} (h : pick g f (x :: xs) = .ok ys) : (g x = .ok false ∧ pick g f xs = .ok ys) ∨ ∃ y zs, g x = .ok true ∧ f x = .ok y ∧ pick g f xs = .ok zs ∧ ys = y :: zs := by
  unfold pick at h
  split at h
  · rename_i e
    split at h
    · rename_i y e2
      cases e3 : pick g f xs with
      | ok zs =>
        rw [e3] at h
        cases h
        exact .inr ⟨y, zs, e, e2, rfl, rfl⟩
      | ex c => rw [e3] at h; cases h
      | no => rw [e3] at h; cases h
    · cases h
  · rename_i e
    exact .inl ⟨e, h⟩
  · cases h
/-- the reading of a comprehension -/
theorem lc_read {i : Nat} {el : E} {src : Src} {g : D → R Bool} {tt : TT} {σ : L2.St} {H : Hp} {Q : VK} {O : List Addr} {ρ : Env} (hr : Rl T O σ ρ H) (hi : i < ρ.length)
    (p : PoE T W O σ H Q ((evSrc src ρ).bind fun xs => (pick g (fun x => evE el (ρ.set i (.dat x))) xs).bind fun ys => if xs.length < line then .ok (.lst ys) else .no))
    (ht : ∀ (O' : List Addr) (d : D) (v : V) (b : Bool) (H' : Hp) (K : Bool → Hp → Prop), Rl T O' (σ.set i (some v)) (ρ.set i (.dat d)) H' → g d = .ok b → (∀ H2, Ex H' H2 → K b H2) → tt (σ.set i (some v)) H' K) :
    tLc (tI T W src) (gName i) tt (tE T (fun _ _ _ _ => False) el) [i] σ H Q := by
  refine ⟨O, ρ, hr, ?_⟩
  cases es : evSrc src ρ with
  | ex c => rw [es] at p; exact p
  | no => rw [es] at p; exact p
  | ok ds =>
    rw [es] at p
    have p : PoE T W O σ H Q ((pick g (fun x => evE el (ρ.set i (.dat x))) ds).bind fun ys => if ds.length < line then .ok (.lst ys) else .no) := p
    cases ep : pick g (fun x => evE el (ρ.set i (.dat x))) ds with
    | ex c => exact absurd ep (pick_nex _ _ _ c)
    | no => rw [ep] at p; exact False.elim p
    | ok ys =>
      rw [ep] at p
      have p : PoE T W O σ H Q (if ds.length < line then .ok (.lst ys) else .no) := p
      by_cases hl : ds.length < line
      case neg => rw [if_neg hl] at p; exact False.elim p
      rw [if_pos hl] at p
      intro J H1 e1 Y D0 n0
      have n0' : H D0 = none := by
        cases q : H D0 with
        | none => rfl
        | some o => exact absurd n0 (e1.nn (by rw [q]; simp))
      have w1 : wipe σ [i] = σ.set i none := rfl
      -- behind k turns
      refine ⟨fun k m H' => m = ds.length - k ∧ k ≤ ds.length ∧ Ex H1 H' ∧ ∃ (done rest : List D) (vs : List V), H' D0 = some (.lst vs) ∧ DVs T (hide (D0 :: O) H') done vs ∧ done.length ≤ k ∧ pick g (fun x => evE el (ρ.set i (.dat x))) (ds.drop k) = .ok rest ∧ done ++ rest = ys,
        ⟨_, rfl, Nat.zero_le _, Ex.new n0, [], ys, [], upd_same, .nil, Nat.zero_le _, ep, rfl⟩, ?_⟩
      rintro k m H' ⟨rfl, hk, eH, done, rest, vs, hD, hdv, hdl, hpk, hys⟩
      have hlive : Lv T O H' := live_mono (e1.trans eH) hr.live
      have nO : D0 ∉ O := live_new (live_mono e1 hr.live) n0
      have hx : Ew (hide O H1) (hide (D0 :: O) H') := fun a o q => by
        unfold hide at q ⊢
        split at q
        · cases q
        · rename_i ha
          have hne : a ≠ D0 := fun z => by rw [z, n0] at q; cases q
          rw [if_neg (by simp only [List.mem_cons, not_or]; exact ⟨hne, ha⟩)]
          exact eH.w a o q
      have hlive2 : Lv T (D0 :: O) H' := ⟨fun a ha => by
        rcases List.mem_cons.mp ha with rfl | ha
        · rw [hD]; simp
        · exact hlive.1 a ha, hlive.2⟩
      obtain ⟨Yi, Ye⟩ := Y k (D0 :: O) H' hx hlive2
      by_cases hlt : k < ds.length
      · obtain ⟨d, hd⟩ : ∃ d, ds[k]? = some d := ⟨ds[k], List.getElem?_eq_getElem hlt⟩
        have hdrop : ds.drop k = d :: ds.drop (k + 1) := by
          rw [List.drop_eq_getElem_cons hlt]
          have := List.getElem?_eq_getElem hlt
          rw [hd] at this
          rw [Option.some.inj this]
        obtain ⟨Yg, Yy⟩ := Yi d hd
        refine .inr ⟨Yg, fun H3 => ∃ m', m' < ds.length - k ∧ (m' = ds.length - (k + 1) ∧ k + 1 ≤ ds.length ∧ Ex H1 H3 ∧ ∃ (done rest : List D) (vs : List V), H3 D0 = some (.lst vs) ∧ DVs T (hide (D0 :: O) H3) done vs ∧ done.length ≤ k + 1 ∧ pick g (fun x => evE el (ρ.set i (.dat x))) (ds.drop (k + 1)) = .ok rest ∧ done ++ rest = ys), fun H3 q => q, fun x H2 y => ?_⟩
        obtain ⟨e2, dx⟩ := Yy x H2 y
        show (fun σ2 H2 => wipe σ2 [i] = wipe σ [i] ∧ _) ((wipe σ [i]).set i (some x)) H2
        rw [w1, wipe_set]
        have hR : Rl T (D0 :: O) (σ.set i (some x)) (ρ.set i (.dat d)) H2 := by
          have h0 : Rl T (D0 :: O) σ ρ H2 := hr.hideD ((e1.trans eH).trans e2) n0' (by rw [e2.at hD fun _ z => (nomatch z)]; simp)
          exact h0.setd dx i
        refine ⟨by show (σ.set i (some x)).set i none = σ.set i none; rw [wipe_set], ?_⟩
        rw [hdrop] at hpk
        have hD2 : H2 D0 = some (.lst vs) := e2.at hD fun _ z => (nomatch z)
        have fin0 : ∀ H3, Ex H2 H3 → pick g (fun x => evE el (ρ.set i (.dat x))) (ds.drop (k + 1)) = .ok rest → ∃ m', m' < ds.length - k ∧ (m' = ds.length - (k + 1) ∧ k + 1 ≤ ds.length ∧ Ex H1 H3 ∧ ∃ (done rest : List D) (vs : List V), H3 D0 = some (.lst vs) ∧ DVs T (hide (D0 :: O) H3) done vs ∧ done.length ≤ k + 1 ∧ pick g (fun x => evE el (ρ.set i (.dat x))) (ds.drop (k + 1)) = .ok rest ∧ done ++ rest = ys) := fun H3 e3 hp => by
          refine ⟨ds.length - (k + 1), by omega, rfl, hlt, (eH.trans e2).trans e3, done, rest, vs, e3.at hD2 fun _ z => (nomatch z), hdv.mono (hide_mono (e2.trans e3)), by omega, hp, hys⟩
        rcases pick_cons hpk with ⟨hg, hp⟩ | ⟨y0, zs, hg, hf, hp, hrest⟩
        · refine ht (D0 :: O) d x false H2 _ hR hg fun H3 e3 => ?_
          rw [if_neg Bool.false_ne_true]
          exact fin0 H3 e3 hp
        · refine ht (D0 :: O) d x true H2 _ hR hg fun H3 e3 => ?_
          rw [if_pos rfl]
          refine ⟨D0 :: O, ρ.set i (.dat d), hR.mono e3, ?_⟩
          rw [hf]
          intro v H4 e4 dv
          have hD4 : H4 D0 = some (.lst vs) := e4.at (e3.at hD2 fun _ z => (nomatch z)) fun _ z => (nomatch z)
          refine ⟨vs, hD4, ?_, ?_⟩
          · rw [← hdv.length, ← line_eq]
            omega
          · refine ⟨ds.length - (k + 1), by omega, rfl, hlt, ?_, done ++ [y0], zs, vs ++ [v], upd_same, ?_, by rw [List.length_append, List.length_singleton]; omega, hp, by rw [List.append_assoc, List.singleton_append, ← hrest]; exact hys⟩
            · exact (((eH.trans e2).trans e3).trans e4).chg n0 (.inr ⟨_, hD4⟩) fun b hb => upd_ne hb
            · rw [hide_upd List.mem_cons_self]
              exact (hdv.mono (hide_mono ((e2.trans e3).trans e4))).append (.cons dv .nil)
      · have hkl : k = ds.length := by omega
        refine .inl ⟨Ye (by omega), ?_⟩
        subst hkl
        rw [List.drop_length] at hpk
        cases hpk
        rw [List.append_nil] at hys
        subst hys
        refine p _ H' (e1.trans eH) (.lst (SqL.of (by rw [hide_out nO]; exact hD)) (hdv.mono (hide_sub fun a ha => List.mem_cons_of_mem _ ha)))
def prF (i j : Nat) (el : E) (ρ : Env) (x : D) : R D := match x with
  | .tup [d, e] => evE el ((ρ.set i (.dat d)).set j (.dat e))
  | _ => .no
/-- the reading of a comprehension over pairs -/
theorem lc_readP {i j : Nat} (hij : i ≠ j) {el : E} {src : Src} {σ : L2.St} {H : Hp} {Q : VK} {O : List Addr} {ρ : Env} (hr : Rl T O σ ρ H) (hi : i < ρ.length) (hK : X.K = T.K)
    (p : PoE T W O σ H Q ((evSrc src ρ).bind fun xs => (pick (fun _ => .ok true) (prF i j el ρ) xs).bind fun ys => if xs.length < line then .ok (.lst ys) else .no)) :
    tLc (tI T W src) (gTup X.K 2 (gCons (gName i) (gCons (gName j) gNil))) tYes (tE T (fun _ _ _ _ => False) el) [i, j] σ H Q := by
  refine ⟨O, ρ, hr, ?_⟩
  cases es : evSrc src ρ with
  | ex c => rw [es] at p; exact p
  | no => rw [es] at p; exact p
  | ok ds =>
    rw [es] at p
    have p : PoE T W O σ H Q ((pick (fun _ => .ok true) (prF i j el ρ) ds).bind fun ys => if ds.length < line then .ok (.lst ys) else .no) := p
    cases ep : pick (fun _ => .ok true) (prF i j el ρ) ds with
    | ex c => exact absurd ep (pick_nex _ _ _ c)
    | no => rw [ep] at p; exact False.elim p
    | ok ys =>
      rw [ep] at p
      have p : PoE T W O σ H Q (if ds.length < line then .ok (.lst ys) else .no) := p
      by_cases hl : ds.length < line
      case neg => rw [if_neg hl] at p; exact False.elim p
      rw [if_pos hl] at p
      intro J H1 e1 Y D0 n0
      have n0' : H D0 = none := by
        cases q : H D0 with
        | none => rfl
        | some o => exact absurd n0 (e1.nn (by rw [q]; simp))
      -- behind k turns
      refine ⟨fun k m H' => m = ds.length - k ∧ k ≤ ds.length ∧ Ex H1 H' ∧ ∃ (done rest : List D) (vs : List V), H' D0 = some (.lst vs) ∧ DVs T (hide (D0 :: O) H') done vs ∧ done.length ≤ k ∧ pick (fun _ => .ok true) (prF i j el ρ) (ds.drop k) = .ok rest ∧ done ++ rest = ys,
        ⟨_, rfl, Nat.zero_le _, Ex.new n0, [], ys, [], upd_same, .nil, Nat.zero_le _, ep, rfl⟩, ?_⟩
      rintro k m H' ⟨rfl, hk, eH, done, rest, vs, hD, hdv, hdl, hpk, hys⟩
      have hlive : Lv T O H' := live_mono (e1.trans eH) hr.live
      have nO : D0 ∉ O := live_new (live_mono e1 hr.live) n0
      have hx : Ew (hide O H1) (hide (D0 :: O) H') := fun a o q => by
        unfold hide at q ⊢
        split at q
        · cases q
        · rename_i ha
          have hne : a ≠ D0 := fun z => by rw [z, n0] at q; cases q
          rw [if_neg (by simp only [List.mem_cons, not_or]; exact ⟨hne, ha⟩)]
          exact eH.w a o q
      have hlive2 : Lv T (D0 :: O) H' := ⟨fun a ha => by
        rcases List.mem_cons.mp ha with rfl | ha
        · rw [hD]; simp
        · exact hlive.1 a ha, hlive.2⟩
      obtain ⟨Yi, Ye⟩ := Y k (D0 :: O) H' hx hlive2
      by_cases hlt : k < ds.length
      · obtain ⟨d, hd⟩ : ∃ d, ds[k]? = some d := ⟨ds[k], List.getElem?_eq_getElem hlt⟩
        have hdrop : ds.drop k = d :: ds.drop (k + 1) := by
          rw [List.drop_eq_getElem_cons hlt]
          have := List.getElem?_eq_getElem hlt
          rw [hd] at this
          rw [Option.some.inj this]
        obtain ⟨Yg, Yy⟩ := Yi d hd
        refine .inr ⟨Yg, fun H3 => ∃ m', m' < ds.length - k ∧ (m' = ds.length - (k + 1) ∧ k + 1 ≤ ds.length ∧ Ex H1 H3 ∧ ∃ (done rest : List D) (vs : List V), H3 D0 = some (.lst vs) ∧ DVs T (hide (D0 :: O) H3) done vs ∧ done.length ≤ k + 1 ∧ pick (fun _ => .ok true) (prF i j el ρ) (ds.drop (k + 1)) = .ok rest ∧ done ++ rest = ys), fun H3 q => q, fun x H2 y => ?_⟩
        obtain ⟨e2, dx⟩ := Yy x H2 y
        rw [hdrop] at hpk
        have hD2 : H2 D0 = some (.lst vs) := e2.at hD fun _ z => (nomatch z)
        rcases pick_cons hpk with ⟨hg, hp⟩ | ⟨y0, zs, hg, hf, hp, hrest⟩
        · cases hg
        · unfold prF at hf
          split at hf
          case h_2 => cases hf
          rename_i d1 d2
          cases dx with
          | @tup _ a ws hq dws =>
          cases dws with
          | @cons _ v1 _ _ q1 dws =>
          cases dws with
          | @cons _ v2 _ _ q2 dws =>
          cases dws
          refine ⟨a, [v1, v2], rfl, by rw [hK]; exact ex_sqt hide_ex hq, rfl, ?_⟩
          refine ⟨v1, [v2], rfl, v2, [], rfl, rfl, ?_⟩
          have hw : ((wipe σ [i, j]).set i (some v1)).set j (some v2) = (σ.set i (some v1)).set j (some v2) := by
            show ((((σ.set j none).set i none).set i (some v1)).set j (some v2)) = _
            rw [List.set_set, List.set_comm _ _ hij, List.set_set, List.set_comm _ _ (Ne.symm hij)]
          rw [hw]
          refine ⟨by
            show (((σ.set i (some v1)).set j (some v2)).set j none).set i none = (σ.set j none).set i none
            rw [List.set_set, List.set_comm _ _ (Ne.symm hij), List.set_set, List.set_comm _ _ hij], ?_⟩
          have hR : Rl T (D0 :: O) ((σ.set i (some v1)).set j (some v2)) ((ρ.set i (.dat d1)).set j (.dat d2)) H2 := by
            have h0 : Rl T (D0 :: O) σ ρ H2 := hr.hideD ((e1.trans eH).trans e2) n0' (by rw [e2.at hD fun _ z => (nomatch z)]; simp)
            exact (h0.setd q1 i).setd q2 j
          refine ⟨D0 :: O, _, hR, ?_⟩
          rw [hf]
          intro v H4 e4 dv
          have hD4 : H4 D0 = some (.lst vs) := e4.at hD2 fun _ z => (nomatch z)
          refine ⟨vs, hD4, ?_, ?_⟩
          · rw [← hdv.length, ← line_eq]
            omega
          · refine ⟨ds.length - (k + 1), by omega, rfl, hlt, ?_, done ++ [y0], zs, vs ++ [v], upd_same, ?_, by rw [List.length_append, List.length_singleton]; omega, hp, by rw [List.append_assoc, List.singleton_append, ← hrest]; exact hys⟩
            · exact ((eH.trans e2).trans e4).chg n0 (.inr ⟨_, hD4⟩) fun b hb => upd_ne hb
            · rw [hide_upd List.mem_cons_self]
              exact (hdv.mono (hide_mono (e2.trans e4))).append (.cons dv .nil)
      · have hkl : k = ds.length := by omega
        refine .inl ⟨Ye (by omega), ?_⟩
        subst hkl
        rw [List.drop_length] at hpk
        cases hpk
        rw [List.append_nil] at hys
        subst hys
        refine p _ H' (e1.trans eH) (.lst (SqL.of (by rw [hide_out nO]; exact hD)) (hdv.mono (hide_sub fun a ha => List.mem_cons_of_mem _ ha)))
theorem own_name {x : Str} {i : Nat} {scope : Scope} {s : Shared} {H : Hp} {C : Addr} {cl : List (Str × Addr)} {fp : List Addr} {pos : Pos} (A : At X T W N sc) (h1 : N[i]? = some x) (h2 : isOwn scope x = true) : PG (X.blk s H scope (compEnvC scope cl C X.env) fp) (.Name x pos) (gName i) := by
  have hs : (X.blk s H scope (compEnvC scope cl C X.env) fp).env.scope = relS scope X.env.scope := rfl
  unfold isOwn at h2
  split at h2
  · rename_i e
    have k : (relS scope X.env.scope).names.lookup x = some .local := lookup_relS_keep (by simp) e
    refine pg_name (by rw [A.hN]; exact A.nd) (by rw [A.hN]; exact h1) (.inl ?_) (.inr ?_)
    · rw [hs]; exact k
    · rw [hs]; exact k
  · rename_i e
    have k : (relS scope X.env.scope).names.lookup x = some .cell := lookup_relS_keep (by simp) e
    refine pg_name (by rw [A.hN]; exact A.nd) (by rw [A.hN]; exact h1) (.inr ?_) (.inl ?_)
    · rw [hs]; exact k
    · show (scope.names.lookup x == some NameKind.cell) = true
      rw [e]
      rfl
  · cases h2
/-- σ has a place for each name -/
theorem in_len {i : Nat} {x : Str} {pins : List (Addr × Obj)} {σ : L2.St} {H : Hp} {s : Shared} {O : List Addr} {ρ : Env} (A : At X T W N sc) (I : Inv X pins σ H s) (hr : Rl T O σ ρ H) (h1 : N[i]? = some x) : i < ρ.length := by
  rw [← hr.len, I.len, A.hN]
  exact (List.getElem?_eq_some_iff.mp h1).1
theorem pe_weakI {e : Expr} {t t' : TE} (h : PE X e t) (w : ∀ pins s σ H Q, Inv X pins σ H s → t' σ H Q → t σ H Q) : PE X e t' := ⟨fun pins s σ H Q I q => h.run pins s σ H Q I (w pins s σ H Q I q)⟩
theorem s_lc (A : At X T W N sc) {i : Nat} {el : E} {src : Src} {x : Str} {elt iter : Expr} {scope : Scope} {px pos : Pos} (h1 : N[i]? = some x) (h2 : isOwn scope x = true) (h3 : blkC N sc scope [(x, i)] = true) (h4 : shp iter = true)
    (he : ∀ s H C cl fp, PE (X.blk s H scope (compEnvC scope cl C X.env) fp) elt (tE T (fun _ _ _ _ => False) el)) (hi : PI X (.Name x px) iter (tI T W src)) : SndE X T W (.lc i el src) (.ListComp elt [⟨.Name x px, iter, [], 0⟩] scope pos) := by
  refine snd_of (pe_weakI (pe_lc A.C.calm (by rw [A.hN]; exact A.nd) hi (by rw [A.hN, A.hs]; exact blkOk_by h3) (fun s H C cl fp => own_name A h1 h2) (fun _ _ _ _ _ => pts_nil) he (shp_fold h4)) fun pins s σ H Q I ⟨O, ρ, hr, p⟩ => ?_) (fun _ => rfl) (fun _ _ _ q => nomatch q)
  refine lc_read (g := fun _ => .ok true) hr (in_len A I hr h1) p fun O' d v b H' K _ hg k => ?_
  cases hg
  exact k H' (Ex.refl H')
theorem s_lcP (A : At X T W N sc) {i j : Nat} {el : E} {src : Src} {x y : Str} {elt iter : Expr} {scope : Scope} {px py p2 pos : Pos} {k0 : Nat} (h1 : N[i]? = some x) (g1 : N[j]? = some y) (hij : i ≠ j) (h2 : isOwn scope x = true) (g2 : isOwn scope y = true) (h3 : blkC N sc scope [(x, i), (y, j)] = true) (h4 : shp iter = true)
    (he : ∀ s H C cl fp, PE (X.blk s H scope (compEnvC scope cl C X.env) fp) elt (tE T (fun _ _ _ _ => False) el)) (hi : PI X (.Tuple [.Name x px, .Name y py] k0 p2) iter (tI T W src)) : SndE X T W (.lcP i j el src) (.ListComp elt [⟨.Tuple [.Name x px, .Name y py] k0 p2, iter, [], 0⟩] scope pos) := by
  refine snd_of (pe_weakI (pe_lc A.C.calm (by rw [A.hN]; exact A.nd) hi (by rw [A.hN, A.hs]; exact blkOk_by h3) (fun s H C cl fp => show PG (X.blk s H scope (compEnvC scope cl C X.env) fp) (.Tuple [.Name x px, .Name y py] k0 p2) (gTup X.K 2 (gCons (gName i) (gCons (gName j) gNil))) from pg_tup (X := X.blk s H scope (compEnvC scope cl C X.env) fp) A.C.calm (pgs_cons (own_name A h1 h2) (pgs_cons (own_name A g1 g2) pgs_nil))) (fun _ _ _ _ _ => pts_nil) he (shp_fold h4)) fun pins s σ H Q I ⟨O, ρ, hr, p⟩ => ?_) (fun _ => rfl) (fun _ _ _ q => nomatch q)
  exact lc_readP hij hr (in_len A I hr h1) A.C.hK p
theorem s_lcf (A : At X T W N sc) {i : Nat} {el cond : E} {src : Src} {x : Str} {elt iter c : Expr} {scope : Scope} {px pos : Pos} (h1 : N[i]? = some x) (h2 : isOwn scope x = true) (h3 : blkC N sc scope [(x, i)] = true) (h4 : shp iter = true)
    (he : ∀ s H C cl fp, PE (X.blk s H scope (compEnvC scope cl C X.env) fp) elt (tE T (fun _ _ _ _ => False) el)) (hc : ∀ s H C cl fp, PT (X.blk s H scope (compEnvC scope cl C X.env) fp) c (tT T (fun _ _ _ _ => False) cond)) (hi : PI X (.Name x px) iter (tI T W src)) : SndE X T W (.lcf i el src cond) (.ListComp elt [⟨.Name x px, iter, [c], 0⟩] scope pos) := by
  refine snd_of (pe_weakI (pe_lc A.C.calm (by rw [A.hN]; exact A.nd) hi (by rw [A.hN, A.hs]; exact blkOk_by h3) (fun s H C cl fp => own_name A h1 h2) (fun s H C cl fp => pts_one (hc s H C cl fp)) he (shp_fold h4)) fun pins s σ H Q I ⟨O, ρ, hr, p⟩ => ?_) (fun _ => rfl) (fun _ _ _ q => nomatch q)
  refine lc_read (g := fun x => (evE cond (ρ.set i (.dat x))).bind boolD) hr (in_len A I hr h1) p fun O' d v b H' K hR hg k => ?_
  refine ⟨O', ρ.set i (.dat d), hR, ?_⟩
  show PoT _ _ _ _ _ ((evE cond (ρ.set i (.dat d))).bind boolD)
  rw [hg]
  exact k

/-! ### a list of one's own, read -/
theorem s_oix (A : At X T W N sc) {i : Nat} {b : E} {x : Str} {y : Expr} {px pos : Pos} (h1 : N[i]? = some x) (h2 : vis sc x = true) (h3 : okName x = true) (hb : PE X y (tE T W b)) (hy : shp y = true) : SndE X T W (.oix i b) (.Subscript (.Name x px) y pos) := by
  refine snd_of (pe_weak (pe_ix ix_list (pe_var (i := i) (by rw [A.hN]; exact h1) (vis_ok A.hs h2) (okName_1 h3) (okName_2 h3)) hb (shp_ix hy)) fun σ H Q ⟨O, ρ, hr, p⟩ => ?_) (fun _ => rfl) (fun _ _ _ q => nomatch q)
  simp only [evE] at p
  split at p
  · rename_i xs e
    obtain ⟨a, vs, q1, q2, q3, q4⟩ := hr.at_ i _ e
    refine ⟨_, q1, ?_⟩
    refine tE_bind wantE hr p fun dy y H1 e1 d1 p1 => ?_
    cases d1 with
    | int j =>
      have p1 := p1.v (ixD_nex _ _)
      simp only [ixD] at p1
      split at p1
      · rename_i d e
        rw [place_ix, Option.bind_eq_some_iff] at e
        obtain ⟨k, k1, k2⟩ := e
        obtain ⟨w, hw, dw⟩ := q4.get k2
        refine ⟨a, vs, j, w, rfl, rfl, SqL.of (e1.at q3 fun _ z => (nomatch z)), ?_, p1 _ H1 (Ex.refl H1) (dw.mono (hide_mono e1))⟩
        unfold atI
        rw [← q4.length, k1]
        exact hw
      · exact False.elim p1
    | _ => exact False.elim (p1.v (ixD_nex _ _))
  · exact False.elim p
theorem s_olen (A : At X T W N sc) {i : Nat} {x f : Str} {px pf pos : Pos} (F : FOk X "len" f) (hB : Holds X T (.blt "len")) (h1 : N[i]? = some x) (h2 : vis sc x = true) (h3 : okName x = true) : SndE X T W (.olen i) (.Call (.Name f pf) [.Name x px] [] pos) := by
  obtain ⟨rfl, g, n1, n3⟩ := F
  refine snd_of (pe_weak (pe_callB call_len_seq g hB boot_len (pa_cons (pe_var (i := i) (by rw [A.hN]; exact h1) (vis_ok A.hs h2) (okName_1 h3) (okName_2 h3)) pa_nil) n3 n1 rfl rfl) fun σ H Q ⟨O, ρ, hr, p⟩ => ?_) (fun _ => rfl) (fun _ _ _ q => nomatch q)
  simp only [evE] at p
  split at p
  · rename_i xs e
    obtain ⟨a, vs, q1, q2, q3, q4⟩ := hr.at_ i _ e
    exact ⟨_, q1, a, vs, rfl, .inl (SqL.of q3), by rw [← q4.length]; exact p _ H (Ex.refl H) (.int _)⟩
  · exact False.elim p
theorem s_onz (A : At X T W N sc) {i : Nat} {x : Str} {px pl pos : Pos} (h1 : N[i]? = some x) (h2 : vis sc x = true) (h3 : okName x = true) : SndE X T W (.onz i) (.Compare (.Name x px) [.NotEq] [.List [] pl] pos) := by
  have hu : X.A.units + 64 < cLine := by have := A.C.units; omega
  have key : ∀ {σ : L2.St} {H : Hp} {Q : VK}, tE T W (.onz i) σ H Q → tOp (rNeD X.K) (tVar i) (tLst tNil) σ H Q := by
    intro σ H Q ⟨O, ρ, hr, p⟩
    simp only [evE] at p
    split at p
    · rename_i xs e
      split at p
      · rename_i hp
        obtain ⟨a, vs, q1, q2, q3, q4⟩ := hr.at_ i _ e
        refine ⟨_, q1, Nat.zero_le _, fun b n => ⟨.list (pys xs), .list [], ?_, ?_, shaped_l hp, rfl, ?_⟩⟩
        · exact .lst (SqL.of ((Ex.new n).at q3 fun _ z => (nomatch z))) (by rw [A.C.hK]; exact dps_of (q4.mono (hide_ex.trans (Ex.new n).w)) hp)
        · exact .lst (SqL.of upd_same) .nil
        · have e2 : (!PyData.eqv (.list (pys xs)) (.list [])) = !xs.isEmpty := by
            cases xs <;> simp [pys, PyData.eqv, PyData.eqvAll]
          rw [e2]
          exact p _ _ (Ex.new n) (.bl _)
      · exact False.elim p
    · exact False.elim p
  refine ⟨pe_weak (pe_cmpR (op_neD hu) (pe_var (i := i) (by rw [A.hN]; exact h1) (vis_ok A.hs h2) (okName_1 h3) (okName_2 h3)) (pe_lst pa_nil) rfl) fun σ H Q q => key q,
    pt_weak (pt_cmpR (op_neD hu) (pe_var (i := i) (by rw [A.hN]; exact h1) (vis_ok A.hs h2) (okName_1 h3) (okName_2 h3)) (pe_lst pa_nil) rfl) fun σ H Q ⟨O, ρ, hr, p⟩ => ?_, fun _ _ _ q => nomatch q⟩
  refine key ⟨O, ρ, hr, ?_⟩
  have p : PoT T W σ H Q ((evE (.onz i) ρ).bind boolD) := p
  cases e : evE (.onz i) ρ with
  | ok d =>
    rw [e] at p
    intro v H' e' dv
    cases dv with
    | bl k => exact ⟨k, rfl, p H' e'⟩
    | _ => exact False.elim p
  | ex c => rw [e] at p; exact p
  | no => rw [e] at p; exact p
/-! ### ranges -/
theorem pi_r1 (A : At X T W N sc) {a : E} {x : Str} {y tg : Expr} {px pos : Pos} (F : FOk X "range" x) (h : Holds X T (.blt "range")) (ha : PE X y (tE T W a)) (hy : shp y = true) : PI X tg (.Call (.Name x px) [y] [] pos) (tI T W (.rng1 a)) := by
  obtain ⟨rfl, g, n1, n3⟩ := F
  refine pi_weak (pi_range1 g h (pa1 ha hy) (shp_star hy)) fun σ H Rk ⟨O, ρ, hr, p⟩ => ?_
  refine ⟨O, ρ, hr, ?_⟩
  simp only [evSrc] at p
  cases e : evE a ρ with
  | ok d =>
    rw [e] at p
    intro v H' e' dv
    cases dv with
    | int j =>
      simp only [R.bind_ok, rng1D] at p
      split at p
      · rename_i ds ed
        split at ed
        · rename_i hs
          cases ed
          exact ⟨j, rfl, (small_ok hs).1, (small_ok hs).2, p _ H' e' yl_rng1⟩
        · cases ed
      · rename_i ed
        split at ed <;> cases ed
      · exact False.elim p
    | _ => exact False.elim p
  | ex c => rw [e] at p; exact p
  | no => rw [e] at p; exact p
theorem pi_zp (A : At X T W N sc) {a b : E} {x : Str} {y z : Expr} {px pos tpos : Pos} {elts : List Expr} {kk : Nat} (F : FOk X "zip" x) (h : Holds X T (.blt "zip")) (ha : PE X y (tE T W a)) (hb : PE X z (tE T W b)) (hy : shp y = true) (hz : shp z = true) : PI X (.Tuple elts kk tpos) (.Call (.Name x px) [y, z] [] pos) (tI T W (.zip a b)) := by
  obtain ⟨rfl, g, n1, n3⟩ := F
  refine pi_weak (pi_zip g h (pa2 ha hb hy hz) (shp_star hy) (by rw [shp_star hz]; rfl)) fun σ H Rk ⟨O, ρ, hr, p⟩ => ?_
  refine ⟨O, ρ, hr, ?_⟩
  simp only [evSrc] at p
  cases e : evE a ρ with
  | ok d =>
    rw [e] at p
    intro v H' e' dv
    refine ⟨O, ρ, hr.mono e', ?_⟩
    simp only [R.bind_ok] at p
    cases e2 : evE b ρ with
    | ok d2 =>
      rw [e2] at p
      intro w H2 e3 dw
      cases dv with
      | lst h1 r1 => cases dw with
        | lst h2 r2 =>
          simp only [R.bind_ok, zipD] at p
          split at p
          · rename_i ed
            split at ed
            · cases ed
              exact ⟨_, _, _, _, rfl, by rw [A.C.hK]; exact ex_sql (hide_ex.trans e3) h1, by rw [A.C.hK]; exact ex_sql hide_ex h2, p _ _ (e'.trans e3) (yl_zip A.C.hK (ex_sql (hide_mono e3) h1) (r1.mono (hide_mono e3)) h2 r2)⟩
            · cases ed
          · rename_i ed
            split at ed <;> cases ed
          · exact False.elim p
        | _ => exact False.elim p
      | _ => exact False.elim p
    | ex c => rw [e2] at p; exact fun H1 e3 hc => p H1 (e'.trans e3) hc
    | no => rw [e2] at p; exact p
  | ex c => rw [e] at p; exact p
  | no => rw [e] at p; exact p
theorem pi_r2 (A : At X T W N sc) {a b : E} {x : Str} {y z tg : Expr} {px pos : Pos} (F : FOk X "range" x) (h : Holds X T (.blt "range")) (ha : PE X y (tE T W a)) (hb : PE X z (tE T W b)) (hy : shp y = true) (hz : shp z = true) : PI X tg (.Call (.Name x px) [y, z] [] pos) (tI T W (.rng2 a b)) := by
  obtain ⟨rfl, g, n1, n3⟩ := F
  refine pi_weak (pi_range2 g h (pa2 ha hb hy hz) (by rw [shp_star hy, shp_star hz]; rfl) (by rw [shp_star hz]; rfl)) fun σ H Rk ⟨O, ρ, hr, p⟩ => ?_
  refine ⟨O, ρ, hr, ?_⟩
  simp only [evSrc] at p
  cases e : evE a ρ with
  | ok d =>
    rw [e] at p
    intro v H' e' dv
    refine ⟨O, ρ, hr.mono e', ?_⟩
    simp only [R.bind_ok] at p
    cases e2 : evE b ρ with
    | ok d2 =>
      rw [e2] at p
      intro w H2 e3 dw
      cases dv with
      | int i => cases dw with
        | int j =>
          simp only [R.bind_ok, rng2D] at p
          split at p
          · rename_i ds ed
            split at ed
            · rename_i hs
              rw [Bool.and_eq_true] at hs
              cases ed
              exact ⟨i, j, rfl, ⟨(small_ok hs.1).1, (small_ok hs.1).2, (small_ok hs.2).1, (small_ok hs.2).2⟩, p _ H2 (e'.trans e3) yl_rng1⟩
            · cases ed
          · rename_i ed
            split at ed <;> cases ed
          · exact False.elim p
        | _ => exact False.elim p
      | _ => cases dw <;> exact False.elim p
    | ex c => rw [e2] at p; exact fun H2 e3 => p H2 (e'.trans e3)
    | no => rw [e2] at p; exact p
  | ex c => rw [e] at p; exact p
  | no => rw [e] at p; exact p
theorem pi_r3 (A : At X T W N sc) {a b c : E} {x : Str} {y z w tg : Expr} {px pos : Pos} (F : FOk X "range" x) (h : Holds X T (.blt "range")) (ha : PE X y (tE T W a)) (hb : PE X z (tE T W b)) (hc : PE X w (tE T W c)) (hy : shp y = true) (hz : shp z = true) (hw : shp w = true) :
    PI X tg (.Call (.Name x px) [y, z, w] [] pos) (tI T W (.rng3 a b c)) := by
  obtain ⟨rfl, g, n1, n3⟩ := F
  refine pi_weak (pi_range3 g h (pa3 ha hb hc hy hz hw) (shp_star hy) (star_plain (by simp [allShp, hz, hw]))) fun σ H Rk ⟨O, ρ, hr, p⟩ => ?_
  refine ⟨O, ρ, hr, ?_⟩
  simp only [evSrc] at p
  cases e : evE a ρ with
  | ok d =>
    rw [e] at p
    intro v H' e' dv
    refine ⟨O, ρ, hr.mono e', ?_⟩
    simp only [R.bind_ok] at p
    cases e2 : evE b ρ with
    | ok d2 =>
      rw [e2] at p
      intro w H2 e3 dw
      refine ⟨O, ρ, hr.mono (e'.trans e3), ?_⟩
      simp only [R.bind_ok] at p
      cases e4 : evE c ρ with
      | ok d3 =>
        rw [e4] at p
        intro u H3 e5 du
        cases dv with
        | int i => cases dw with
          | int j => cases du with
            | int k =>
              simp only [R.bind_ok, rng3D] at p
              split at p
              · rename_i ds ed
                split at ed
                · rename_i hs
                  rw [Bool.and_eq_true, Bool.and_eq_true, decide_eq_true_eq] at hs
                  cases ed
                  exact ⟨i, j, k, _, rfl, rgc_ok hs.1.1 hs.1.2 hs.2, p _ H3 ((e'.trans e3).trans e5) yl_rng⟩
                · cases ed
              · rename_i ed
                split at ed <;> cases ed
              · exact False.elim p
            | _ => exact False.elim p
          | _ => cases du <;> exact False.elim p
        | _ => cases dw <;> cases du <;> exact False.elim p
      | ex c => rw [e4] at p; exact fun H3 e5 => p H3 ((e'.trans e3).trans e5)
      | no => rw [e4] at p; exact p
    | ex c => rw [e2] at p; exact fun H2 e3 => p H2 (e'.trans e3)
    | no => rw [e2] at p; exact p
  | ex c => rw [e] at p; exact p
  | no => rw [e] at p; exact p
end
end
end MP

set_option Elab.async false
set_option linter.all false
set_option maxRecDepth 100000
set_option maxHeartbeats 16000000
set_option autoImplicit false
/-! MPV: comprehensions that an exception may leave; list(reversed(..)); a list of one's own lent; a def that tells a new list. -/
namespace MP
open PySem L2
open PyProof.Rows hiding St
theorem clNeed_imp {Φ Ψ : Need → Prop} (h : ∀ n, Φ n → Ψ n) (c : Cl) (o : clNeed Φ c) : clNeed Ψ c := by
  cases c <;> exact h _ o
theorem inB_imp {Φ Ψ : Need → Prop} (h : ∀ n, Φ n → Ψ n) : ∀ n, inB Φ n → inB Ψ n := by
  intro n o
  cases n <;> first | exact h _ o | exact False.elim o
theorem inL_imp {Φ Ψ : Need → Prop} (h : ∀ n, Φ n → Ψ n) : ∀ n, inL Φ n → inL Ψ n := by
  intro n o
  cases n <;> first | exact h _ o | exact False.elim o
mutual
theorem okE_imp {Φ Ψ : Need → Prop} (h : ∀ n, Φ n → Ψ n) : ∀ m : E, okE Φ m → okE Ψ m
  | .var _, _ => trivial
  | .int _, _ => trivial
  | .bl _, _ => trivial
  | .non, _ => trivial
  | .dic, _ => trivial
  | .str _, _ => trivial
  | .glo _ _, o => h _ o
  | .bin _ a b, o => ⟨okE_imp h a o.1, okE_imp h b o.2⟩
  | .neg a, o => okE_imp h a o
  | .cmp _ a b, o => ⟨okE_imp h a o.1, okE_imp h b o.2⟩
  | .chn _ _ a b c, o => ⟨okE_imp h a o.1, okE_imp h b o.2.1, okE_imp h c o.2.2⟩
  | .chn3 _ _ _ a b c d, o => ⟨okE_imp h a o.1, okE_imp h b o.2.1, okE_imp h c o.2.2.1, okE_imp h d o.2.2.2⟩
  | .and a b, o => ⟨okE_imp h a o.1, okE_imp h b o.2⟩
  | .or a b, o => ⟨okE_imp h a o.1, okE_imp h b o.2⟩
  | .not a, o => okE_imp h a o
  | .ite _ _ _, _ => trivial
  | .tup es, o => okEs_imp h es o
  | .lst es, o => okEs_imp h es o
  | .ix a b, o => ⟨okE_imp h a o.1, okE_imp h b o.2⟩
  | .slcL a b, o => ⟨okE_imp h a o.1, okE_imp h b o.2⟩
  | .slcH a b, o => ⟨okE_imp h a o.1, okE_imp h b o.2⟩
  | .slc a b c, o => ⟨okE_imp h a o.1, okE_imp h b o.2.1, okE_imp h c o.2.2⟩
  | .call _ _ es _, o => ⟨h _ o.1, okEs_imp h es o.2⟩
  | .f1 _ a, o => ⟨h _ o.1, okE_imp h a o.2⟩
  | .f2 _ a b, o => ⟨h _ o.1, okE_imp h a o.2.1, okE_imp h b o.2.2⟩
  | .m0 _ a, o => okE_imp h a o
  | .tm _ a b, o => ⟨okE_imp h a o.1, okE_imp h b o.2⟩
  | .isi a c, o => ⟨h _ o.1, clNeed_imp h c o.2.1, okE_imp h a o.2.2⟩
  | .lc _ el src, o => ⟨okE_imp (inB_imp h) el o.1, okSrc_imp h src o.2⟩
  | .lcP _ _ el src, o => ⟨okE_imp (inB_imp h) el o.1, okSrc_imp h src o.2⟩
  | .lcf _ el src c, o => ⟨okE_imp (inB_imp h) el o.1, okSrc_imp h src o.2.1, okE_imp (inB_imp h) c o.2.2⟩
  | .lcX _ el src, o => ⟨okE_imp (inB_imp h) el o.1, okSrc_imp h src o.2.1, h _ o.2.2⟩
  | .lcXT _ el src, o => ⟨okE_imp (inB_imp h) el o.1, okSrc_imp h src o.2.1, h _ o.2.2⟩
  | .lcXC _ el src c, o => ⟨okE_imp (inB_imp h) el o.1, okSrc_imp h src o.2.1, okE_imp (inB_imp h) c o.2.2.1, h _ o.2.2.2⟩
  | .lcXF _ el src c, o => ⟨okE_imp (inB_imp h) el o.1, okSrc_imp h src o.2.1, okE_imp (inB_imp h) c o.2.2.1, h _ o.2.2.2⟩
  | .srtK _ k a, o => ⟨h _ o.1, h _ o.2.1, okE_imp (inL_imp h) k o.2.2.1, okE_imp h a o.2.2.2⟩
  | .lrev a, o => ⟨h _ o.1, h _ o.2.1, okE_imp h a o.2.2⟩
  | .jrv a b, o => ⟨h _ o.1, okE_imp h a o.2.1, okE_imp h b o.2.2⟩
  | .lsR p _ q t c, o => ⟨okE_imp h p o.1, okE_imp h q o.2.1, okE_imp h t o.2.2.1, okE_imp h c o.2.2.2⟩
  | .callF _ _ es _, o => ⟨h _ o.1, okEs_imp h es o.2⟩
  | .lend _ a, o => okE_imp h a o
  | .mk _ _, o => h _ o
  | .meth _ _ a es, o => ⟨h _ o.1, okE_imp h a o.2.1, okEs_imp h es o.2.2⟩
  | .oix _ b, o => okE_imp h b o
  | .onz _, _ => trivial
  | .olen _, o => h _ o
theorem okEs_imp {Φ Ψ : Need → Prop} (h : ∀ n, Φ n → Ψ n) : ∀ m : Es, okEs Φ m → okEs Ψ m
  | .nil, _ => trivial
  | .cons a r, o => ⟨okE_imp h a o.1, okEs_imp h r o.2⟩
theorem okSrc_imp {Φ Ψ : Need → Prop} (h : ∀ n, Φ n → Ψ n) : ∀ m : Src, okSrc Φ m → okSrc Ψ m
  | .e a, o => okE_imp h a o
  | .rng1 a, o => ⟨h _ o.1, okE_imp h a o.2⟩
  | .rng2 a b, o => ⟨h _ o.1, okE_imp h a o.2.1, okE_imp h b o.2.2⟩
  | .rng3 a b c, o => ⟨h _ o.1, okE_imp h a o.2.1, okE_imp h b o.2.2.1, okE_imp h c o.2.2.2⟩
  | .zip a b, o => ⟨h _ o.1, okE_imp h a o.2.1, okE_imp h b o.2.2⟩
end
section
variable {T : Tab}
section
variable {X : Cx} {W : WX} {N : List Str} {sc : Scope}
theorem At.blkX (A : At X T W N sc) (s : Shared) (H : Hp) (scope : Scope) (C : Addr) (cl : List (Str × Addr)) (fp : List Addr) (xe : Value → Shared → Prop) {W' : WX} (tk : Takes (blkX X s H scope (compEnvC scope cl C X.env) fp xe) W') : At (blkX X s H scope (compEnvC scope cl C X.env) fp xe) T W' N (relS scope sc) :=
  ⟨⟨A.C.hK, A.C.calm, A.C.units, A.C.exT, A.C.exI, A.C.exV, A.C.exN, A.C.exF, A.C.exM, A.C.dig⟩, A.hN, A.nd, by rw [← A.hs]; rfl, tk⟩
theorem holds_blk {s : Shared} {H : Hp} {scope : Scope} {ce : PySem.Env} {fp : List Addr} : ∀ n, inB (Holds X T) n → Holds (X.blk s H scope ce fp) T n := by
  intro n h
  cases n <;> first | exact h | exact False.elim h
theorem holds_blkX {s : Shared} {H : Hp} {scope : Scope} {ce : PySem.Env} {fp : List Addr} {xe : Value → Shared → Prop} : ∀ n, inB (Holds X T) n → Holds (blkX X s H scope ce fp xe) T n := by
  intro n h
  cases n <;> first | exact h | exact False.elim h
/-! ### wiping -/
theorem wipe_comm {σ : L2.St} {i : Nat} {x : Option V} : ∀ {vs : List Nat}, i ∉ vs → wipe (σ.set i x) vs = (wipe σ vs).set i x
  | [], _ => rfl
  | v :: vs, h => by
    simp only [List.mem_cons, not_or] at h
    unfold wipe
    rw [wipe_comm h.2, List.set_comm _ _ h.1]
theorem wipe_drop {σ : L2.St} {i : Nat} {x : Option V} : ∀ {vs : List Nat}, i ∈ vs → wipe (σ.set i x) vs = wipe σ vs
  | v :: vs, h => by
    unfold wipe
    by_cases q : i ∈ vs
    · rw [wipe_drop q]
    · rcases List.mem_cons.mp h with rfl | h
      · rw [wipe_comm q, List.set_set]
      · exact absurd h q
theorem wipe_twice {σ : L2.St} : ∀ {vs ws : List Nat}, (∀ v ∈ vs, v ∈ ws) → wipe (wipe σ vs) ws = wipe σ ws
  | [], _, _ => rfl
  | v :: vs, ws, h => by
    show wipe ((wipe σ vs).set v none) ws = _
    rw [wipe_drop (h v List.mem_cons_self)]
    exact wipe_twice fun u hu => h u (List.mem_cons_of_mem _ hu)
theorem Rl.wiped {O : List Addr} {σ : L2.St} {ρ : Env} {H : Hp} (h : Rl T O σ ρ H) : ∀ vs : List Nat, Rl T O (wipe σ vs) (wipeR ρ vs) H
  | [] => h
  | v :: vs => (Rl.wiped h vs).setn v none
/-- names given one by one -/
theorem gNs_set {O : List Addr} {H : Hp} {ws : List Nat} : ∀ {is : List Nat} {ds : List D} {vs : List V} {σ : L2.St} {ρ r : Env} {K : L2.St → Hp → Prop}, Rl T O σ ρ H → DVs T (hide O H) ds vs → setAll is ds ρ = some r → (∀ i ∈ is, i ∈ ws) → (∀ σ2, Rl T O σ2 r H → wipe σ2 ws = wipe σ ws → K σ2 H) → is.length = vs.length ∧ (is.foldr (fun i t => gCons (gName i) t) gNil) vs σ H K
  | [], ds, vs, σ, ρ, r, K, hr, dv, h, hw, k => by
    cases dv with
    | nil =>
      simp only [setAll, Option.some.injEq] at h
      subst h
      exact ⟨rfl, rfl, k σ hr rfl⟩
    | cons _ _ => simp [setAll] at h
  | i :: is, ds, vs, σ, ρ, r, K, hr, dv, h, hw, k => by
    cases dv with
    | nil => simp [setAll] at h
    | @cons d v ds vs q dv =>
      simp only [setAll] at h
      obtain ⟨e, z⟩ := gNs_set (ws := ws) (hr.setd q i) dv h (fun j hj => hw j (List.mem_cons_of_mem _ hj)) fun σ2 h1 h2 => k σ2 h1 (h2.trans (wipe_drop (hw i List.mem_cons_self)))
      exact ⟨by rw [List.length_cons, List.length_cons, e], v, vs, rfl, z⟩
/-- the reading of a comprehension -/
theorem lc_readX {ws : List Nat} {bd : D → Option Env} {gD : D → R Bool} {f : D → R D} {el : E} {src : Src} {g : TG} {tt : TT} {σ : L2.St} {H : Hp} {Q : VK} {O : List Addr} {ρ : Env} (hr : Rl T O σ ρ H)
    (hf : ∀ x, f x = onO (bd x) (evE el)) (hg0 : ∀ x, bd x = none → gD x = .no ∨ gD x = .ok true)
    (p : PoE T W O σ H Q ((evSrc src ρ).bind fun xs => ((pickX gD f xs).gd (decide (xs.length < line))).bind fun ys => if xs.length < line then .ok (.lst ys) else .no))
    (hgt : ∀ (O' : List Addr) (x : D) (v : V) (r : Env) (H' : Hp) (K : L2.St → Hp → Prop), Rl T O' σ ρ H' → DV T (hide O' H') x v → bd x = some r → (∀ σ2, Rl T O' σ2 r H' → wipe σ2 ws = wipe σ ws → K σ2 H') → g v (wipe σ ws) H' K)
    (ht : ∀ (O' : List Addr) (x : D) (r : Env) (σ2 : L2.St) (H' : Hp) (K : Bool → Hp → Prop), bd x = some r → Rl T O' σ2 r H' → PoT T (wOut W σ) σ2 H' K (gD x) → tt σ2 H' K) :
    tLc (tI T W src) g tt (tE T (wOut W σ) el) ws σ H Q := by
  refine ⟨O, ρ, hr, ?_⟩
  cases es : evSrc src ρ with
  | ex c => rw [es] at p; exact p
  | no => rw [es] at p; exact p
  | ok ds =>
    rw [es] at p
    have p : PoE T W O σ H Q (((pickX gD f ds).gd (decide (ds.length < line))).bind fun ys => if ds.length < line then .ok (.lst ys) else .no) := p
    by_cases hl : ds.length < line
    case neg =>
      rw [decide_eq_false hl] at p
      cases e : pickX gD f ds with
      | ok ys => rw [e] at p; simp only [R.gd_ok, R.bind_ok, if_neg hl] at p; exact False.elim p
      | ex c => rw [e] at p; exact False.elim p
      | no => rw [e] at p; exact False.elim p
    rw [decide_eq_true hl, R.gd_true] at p
    simp only [if_pos hl] at p
    intro J H1 e1 Y D0 n0
    have n0' : H D0 = none := by
      cases q : H D0 with
      | none => rfl
      | some o => exact absurd n0 (e1.nn (by rw [q]; simp))
    -- behind k turns
    refine ⟨fun k m H' => m = ds.length - k ∧ k ≤ ds.length ∧ Ex H1 H' ∧ ∃ (done : List D) (vs : List V), H' D0 = some (.lst vs) ∧ DVs T (hide (D0 :: O) H') done vs ∧ done.length ≤ k ∧ PoE T W O σ H Q ((pickX gD f (ds.drop k)).bind fun ys => .ok (.lst (done ++ ys))),
      ⟨_, rfl, Nat.zero_le _, Ex.new n0, [], [], upd_same, .nil, Nat.zero_le _, p⟩, ?_⟩
    rintro k m H' ⟨rfl, hk, eH, done, vs, hD, hdv, hdl, hpk⟩
    have hlive : Lv T O H' := live_mono (e1.trans eH) hr.live
    have nO : D0 ∉ O := live_new (live_mono e1 hr.live) n0
    have hx : Ew (hide O H1) (hide (D0 :: O) H') := fun a o q => by
      unfold hide at q ⊢
      split at q
      · cases q
      · rename_i ha
        have hne : a ≠ D0 := fun z => by rw [z, n0] at q; cases q
        rw [if_neg (by simp only [List.mem_cons, not_or]; exact ⟨hne, ha⟩)]
        exact eH.w a o q
    have hlive2 : Lv T (D0 :: O) H' := ⟨fun a ha => by
      rcases List.mem_cons.mp ha with rfl | ha
      · rw [hD]; simp
      · exact hlive.1 a ha, hlive.2⟩
    obtain ⟨Yi, Ye⟩ := Y k (D0 :: O) H' hx hlive2
    by_cases hlt : k < ds.length
    · have hd : ds[k]? = some ds[k] := List.getElem?_eq_getElem hlt
      generalize ds[k] = d at hd
      have hdrop : ds.drop k = d :: ds.drop (k + 1) := by
        rw [List.drop_eq_getElem_cons hlt]
        have := List.getElem?_eq_getElem hlt
        rw [hd] at this
        rw [Option.some.inj this]
      obtain ⟨Yg, Yy⟩ := Yi d hd
      refine .inr ⟨Yg, fun H3 => ∃ m', m' < ds.length - k ∧ (m' = ds.length - (k + 1) ∧ k + 1 ≤ ds.length ∧ Ex H1 H3 ∧ ∃ (done : List D) (vs : List V), H3 D0 = some (.lst vs) ∧ DVs T (hide (D0 :: O) H3) done vs ∧ done.length ≤ k + 1 ∧ PoE T W O σ H Q ((pickX gD f (ds.drop (k + 1))).bind fun ys => .ok (.lst (done ++ ys)))), fun H3 q => q, fun x H2 y => ?_⟩
      obtain ⟨e2, dx⟩ := Yy x H2 y
      rw [hdrop] at hpk
      simp only [pickX] at hpk
      have h0 : Rl T (D0 :: O) σ ρ H2 := hr.hideD ((e1.trans eH).trans e2) n0' (by rw [e2.at hD fun _ z => (nomatch z)]; simp)
      have hD2 : H2 D0 = some (.lst vs) := e2.at hD fun _ z => (nomatch z)
      have eA : Ex H H2 := (e1.trans eH).trans e2
      cases hb : bd d with
      | none =>
        exfalso
        rcases hg0 d hb with q | q
        · rw [q] at hpk; exact hpk
        · rw [q, hf, hb] at hpk
          exact hpk
      | some r =>
        refine hgt (D0 :: O) d x r H2 _ h0 dx hb fun σ2 hR hw => ⟨hw, ?_⟩
        refine ht (D0 :: O) d r σ2 H2 _ hb hR ?_
        cases hg : gD d with
        | no => rw [hg] at hpk; exact False.elim hpk
        | ex c => rw [hg] at hpk; exact fun H3 e3 hc => hpk H3 (eA.trans e3) hc
        | ok b =>
          rw [hg] at hpk
          simp only [R.bind_ok] at hpk
          intro H3 e3
          cases b with
          | false =>
            rw [if_neg Bool.false_ne_true] at hpk ⊢
            exact ⟨ds.length - (k + 1), by omega, rfl, hlt, (eH.trans e2).trans e3, done, vs, e3.at hD2 fun _ z => (nomatch z), hdv.mono (hide_mono (e2.trans e3)), by omega, hpk⟩
          | true =>
            rw [if_pos rfl] at hpk ⊢
            rw [hf, hb] at hpk
            simp only [onO_some] at hpk
            refine ⟨D0 :: O, r, hR.mono e3, ?_⟩
            cases he : evE el r with
            | no => rw [he] at hpk; exact False.elim hpk
            | ex c => rw [he] at hpk; exact fun H4 e4 hc => hpk H4 ((eA.trans e3).trans e4) hc
            | ok y =>
              rw [he] at hpk
              intro v H4 e4 dv
              have hD4 : H4 D0 = some (.lst vs) := e4.at (e3.at hD2 fun _ z => (nomatch z)) fun _ z => (nomatch z)
              refine ⟨vs, hD4, ?_, ?_⟩
              · rw [← hdv.length, ← line_eq]
                omega
              · refine ⟨ds.length - (k + 1), by omega, rfl, hlt, ?_, done ++ [y], vs ++ [v], upd_same, ?_, by rw [List.length_append, List.length_singleton]; omega, ?_⟩
                · exact (((eH.trans e2).trans e3).trans e4).chg n0 (.inr ⟨_, hD4⟩) fun b hb => upd_ne hb
                · rw [hide_upd List.mem_cons_self]
                  exact (hdv.mono (hide_mono ((e2.trans e3).trans e4))).append (.cons dv .nil)
                · simp only [R.bind_ok] at hpk
                  cases hz : pickX gD f (ds.drop (k + 1)) with
                  | ok zs =>
                    rw [hz] at hpk
                    simp only [R.bind_ok] at hpk ⊢
                    rw [List.append_assoc, List.singleton_append]
                    exact hpk
                  | ex c => rw [hz] at hpk; exact hpk
                  | no => rw [hz] at hpk; exact hpk
    · have hkl : k = ds.length := by omega
      refine .inl ⟨Ye (by omega), ?_⟩
      subst hkl
      rw [List.drop_length] at hpk
      simp only [pickX, R.bind_ok, List.append_nil] at hpk
      exact hpk _ H' (e1.trans eH) (.lst (SqL.of (by rw [hide_out nO]; exact hD)) (hdv.mono (hide_sub fun a ha => List.mem_cons_of_mem _ ha)))
end
section
variable {X : Cx} {W : WX} {N : List Str} {sc : Scope}
theorem own_nameX {x : Str} {i : Nat} {scope : Scope} {s : Shared} {H : Hp} {C : Addr} {cl : List (Str × Addr)} {fp : List Addr} {xe : Value → Shared → Prop} {pos : Pos} (A : At X T W N sc) (h1 : N[i]? = some x) (h2 : isOwn scope x = true) : PG (blkX X s H scope (compEnvC scope cl C X.env) fp xe) (.Name x pos) (gName i) := by
  have hs : (blkX X s H scope (compEnvC scope cl C X.env) fp xe).env.scope = relS scope X.env.scope := rfl
  unfold isOwn at h2
  split at h2
  · rename_i e
    have k : (relS scope X.env.scope).names.lookup x = some .local := lookup_relS_keep (by simp) e
    refine pg_name (by show X.N.Nodup; rw [A.hN]; exact A.nd) (by show X.N[i]? = _; rw [A.hN]; exact h1) (.inl ?_) (.inr ?_)
    · rw [hs]; exact k
    · rw [hs]; exact k
  · rename_i e
    have k : (relS scope X.env.scope).names.lookup x = some .cell := lookup_relS_keep (by simp) e
    refine pg_name (by show X.N.Nodup; rw [A.hN]; exact A.nd) (by show X.N[i]? = _; rw [A.hN]; exact h1) (.inr ?_) (.inl ?_)
    · rw [hs]; exact k
    · show (scope.names.lookup x == some NameKind.cell) = true
      rw [e]
      rfl
  · cases h2
theorem tg_own {scope : Scope} : ∀ {is : List Nat} {ts : List Expr}, chkTg N scope is ts = true → ((tgN ts).zip is).map (·.2) = is
  | [], [], _ => rfl
  | [], t :: ts, h => by simp [chkTg] at h
  | i :: is, [], h => by simp [chkTg] at h
  | i :: is, t :: ts, h => by
    cases t with
    | Name x px =>
      simp only [chkTg, Bool.and_eq_true, decide_eq_true_eq] at h
      show i :: ((tgN ts).zip is).map (·.2) = i :: is
      rw [tg_own h.2]
    | _ => simp [chkTg] at h
abbrev gTs (is : List Nat) : TGs := is.foldr (fun i t => gCons (gName i) t) gNil
theorem pgs_own {scope : Scope} {s : Shared} {H : Hp} {C : Addr} {cl : List (Str × Addr)} {fp : List Addr} {xe : Value → Shared → Prop} (A : At X T W N sc) : ∀ {is : List Nat} {ts : List Expr}, chkTg N scope is ts = true →
    PGs (blkX X s H scope (compEnvC scope cl C X.env) fp xe) ts (gTs is) ∧ (assignEach ts (compEnvC scope cl C X.env)).length = is.length ∧ (assignEach ts (compEnvC scope cl C X.env)).findIdx? (·.1) = none 
  | [], [], _ => ⟨pgs_nil, rfl, rfl⟩
  | [], t :: ts, h => by simp [chkTg] at h
  | i :: is, [], h => by simp [chkTg] at h
  | i :: is, t :: ts, h => by
    cases t with
    | Name x px =>
      simp only [chkTg, Bool.and_eq_true, decide_eq_true_eq] at h
      obtain ⟨h1, h2, h3⟩ := pgs_own A h.2
      refine ⟨pgs_cons (own_nameX A h.1.1 h.1.2) h1 rfl, ?_, ?_⟩
      · show (assignEach ts _).length + 1 = is.length + 1
        rw [h2]
      · show ((false, assign (.Name x px) _) :: assignEach ts _).findIdx? (·.1) = none
        rw [List.findIdx?_cons, h3]
        rfl
    | _ => simp [chkTg] at h
theorem r_lcX {i : Nat} {el : E} {src : Src} {σ : L2.St} {H : Hp} {Q : VK} (q : tE T W (.lcX i el src) σ H Q) : tLcX W (tI T W src) (gName i) (fun _ => tYes) (fun W' => tE T W' el) [i] σ H Q := by
  obtain ⟨O, ρ, hr, p⟩ := q
  refine lc_readX (bd := fun x => some (ρ.set i (.dat x))) hr (fun _ => rfl) (fun _ q => nomatch q) p (fun O' x v r H' K hR dv e k => ?_) (fun O' x r σ2 H' K _ _ p => p H' (Ex.refl _))
  cases e
  show K ((wipe σ [i]).set i (some v)) H'
  rw [show (wipe σ [i]).set i (some v) = σ.set i (some v) from wipe_set]
  exact k _ (hR.setd dv i) (wipe_drop (by simp))
/-- an item's names -/
theorem g_own {is : List Nat} {ρ : Env} {σ : L2.St} {O' : List Addr} {x : D} {v : V} {r : Env} {H' : Hp} {K : L2.St → Hp → Prop} (hK : X.K = T.K) (hR : Rl T O' σ ρ H') (dv : DV T (hide O' H') x v) (e : bdT is x ρ = some r) (k : ∀ σ2, Rl T O' σ2 r H' → wipe σ2 is = wipe σ is → K σ2 H') : gTup X.K is.length (gTs is) v (wipe σ is) H' K := by
  cases dv with
  | tup q dvs =>
    obtain ⟨e1, z⟩ := gNs_set (ws := is) (hR.wiped is) dvs e (fun _ h => h) fun σ2 h1 h2 => k σ2 h1 (h2.trans (wipe_twice fun _ h => h))
    exact ⟨_, _, rfl, by rw [hK]; exact ex_sqt hide_ex q, e1.symm, z⟩
  | _ => cases e
theorem r_lcXT (A : At X T W N sc) {is : List Nat} {el : E} {src : Src} {σ : L2.St} {H : Hp} {Q : VK} (q : tE T W (.lcXT is el src) σ H Q) : tLcX W (tI T W src) (gTup X.K is.length (gTs is)) (fun _ => tYes) (fun W' => tE T W' el) is σ H Q := by
  obtain ⟨O, ρ, hr, p⟩ := q
  exact lc_readX (bd := fun x => bdT is x ρ) hr (fun _ => rfl) (fun _ _ => .inr rfl) p (fun O' x v r H' K hR dv e k => g_own A.C.hK hR dv e k) (fun O' x r σ2 H' K _ _ p => p H' (Ex.refl _))
theorem r_lcXC (A : At X T W N sc) {is : List Nat} {el cond : E} {src : Src} {σ : L2.St} {H : Hp} {Q : VK} (q : tE T W (.lcXC is el src cond) σ H Q) : tLcX W (tI T W src) (gTup X.K is.length (gTs is)) (fun W' => tT T W' cond) (fun W' => tE T W' el) is σ H Q := by
  obtain ⟨O, ρ, hr, p⟩ := q
  refine lc_readX (bd := fun x => bdT is x ρ) (gD := fun x => onO (bdT is x ρ) fun r => (evE cond r).bind boolD) hr (fun _ => rfl) (fun x q => .inl (by rw [q]; rfl)) p (fun O' x v r H' K hR dv e k => g_own A.C.hK hR dv e k) (fun O' x r σ2 H' K e hR p => ?_)
  rw [e] at p
  exact ⟨O', r, hR, p⟩
theorem r_lcXF {i : Nat} {el cond : E} {src : Src} {σ : L2.St} {H : Hp} {Q : VK} (q : tE T W (.lcXF i el src cond) σ H Q) : tLcX W (tI T W src) (gName i) (fun W' => tT T W' cond) (fun W' => tE T W' el) [i] σ H Q := by
  obtain ⟨O, ρ, hr, p⟩ := q
  refine lc_readX (bd := fun x => some (ρ.set i (.dat x))) (gD := fun x => (evE cond (ρ.set i (.dat x))).bind boolD) hr (fun _ => rfl) (fun _ q => nomatch q) p (fun O' x v r H' K hR dv e k => ?_) (fun O' x r σ2 H' K e hR p => ?_)
  · cases e
    show K ((wipe σ [i]).set i (some v)) H'
    rw [show (wipe σ [i]).set i (some v) = σ.set i (some v) from wipe_set]
    exact k _ (hR.setd dv i) (wipe_drop (by simp))
  · cases e
    exact ⟨O', _, hR, p⟩
theorem s_lcXF (A : At X T W N sc) (out : Outs X W) {i : Nat} {el cond : E} {src : Src} {x : Str} {elt iter c : Expr} {scope : Scope} {px pos : Pos} (h1 : N[i]? = some x) (h2 : isOwn scope x = true) (h3 : blkC N sc scope [(x, i)] = true) (h4 : shp iter = true)
    (he : ∀ s H C cl fp xe W', Takes (blkX X s H scope (compEnvC scope cl C X.env) fp xe) W' → PE (blkX X s H scope (compEnvC scope cl C X.env) fp xe) elt (tE T W' el))
    (hc : ∀ s H C cl fp xe W', Takes (blkX X s H scope (compEnvC scope cl C X.env) fp xe) W' → PT (blkX X s H scope (compEnvC scope cl C X.env) fp xe) c (tT T W' cond)) (hi : PI X (.Name x px) iter (tI T W src)) : SndE X T W (.lcXF i el src cond) (.ListComp elt [⟨.Name x px, iter, [c], 0⟩] scope pos) :=
  snd_of (pe_weak (pe_lcX (own := [(x, i)]) (tt := fun W' => tT T W' cond) (te := fun W' => tE T W' el) A.C.calm (by rw [A.hN]; exact A.nd) hi (by rw [A.hN, A.hs]; exact blkOk_by h3) A.tk out (fun s H C cl fp xe => own_nameX A h1 h2) (fun s H C cl fp xe W' tk => pts_one (hc s H C cl fp xe W' tk)) he (shp_fold h4)) fun σ H Q q => r_lcXF q) (fun _ => rfl) (fun _ _ _ q => nomatch q)
theorem s_lcX (A : At X T W N sc) (out : Outs X W) {i : Nat} {el : E} {src : Src} {x : Str} {elt iter : Expr} {scope : Scope} {px pos : Pos} (h1 : N[i]? = some x) (h2 : isOwn scope x = true) (h3 : blkC N sc scope [(x, i)] = true) (h4 : shp iter = true)
    (he : ∀ s H C cl fp xe W', Takes (blkX X s H scope (compEnvC scope cl C X.env) fp xe) W' → PE (blkX X s H scope (compEnvC scope cl C X.env) fp xe) elt (tE T W' el)) (hi : PI X (.Name x px) iter (tI T W src)) : SndE X T W (.lcX i el src) (.ListComp elt [⟨.Name x px, iter, [], 0⟩] scope pos) :=
  snd_of (pe_weak (pe_lcX (own := [(x, i)]) (tt := fun _ => tYes) (te := fun W' => tE T W' el) A.C.calm (by rw [A.hN]; exact A.nd) hi (by rw [A.hN, A.hs]; exact blkOk_by h3) A.tk out (fun s H C cl fp xe => own_nameX A h1 h2) (fun _ _ _ _ _ _ _ _ => pts_nil) he (shp_fold h4)) fun σ H Q q => r_lcX q) (fun _ => rfl) (fun _ _ _ q => nomatch q)
theorem s_lcXT (A : At X T W N sc) (out : Outs X W) {is : List Nat} {el : E} {src : Src} {ts : List Expr} {elt iter : Expr} {scope : Scope} {pt pos : Pos} {k0 : Nat} (h1 : chkTg N scope is ts = true) (h3 : blkC N sc scope ((tgN ts).zip is) = true) (h4 : shp iter = true)
    (he : ∀ s H C cl fp xe W', Takes (blkX X s H scope (compEnvC scope cl C X.env) fp xe) W' → PE (blkX X s H scope (compEnvC scope cl C X.env) fp xe) elt (tE T W' el)) (hi : PI X (.Tuple ts k0 pt) iter (tI T W src)) : SndE X T W (.lcXT is el src) (.ListComp elt [⟨.Tuple ts k0 pt, iter, [], 0⟩] scope pos) :=
  snd_of (pe_weak (pe_lcX (own := (tgN ts).zip is) (g := gTup X.K is.length (gTs is)) (tt := fun _ => tYes) (te := fun W' => tE T W' el) A.C.calm (by rw [A.hN]; exact A.nd) hi (by rw [A.hN, A.hs]; exact blkOk_by h3) A.tk out (fun s H C cl fp xe => let z := pgs_own (s := s) (H := H) (C := C) (cl := cl) (fp := fp) (xe := xe) A h1; pg_tup (X := blkX X s H scope (compEnvC scope cl C X.env) fp xe) A.C.calm z.1 z.2.1 z.2.2) (fun _ _ _ _ _ _ _ _ => pts_nil) he (shp_fold h4)) fun σ H Q q => by rw [tg_own h1]; exact r_lcXT A q) (fun _ => rfl) (fun _ _ _ q => nomatch q)
theorem s_lcXC (A : At X T W N sc) (out : Outs X W) {is : List Nat} {el cond : E} {src : Src} {ts : List Expr} {elt iter c : Expr} {scope : Scope} {pt pos : Pos} {k0 : Nat} (h1 : chkTg N scope is ts = true) (h3 : blkC N sc scope ((tgN ts).zip is) = true) (h4 : shp iter = true)
    (he : ∀ s H C cl fp xe W', Takes (blkX X s H scope (compEnvC scope cl C X.env) fp xe) W' → PE (blkX X s H scope (compEnvC scope cl C X.env) fp xe) elt (tE T W' el))
    (hc : ∀ s H C cl fp xe W', Takes (blkX X s H scope (compEnvC scope cl C X.env) fp xe) W' → PT (blkX X s H scope (compEnvC scope cl C X.env) fp xe) c (tT T W' cond)) (hi : PI X (.Tuple ts k0 pt) iter (tI T W src)) : SndE X T W (.lcXC is el src cond) (.ListComp elt [⟨.Tuple ts k0 pt, iter, [c], 0⟩] scope pos) :=
  snd_of (pe_weak (pe_lcX (own := (tgN ts).zip is) (g := gTup X.K is.length (gTs is)) (tt := fun W' => tT T W' cond) (te := fun W' => tE T W' el) A.C.calm (by rw [A.hN]; exact A.nd) hi (by rw [A.hN, A.hs]; exact blkOk_by h3) A.tk out (fun s H C cl fp xe => let z := pgs_own (s := s) (H := H) (C := C) (cl := cl) (fp := fp) (xe := xe) A h1; pg_tup (X := blkX X s H scope (compEnvC scope cl C X.env) fp xe) A.C.calm z.1 z.2.1 z.2.2) (fun s H C cl fp xe W' tk => pts_one (hc s H C cl fp xe W' tk)) he (shp_fold h4)) fun σ H Q q => by rw [tg_own h1]; exact r_lcXC A q) (fun _ => rfl) (fun _ _ _ q => nomatch q)
/-! ### list(reversed(..)) -/
theorem DVs.reverse {H : Hp} : ∀ {ds : List D} {vs : List V}, DVs T H ds vs → DVs T H ds.reverse vs.reverse
  | _, _, .nil => .nil
  | _, _, .cons h r => by
    rw [List.reverse_cons, List.reverse_cons]
    exact (DVs.reverse r).append (.cons h .nil)
theorem s_lrev (A : At X T W N sc) {a : E} {x y : Str} {z : Expr} {p p2 pos pos2 : Pos} (F : FOk X "list" x) (F2 : FOk X "reversed" y) (h : Holds X T (.blt "list")) (h2 : Holds X T (.blt "reversed")) (ha : PE X z (tE T W a)) (hz : shp z = true) : SndE X T W (.lrev a) (.Call (.Name x p) [.Call (.Name y p2) [z] [] pos2] [] pos) := by
  obtain ⟨rfl, g, n1, n3⟩ := F
  obtain ⟨rfl, g2, m1, m3⟩ := F2
  refine snd_of (pe_weak (pe_listRev A.C.calm g h g2 h2 ha (shp_star hz) rfl) fun σ H Q ⟨O, ρ, hr, p⟩ => ?_) (fun _ => rfl) (fun _ _ _ q => nomatch q)
  refine tE_bind wantE hr (show PoE T W O σ H Q ((evE a ρ).bind fun x => f1D .rev x) from p) fun d v H1 e1 dv p1 => ?_
  cases dv with
  | lst q r =>
    refine ⟨_, _, rfl, by rw [A.C.hK]; exact ex_sql hide_ex q, fun l hl => p1 _ _ (Ex.new hl) (.lst (SqL.of (by rw [hide_out (live_new (live_mono e1 hr.live) hl)]; exact upd_same)) ((DVs.reverse r).mono (hide_mono (Ex.new hl))))⟩
  | _ => exact False.elim p1
/-! ### a list of one's own, lent -/
theorem same_ok {Hx Hy : Hp} {x y : D} {v : V} (f : flat1 x = true) (h : DV T Hx x v) (k : DV T Hy y v) : same1 x y = true := by
  cases h <;> first | (simp [flat1] at f; done) | (cases k <;> simp [same1])
theorem sameF_ok {Hx Hy : Hp} : ∀ {xs ys : List D} {vs : List V}, xs.all flat1 = true → DVs T Hx xs vs → DVs T Hy ys vs → sameF xs ys = true
  | _, _, _, _, .nil, .nil => rfl
  | _, _, _, f, .cons h r, .cons k q => by
    simp only [List.all_cons, Bool.and_eq_true] at f
    simp only [sameF, same_ok f.1 h k, sameF_ok f.2 r q, Bool.and_self]
theorem hide_lent {O : List Addr} {H : Hp} {a b : Addr} (h : b ≠ a) : hide (O.filter fun c => decide (c ≠ a)) H b = hide O H b := by
  unfold hide
  by_cases q : b ∈ O
  · rw [if_pos q, if_pos (List.mem_filter.mpr ⟨q, by simpa using h⟩)]
  · rw [if_neg q, if_neg fun z => q (List.mem_filter.mp z).1]
theorem hide_lent_a {O : List Addr} {H : Hp} {a : Addr} : hide (O.filter fun c => decide (c ≠ a)) H a = H a := by
  unfold hide
  rw [if_neg fun z => by simpa using (List.mem_filter.mp z).2]
section
variable {O : List Addr} {H Hx : Hp} {a : Addr} {us : List V} {xs : List D} (ha : H a = some (.lst us)) (hk : T.K.lookup a = none) (hf : xs.all flat1 = true) (hx : DVs T Hx xs us)
include ha hk hf hx
mutual
theorem dv_back : ∀ {d : D} {v : V}, DV T (hide (O.filter fun c => decide (c ≠ a)) H) d v → hasL xs d = false → DV T (hide O H) d v
  | _, _, .non, _ => .non
  | _, _, .bl b, _ => .bl b
  | _, _, .int i, _ => .int i
  | _, _, .str x, _ => .str x
  | _, _, @DV.tup _ _ ys b vs h r, n => by
    have nb : b ≠ a := fun z => by
      subst z
      rcases h with (h | ⟨o, h⟩) | ⟨o, its, m, h, _⟩
      · rw [hide_lent_a, ha] at h; cases h
      · rw [hide_lent_a, ha] at h; cases h
      · rw [hk] at h; cases h
    refine .tup ?_ (dvs_back r (by simpa [hasL] using n))
    rcases h with (h | ⟨o, h⟩) | h
    · exact .inl (.inl (by rw [← hide_lent nb]; exact h))
    · exact .inl (.inr ⟨o, by rw [← hide_lent nb]; exact h⟩)
    · exact .inr h
  | _, _, @DV.lst _ _ ys b vs h r, n => by
    simp only [hasL, Bool.or_eq_false_iff] at n
    have nb : b ≠ a := fun z => by
      subst z
      rcases h with (h | ⟨o, h⟩) | ⟨o, its, m, h, _⟩
      · rw [hide_lent_a, ha] at h
        cases h
        rw [sameF_ok hf hx r] at n
        cases n.1
      · rw [hide_lent_a, ha] at h; cases h
      · rw [hk] at h; cases h
    refine .lst ?_ (dvs_back r n.2)
    rcases h with (h | ⟨o, h⟩) | h
    · exact .inl (.inl (by rw [← hide_lent nb]; exact h))
    · exact .inl (.inr ⟨o, by rw [← hide_lent nb]; exact h⟩)
    · exact .inr h
  | _, _, @DV.dic _ _ b h, _ => by
    have nb : b ≠ a := fun z => by subst z; rw [hide_lent_a, ha] at h; cases h
    exact .dic (by rw [← hide_lent nb]; exact h)
  | _, _, @DV.exc _ _ c b hc h, _ => by
    have nb : b ≠ a := fun z => by subst z; rw [hide_lent_a, ha] at h; cases h
    exact .exc hc (by rw [← hide_lent nb]; exact h)
  | _, _, @DV.obj _ _ c b dx hc h, _ => by
    have nb : b ≠ a := fun z => by subst z; rw [hide_lent_a, ha] at h; cases h
    exact .obj hc (by rw [← hide_lent nb]; exact h)
theorem dvs_back : ∀ {ds : List D} {vs : List V}, DVs T (hide (O.filter fun c => decide (c ≠ a)) H) ds vs → hasLs xs ds = false → DVs T (hide O H) ds vs
  | _, _, .nil, _ => .nil
  | _, _, .cons h r, n => by
    simp only [hasLs, Bool.or_eq_false_iff] at n
    exact .cons (dv_back h n.1) (dvs_back r n.2)
end
end
/-- an address of ours is none of the written part's -/
theorem not_written {pins : List (Addr × Obj)} {σ : L2.St} {H : Hp} {s : Shared} {a : Addr} {o : HO} (I : Inv X pins σ H s) (h : H a = some o) : X.K.lookup a = none := by
  cases q : X.K.lookup a with
  | none => rfl
  | some ob =>
    have z := (I.bs a ob (I.ok.mod.kin a ob q)).2
    rw [h] at z; cases z
theorem Rl.lent {O : List Addr} {σ : L2.St} {ρ : Env} {H : Hp} {i : Nat} {xs : List D} {a : Addr} {us : List V} (h : Rl T O σ ρ H) (e : ρ[i]? = some (.own xs)) (q1 : σ[i]? = some (some (.ref a))) (q3 : H a = some (.lst us)) (q4 : DVs T (hide O H) xs us) : Rl T (O.filter fun c => decide (c ≠ a)) σ (ρ.set i (.dat (.lst xs))) H := by
  have sub : ∀ c ∈ O.filter (fun c => decide (c ≠ a)), c ∈ O := fun c hc => (List.mem_filter.mp hc).1
  refine ⟨⟨fun c hc => h.live.1 c (sub c hc), h.live.2⟩, by rw [List.length_set]; exact h.len, fun j s q => ?_, fun j k ys zs b h1 h2 h3 h4 => ?_⟩
  · by_cases ij : i = j
    · subst ij
      have hl : i < ρ.length := (List.getElem?_eq_some_iff.mp e).1
      rw [List.getElem?_set_self hl] at q
      cases q
      exact ⟨.ref a, q1, .lst (SqL.of (by rw [hide_lent_a]; exact q3)) (q4.mono (hide_sub sub))⟩
    · rw [List.getElem?_set_ne ij] at q
      have z := h.at_ j s q
      cases s with
      | un => trivial
      | dat d => obtain ⟨v, z1, z2⟩ := z; exact ⟨v, z1, z2.mono (hide_sub sub)⟩
      | own ys =>
        obtain ⟨b, vs, z1, z2, z3, z4⟩ := z
        refine ⟨b, vs, z1, List.mem_filter.mpr ⟨z2, ?_⟩, z3, z4.mono (hide_sub sub)⟩
        have nb : b ≠ a := fun y => ij (h.sep i j xs ys a e q q1 (by rw [← y]; exact z1))
        simpa using nb
  · have nj : i ≠ j := fun y => by
      subst y
      by_cases hl : i < ρ.length
      · rw [List.getElem?_set_self hl] at h1; cases h1
      · rw [List.getElem?_eq_none (by simpa using hl)] at h1; cases h1
    have nk : i ≠ k := fun y => by
      subst y
      by_cases hl : i < ρ.length
      · rw [List.getElem?_set_self hl] at h2; cases h2
      · rw [List.getElem?_eq_none (by simpa using hl)] at h2; cases h2
    rw [List.getElem?_set_ne nj] at h1
    rw [List.getElem?_set_ne nk] at h2
    exact h.sep j k ys zs b h1 h2 h3 h4
theorem lend_t {pins : List (Addr × Obj)} {s : Shared} {i : Nat} {m : E} {σ : L2.St} {H : Hp} {Q : Bool → Hp → Prop} (A : At X T W N sc) (I : Inv X pins σ H s) (h : tT T W (.lend i m) σ H Q) : tT T W m σ H Q := by
  obtain ⟨O, ρ, hr, p⟩ := h
  have p : PoT T W σ H Q ((evE (.lend i m) ρ).bind boolD) := p
  simp only [evE] at p
  split at p
  · rename_i xs e
    split at p
    · rename_i hf
      obtain ⟨a, us, q1, q2, q3, q4⟩ := hr.at_ i _ e
      refine ⟨_, _, hr.lent e q1 q3 q4, ?_⟩
      show PoT T W σ H Q ((evE m (ρ.set i (.dat (.lst xs)))).bind boolD)
      cases ev : evE m (ρ.set i (.dat (.lst xs))) with
      | ok d =>
        rw [ev] at p
        simp only [R.bind_ok] at p ⊢
        split at p
        · exact False.elim p
        · exact p
      | ex c => rw [ev] at p; exact p
      | no => rw [ev] at p; exact p
    · exact False.elim p
  · exact False.elim p
theorem s_lend (A : At X T W N sc) {i : Nat} {m : E} {e : Expr} (h : SndE X T W m e) : SndE X T W (.lend i m) e := by
  refine ⟨pe_weakI h.pe fun pins s σ H Q I ⟨O, ρ, hr, p⟩ => ?_, ⟨fun pins s σ H Q I q => h.pt.run pins s σ H Q I (lend_t A I q)⟩, fun op vs pos q => ⟨fun wh pins s σ H Q I z => (h.pw op vs pos q).run wh pins s σ H Q I (lend_t A I z)⟩⟩
  simp only [evE] at p
  split at p
  · rename_i xs e
    split at p
    · rename_i hf
      obtain ⟨a, us, q1, q2, q3, q4⟩ := hr.at_ i _ e
      have hk : T.K.lookup a = none := by rw [← A.C.hK]; exact not_written I q3
      refine ⟨_, _, hr.lent e q1 q3 q4, ?_⟩
      cases ev : evE m (ρ.set i (.dat (.lst xs))) with
      | ok d =>
        rw [ev] at p
        simp only [R.bind_ok] at p
        split at p
        · exact False.elim p
        · rename_i hn
          exact fun v H' e' dv => p v H' e' (dv_back (e'.at q3 fun _ z => (nomatch z)) hk hf q4 dv (by simpa using hn))
      | ex c => rw [ev] at p; exact p
      | no => rw [ev] at p; exact p
    · exact False.elim p
  · exact False.elim p
/-! ### a def that tells a list of its own making -/
def tN (T : Tab) (W : WX) (m : E) : TE := fun σ H Q => ∃ O ρ, Rl T O σ ρ H ∧ (match evE m ρ with
  | .ok (.lst xs) => ∀ a vs H0, Ex H H0 → H0 a = none → DVs T (hide O H0) xs vs → Q (.ref a) (upd H0 a (.lst vs))
  | .ok _ => False
  | .ex c => ∀ H', Ex H H' → c ∈ T.exs → W (.ref (T.exc c)) none σ H'
  | .no => False)
theorem s_callF (A : At X T W N sc) {nm : String} {f : List D → R D} {es : Es} {df : List D} {x : Str} {y : Expr} {ys : List Expr} {px pos : Pos} (F : FOk X nm x) (h : Holds X T (.fnF nm f df)) (ha : PA X (y :: ys) (tEs T W es)) (hy : allShp (y :: ys) = true) : SndE X T W (.callF nm f es df) (.Call (.Name x px) (y :: ys) [] pos) := by
  obtain ⟨k, fa, fd, ps, dvs, ds, hr1, hm, hk, hF, hb, hv, hd⟩ := h
  obtain ⟨rfl, g, n1, n3⟩ := F
  have hy2 : shp y = true ∧ allShp ys = true := by
    simp only [allShp, Bool.and_eq_true] at hy
    exact hy
  refine snd_of (pe_weak (pe_callSD hF hr1 g hm hk hb hv (fun σ => passAt A.tk σ) ha n1 (shp_star hy2.1) (star_plain hy2.2)) fun σ H Q ⟨O, ρ, hr, p⟩ => ?_) (fun _ => rfl) (fun _ _ _ q => nomatch q)
  refine tEs_bind wantE hr (show PoE T W O σ H Q ((evEs es ρ).bind fun xs => (f (xs ++ df)).bind lstD) from p) fun dx vs H1 e1 d1 p1 => ?_
  refine ⟨O, dx ++ df, live_mono e1 hr.live, d1.append (hd _), ?_⟩
  cases e : f (dx ++ df) with
  | ok d =>
    rw [e] at p1
    cases d with
    | lst xs => exact fun a us H' e' n1 hl dv => p1 _ H' e' (.lst (SqL.of (by rw [hide_out (live_new (live_mono e1 hr.live) n1)]; exact hl)) (dv.mono (hide_sub fun c hc => List.mem_cons_of_mem _ hc)))
    | _ => exact False.elim p1
  | ex c => rw [e] at p1; exact p1
  | no => rw [e] at p1; exact p1
theorem n_callF (A : At X T W N sc) {nm : String} {f : List D → R D} {es : Es} {df : List D} {x : Str} {y : Expr} {ys : List Expr} {px pos : Pos} (F : FOk X nm x) (h : Holds X T (.fnF nm f df)) (ha : PA X (y :: ys) (tEs T W es)) (hy : allShp (y :: ys) = true) : PE X (.Call (.Name x px) (y :: ys) [] pos) (tN T W (.callF nm f es df)) := by
  obtain ⟨k, fa, fd, ps, dvs, ds, hr1, hm, hk, hF, hb, hv, hd⟩ := h
  obtain ⟨rfl, g, n1, n3⟩ := F
  have hy2 : shp y = true ∧ allShp ys = true := by
    simp only [allShp, Bool.and_eq_true] at hy
    exact hy
  refine pe_weak (pe_callSD hF hr1 g hm hk hb hv (fun σ => passAt A.tk σ) ha n1 (shp_star hy2.1) (star_plain hy2.2)) fun σ H Q ⟨O, ρ, hr, p⟩ => ?_
  simp only [evE] at p
  refine ⟨O, ρ, hr, ?_⟩
  cases ee : evEs es ρ with
  | ex c => rw [ee] at p; exact p
  | no => rw [ee] at p; exact p
  | ok dx =>
    rw [ee] at p
    intro vs H1 e1 d1
    refine ⟨O, dx ++ df, live_mono e1 hr.live, d1.append (hd _), ?_⟩
    simp only [R.bind_ok] at p
    cases e : f (dx ++ df) with
    | ok d =>
      rw [e] at p
      cases d with
      | lst xs =>
        intro a us H' e' n1 hl dv
        have p : ∀ a vs H0, Ex H H0 → H0 a = none → DVs T (hide O H0) xs vs → Q (.ref a) (upd H0 a (.lst vs)) := p
        have e2 : upd (fun b => if b = a then none else H' b) a (.lst us) = H' := by
          funext b
          by_cases q : b = a
          · subst q; rw [upd_same, hl]
          · rw [upd_ne q, if_neg q]
        have nO := live_new (live_mono e1 hr.live) n1
        have e3 : hide O (fun b => if b = a then none else H' b) = hide (a :: O) H' := by
          funext b
          unfold hide
          by_cases q : b = a
          · subst q; simp
          · simp [q]
        rw [← e2]
        exact p a us _ ((e1.trans e').chg (by
          cases q : H a with
          | none => rfl
          | some o => exact absurd n1 (e1.nn (by rw [q]; simp))) (.inr ⟨_, hl⟩) fun b hb => if_neg hb) (if_pos rfl) (by rw [e3]; exact dv)
      | _ => exact False.elim p
    | ex c => rw [e] at p; exact fun H' e' hc => p H' (e1.trans e') hc
    | no => rw [e] at p; exact p
end
end
end MP

set_option Elab.async false
set_option linter.all false
set_option maxRecDepth 100000
set_option maxHeartbeats 16000000
set_option autoImplicit false
/-! MPR: sep.join(reversed(a list)), text.replace(x, y, 1). -/
namespace MP.LR
open PySem PyProof.Rows
section
variable {prog : Program} {w : World} {A : Around} {E : Value → Shared → Prop} {s : Shared}
theorem collect_rev {it l : Addr} {items : Array Value} {Q : List Value → Shared → Prop} (hh : A.handled = none) (rev : s.heap.IsRevIter it l ((items.size : Int) - 1)) (src : s.heap.IsList l items) (ne : l ≠ it) (small : items.size ≤ sizeLine)
    (hQ : ∀ (h' : Heap) (tk : Nat) (acc : Array Value), (∀ b o, b ≠ it → s.heap.get? b = some o → h'.get? b = some o) → ItemsOf (fun i v => items[items.size - 1 - i]? = some v) acc items.size → Q acc.toList { s with heap := h', toks := tk }) : wpAny (model prog w) A (collect (.ref it)) Q E s := by
  have walk := (Walks.listRev (prog := prog) (w := w) (A := A.in1) hh it l ne items).toS
  obtain ⟨oi, at_i, _⟩ := id rev
  obtain ⟨ol, at_l, _⟩ := id src
  have Si : s.heap.objs.size ≠ it := Nat.ne_of_gt (Heap.lt_size at_i)
  have Sl : s.heap.objs.size ≠ l := Nat.ne_of_gt (Heap.lt_size at_l)
  have Sf : s.heap.objs.size ∉ [it, l] := by simp only [List.mem_cons, List.not_mem_nil, or_false, not_or]; exact ⟨Si, Sl⟩
  unfold collect
  refine wpAny_bind (wpAny_runValue (codeAny_builtin F.entry_proto_collect ?_))
  rw [Around.under_plainId F.plain_proto_collect _]
  show wpAny _ A.in1 (newList [] >>= fun l => again (.builtin "list.__iadd__" ⟨[l, .ref it], []⟩)) _ _ s
  refine wpAny_bind (wpAny_newObj_type ?_)
  refine wpAny_pure ⟨plainId_quiet F.plain_list_iadd _, codeAny_builtin F.entry_list_iadd ?_⟩
  rw [Around.under_plainId F.plain_list_iadd _]
  have stay : ∀ b o, s.heap.get? b = some o → (s.heap.push { cls := .type "list", data := .seq ([] : List Value).toArray }).get? b = some o := fun b o e => Heap.get?_push_of_some _ e
  have S1 : (s.heap.push { cls := .type "list", data := .seq ([] : List Value).toArray }).get? s.heap.objs.size = some { cls := .type "list", data := .seq ([] : List Value).toArray } := Heap.get?_push_size _ rfl
  have rev2 : (s.heap.push { cls := .type "list", data := .seq ([] : List Value).toArray }).IsRevIter it l ((items.size : Int) - 1) := rev.at fun o e => stay _ o e
  have src2 : (s.heap.push { cls := .type "list", data := .seq ([] : List Value).toArray }).IsList l items := src.at fun o e => stay _ o e
  have ty : ({ s with heap := s.heap.push { cls := .type "list", data := .seq ([] : List Value).toArray } } : Shared).TypeIs (.ref it) "list_reverseiterator" := Heap.IsRevIter.typeIs (s := { s with heap := s.heap.push { cls := .type "list", data := .seq ([] : List Value).toArray } }) rev2
  have n1 : Builtin.List.listSameRef (.ref s.heap.objs.size) (.ref it) = false := by simp [Builtin.List.listSameRef, Si]
  show wpAny _ A.in1 (Builtin.List.listExtendWith (.ref s.heap.objs.size) (.ref it) (.ref s.heap.objs.size)) _ _ _
  unfold Builtin.List.listExtendWith
  refine wpAny_bind (wpAny_typeOf ty ?_)
  rw [if_neg (by rw [n1]; decide)]
  refine wpAny_bind (wpAny_pyIter_revIter (s := { s with heap := s.heap.push { cls := .type "list", data := .seq ([] : List Value).toArray } }) rev2 ?_)
  refine wpAny_bind (wpAny_holding ?_)
  unfold Builtin.List.listLengthHint
  refine wpAny_bind (wpAny_specialOf ty RT.nolen_lri ?_)
  show wpAny _ A.in1 (specialOf (Value.ref it) (Str.ofString "__length_hint__") >>= _) _ _ _
  refine wpAny_bind (wpAny_specialOf ty RT.hint_lri ?_)
  generalize hid : ("list_reverseiterator.__length_hint__" : String) = id0
  wp_delta
  rw [show splitId id0 = some ("list_reverseiterator", "__length_hint__") from by subst hid; decide +kernel]
  subst hid
  refine wpAny_bind (wpAny_isInstance (b := true) ty (by rw [isSubtype_type]; kernel_rfl) ?_)
  refine wpAny_pure ?_
  rw [if_neg (by decide)]
  have e0 : ((items.size : Nat) : Int) - 1 - ((0 : Nat) : Int) = (items.size : Int) - 1 := by omega
  refine wpAny_pure ⟨plainId_quiet F.plain_extend_loop _, codeAny_extend_loopS walk small _ Sf _ items.size 0 _ _ _ rfl (Nat.zero_le _) ⟨Nat.zero_le _, by rw [e0]; exact rev2, src2⟩ S1 (ItemsOf.nil _) fun t acc c moved S3 its => ?_⟩
  show wpAny _ A (load s.heap.objs.size >>= _) _ _ t
  refine wpAny_bind (wpAny_load S3 ?_)
  rw [Moved.eq_with moved]
  exact wpAny_pure (hQ t.heap t.toks acc (fun b o nb e => moved.heap b o (fun mem => by
    rcases List.mem_cons.mp mem with q | mem
    · exact absurd (Heap.lt_size e) (by rw [q]; exact Nat.lt_irrefl _)
    · exact nb (List.mem_singleton.mp mem)) (stay b o e)) its)
theorem join_rev {x : Str} {t : Tok} {it l : Addr} {items : Array Value} {Q : Value → Shared → Prop} (hh : A.handled = none) (rev : s.heap.IsRevIter it l ((items.size : Int) - 1)) (src : s.heap.IsList l items) (ne : l ≠ it) (small : items.size ≤ sizeLine)
    {ys : List Str} (hP : ∀ acc : Array Value, ItemsOf (fun i v => items[items.size - 1 - i]? = some v) acc items.size → StrsAre acc.toList ys) (hok : (ys.map (·.length)).sum + ys.length * x.length ≤ 16777216)
    (hq : ∀ (h' : Heap), (∀ b o, b ≠ it → s.heap.get? b = some o → h'.get? b = some o) → ∀ t' k, Q (.str (Txt.join x ys) t') { s with heap := h', toks := k }) :
    wpAny (model prog w) A (call (.builtin "str.join") [.str x t, .ref it]) Q E s := by
  refine wpAny_call (codeAny_call_builtin F.slot_str_join.plain F.entry_str_join (F.slot_str_join.check _ _ _ _ _ _ _ _ (typeIs_str _ _ _) (F.args_str_join_2 _ _) ?_))
  rw [join_tree_other]
  have ty : s.TypeIs (.ref it) "list_reverseiterator" := Heap.IsRevIter.typeIs rev
  refine wpAny_bind (wpAny_typeOf ty ?_)
  show wpAny _ A.in1 ((pyIter (.ref it)).tryCatch _ >>= fun it => collect it >>= fun items => joinTail x items) _ _ s
  refine wpAny_bind (wpAny_tryCatch (wpAny_pyIter_revIter rev ?_))
  refine wpAny_bind (collect_rev (A := A.in1) hh rev src ne small fun h' tk acc hm hacc => ?_)
  obtain ⟨m, hl, ht⟩ := strsAre_values (hP acc hacc)
  subst ht
  rw [hl]
  have hok' := joinOk_of hok
  unfold JoinOk at hok'
  rw [Bool.not_eq_true'] at hok'
  have g : Gives (joinTail x (strValues m)) (joinMade x m) := by
    have g0 := gives_joinTail x m hok'
    cases m with
    | nil => exact g0
    | cons p r => cases r with
      | nil => exact g0
      | cons q r' => exact g0
  exact g prog w A (wants Q E) { s with heap := h', toks := tk } (post_join m ⟨joinFit_length hok', hq h' hm⟩)
end
end MP.LR

namespace MP
open PySem L2
open PyProof.Rows hiding St
section
variable {X : Cx}
def tJoinRev (K : PySem.W.Frag) (to te : TE) : TE := fun σ H Q => to σ H fun x H1 => (∃ a, x = .str a) ∧ te σ H1 fun v H2 => ∃ (a : Str) (q : Addr) (ys : List Str), x = .str a ∧ v = .ref q ∧ SqL K H2 q (ys.map V.str) ∧ (ys.reverse.map (·.length)).sum + ys.reverse.length * a.length ≤ 16777216 ∧ Q (.str (Txt.join a ys.reverse)) H2
theorem pe_joinRev {o e : Expr} {to te : TE} {apos p2 pos pos2 : Pos} (hc : X.calm = true) (hg2 : Gl X "reversed") (hm2 : X.mg "reversed" = none) (ho : PE X o to) (he : PE X e te)
    (hs : starEach [e] X.env = (false, eval e X.env) :: starEach [] X.env := by rfl)
    (hs1 : starEach [.Call (.Name "reversed" p2) [e] [] pos2] X.env = [(false, eval (.Call (.Name "reversed" p2) [e] [] pos2) X.env)] := by rfl)
    (hbase : attributeBase o "join" X.env (eval o X.env) = eval o X.env := by rfl) (hline : (apos.endLine == pos.line) = true := by rfl) :
    PE X (.Call (.Attribute o "join" apos) [.Call (.Name "reversed" p2) [e] [] pos2] [] pos) (tJoinRev X.K to te) := by
  refine ⟨fun pins s σ H Q I h => ?_⟩
  refine PySem.Call_method1 hbase hs1 hline (thn (ho.run pins s σ H _ I h) fun v s0 ⟨x, H0, I0, r0, q0⟩ => ?_)
  obtain ⟨⟨a, rfl⟩, q0⟩ := q0
  obtain ⟨t, rfl⟩ := _root_.id r0
  refine ⟨"str", _, PySem.F.plainAttrs_str, PySem.F.slot_str_join, PySem.F.type_str_join, typeIs_str _ _ _, (fun _ e => nomatch e), Calls.callWith_builtin rfl (Calls.evalArgs_plain (Calls.spliced_cons ?_))⟩
  refine Call_ (ld_blt I0 hg2 hm2 PyProof.Rows.boot_reversed (PyProof.Rows.callWith_type1 (args_cons (thn (he.run pins s0 σ H0 _ I0 q0) fun u s1 ⟨v, H1, I1, r1, q1⟩ => args_nil ?_) hs) hs rfl))
  obtain ⟨a', ad, ys, ea, ev, hq, hz, q⟩ := q1
  cases ea
  subst ev
  obtain rfl : u = Value.ref ad := r1
  obtain ⟨its, rv, p', hsz⟩ := I1.list hq
  refine call_reversed_list p'.isList (Calls.spliced_nil ?_)
  have k0 : ∀ b o, s1.heap.get? b = some o → (s1.heap.push (revObj ad ((its.toArray.size : Int) - 1))).get? b = some o := fun b o e => Heap.get?_push_of_some _ e
  have hl := p'.isList
  obtain ⟨ol, hol, _⟩ := _root_.id hl
  have hne : ad ≠ s1.heap.objs.size := Nat.ne_of_lt (Heap.lt_size hol)
  have hn : its.toArray.size ≤ sizeLine := by rw [List.size_toArray, ← rv.length]; exact hsz
  refine LR.join_rev (s := { s1 with heap := s1.heap.push (revObj ad ((its.toArray.size : Int) - 1)) }) (ys := ys.reverse) (I1.ok.hd hc) ⟨_, Heap.get?_push_size _ rfl, rfl, rfl⟩ (hl.push _) hne hn (fun acc hi => strs_of_vals (by rw [List.map_reverse]; exact RT.vals_rev rv hi)) hz fun h' hk t' k => ⟨.str _, H1, I1.kept (t' := k) (fun b o e => hk b o (Nat.ne_of_lt (Heap.lt_size e)) (k0 b o e)), ⟨t', rfl⟩, q⟩
end
end MP
namespace MP.LR
open PySem PyProof.Rows PySem.Builtin PySem.Builtin.Str
theorem gives_rep1 (x y z : Str) (t u v k : Tok)
    (hf : ((occurrences x y 0 x.length 1).isEmpty || (y.length == 0 && z.length == 0)) = false →
      (u == 0 || v == 0) = false ∧ (u == v) = false ∧ (y == z) = false ∧ tooLong (x.length + (occurrences x y 0 x.length 1).length * z.length) = false) :
    Gives («str.replace» ⟨[.str x t, .str y u, .str z v, .int 1 k], []⟩) (if ((occurrences x y 0 x.length 1).isEmpty || (y.length == 0 && z.length == 0)) = true then .val (.str x t) else .str (glued z (partsBetween x (occurrences x y 0 x.length 1) y.length))) := by
  have tree : «str.replace» ⟨[.str x t, .str y u, .str z v, .int 1 k], []⟩ = (if ((occurrences x y 0 x.length 1).isEmpty || (y.length == 0 && z.length == 0)) = true then (do rule "str.replace.nothing"; ret (.str x t)) else
          (do let same ← isSame (.str y u) (.str z v)
              if same = true then (do rule "str.replace.old-is-new"; ret (.str x t)) else
              if tooLong (x.length + (occurrences x y 0 x.length 1).length * z.length) = true then unsupported "str.replace:memory" else
              retStr (glued z (partsBetween x (occurrences x y 0 x.length 1) y.length)))) := by
    show (do let limit ← countLimit "str.replace" (some (.int 1 k)) (x.length + 1); _) = _
    rw [countLimit_int "str.replace" 1 k (x.length + 1) (by decide)]
    rfl
  rw [tree]
  cases hc : ((occurrences x y 0 x.length 1).isEmpty || (y.length == 0 && z.length == 0))
  · obtain ⟨h0, huv, hyz, hl⟩ := hf hc
    rw [isSame_str_other y z u v h0 huv hyz, hl]
    exact .of_eq rfl
  · exact .rule (.of_eq rfl)
section
variable {prog : Program} {w : World} {A : Around} {E : Value → Shared → Prop} {s : Shared} {x y z : Str} {t u v k : Tok} {Q : Value → Shared → Prop}
theorem replace1 (hu : u ≠ 0) (hv : v ≠ 0) (huv : u ≠ v) (hyz : (y == z) = false) (hb : x.length + z.length ≤ 16777216)
    (hq : ∀ t' k, Q (.str (rep1 x y z) t') { s with toks := k }) : wpAny (model prog w) A (call (.builtin "str.replace") [.str x t, .str y u, .str z v, .int 1 k]) Q E s := by
  have e : (2 : Nat) ^ 24 = 16777216 := by decide
  have h1 := StrLaws.occ_length_le x y 0 x.length 1
  have h2 : (occurrences x y 0 x.length 1).length * z.length ≤ 1 * z.length := Nat.mul_le_mul_right _ h1
  have hl : tooLong (x.length + (occurrences x y 0 x.length 1).length * z.length) = false := by
    unfold tooLong sizeLine
    exact decide_eq_false (by omega)
  refine call_gives F.slot_str_replace (typeIs_str _ _ _) F.entry_str_replace (F.args_str_replace_4 _ _ _ _)
    (gives_rep1 x y z t u v k fun _ => ⟨by simp [hu, hv], by simp [huv], hyz, hl⟩) ?_
  have hq' := hq
  unfold rep1 at hq'
  cases hc : ((occurrences x y 0 x.length 1).isEmpty || (y.length == 0 && z.length == 0))
  · rw [hc] at hq'
    simp only [Bool.false_eq_true, if_false] at hq' ⊢
    refine ⟨?_, hq' _ _⟩
    have hy : (glued y (partsBetween x (occurrences x y 0 x.length 1) y.length)).length = x.length := by rw [StrLaws.glued_between_self]
    rw [size_glued, length_partsBetween, Nat.add_sub_cancel] at hy
    rw [size_glued, length_partsBetween, Nat.add_sub_cancel, sizeLine_eq]
    omega
  · rw [hc] at hq'
    simp only [if_true] at hq' ⊢
    exact hq' t s.toks
end
end MP.LR
namespace MP
open PySem L2
open PyProof.Rows hiding St
section
variable {X : Cx}
def tRep1 (to : TE) (y z : Str) : TE := fun σ H Q => to σ H fun v H1 => ∃ x, v = .str x ∧ x.length + z.length ≤ 16777216 ∧ Q (.str (rep1 x y z)) H1
theorem pet_rep1 {o : Expr} {to : TE} {y z : Str} {j k l : Nat} {c0 c1 c2 apos pos : Pos} (ho : PE X o to) (hyz : (y == z) = false)
    (hst : starEach [.Constant (.str y) j c0, .Constant (.str z) k c1, .Constant (.int 1) l c2] X.env = [(false, eval (.Constant (.str y) j c0) X.env), (false, eval (.Constant (.str z) k c1) X.env), (false, eval (.Constant (.int 1) l c2) X.env)] := by rfl)
    (hbase : attributeBase o "replace" X.env (eval o X.env) = eval o X.env := by rfl) (hline : (apos.endLine == pos.line) = true := by rfl) :
    L2.PET X (.Call (.Attribute o "replace" apos) [.Constant (.str y) j c0, .Constant (.str z) k c1, .Constant (.int 1) l c2] [] pos) (tRep1 to y z) := by
  intro pins s σ H Q h0 I h
  refine wpAny_Call_method_lateS hbase (by rw [hst]; rfl) hline ?_
  rw [hst, show backTo pos [(false, eval (.Constant (.str y) j c0) X.env), (false, eval (.Constant (.str z) k c1) X.env), (false, eval (.Constant (.int 1) l c2) X.env)] = [(false, eval (.Constant (.str y) j c0) X.env), (false, eval (.Constant (.str z) k c1) X.env), (false, eval (.Constant (.int 1) l c2) X.env)] from rfl]
  refine wpAny_mono (PySem.wpAny_toks (ho.run pins s σ H _ I h)) (fun v s1 q => ?_) fun _ _ z => z.2
  obtain ⟨hk, v', H1, I1, r1, x, e1, hb, q⟩ := q
  subst e1
  obtain ⟨tx, e2⟩ := r1
  subst e2
  refine ⟨"str", _, PySem.F.plainAttrs_str, PySem.F.slot_str_replace, PySem.F.type_str_replace, typeIs_str _ _ _, (fun _ e => nomatch e), Calls.callWith_builtin rfl (Calls.evalArgs_plain (Calls.spliced_cons ?_))⟩
  refine Calls.Constant_str (Calls.spliced_cons (Calls.Constant_str (Calls.spliced_cons (wpAny_Constant_int (Calls.spliced_nil ?_)))))
  exact LR.replace1 (by show s1.toks ≠ 0; omega) (by show s1.toks + 1 ≠ 0; omega) (by show s1.toks ≠ s1.toks + 1; omega) hyz hb fun t' k => ⟨.str (rep1 x y z), H1, I1.tok k, ⟨t', rfl⟩, q⟩
/-- behind it a token is out -/
def PE1 (X : Cx) (e : Expr) (t : TE) : Prop :=
  ∀ (pins : List (Addr × Obj)) (s : Shared) (σ : L2.St) (H : Hp) (Q : VK), Inv X pins σ H s → t σ H Q → wpAny (model X.prog X.w) X.A (eval e X.env) (fun v s' => 1 ≤ s'.toks ∧ EP X pins σ Q v s') X.xe s
theorem pe1_str {x : Str} {j : Nat} {pos : Pos} : PE1 X (.Constant (.str x) j pos) (tC (.str x)) := fun _ s _ H _ I h => Calls.Constant_str ⟨Nat.succ_le_succ (Nat.zero_le _), .str x, H, I.tok _, ⟨_, rfl⟩, h⟩
theorem PE1.weak {e : Expr} {t t' : TE} (h : PE1 X e t) (w : ∀ σ H Q, t' σ H Q → t σ H Q) : PE1 X e t' := fun pins s σ H Q I q => h pins s σ H Q I (w σ H Q q)
/-- an operation whose right side puts a token out -/
theorem pe1_opR {op : Operator} {r : R2} {e f : Expr} {te tf : TE} {pos : Pos} (ho : OpR X (binaryOp op) r) (ha : PE X e te) (hb : PE1 X f tf) : PE1 X (.BinOp e op f pos) (tOp r te tf) := by
  intro pins s σ H Q I h
  refine wpAny_BinOp (thn (ha.run pins s σ H _ I h) fun v s1 q => ?_)
  obtain ⟨x, H1, I1, r1, q1⟩ := q
  refine wpAny_mono (hb pins s1 σ H1 _ I1 q1) (fun u s2 q => ?_) fun _ _ z => z
  obtain ⟨hk, y, H2, I2, r2, q2⟩ := q
  exact wpAny_mono (PySem.wpAny_toks_of hk (ho pins s2 σ H2 x y v u Q I2 r1 r2 q2)) (fun _ _ z => z) fun _ _ z => z.2
/-- an operation whose left side puts a token out -/
theorem pe1_opL {op : Operator} {r : R2} {e f : Expr} {te tf : TE} {pos : Pos} (ho : OpR X (binaryOp op) r) (ha : PE1 X e te) (hb : PE X f tf) : PE1 X (.BinOp e op f pos) (tOp r te tf) := by
  intro pins s σ H Q I h
  refine wpAny_BinOp (thn (ha pins s σ H _ I h) fun v s1 q => ?_)
  obtain ⟨hk, x, H1, I1, r1, q1⟩ := q
  refine wpAny_mono (PySem.wpAny_toks_of hk (hb.run pins s1 σ H1 _ I1 q1)) (fun u s2 q => ?_) fun _ _ z => z.2
  obtain ⟨hk, y, H2, I2, r2, q2⟩ := q
  exact wpAny_mono (PySem.wpAny_toks_of hk (ho pins s2 σ H2 x y v u Q I2 r1 r2 q2)) (fun _ _ z => z) fun _ _ z => z.2
/-- a list's items, the first puts a token out, the second wants one -/
theorem pa_tok {e f : Expr} {es : List Expr} {te tf : TE} {t : TA} (ha : PE1 X e te) (hb : L2.PET X f tf) (hr : PA X es t)
    (hs : starEach (e :: f :: es) X.env = (false, eval e X.env) :: (false, eval f X.env) :: starEach es X.env) : PA X (e :: f :: es) (tCons te (tCons tf t)) := by
  refine ⟨fun pos pins s σ H Q I h => ?_⟩
  rw [hs]
  show wpAny _ _ (spliced ((false, eval e X.env) :: (false, eval f X.env) :: backTo pos (starEach es X.env))) _ _ s
  refine Calls.spliced_cons (wpAny_mono (ha pins s σ H _ I h) (fun u s1 q => ?_) fun _ _ z => z)
  obtain ⟨hk, x, H1, I1, r1, q1⟩ := q
  refine wpAny_mono (Calls.spliced_cons (Q := fun us s2 => AP X pins σ (fun ys H2 => Q (x :: ys) H2) us s2) (thn (hb pins s1 σ H1 _ hk I1 q1) fun v s2 ⟨y, H2, I2, r2, q2⟩ => ?_)) (fun us s3 q => ?_) fun _ _ z => z
  · exact thn (hr.run pos pins s2 σ H2 _ I2 q2) fun us s3 ⟨ys, H3, I3, r3, q3⟩ => ⟨y :: ys, H3, I3, .cons r2 r3, q3⟩
  · obtain ⟨ys, H3, I3, r3, q3⟩ := q
    exact ⟨x :: ys, H3, I3, .cons r1 r3, q3⟩
end
end MP
namespace MP
open PySem L2
open PyProof.Rows hiding St
section
variable {X : Cx} {T : Tab} {W : WX} {N : List Str} {sc : Scope}
theorem s_jrv (A : At X T W N sc) {a b : E} {y : Str} {o z : Expr} {apos p2 pos pos2 : Pos} (F2 : FOk X "reversed" y) (h2 : Holds X T (.blt "reversed")) (ha : PE X o (tE T W a)) (hb : PE X z (tE T W b)) (ho : noSuper o = true) (hz : shp z = true) (hl : (apos.endLine == pos.line) = true) : SndE X T W (.jrv a b) (.Call (.Attribute o "join" apos) [.Call (.Name y p2) [z] [] pos2] [] pos) := by
  obtain ⟨rfl, g2, m1, m3⟩ := F2
  refine snd_of (pe_weak (pe_joinRev A.C.calm g2 h2 ha hb (shp_star hz) rfl (super_ok ho) hl) fun σ H Q ⟨O, ρ, hr, p⟩ => ?_) (fun _ => rfl) (fun _ _ _ q => nomatch q)
  refine tE_bind wantE hr (show PoE T W O σ H Q ((evE a ρ).bind fun x => (strD x).bind fun _ => (evE b ρ).bind fun y => jrvD x y) from p) fun dx x H1 e1 d1 p1 => ?_
  cases d1 with
  | str xa =>
    refine ⟨⟨xa, rfl⟩, tE_bind wantE (hr.mono e1) (show PoE T W O σ H1 Q ((evE b ρ).bind fun y => jrvD _ y) from p1) fun dy v H2 e2 d2 p2 => ?_⟩
    cases d2 with
    | @lst ds q vs h r =>
      have p2 : PoE T W O σ H2 Q (match asStrs ds with
        | some ys => if (ys.reverse.map (·.length)).sum + ys.reverse.length * xa.cps.toList.length ≤ 16777216 then .ok (ofS (Txt.join (toS xa.cps.toList) ys.reverse)) else .no
        | none => .no) := p2
      rw [toS_eq, strlen] at p2
      split at p2
      · rename_i ys e
        split at p2
        · rename_i hz
          have e2 := strs_of r e
          subst e2
          exact ⟨xa, q, ys, rfl, rfl, by rw [A.C.hK]; exact ex_sql hide_ex h, hz, p2 _ H2 (Ex.refl H2) (.str _)⟩
        · exact False.elim p2
      · exact False.elim p2
    | _ => exact False.elim p2
  | _ => exact False.elim p1
theorem s_lsR (A : At X T W N sc) {p q t c : E} {l : List Nat} {ep eq o ec : Expr} {s y z : Str} {j1 j2 j3 j4 : Nat} {c0 c1 c2 c3 apos pos pos1 pos2 pos3 : Pos} (hs : s.cps.toList = l) (hy : y.cps.toList = [32]) (hz : z.cps.toList = []) (hp : PE X ep (tE T W p)) (hq : PE X eq (tE T W q)) (ht : PE X o (tE T W t)) (ho : noSuper o = true) (hc : PE X ec (tE T W c)) (hec : shp ec = true) (hl : (apos.endLine == pos.line) = true) :
    SndE X T W (.lsR p l q t c) (.List [.BinOp (.BinOp ep .Add (.Constant (.str s) j1 c0) pos1) .Add eq pos2, .Call (.Attribute o "replace" apos) [.Constant (.str y) j2 c1, .Constant (.str z) j3 c2, .Constant (.int 1) j4 c3] [] pos, ec] pos3) := by
  have ey : y = toS [32] := by rw [← hy, toS_eq]
  have ez : z = toS [] := by rw [← hz, toS_eq]
  have hyz : (y == z) = false := by rw [ey, ez]; rfl
  have z0 : z.length = 0 := by rw [ez]; rfl
  refine snd_of (pe_weak (pe_lst (pa_tok (pe1_opL (o_bin A.C .add) (pe1_opR (o_bin A.C .add) hp pe1_str) hq) (pet_rep1 ht hyz rfl (super_ok ho) hl) (pa_cons hc pa_nil (shp_star hec)) (by
    show (false, _) :: (false, _) :: starEach [ec] X.env = _
    rfl))) fun σ H Q ⟨O, ρ, hr, p0⟩ => ?_) (fun _ => rfl) (fun _ _ _ q => nomatch q)
  refine tE_bind wantE hr (show PoE T W O σ H Q ((evE p ρ).bind fun x => (binD .add x (.str l)).bind fun x1 => (evE q ρ).bind fun x2 => (binD .add x1 x2).bind fun x3 => (evE t ρ).bind fun y => (rp1D y).bind fun y1 => (evE c ρ).bind fun z => .ok (.lst [x3, y1, z])) from p0) fun dx x H1 e1 d1 p1 => ?_
  refine ⟨O, dx, .str l, live_mono e1 hr.live, d1, (by rw [← hs]; exact .str s), ?_⟩
  cases b1 : binD .add dx (.str l) with
  | no => rw [b1] at p1; exact False.elim p1
  | ex k => exact absurd b1 (binD_nex .add dx _ k)
  | ok dx1 =>
    rw [b1] at p1
    intro x1 H2 e2 d2
    refine tE_bind wantE (hr.mono (e1.trans e2)) (show PoE T W O σ H2 Q ((evE q ρ).bind fun x2 => (binD .add dx1 x2).bind fun x3 => (evE t ρ).bind fun y => (rp1D y).bind fun y1 => (evE c ρ).bind fun z => .ok (.lst [x3, y1, z])) from PoE.mono e2 p1) fun dx2 x2 H3 e3 d3 p2 => ?_
    refine ⟨O, dx1, dx2, live_mono ((e1.trans e2).trans e3) hr.live, d2.mono (hide_mono e3), d3, ?_⟩
    cases b2 : binD .add dx1 dx2 with
    | no => rw [b2] at p2; exact False.elim p2
    | ex k => exact absurd b2 (binD_nex .add dx1 _ k)
    | ok dx3 =>
      rw [b2] at p2
      intro x3 H4 e4 d4
      refine tE_bind wantE (hr.mono (((e1.trans e2).trans e3).trans e4)) (show PoE T W O σ H4 Q ((evE t ρ).bind fun y => (rp1D y).bind fun y1 => (evE c ρ).bind fun z => .ok (.lst [dx3, y1, z])) from PoE.mono e4 p2) fun dt vt H5 e5 d5 p3 => ?_
      cases d5 with
      | str xt =>
        by_cases hL : xt.cps.toList.length ≤ 16777216
        · have er : rp1D (.str xt.cps.toList) = .ok (ofS (rep1 xt y z)) := by
            show (if xt.cps.toList.length ≤ 16777216 then R.ok (ofS (rep1 (toS xt.cps.toList) (toS [32]) (toS []))) else .no) = _
            rw [if_pos hL, toS_eq, ← ey, ← ez]
          rw [er] at p3
          rw [strlen] at hL
          refine ⟨xt, rfl, by omega, ?_⟩
          refine tE_bind wantE (hr.mono ((((e1.trans e2).trans e3).trans e4).trans e5)) (show PoE T W O σ H5 Q ((evE c ρ).bind fun z1 => .ok (.lst [dx3, ofS (rep1 xt y z), z1])) from p3) fun dc vc H6 e6 d6 p4 => ?_
          exact ⟨by show (3 : Nat) ≤ sizeLine; decide, fun b n => PoV.lst (T := T) (O := O) (live_mono (((((e1.trans e2).trans e3).trans e4).trans e5).trans e6) hr.live) (show PoV T O H6 Q (.ok (.lst [dx3, ofS (rep1 xt y z), dc])) from p4) (.cons (d4.mono (hide_mono (e5.trans e6))) (.cons (.str _) (.cons d6 .nil))) n⟩
        · have er : rp1D (.str xt.cps.toList) = .no := if_neg hL
          rw [er] at p3
          exact False.elim p3
      | _ => exact False.elim p3
end
end MP

set_option Elab.async false
set_option linter.all false
set_option maxRecDepth 100000
set_option maxHeartbeats 4000000
set_option autoImplicit false
/-! MPS: sorted(xs, key=lambda p: e): a lambda with one parameter, made and called; a def that ends with it. -/
namespace MP
open PySem L2
open PyProof.Rows hiding St


section
variable {X : Cx} {pins : List (Addr × Obj)} {σ : L2.St} {H : Hp} {s : Shared}
/-- the lambda's object -/
abbrev lamO (X : Cx) (params : Arguments) (body : Expr) (scope : Scope) (pm : Value) (c' : Addr) (ctv : Value) : Obj :=
  PySem.W.kla_obj "<lambda>" (X.env.qual ++ "<lambda>") params body scope (cloFrom X.env.cells scope.names []) pm c' ctv
/-- a lambda is made: its code object is new and goes to the table, or stands there -/
theorem lam_new {c P : Addr} {params : Arguments} {body : Expr} {scope : Scope} {pos : Pos} {E : Value → Shared → Prop} {Q : Value → Shared → Prop} (I : Inv X pins σ H s) (TB : LamX.TabB X.base X.mg c P) (hcode : X.env.code = .ref c)
    (hq : X.env.qual ++ "<lambda>" = qL) (hT : LamX.TabS H P qL) (hdef : defaultsOf params X.env = ([], [])) (hfree : ∀ y ∈ scope.names, y.2 = .free → ∃ c, X.env.cells.lookup y.1 = some c)
    (h : ∀ (f c' : Addr) (pm ctv : Value) (H1 : Hp) (s' : Shared), Inv X pins σ H1 s' → Ex H H1 → s'.heap.get? f = some (lamO X params body scope pm c' ctv) → FpOk X pins H1 f → H1 c' = some (LamX.CodeO c' (X.env.qual ++ "<lambda>")) → Q (.ref f) s') :
    wpAny (model X.prog X.w) X.A (eval (.Lambda params body scope pos) X.env) Q E s := by
  rw [← hq] at hT
  obtain ⟨ps, hP, ht, ha⟩ := hT
  have atP : s.heap.get? P = some { cls := .none, data := .fields ps } := I.hok P _ hP
  have bP : s.heap.BuiltinsAt X.mg P := TB.bm.keeps I.bk
  refine PySem.W.kla_eval hdef ?_
  cases hc : codeAmong pos ps.toList with
  | some cv =>
    obtain ⟨c', rfl, hco⟩ := ha pos cv hc
    refine PySem.W.kla_makeFunctionHit (mg := X.mg) (c := c) (P := P) (ps := ps) (closure_ok hfree) I.ok.glob (I.mod.glob.keeps I.bk) hcode (TB.code.keeps I.bk) atP ht hc bP fun ctv h' tk hx hsz => ?_
    exact h h'.objs.size c' _ ctv H _ (I.kept (t' := tk) fun b o e => Heap.get?_push_of_some _ (hx b o e)) (Ex.refl H) (Heap.get?_push_size _ rfl) (I.fpOk hsz (I.hok.fresh hsz)) hco
  | none =>
    refine PySem.W.kla_makeFunction (mg := X.mg) (c := c) (P := P) (ps := ps) (closure_ok hfree) I.ok.glob (I.mod.glob.keeps I.bk) hcode (TB.code.keeps I.bk) atP ht hc TB.gP bP fun c' ctv h' tk hx hge hlt hrec htb => ?_
    obtain ⟨_, oc, vs, t, e2, hoc, hd, hv⟩ := hrec
    cases e2
    have hsz : s.heap.objs.size ≤ h'.objs.size := Nat.le_trans hge (Nat.le_of_lt hlt)
    have nC : H c' = none := I.hok.fresh hge
    have nPc : P ≠ c' := ne_of_none hP nC
    have nf : h'.objs.size ≠ c' := Nat.ne_of_gt hlt
    have nP : h'.objs.size ≠ P := Nat.ne_of_gt (Nat.lt_of_lt_of_le (Heap.lt_size atP) hsz)
    have keep : ∀ b o, b ≠ P → H b = some o → upd (upd H P (.tbl (ps ++ #[rawInt pos.line, rawInt pos.col, .ref c']))) c' (LamX.CodeO c' (X.env.qual ++ "<lambda>")) b = some o := fun b o n e => by
      rw [upd_ne (ne_of_none e nC), upd_ne n]
      exact e
    refine h h'.objs.size c' _ ctv _ _ (LamX.inv_table (t' := tk) (more := #[rawInt pos.line, rawInt pos.col, .ref c']) (h' := h'.push (lamO X params body scope ((X.mg "__name__").getD .none) c' ctv)) I hP
      (fun b o hb e => Heap.get?_push_of_some _ (hx b o hb e)) (Heap.get?_push_of_some _ htb) hge ⟨oc, vs, t, Heap.get?_push_of_some _ hoc, hd, hv⟩) ⟨fun b o e => ?_, fun P' t' => ?_⟩ (Heap.get?_push_size _ rfl) (I.fpOk hsz ?_) upd_same
    · by_cases hb : b = P
      · rw [hb, hP] at e
        cases e
        exact .inr ⟨ps, _, rfl, by rw [hb, upd_ne nPc, upd_same]⟩
      · exact .inl (keep b o hb e)
    · rw [← hq] at t' ⊢
      obtain ⟨ps', k1, k2, k3⟩ := t'
      have code : ∀ d, H d = some (LamX.CodeO d (X.env.qual ++ "<lambda>")) → upd (upd H P (.tbl (ps ++ #[rawInt pos.line, rawInt pos.col, .ref c']))) c' (LamX.CodeO c' (X.env.qual ++ "<lambda>")) d = some (LamX.CodeO d (X.env.qual ++ "<lambda>")) := fun d e =>
        keep d _ (fun z => by rw [z, hP] at e; exact LamX.codeO_ne _ (Option.some.inj e).symm) e
      by_cases hb : P' = P
      · subst hb
        rw [hP] at k1
        cases k1
        have eL : (ps ++ #[rawInt pos.line, rawInt pos.col, .ref c']).toList = ps.toList ++ [rawInt pos.line, rawInt pos.col, .ref c'] := by simp
        refine ⟨_, by rw [upd_ne nPc, upd_same], by rw [eL]; exact PySem.TriplesOk_snoc _ _ _ _ k2, fun p cv e => ?_⟩
        rw [eL] at e
        rcases LamX.among_app _ k2 e with z | z
        · obtain ⟨d, d1, d2⟩ := k3 p cv z
          exact ⟨d, d1, code d d2⟩
        · exact ⟨c', z, upd_same⟩
      · refine ⟨ps', keep P' _ hb k1, k2, fun p cv e => ?_⟩
        obtain ⟨d, d1, d2⟩ := k3 p cv e
        exact ⟨d, d1, code d d2⟩
    · rw [upd_ne nf, upd_ne nP]
      exact I.hok.fresh hsz
theorem LamP.has {scope : Scope} {p : Str} (L : LamP X.env.scope scope p) (ok : X.Ok) : ∀ y ∈ scope.names, y.2 = .free → ∃ c, X.env.cells.lookup y.1 = some c := fun y hy e =>
  ok.has _ ((L.free y hy e).imp id id)
/-- the lambda's frame begins -/
theorem lam_begin {A : Around} {scope : Scope} {p : Str} {i : Nat} {x : V} {u : Value} {f c' : Addr} {h₁ : Heap} {tk : Nat} (I : Inv X pins σ H s) (L : LamP X.env.scope scope p) (hA : A.frames = some X.stack) (hd : A.handled = none) (hN : X.N[i]? = some p) (nd : X.N.Nodup) (r : RelV x u)
    (hns : h₁.Ns s.heap.objs.size fun y => [(p, u)].reverse.lookup y) (kp : ∀ b o, s.heap.get? b = some o → h₁.get? b = some o) :
    Inv (LamX.lamCx X A X.stack s H (fun _ _ _ => False) scope f c') [] (σ.set i (some x)) H { s with heap := h₁, toks := tk } := by
  have e0 : Env0 X.prog X.w X.K X.mg X.base A X.stack s H := { I.env0 with frames := hA }
  have hfree := L.has I.ok
  have cm : ∀ {y c}, (cloFrom X.env.cells scope.names []).lookup y = some c → X.env.cells.lookup y = some c := fun {y c} e => by
    rcases cloFrom_mem (PySem.mem_of_lookup e) with hm | ⟨h1, h2⟩
    · cases hm
    · obtain ⟨c1, hc⟩ := hfree _ h1 rfl
      have hc : X.env.cells.lookup y = some c1 := hc
      have e2 : c = c1 := by
        rw [h2, hc] <;> rfl
      rw [e2]
      exact hc
  have look : ∀ {y}, scope.names.lookup y = some .free → ∃ c, (cloFrom X.env.cells scope.names []).lookup y = some c := fun {y} hl =>
    mem_lookup (cloFrom_has (cells := X.env.cells) (acc := []) (PySem.mem_of_lookup hl))
  have cellK : ∀ {c : Addr} {v : Option Value}, s.heap.IsCell c v → h₁.IsCell c v := fun {c v} ⟨o, ho, hd⟩ => ⟨o, kp _ _ ho, hd⟩
  have noA : ∀ b : Addr, b ∉ (LamX.lamCx X A X.stack s H (fun _ _ _ => False) scope f c').ex := fun b z => absurd (show b ∈ ([] : List Addr) from z) (by simp)
  refine ⟨⟨e0.mod, L.kind, rfl, rfl, Nat.le_refl _, fun y z c e1 e2 => I.ok.inj y z c (cm e1) (cm e2), fun y hy => ?_, fun y c z _ => ?_, fun _ => hd, Around.frames_deeper e0.frames, .inr ⟨rfl, rfl⟩, fun b z => absurd z (noA b), e0.bs, e0.bsz, fun b _ _ => noA b,
      fun b z => absurd z (noA b), e0.funs, e0.frf⟩,
    rfl, e0.bare, Un.kept kp, ⟨_, hns, fun j y v e1 e2 e3 => ?_⟩, fun y c e => ?_, e0.hok.fresh (Nat.le_refl _), fun y c e => ?_, fun q hq => absurd (show q ∈ ([] : List (Addr × Obj)) ++ [] from hq) (by simp), e0.hok.kept kp, by rw [List.length_set]; exact I.len⟩
  · have hy : scope.names.lookup y = some .cell ∨ scope.names.lookup y = some .free := hy
    rcases hy with hy | hy
    · exact absurd rfl (L.own _ (PySem.mem_of_lookup hy)).1
    · exact look hy
  · have z : false = true := z
    cases z
  · have e3 : Vis scope y := e3
    have e1 : X.N[j]? = some y := e1
    rcases e3 with k | k | k
    · have ey : y = p := (L.own _ (PySem.mem_of_lookup k)).2 rfl
      subst ey
      have hj : i = j := (List.getElem?_inj (List.getElem?_eq_some_iff.mp hN).1 nd).mp (hN.trans e1.symm)
      subst hj
      have hl : i < σ.length := by
        rw [I.len]
        exact (List.getElem?_eq_some_iff.mp hN).1
      rw [List.getElem?_set_self hl] at e2
      cases e2
      exact ⟨u, r, .inl ⟨k, by simp⟩⟩
    · exact absurd rfl (L.own _ (PySem.mem_of_lookup k)).1
    · have hj : i ≠ j := fun z => by
        subst z
        rw [hN] at e1
        cases e1
        rw [L.par] at k
        cases k
      rw [List.getElem?_set_ne hj] at e2
      obtain ⟨m, hn, hl⟩ := I.loc
      have hvis : Vis X.env.scope y := (L.free _ (PySem.mem_of_lookup k) rfl).elim (fun k => .inr (.inl k)) (fun k => .inr (.inr k))
      obtain ⟨w', r, q⟩ := hl j y v e1 e2 hvis
      obtain ⟨c2, h2⟩ := look k
      refine ⟨w', r, .inr ⟨.inr k, c2, h2, ?_⟩⟩
      have c1 := cm h2
      rcases q with ⟨k', _⟩ | ⟨_, c3, e', z⟩
      · have k' : X.env.scope.names.lookup y = some .local := k'
        rcases L.free _ (PySem.mem_of_lookup k) rfl with k2 | k2 <;> rw [show X.env.scope.names.lookup y = _ from k2] at k' <;> cases k'
      · rw [c1] at e'
        cases e'
        exact cellK z
  · obtain ⟨w', z⟩ := I.cell y c (cm e)
    exact ⟨w', cellK z⟩
  · exact I.freeC y c (cm e)
/-- the lambda is called with one value -/
theorem lam_call {A : Around} {scope : Scope} {params : Arguments} {body : Expr} {p : Str} {i k : Nat} {x : V} {u pm ctv : Value} {f c' : Addr} {t : TE} {Q : VK} (I : Inv X pins σ H s) (L : LamP X.env.scope scope p) (hA : A.frames = some X.stack) (hr : Room (k + 1) A) (hN : X.N[i]? = some p) (nd : X.N.Nodup) (r : RelV x u)
    (hf : s.heap.get? f = some (lamO X params body scope pm c' ctv)) (hc : H c' = some (LamX.CodeO c' (X.env.qual ++ "<lambda>")))
    (hbind : bindArgs (PySem.W.kla_fn "<lambda>" (X.env.qual ++ "<lambda>") params body scope (cloFrom X.env.cells scope.names []) pm (.ref c') ctv) ⟨[u], []⟩ = pure [(p, u)])
    (hbody : Room k (A.deeper (LamX.lamEnv X scope s.heap.objs.size f c')) → PE (LamX.lamCx X A X.stack s H (fun _ _ _ => False) scope f c') body t) (ht : t (σ.set i (some x)) H Q) :
    wpAny (model X.prog X.w) A (call (.ref f) [u]) (EP X pins σ Q) (fun _ _ => False) s := by
  obtain ⟨⟨oc, vs, tq, hoc, hdc, hvc⟩, _, _⟩ := I.hok c' _ hc
  have rc : codeAny (model X.prog X.w) A (.call (.ref f) ⟨[u], []⟩) (fun r s' => ∃ w, r = .ok (.ret w) ∧ CE X.stack X.prog X.w H s Q w s') s := by
    refine PySem.W.kla_callFunE hr.depth hf rfl L.co L.gen rfl ⟨c', oc, vs, tq, rfl, hoc, hdc, hvc⟩ ?_
    rw [hbind]
    refine wpAny_pure (wpAny_newFunctionEnv (fun y hy => (L.own y hy).1) (fun y hy => by rw [List.mem_singleton.mp hy]; exact L.par) (fun h₁ hns hsb => ⟨I.nolimit.fresh _ hsb, ?_⟩) L.kind)
    show codeAny _ _ (.expr body (LamX.lamEnv X scope s.heap.objs.size f c')) _ _
    have kp : ∀ b o, s.heap.get? b = some o → h₁.get? b = some o := fun b o e => hsb.extBut b o (Nat.ne_of_lt (Heap.lt_size e)) (Heap.get?_push_of_some _ e)
    have J := lam_begin (A := A) (f := f) (c' := c') (tk := s.toks + [(p, u)].length) I L hA hr.hd hN nd r hns kp
    refine PySem.W.kla_codeExpr (wpAny_mono ((hbody (hr.deeper _)).run [] _ _ H Q J ht) (fun v s' hq => ?_) fun e s' hq => ?_)
    · obtain ⟨w', H', J', rv, q⟩ := hq
      exact ⟨v, rfl, w', H', J'.os, J'.bare, J'.base, J'.hok, rv, q⟩
    · have no : ∀ e s', L2.CX X.prog X.w X.stack H s (fun _ _ _ => False) e s' → False := fun e s' z => by
        obtain ⟨_, _, _, _, _, _, _, _, _, _, _, _, z⟩ := z
        exact z
      exact wpAny_mono hq (fun _ s'' z => (no _ _ z).elim) fun _ s'' z => (no _ _ z).elim
  refine wpAny_call (codeAny_mono rc fun r s' hq => ?_)
  obtain ⟨w, rfl, hq⟩ := hq
  exact I.after hq
end
end MP

set_option Elab.async false
set_option linter.all false
set_option maxRecDepth 100000
set_option maxHeartbeats 4000000
set_option autoImplicit false
/-! MPT: sorted with a key that is a lambda. -/
namespace MP
open PySem L2 PySem.Calls
open PyProof.Rows hiding St
open PySem.W (EachIs KeyedOut AllAlike Sortable dataKind SortsAt keyH_end copyHeap copyHeap_at copyHeap_old sortingHeap sortingHeap_old keyedOut_each dataLe_int)

theorem each_ints {h : Heap} : ∀ {vs : List Value} {zs : List Int}, IntsAre vs zs → EachIs (fun v k => ∃ as, Reads h v k as) vs (zs.map .int)
  | _, _, .nil => .nil
  | _, _, .cons n t r => .cons ⟨[], .int n t⟩ (each_ints r)
theorem alike_ints (zs : List Int) : AllAlike (zs.map .int) := fun d hd d' hd' => by
  obtain ⟨n, _, rfl⟩ := List.mem_map.mp hd
  obtain ⟨m, _, rfl⟩ := List.mem_map.mp hd'
  rfl
theorem sortable_ints (zs : List Int) : Sortable (zs.map .int) := .inr fun d hd => by
  obtain ⟨n, _, rfl⟩ := List.mem_map.mp hd
  exact ⟨fun z => (nomatch z), fun xs z => (nomatch z)⟩
theorem vals_at : ∀ {xs : List V} {us : List Value} {i : Nat} {u : Value}, Vals xs us → us[i]? = some u → ∃ x, xs[i]? = some x ∧ RelV x u
  | _, _, _, _, .nil, e => by simp at e
  | _, _, 0, _, .cons h _, e => by simp at e; subst e; exact ⟨_, rfl, h⟩
  | _, _, i + 1, u, .cons _ r, e => by
    obtain ⟨x, h1, h2⟩ := vals_at (i := i) (u := u) r (by simpa using e)
    exact ⟨x, by simpa using h1, h2⟩
theorem each_zip : ∀ {xs : List V} {us : List Value} {zs : List Int}, Vals xs us → zs.length = xs.length → EachIs (fun u (p : V × Int) => RelV p.1 u) us (xs.zip zs)
  | _, _, [], .nil, _ => .nil
  | _, _, _ :: _, .nil, e => by simp at e
  | _, _, [], .cons _ _, e => by simp at e
  | _, _, z :: zs, .cons h r, e => .cons h (each_zip r (by simpa using e))
theorem vals_each : ∀ {us : List Value} {l : List (V × Int)}, EachIs (fun u (p : V × Int) => RelV p.1 u) us l → Vals (l.map (·.1)) us
  | _, _, .nil => .nil
  | _, _, .cons h r => .cons h (vals_each r)
section
variable {X : Cx} {pins : List (Addr × Obj)} {σ : L2.St} {H : Hp} {s : Shared}
theorem fp_of {H' : Hp} {b : Addr} (f : FpOk X pins H b) (n : H' b = none) : FpOk X pins H' b := ⟨n, f.2⟩
theorem srt_rest {A : Around} {a kS f : Addr} {oF : Obj} {e1 : Nat} {vs : List Value} {zs : List Int} {P : PySem.Fin → Shared → Prop} {E : Value → Shared → Prop}
    (I : Inv X ((f, oF) :: (a, seqObj "list" #[] e1) :: (kS, seqObj "list" #[] 0) :: pins) σ H s) (fa : FpOk X pins H a) (fk : FpOk X pins H kS) (hfa : f ≠ a) (hfk : f ≠ kS) (hka : kS ≠ a)
    (hlen : zs.length = vs.length) (hZ : vs.length ≤ sizeLine) (hu : A.units < cLine)
    (turn : ∀ (pins' : List (Addr × Obj)) (j : Nat) (u : Value) (z : Int) (H' : Hp) (s' : Shared), vs[j]? = some u → zs[j]? = some z → Inv X pins' σ H' s' → Ex H H' → s'.heap.get? f = some oF → wpAny (model X.prog X.w) A (call (.ref f) [u]) (EP X pins' σ fun v H'' => v = .int z ∧ Ex H' H'') (fun _ _ => False) s')
    (h : ∀ (H' : Hp) (s' : Shared) (out : List Value) (c : Nat), Inv X pins σ H' s' → Ex H H' → H' a = none → s'.heap.get? a = some (seqObj "list" (List.toArray out) c) → KeyedOut false (zs.map .int) vs out → P (.done (.ret .none)) s') :
    wpAny (model X.prog X.w) A (ksk_rest a (.ref f) false vs.toArray e1 (.ref kS)) P E s := by
  unfold ksk_rest
  refine wpAny_bind (wpAny_rule ?_)
  first
    | rw [List.forIn_toArray]
    | (rw [← Array.forIn_toList]; simp only [List.toList_toArray])
    | rw [← Array.forIn_toList]
  refine wpAny_bind (ksk_fold (fun j s' => ∃ H' kA e, Inv X ((f, oF) :: (a, seqObj "list" #[] e1) :: (kS, seqObj "list" kA e) :: pins) σ H' s' ∧ Ex H H' ∧ IntsAre kA.toList (zs.take j)) vs 0 s
    ⟨H, #[], 0, I, Ex.refl H, by rw [List.take_zero]; exact .nil⟩ ?step ?done)
  case step =>
    rintro j x s' hx ⟨H', kA, e, J, eH, hk⟩
    simp only [Nat.zero_add] at hk ⊢
    have hj : j < vs.length := (List.getElem?_eq_some_iff.mp hx).1
    obtain ⟨z, hz⟩ : ∃ z, zs[j]? = some z := ⟨_, List.getElem?_eq_getElem (by omega)⟩
    have hl : kA.size ≤ vs.length := by
      have h1 := hk.length
      rw [Array.length_toList, List.length_take] at h1
      omega
    refine wpAny_bind (wpAny_attempt (wpAny_mono (turn _ j x z H' s' hx hz J eH (J.pin (f, oF) (by simp)).1) (fun v s2 he => ?_) fun _ _ hF => hF.elim))
    obtain ⟨w, H2, J2, rv, rfl, e2⟩ := he
    obtain ⟨t, rfl⟩ := rv
    try dsimp only
    obtain ⟨k1, k2, k3, k4, k5⟩ := J2.pin (kS, seqObj "list" kA e) (by simp)
    have k1 : s2.heap.get? kS = some (seqObj "list" kA e) := k1
    obtain ⟨c2, hc2⟩ : ∃ c2, (s2.heap.update kS (Obj.mapSeq (·.push (.int z t)))).get? kS = some (seqObj "list" (kA.push (.int z t)) c2) := ⟨_, get?_update_seq k1 (·.push (.int z t))⟩
    refine wpAny_bind (listUpdate_at k1 rfl ?_ (Nat.le_trans hl hZ) (Nat.le_trans (Nat.le_of_eq (Array.size_push ..)) (Nat.succ_le_succ (Nat.le_trans hl hZ))))
    have J3 : Inv X ((f, oF) :: (a, seqObj "list" #[] e1) :: pins) σ H2 s2 := J2.pins_of fun p hp => J2.pin p (by
      rcases List.mem_cons.mp hp with hp | hp
      · simp [hp]
      · rcases List.mem_cons.mp hp with hp | hp
        · simp [hp]
        · simp [hp])
    have J4 := J3.turnedL (ch := [kS]) (h' := s2.heap.update kS (Obj.mapSeq (·.push (.int z t)))) (t' := s2.toks) (fun b o hb e => (Heap.get?_update_ne _ _ _ _ (by simpa using hb)).trans e) (fun b hb => by
      obtain rfl : b = kS := by simpa using hb
      refine ⟨k2, fk.2.1, fk.2.2.1, fk.2.2.2.1, fk.2.2.2.2.1, fun p hp => ?_⟩
      rcases List.mem_append.mp hp with hp | hp
      · exact fk.2.2.2.2.2 p (List.mem_append_left _ hp)
      · rcases List.mem_cons.mp hp with rfl | hp
        · exact hfk
        · rcases List.mem_cons.mp hp with rfl | hp
          · exact fun z => hka z.symm
          · exact fk.2.2.2.2.2 p (List.mem_append_right _ hp))
    have J5 : Inv X ((f, oF) :: (a, seqObj "list" #[] e1) :: (kS, seqObj "list" (kA.push (.int z t)) c2) :: pins) σ H2 { s2 with heap := s2.heap.update kS (Obj.mapSeq (·.push (.int z t))), toks := s2.toks } := J4.pins_of fun p hp => by
      rcases List.mem_cons.mp hp with hp | hp
      · exact J4.pin p (by simp [hp])
      · rcases List.mem_cons.mp hp with hp | hp
        · exact J4.pin p (by simp [hp])
        · rcases List.mem_cons.mp hp with hp | hp
          · subst hp
            exact ⟨hc2, k2, k3, k4, fun v z => (nomatch z)⟩
          · exact J4.pin p (by simp [hp])
    refine wpAny_pure ⟨rfl, H2, _, c2, J5, eH.trans e2, ?_⟩
    have ek : zs.take (j + 1) = zs.take j ++ [z] := by rw [List.take_add_one, hz]; simp
    have ea : (kA.push (.int z t)).toList = kA.toList ++ [.int z t] := by simp
    rw [ea, ek]
    exact ksk_snoc hk
  case done =>
    rintro s' ⟨H', kA, e, J, eH, hk⟩
    have e3 : zs.take (0 + vs.length) = zs := List.take_of_length_le (by omega)
    rw [e3] at hk
    have hsz : kA.size = vs.length := by
      have h1 := hk.length
      rw [Array.length_toList] at h1
      omega
    obtain ⟨k1, k2, k3, k4, k5⟩ := J.pin (kS, seqObj "list" kA e) (by simp)
    obtain ⟨a1, a2, a3, a4, a5⟩ := J.pin (a, seqObj "list" #[] e1) (by simp)
    have k1 : s'.heap.get? kS = some (seqObj "list" kA e) := k1
    have a1 : s'.heap.get? a = some (seqObj "list" #[] e1) := a1
    try dsimp only
    refine wpAny_bind (listItems_at k1 rfl ?_)
    obtain ⟨G, g1, g2⟩ := L2.restrict s'.heap fun b => decide (b ≠ kS)
    have hk' := each_ints (h := s'.heap) hk
    have J0 : Inv X pins σ H' s' := J.pins_of fun p hp => J.pin p (by simp [hp])
    refine keyH_end (κ := dataKind s'.heap (zs.map .int)) (h₁ := G) (fun b o hb q => ?_) (g2 kS (by simp)) k1 a1 hka (SortsAt.data (s := s') hk' (alike_ints zs) (sortable_ints zs) fun d hd => by
      obtain ⟨n, _, rfl⟩ := List.mem_map.mp hd
      exact hu) hsz hZ fun h3 tk3 c k3 n3 => ?_
    · by_cases hn : b = kS
      · rw [hn, g2 kS (by simp)] at q
        cases q
      · rw [← g1 b (by simpa using hn)]
        exact q
    · refine h H' _ _ c (J0.turnedL (ch := [a, kS]) (h' := h3) (t' := tk3) (fun b o hb q => k3 b o (fun z => hb (by simp [z])) ((g1 b (by simpa using fun z => hb (by simp [z]))).trans q)) fun b hb => ?_) eH a2 n3 ⟨s'.heap, kA.toList, alike_ints zs, rfl, hk'⟩
      rcases List.mem_cons.mp hb with rfl | hb
      · exact fp_of fa a2
      · obtain rfl : b = kS := by simpa using hb
        exact fp_of fk k2
/-- sorted(xs, key=f), f a lambda that tells the keys zs -/
theorem srt_call {l f : Addr} {oF : Obj} {xs : List V} {zs : List Int} {Q : VK} (I : Inv X pins σ H s) (hl : SqL X.K H l xs) (hlen : zs.length = xs.length) (hf : s.heap.get? f = some oF) (ff : FpOk X pins H f) (hcell : ∀ v, oF.data ≠ .cell v) (hu : X.A.units + 65 < cLine)
    (turn : ∀ (pins' : List (Addr × Obj)) (j : Nat) (x : V) (u : Value) (z : Int) (H' : Hp) (s' : Shared), xs[j]? = some x → RelV x u → zs[j]? = some z → Inv X pins' σ H' s' → Ex H H' → s'.heap.get? f = some oF → wpAny (model X.prog X.w) X.A.in1.in1 (call (.ref f) [u]) (EP X pins' σ fun v H'' => v = .int z ∧ Ex H' H'') (fun _ _ => False) s')
    (h : ∀ (a : Addr) (H' : Hp), Ex H H' → H a = none → H' a = some (.lst (srtB xs zs)) → Q (.ref a) H') :
    wpAny (model X.prog X.w) X.A (call (.builtin "sorted") [.ref l] [(Str.ofString "key", .ref f)]) (EP X pins σ Q) X.xe s := by
  obtain ⟨its, rv, pl, hz⟩ := I.list hl
  have hil : its.length = xs.length := rv.length.symm
  refine PySem.W.sorted_of_sort pl.isList (by rw [hil]; exact hz) (ksk_s1 _ _) (fun _ => ksk_l1 _ _) fun E' => ?_
  rw [ksk_t1]
  have ho := copyHeap_at s.heap its
  generalize hg : copyHeap s.heap its = g at ho ⊢
  have kg : ∀ b o, s.heap.get? b = some o → g.get? b = some o := fun b o q => by rw [← hg]; exact copyHeap_old q
  have ha : s.heap.objs.size + 1 < g.objs.size := Heap.lt_size ho
  obtain ⟨e1, ho1⟩ : ∃ e1, (g.update (s.heap.objs.size + 1) (Obj.mapSeq fun _ => (#[] : Array Value))).get? (s.heap.objs.size + 1) = some (seqObj "list" #[] e1) := ⟨_, get?_update_seq ho fun _ => #[]⟩
  have hkS : ((g.update (s.heap.objs.size + 1) (Obj.mapSeq fun _ => (#[] : Array Value))).push (seqObj "tuple" its.toArray 0)).objs.size = g.objs.size + 1 := by rw [size_push', Heap.size_update]
  unfold ksk_tree
  refine wpAny_bind (listItems_at ho rfl ?_)
  refine wpAny_bind (listUpdate_at ho rfl ?_ (by rw [List.size_toArray, hil]; exact hz) (Nat.zero_le _))
  refine wpAny_bind (seqEpoch_at ho1 rfl ?_)
  refine wpAny_bind (wpAny_newTuple ?_ (by show its.length ≤ _; rw [hil]; exact hz))
  refine wpAny_bind (wpAny_newList ?_ (Nat.zero_le _))
  refine wpAny_holding ?_
  have kp : ∀ b o, s.heap.get? b = some o → (sortingHeap g (s.heap.objs.size + 1) its).get? b = some o := fun b o q => sortingHeap_old (Nat.ne_of_lt (Nat.lt_succ_of_lt (Heap.lt_size q))) (kg b o q)
  have lf := Heap.lt_size hf
  have I1 : Inv X pins σ H { s with heap := sortingHeap g (s.heap.objs.size + 1) its } := I.kept (t' := s.toks) kp
  have na : H (s.heap.objs.size + 1) = none := I.hok.fresh (Nat.le_succ _)
  have nk : H (g.objs.size + 1) = none := I.hok.fresh (by omega)
  have fa := I.fpOk (b := s.heap.objs.size + 1) (Nat.le_succ _) na
  have fk := I.fpOk (b := g.objs.size + 1) (by omega) nk
  have ga : (sortingHeap g (s.heap.objs.size + 1) its).get? (s.heap.objs.size + 1) = some (seqObj "list" #[] e1) := Heap.get?_push_of_some _ (Heap.get?_push_of_some _ ho1)
  have gk : (sortingHeap g (s.heap.objs.size + 1) its).get? (g.objs.size + 1) = some (seqObj "list" #[] 0) := by
    rw [← hkS]
    exact Heap.get?_push_size _ rfl
  rw [hkS]
  show wpAny (model X.prog X.w) X.A.in1.in1 (ksk_rest (s.heap.objs.size + 1) (.ref f) false its.toArray e1 (.ref (g.objs.size + 1))) _ E' { s with heap := sortingHeap g (s.heap.objs.size + 1) its }
  refine srt_rest (oF := oF) (pins := pins) (zs := zs) (I1.pins_of fun p hp => ?_) fa fk (Nat.ne_of_lt (Nat.lt_succ_of_lt lf)) (Nat.ne_of_lt (Nat.lt_trans lf (Nat.lt_trans (Nat.lt_succ_self _) (Nat.lt_succ_of_lt ha)))) (Nat.ne_of_gt (Nat.lt_succ_of_lt ha)) (hlen.trans hil.symm) (by rw [hil]; exact hz) (by show X.A.units + 1 + 1 < _; omega) (fun pins' j u z H' s' hj hz' J eH hf' => ?_) fun H' s' out c J eH na' hD ko => ?_
  · rcases List.mem_cons.mp hp with hp | hp
    · subst hp
      exact ⟨kp _ _ hf, ff.1, ff.2.1, ff.2.2.1, hcell⟩
    · rcases List.mem_cons.mp hp with hp | hp
      · subst hp
        exact ⟨ga, fa.1, fa.2.1, fa.2.2.1, fun v z => (nomatch z)⟩
      · rcases List.mem_cons.mp hp with hp | hp
        · subst hp
          exact ⟨gk, fk.1, fk.2.1, fk.2.2.1, fun v z => (nomatch z)⟩
        · exact I1.pin p (by simp [hp])
  · obtain ⟨x, hx, rx⟩ := vals_at rv hj
    exact turn pins' j x u z H' s' hx rx hz' J eH hf'
  · have hm : (xs.zip zs).map (fun p => PyData.int p.2) = zs.map .int := by
      have e : (xs.zip zs).map Prod.snd = zs := List.map_snd_zip (by omega)
      conv => rhs; rw [← e]
      rw [List.map_map]
      rfl
    rw [← hm] at ko
    have r := keyedOut_each (R := fun u (p : V × Int) => RelV p.1 u) (fun p => PyData.int p.2) ko (each_zip rv hlen)
    rw [dataLe_int (fun p : V × Int => p.2)] at r
    have r2 := vals_each r
    refine ⟨rfl, .ref _, upd H' (s.heap.objs.size + 1) (.lst (srtB xs zs)), J.take (h' := s'.heap) (t' := s'.toks) (fun _ _ _ q => q) (fp_of fa na') ⟨?_, out, c, r2, hD⟩, rfl, h _ _ (eH.trans (Ex.new na')) na upd_same⟩
    unfold srtB
    rw [List.length_map, List.length_mergeSort, List.length_zip]
    omega
end
end MP

set_option Elab.async false
set_option linter.all false
set_option maxRecDepth 100000
set_option maxHeartbeats 16000000
set_option autoImplicit false
/-! MPU: sorted(xs, key=lambda p: e) comes to what the evaluator tells. -/
namespace MP
open PySem L2
open PyProof.Rows hiding St
theorem keysD_len {f : D → R D} : ∀ {xs : List D} {zs : List Int}, keysD f xs = .ok zs → zs.length = xs.length
  | [], zs, h => by simp only [keysD, R.ok.injEq] at h; subst h; rfl
  | x :: xs, zs, h => by
    simp only [keysD] at h
    split at h
    · cases h2 : keysD f xs with
      | ok ws =>
        rw [h2] at h
        simp only [R.bind_ok, R.ok.injEq] at h
        subst h
        rw [List.length_cons, List.length_cons, keysD_len h2]
      | ex c => rw [h2] at h; cases h
      | no => rw [h2] at h; cases h
    · cases h
theorem keysD_nex {f : D → R D} : ∀ {xs : List D} {c : Nat}, keysD f xs ≠ .ex c
  | [], c => by simp [keysD]
  | x :: xs, c => by
    simp only [keysD]
    split
    · cases h2 : keysD f xs with
      | ok ws => simp
      | ex d => exact absurd h2 keysD_nex
      | no => simp
    · simp
theorem keysD_get {f : D → R D} : ∀ {xs : List D} {zs : List Int} {i : Nat} {x : D} {z : Int}, keysD f xs = .ok zs → xs[i]? = some x → zs[i]? = some z → f x = .ok (.int z)
  | [], zs, i, x, z, h, e, _ => by simp at e
  | y :: xs, zs, i, x, z, h, e, e2 => by
    simp only [keysD] at h
    split at h
    · rename_i w hw
      cases h2 : keysD f xs with
      | ok ws =>
        rw [h2] at h
        simp only [R.bind_ok, R.ok.injEq] at h
        subst h
        cases i with
        | zero =>
          simp at e e2
          subst e e2
          exact hw
        | succ i => exact keysD_get h2 (by simpa using e) (by simpa using e2)
      | ex c => rw [h2] at h; cases h
      | no => rw [h2] at h; cases h
    · cases h
/-- two lists sorted alike -/
theorem srtB_map {α β : Type} (f : α → β) (xs : List α) (zs : List Int) : srtB (xs.map f) zs = (srtB xs zs).map f := by
  have e : (xs.map f).zip zs = (xs.zip zs).map fun p => (f p.1, p.2) := by
    rw [List.zip_map_left]
    exact List.map_congr_left fun p _ => rfl
  unfold srtB
  rw [e]
  generalize xs.zip zs = l
  have h := List.map_mergeSort (r := fun p q : α × Int => decide (p.2 ≤ q.2)) (s := fun p q : β × Int => decide (p.2 ≤ q.2)) (f := fun p : α × Int => (f p.1, p.2)) (l := l) (fun a _ b _ => rfl)
  rw [← h, List.map_map, List.map_map]
  rfl
section
variable {T : Tab} {H : Hp}
theorem DVs.zip : ∀ {ds : List D} {vs : List V}, DVs T H ds vs → ∀ p ∈ ds.zip vs, DV T H p.1 p.2
  | _, _, .nil, p, h => by simp at h
  | _, _, .cons a r, p, h => by
    rw [List.zip_cons_cons] at h
    rcases List.mem_cons.mp h with rfl | h
    · exact a
    · exact DVs.zip r p h
theorem DVs.unzip : ∀ {l : List (D × V)}, (∀ p ∈ l, DV T H p.1 p.2) → DVs T H (l.map (·.1)) (l.map (·.2))
  | [], _ => .nil
  | p :: l, h => .cons (h p List.mem_cons_self) (DVs.unzip fun q hq => h q (List.mem_cons_of_mem _ hq))
theorem DVs.srt {ds : List D} {vs : List V} {zs : List Int} (r : DVs T H ds vs) : DVs T H (srtB ds zs) (srtB vs zs) := by
  have l := r.length
  have e1 : ds = (ds.zip vs).map (·.1) := (List.map_fst_zip (by omega)).symm
  have e2 : vs = (ds.zip vs).map (·.2) := (List.map_snd_zip (by omega)).symm
  rw [show srtB ds zs = (srtB (ds.zip vs) zs).map (·.1) from by rw [← srtB_map, ← e1], show srtB vs zs = (srtB (ds.zip vs) zs).map (·.2) from by rw [← srtB_map, ← e2]]
  refine DVs.unzip fun p hp => r.zip p ?_
  unfold srtB at hp
  obtain ⟨q, hq, rfl⟩ := List.mem_map.mp hp
  have hq := List.mem_mergeSort.mp hq
  exact (List.of_mem_zip hq).1
end
theorem bind_one {q : Str} {z : Str} {zp : Pos} {body : Expr} {scope : Scope} {cl : List (Str × Addr)} {pm cv ctv u : Value} : bindArgs (PySem.W.kla_fn "<lambda>" q ⟨[], [⟨z, none, zp⟩], none, [], [], none, []⟩ body scope cl pm cv ctv) ⟨[u], []⟩ = pure [(z, u)] := by
  have e : (z == z) = true := beq_self_eq_true z
  have e2 : List.lookup z [(z, u)] = some u := by simp
  unfold bindArgs
  simp [PySem.W.kla_fn, seqItems?, e2]
  rfl
section
variable {X : Cx} {T : Tab} {W : WX} {N : List Str} {sc : Scope}
/-- within the lambda -/
theorem At.lam (A : At X T W N sc) (h : Holds X T .lam) (s : Shared) (H : Hp) {scope : Scope} (f c' : Addr) : At (LamX.lamCx X X.A.in1.in1 X.stack s H (fun _ _ _ => False) scope f c') T (fun _ _ _ _ => False) N scope := by
  obtain ⟨_, _, _, _, _, _, hr⟩ := h
  refine ⟨⟨A.C.hK, rfl, ?_, A.C.exT, A.C.exI, A.C.exV, A.C.exN, A.C.exF, A.C.exM, A.C.dig⟩, A.hN, A.nd, rfl, LamX.takes0⟩
  have := (hr.in1.in1.deeper (LamX.lamEnv X scope s.heap.objs.size f c')).un
  show (X.A.in1.in1.deeper (LamX.lamEnv X scope s.heap.objs.size f c')).units + 65 < cLine
  omega
theorem holds_lam (h : Holds X T .lam) {s : Shared} {H : Hp} {scope : Scope} {f c' : Addr} : ∀ n, inL (Holds X T) n → Holds (LamX.lamCx X X.A.in1.in1 X.stack s H (fun _ _ _ => False) scope f c') T n := by
  intro n z
  cases n with
  | fn nm g df =>
    obtain ⟨k, fa, fd, ps, dvs, ds, h1, h2⟩ := z
    exact ⟨k, fa, fd, ps, dvs, ds, h1.in1.in1.deeper _, h2⟩
  | _ => first | exact z | exact False.elim z
theorem s_srtK (A : At X T W N sc) {i : Nat} {k a : E} {x z : Str} {y body : Expr} {scope : Scope} {px lpos kpos pos zp : Pos} (F : FOk X "sorted" x) (h : Holds X T (.blt "sorted")) (hL : Holds X T .lam) (ha : PE X y (tE T W a)) (hy : shp y = true) (hN : N[i]? = some z) (L : lamPB sc scope z = true)
    (hb : ∀ (s : Shared) (H : Hp) (f c' : Addr), PE (LamX.lamCx X X.A.in1.in1 X.stack s H (fun _ _ _ => False) scope f c') body (tE T (fun _ _ _ _ => False) k)) :
    SndE X T W (.srtK i k a) (.Call (.Name x px) [y] [⟨some (Str.ofString "key"), .Lambda ⟨[], [⟨z, none, zp⟩], none, [], [], none, []⟩ body scope lpos, kpos⟩] pos) := by
  obtain ⟨rfl, g, n1, n3⟩ := F
  obtain ⟨c, P, hcode, TB, hP, hq, hr⟩ := hL
  have L : LamP X.env.scope scope z := lamP_by (by rw [A.hs]; exact L)
  have hp : ∀ {σ H Q}, tE T W (.srtK i k a) σ H Q → ∀ (pins : List (Addr × Obj)) (s : Shared), Inv X pins σ H s → wpAny (model X.prog X.w) X.A (eval (.Call (.Name (Str.ofString "sorted") px) [y] [⟨some (Str.ofString "key"), .Lambda ⟨[], [⟨z, none, zp⟩], none, [], [], none, []⟩ body scope lpos, kpos⟩] pos) X.env) (EP X pins σ Q) X.xe s := by
    intro σ H Q ⟨O, ρ, hr0, p⟩ pins s I
    have hv : bootBuiltins (Str.ofString "sorted") = some (.builtin "sorted") := by decide +kernel
    refine wpAny_Call_Name_kw (ld_blt I g h hv ?_ n3 n1)
    refine PyProof.Rows.callWith_kw (kws := [⟨some (Str.ofString "key"), .Lambda ⟨[], [⟨z, none, zp⟩], none, [], [], none, []⟩ body scope lpos, kpos⟩]) (thn ((pa1 ha hy).run pos pins s σ H (fun vs H1 => ∃ v ds vl, vs = [.ref v] ∧ Ex H H1 ∧ evE a ρ = .ok (.lst ds) ∧ SqL X.K H1 v vl ∧ DVs T (hide O H1) ds vl) I ?_) fun us s1 ⟨vs, H1, I1, r1, q1⟩ => ?_) (shp_star hy ▸ rfl) (by rw [shp_star hy]; rfl) rfl rfl
    · refine ⟨O, ρ, hr0, ?_⟩
      have p : PoE T W O σ H Q ((evE a ρ).bind fun x => match x with
        | .lst xs => (keysD (fun d => evE k (ρ.set i (.dat d))) xs).bind fun zs => .ok (.lst (srtB xs zs))
        | _ => .no) := p
      cases e : evE a ρ with
      | ex c => rw [e] at p; exact p
      | no => rw [e] at p; exact p
      | ok d =>
        rw [e] at p
        intro v H' e' dv
        cases dv with
        | @lst ds b vl q r => exact ⟨b, ds, vl, rfl, e', rfl, by rw [A.C.hK]; exact ex_sql hide_ex q, r⟩
        | _ => exact False.elim p
    · obtain ⟨v, ds, vl, rfl, e1, ea, hS, dv⟩ := q1
      obtain rfl := Vals.ref1 r1
      have p : PoE T W O σ H Q ((evE a ρ).bind fun x => match x with
        | .lst xs => (keysD (fun d => evE k (ρ.set i (.dat d))) xs).bind fun zs => .ok (.lst (srtB xs zs))
        | _ => .no) := p
      rw [ea] at p
      have p : PoE T W O σ H Q ((keysD (fun d => evE k (ρ.set i (.dat d))) ds).bind fun zs => .ok (.lst (srtB ds zs))) := p
      cases ek : keysD (fun d => evE k (ρ.set i (.dat d))) ds with
      | ex c => exact absurd ek keysD_nex
      | no => rw [ek] at p; exact False.elim p
      | ok zs =>
        rw [ek] at p
        have p : ∀ v H', Ex H H' → DV T (hide O H') (.lst (srtB ds zs)) v → Q v H' := p
        show wpAny _ _ (evalAll [do let v ← eval (.Lambda ⟨[], [⟨z, none, zp⟩], none, [], [], none, []⟩ body scope lpos) X.env; standAt pos; pure v]) _ _ s1
        refine wpAny_evalAll_cons (wpAny_bind ?_)
        have hr1 := hr0.mono e1
        refine lam_new I1 TB hcode hq (hr1.live.2 P hP) rfl (L.has I.ok) ?_
        intro f c' pm ctv H2 s2 I2 e2 hf ff hc
        refine wpAny_bind (wpAny_standAt (wpAny_pure ?_))
        refine wpAny_evalAll_nil ?_
        have hl := dv.length
        have hr2 := hr1.mono e2
        refine srt_call (xs := vl) (zs := zs) I2 (ex_sql e2.w hS) ((keysD_len ek).trans hl) hf ff (fun v z => nomatch z) (by have := hr.un; omega) (fun pins' j u w t H' s' hj ru hz J eH hf' => ?_) fun b H' eH nb hb' => ?_
        · have hr3 := hr2.mono eH
          obtain ⟨d, hd, dvj⟩ := dv.getV hj
          have hk := keysD_get ek hd hz
          refine lam_call (i := i) (k := 0) (t := tE T (fun _ _ _ _ => False) k) J L J.ok.frames (hr.in1.in1) (by rw [A.hN]; exact hN) (nd := by rw [A.hN]; exact A.nd) ru hf' (eH.at hc fun ps z => LamX.codeO_ne ps z) bind_one (fun _ => hb s' H' f c') ⟨O, _, hr3.setd (dvj.mono (hide_mono (e2.trans eH))) i, ?_⟩
          have hk : evE k (ρ.set i (.dat d)) = .ok (.int t) := hk
          rw [hk]
          intro v H4 e4 dv4
          cases dv4
          exact ⟨rfl, e4⟩
        · exact p _ _ ((e1.trans e2).trans eH) (.lst (SqL.of (by rw [hide_out (live_new hr2.live nb)]; exact hb')) (DVs.srt (dv.mono (hide_mono (e2.trans eH)))))
  refine snd_of ⟨fun pins s σ H Q I q => hp q pins s I⟩ (fun _ => rfl) (fun _ _ _ q => nomatch q)
end
end MP

set_option Elab.async false
set_option linter.all false
set_option maxRecDepth 100000
set_option maxHeartbeats 16000000
set_option autoImplicit false
/-! MPG: expressions, put together. -/
namespace MP
open PySem L2
open PyProof.Rows hiding St

theorem evEs_len : ∀ (es : Es) (ρ : Env) (ds : List D), evEs es ρ = .ok ds → ds.length = lenEs es
  | .nil, ρ, ds, h => by
    simp only [evEs, R.ok.injEq] at h
    subst h
    rfl
  | .cons e r, ρ, ds, h => by
    simp only [evEs] at h
    cases h1 : evE e ρ with
    | ok x =>
      rw [h1] at h
      simp only [R.bind_ok] at h
      cases h2 : evEs r ρ with
      | ok xs =>
        rw [h2] at h
        simp only [R.bind_ok, R.ok.injEq] at h
        subst h
        rw [List.length_cons, evEs_len r ρ xs h2]
        rfl
      | ex c => rw [h2] at h; cases h
      | no => rw [h2] at h; cases h
    | ex c => rw [h1] at h; cases h
    | no => rw [h1] at h; cases h
theorem lenEs_ok {es : Es} (h : lenEs es ≤ 1000) : ∀ ds ρ, evEs es ρ = .ok ds → ds.length ≤ sizeLine := fun ds ρ e => by
  rw [evEs_len es ρ ds e]
  exact Nat.le_trans h (by rw [sizeLine_eq]; decide)
section
variable {T : Tab}
mutual
theorem soundE : ∀ (m : E) {X : Cx} {W : WX} {N : List Str} {sc : Scope} (e : Expr), At X T W N sc → chkE N sc m e = true → okE (Holds X T) m → SndE X T W m e
  | .var i, X, W, N, sc, e, A, h, o => by
    simp only [chkE] at h
    split at h
    · simp only [Bool.and_eq_true, decide_eq_true_eq] at h
      exact s_var A h.1.1 h.1.2 h.2
    · cases h
  | .int i, X, W, N, sc, e, A, h, o => by
    simp only [chkE] at h
    split at h
    · simp only [decide_eq_true_eq] at h
      subst h
      exact s_int
    · cases h
  | .bl i, X, W, N, sc, e, A, h, o => by
    simp only [chkE] at h
    split at h
    · simp only [decide_eq_true_eq] at h
      subst h
      exact s_bl
    · cases h
  | .non, X, W, N, sc, e, A, h, o => by
    simp only [chkE] at h
    split at h
    · exact s_non
    · cases h
  | .dic, X, W, N, sc, e, A, h, o => by
    simp only [chkE] at h
    split at h
    · exact s_dic
    · cases h
  | .str l, X, W, N, sc, e, A, h, o => by
    simp only [chkE] at h
    split at h
    · simp only [decide_eq_true_eq] at h
      exact s_str h
    · cases h
  | .glo nm d, X, W, N, sc, e, A, h, o => by
    simp only [chkE] at h
    split at h
    · exact s_glo (chkF_ok A.hs h) o
    · cases h
  | .bin op a b, X, W, N, sc, e, A, h, o => by
    simp only [chkE] at h
    split at h
    · simp only [Bool.and_eq_true, decide_eq_true_eq] at h
      obtain ⟨⟨rfl, h1⟩, h2⟩ := h
      exact s_bin A (soundE a _ A h1 o.1).pe (soundE b _ A h2 o.2).pe
    · cases h
  | .neg a, X, W, N, sc, e, A, h, o => by
    simp only [chkE] at h
    split at h
    · exact s_neg (soundE a _ A h o).pe
    · cases h
  | .cmp op a b, X, W, N, sc, e, A, h, o => by
    simp only [chkE] at h
    split at h
    · simp only [Bool.and_eq_true, decide_eq_true_eq] at h
      obtain ⟨⟨⟨rfl, h1⟩, h2⟩, h3⟩ := h
      exact s_cmp A (soundE a _ A h1 o.1).pe (soundE b _ A h2 o.2).pe h3
    · cases h
  | .chn op op' a b c, X, W, N, sc, e, A, h, o => by
    simp only [chkE] at h
    split at h
    · simp only [Bool.and_eq_true, decide_eq_true_eq] at h
      obtain ⟨⟨⟨⟨⟨rfl, rfl⟩, h1⟩, h2⟩, h3⟩, h4⟩ := h
      exact s_chn A (soundE a _ A h1 o.1).pe (soundE b _ A h2 o.2.1).pe (soundE c _ A h3 o.2.2).pe h4
    · cases h
  | .chn3 op op' op2 a b c d, X, W, N, sc, e, A, h, o => by
    simp only [chkE] at h
    split at h
    · simp only [Bool.and_eq_true, decide_eq_true_eq] at h
      obtain ⟨⟨⟨⟨⟨⟨⟨rfl, rfl⟩, rfl⟩, h1⟩, h2⟩, h3⟩, h4⟩, h5⟩ := h
      exact s_chn3 A (soundE a _ A h1 o.1).pe (soundE b _ A h2 o.2.1).pe (soundE c _ A h3 o.2.2.1).pe (soundE d _ A h4 o.2.2.2).pe h5
    · cases h
  | .and a b, X, W, N, sc, e, A, h, o => by
    simp only [chkE] at h
    split at h
    · simp only [Bool.and_eq_true] at h
      exact s_and2 (soundE a _ A h.1 o.1) (soundE b _ A h.2 o.2)
    · simp only [Bool.and_eq_true] at h
      exact s_and3 (soundE a _ A h.1 o.1) (soundE b _ A h.2 o.2)
    · cases h
  | .or a b, X, W, N, sc, e, A, h, o => by
    simp only [chkE] at h
    split at h
    · simp only [Bool.and_eq_true] at h
      exact s_or2 (soundE a _ A h.1 o.1) (soundE b _ A h.2 o.2)
    · simp only [Bool.and_eq_true] at h
      exact s_or3 (soundE a _ A h.1 o.1) (soundE b _ A h.2 o.2)
    · cases h
  | .not a, X, W, N, sc, e, A, h, o => by
    simp only [chkE] at h
    split at h
    · exact s_not (soundE a _ A h o)
    · cases h
  | .ite c a b, X, W, N, sc, e, A, h, o => by simp [chkE] at h
  | .tup es, X, W, N, sc, e, A, h, o => by
    simp only [chkE] at h
    split at h
    · simp only [Bool.and_eq_true, decide_eq_true_eq] at h
      exact s_tup (soundEs es _ A h.1 o).1 (lenEs_ok h.2)
    · cases h
  | .lst es, X, W, N, sc, e, A, h, o => by
    simp only [chkE] at h
    split at h
    · simp only [Bool.and_eq_true, decide_eq_true_eq] at h
      exact s_lst (soundEs es _ A h.1 o).1 (lenEs_ok h.2)
    · cases h
  | .ix a b, X, W, N, sc, e, A, h, o => by
    simp only [chkE] at h
    split at h
    · simp only [Bool.and_eq_true] at h
      exact s_ix A (soundE a _ A h.1.1 o.1).pe (soundE b _ A h.1.2 o.2).pe h.2
    · cases h
  | .slcL a b, X, W, N, sc, e, A, h, o => by
    simp only [chkE] at h
    split at h
    · simp only [Bool.and_eq_true] at h
      exact s_slcL A (soundE a _ A h.1 o.1).pe (soundE b _ A h.2 o.2).pe
    · cases h
  | .slcH a b, X, W, N, sc, e, A, h, o => by
    simp only [chkE] at h
    split at h
    · simp only [Bool.and_eq_true] at h
      exact s_slcH A (soundE a _ A h.1 o.1).pe (soundE b _ A h.2 o.2).pe
    · cases h
  | .slc a b c, X, W, N, sc, e, A, h, o => by
    simp only [chkE] at h
    split at h
    · simp only [Bool.and_eq_true] at h
      exact s_slc A (soundE a _ A h.1.1 o.1).pe (soundE b _ A h.1.2 o.2.1).pe (soundE c _ A h.2 o.2.2).pe
    · cases h
  | .call nm f es df, X, W, N, sc, e, A, h, o => by
    simp only [chkE] at h
    split at h
    · simp only [Bool.and_eq_true] at h
      have k := soundEs es _ A h.2 o.2
      exact s_call A (chkF_ok A.hs h.1) o.1 k.1 k.2
    · cases h
  | .f1 f a, X, W, N, sc, e, A, h, o => by
    simp only [chkE] at h
    split at h
    · simp only [Bool.and_eq_true] at h
      exact s_f1 A h.1.1.1 (chkF_ok A.hs h.1.1.2) o.1 (soundE a _ A h.1.2 o.2).pe h.2
    · cases h
  | .f2 f a b, X, W, N, sc, e, A, h, o => by
    simp only [chkE] at h
    split at h
    · simp only [Bool.and_eq_true] at h
      exact s_f2 A (chkF_ok A.hs h.1.1.1.1) o.1 (soundE a _ A h.1.1.1.2 o.2.1).pe (soundE b _ A h.1.1.2 o.2.2).pe h.1.2 h.2
    · cases h
  | .m0 m a, X, W, N, sc, e, A, h, o => by
    simp only [chkE] at h
    split at h
    · simp only [Bool.and_eq_true] at h
      cases m with
      | bits =>
        simp only [decide_eq_true_eq] at h
        obtain ⟨⟨⟨rfl, h1⟩, h2⟩, h3⟩ := h
        exact s_bits (soundE a _ A h1 o).pe h2 h3
      | upper =>
        simp only [decide_eq_true_eq] at h
        obtain ⟨⟨⟨rfl, h1⟩, h2⟩, h3⟩ := h
        exact s_upper (soundE a _ A h1 o).pe h2 h3
    · cases h
  | .tm m a b, X, W, N, sc, e, A, h, o => by
    simp only [chkE] at h
    split at h
    · simp only [Bool.and_eq_true, decide_eq_true_eq] at h
      obtain ⟨⟨⟨⟨⟨rfl, h1⟩, h2⟩, h3⟩, h4⟩, h5⟩ := h
      exact s_tm A (soundE a _ A h1 o.1).pe (soundE b _ A h2 o.2).pe h3 h4 h5
    · cases h
  | .isi a c, X, W, N, sc, e, A, h, o => by
    simp only [chkE] at h
    split at h
    · simp only [Bool.and_eq_true] at h
      exact s_isi A (chkF_ok A.hs h.1.1.1.2) (chkF_ok A.hs h.1.1.2) o.1 o.2.1 (soundE a _ A h.1.2 o.2.2).pe h.2 h.1.1.1.1
    · cases h
  | .lc i el src, X, W, N, sc, e, A, h, o => by
    simp only [chkE] at h
    split at h
    · simp only [Bool.and_eq_true, decide_eq_true_eq] at h
      obtain ⟨⟨⟨⟨⟨h1, h2⟩, h3⟩, h4⟩, h5⟩, h6⟩ := h
      exact s_lc A h1 h2 h3 h6 (fun s H C cl fp => (soundE el _ (A.blk s H C cl fp) h4 (okE_imp holds_blk el o.1)).pe) (soundSrc src _ _ A h5 h6 o.2)
    · cases h
  | .lcP i j el src, X, W, N, sc, e, A, h, o => by
    simp only [chkE] at h
    split at h
    · simp only [Bool.and_eq_true, decide_eq_true_eq] at h
      obtain ⟨⟨⟨⟨⟨⟨⟨⟨h1, g1⟩, hij⟩, h2⟩, g2⟩, h3⟩, h4⟩, h5⟩, h6⟩ := h
      exact s_lcP A h1 g1 hij h2 g2 h3 h6 (fun s H C cl fp => (soundE el _ (A.blk s H C cl fp) h4 (okE_imp holds_blk el o.1)).pe) (soundSrcT src _ A h5 h6 o.2)
    · cases h
  | .lcf i el src c, X, W, N, sc, e, A, h, o => by
    simp only [chkE] at h
    split at h
    · simp only [Bool.and_eq_true, decide_eq_true_eq] at h
      obtain ⟨⟨⟨⟨⟨⟨h1, h2⟩, h3⟩, h4⟩, h5⟩, h6⟩, h7⟩ := h
      exact s_lcf A h1 h2 h3 h6 (fun s H C cl fp => (soundE el _ (A.blk s H C cl fp) h4 (okE_imp holds_blk el o.1)).pe) (fun s H C cl fp => (soundE c _ (A.blk s H C cl fp) h7 (okE_imp holds_blk c o.2.2)).pt) (soundSrc src _ _ A h5 h6 o.2.1)
    · cases h
  | .lcX i el src, X, W, N, sc, e, A, h, o => by
    simp only [chkE] at h
    split at h
    · simp only [Bool.and_eq_true, decide_eq_true_eq] at h
      obtain ⟨⟨⟨⟨⟨h1, h2⟩, h3⟩, h4⟩, h5⟩, h6⟩ := h
      exact s_lcX A (.inl o.2.2) h1 h2 h3 h6 (fun s H C cl fp xe W' tk => (soundE el _ (A.blkX s H _ C cl fp xe tk) h4 (okE_imp holds_blkX el o.1)).pe) (soundSrc src _ _ A h5 h6 o.2.1)
    · cases h
  | .lcXT is el src, X, W, N, sc, e, A, h, o => by
    simp only [chkE] at h
    split at h
    · simp only [Bool.and_eq_true, decide_eq_true_eq] at h
      obtain ⟨⟨⟨⟨h1, h3⟩, h4⟩, h5⟩, h6⟩ := h
      exact s_lcXT A (.inl o.2.2) h1 h3 h6 (fun s H C cl fp xe W' tk => (soundE el _ (A.blkX s H _ C cl fp xe tk) h4 (okE_imp holds_blkX el o.1)).pe) (soundSrcT src _ A h5 h6 o.2.1)
    · cases h
  | .lcXF i el src c, X, W, N, sc, e, A, h, o => by
    simp only [chkE] at h
    split at h
    · simp only [Bool.and_eq_true, decide_eq_true_eq] at h
      obtain ⟨⟨⟨⟨⟨⟨h1, h2⟩, h3⟩, h4⟩, h5⟩, h6⟩, h7⟩ := h
      exact s_lcXF A (.inl o.2.2.2) h1 h2 h3 h6 (fun s H C cl fp xe W' tk => (soundE el _ (A.blkX s H _ C cl fp xe tk) h4 (okE_imp holds_blkX el o.1)).pe) (fun s H C cl fp xe W' tk => (soundE c _ (A.blkX s H _ C cl fp xe tk) h7 (okE_imp holds_blkX c o.2.2.1)).pt) (soundSrc src _ _ A h5 h6 o.2.1)
    · cases h
  | .lcXC is el src c, X, W, N, sc, e, A, h, o => by
    simp only [chkE] at h
    split at h
    · simp only [Bool.and_eq_true, decide_eq_true_eq] at h
      obtain ⟨⟨⟨⟨⟨h1, h3⟩, h4⟩, h5⟩, h6⟩, h7⟩ := h
      exact s_lcXC A (.inl o.2.2.2) h1 h3 h6 (fun s H C cl fp xe W' tk => (soundE el _ (A.blkX s H _ C cl fp xe tk) h4 (okE_imp holds_blkX el o.1)).pe) (fun s H C cl fp xe W' tk => (soundE c _ (A.blkX s H _ C cl fp xe tk) h7 (okE_imp holds_blkX c o.2.2.1)).pt) (soundSrcT src _ A h5 h6 o.2.1)
    · cases h
  | .jrv a b, X, W, N, sc, e, A, h, o => by
    simp only [chkE] at h
    split at h
    · simp only [Bool.and_eq_true, decide_eq_true_eq] at h
      obtain ⟨⟨⟨⟨⟨⟨rfl, h1⟩, h2⟩, h3⟩, h4⟩, h5⟩, h6⟩ := h
      exact s_jrv A (chkF_ok A.hs h1) o.1 (soundE a _ A h2 o.2.1).pe (soundE b _ A h3 o.2.2).pe h4 h5 h6
    · cases h
  | .lsR p l q t c, X, W, N, sc, e, A, h, o => by
    simp only [chkE] at h
    split at h
    · simp only [Bool.and_eq_true, decide_eq_true_eq] at h
      obtain ⟨⟨⟨⟨⟨⟨⟨⟨⟨⟨rfl, h1⟩, h2⟩, h3⟩, h4⟩, h5⟩, h6⟩, h7⟩, h8⟩, h9⟩, h10⟩ := h
      exact s_lsR A h1 h2 h3 (soundE p _ A h4 o.1).pe (soundE q _ A h5 o.2.1).pe (soundE t _ A h6 o.2.2.1).pe h7 (soundE c _ A h8 o.2.2.2).pe h9 h10
    · cases h
  | .srtK i k a, X, W, N, sc, e, A, h, o => by
    simp only [chkE] at h
    split at h
    · simp only [Bool.and_eq_true, decide_eq_true_eq] at h
      obtain ⟨⟨⟨⟨⟨⟨h1, rfl⟩, h2⟩, h3⟩, h4⟩, h5⟩, h6⟩ := h
      exact s_srtK A (chkF_ok A.hs h1) o.1 o.2.1 (soundE a _ A h2 o.2.2.2).pe h3 h4 h5 fun s H f c' => (soundE k _ (A.lam o.2.1 s H f c') h6 (okE_imp (holds_lam o.2.1) k o.2.2.1)).pe
    · cases h
  | .lrev a, X, W, N, sc, e, A, h, o => by
    simp only [chkE] at h
    split at h
    · simp only [Bool.and_eq_true] at h
      exact s_lrev A (chkF_ok A.hs h.1.1.1) (chkF_ok A.hs h.1.1.2) o.1 o.2.1 (soundE a _ A h.1.2 o.2.2).pe h.2
    · cases h
  | .lend i a, X, W, N, sc, e, A, h, o => by
    simp only [chkE, Bool.and_eq_true] at h
    exact s_lend A (soundE a e A h.2 o)
  | .callF nm f es df, X, W, N, sc, e, A, h, o => by
    simp only [chkE] at h
    split at h
    · simp only [Bool.and_eq_true] at h
      have k := soundEs es _ A h.2 o.2
      exact s_callF A (chkF_ok A.hs h.1) o.1 k.1 k.2
    · cases h
  | .mk nm c, X, W, N, sc, e, A, h, o => by
    simp only [chkE] at h
    split at h
    · exact s_mk A (chkF_ok A.hs h) o
    · cases h
  | .meth m tbl a es, X, W, N, sc, e, A, h, o => by
    simp only [chkE] at h
    split at h
    · simp only [Bool.and_eq_true, decide_eq_true_eq] at h
      obtain ⟨⟨⟨⟨⟨rfl, h1⟩, h2⟩, h3⟩, h4⟩, h5⟩ := h
      have k := soundEs es _ A h3 o.2.2
      exact s_meth A o.1 (soundE a _ A h1 o.2.1).pe h2 k.1 k.2 h4 h5
    · cases h
  | .oix i b, X, W, N, sc, e, A, h, o => by
    simp only [chkE] at h
    split at h
    · simp only [Bool.and_eq_true, decide_eq_true_eq] at h
      exact s_oix A h.1.1.1.1 h.1.1.1.2 h.1.1.2 (soundE b _ A h.1.2 o).pe h.2
    · cases h
  | .onz i, X, W, N, sc, e, A, h, o => by
    simp only [chkE] at h
    split at h
    · simp only [Bool.and_eq_true, decide_eq_true_eq] at h
      exact s_onz A h.1.1 h.1.2 h.2
    · cases h
  | .olen i, X, W, N, sc, e, A, h, o => by
    simp only [chkE] at h
    split at h
    · simp only [Bool.and_eq_true, decide_eq_true_eq] at h
      exact s_olen A (chkF_ok A.hs h.1.1.1) o h.1.1.2 h.1.2 h.2
    · cases h
theorem soundEs : ∀ (m : Es) {X : Cx} {W : WX} {N : List Str} {sc : Scope} (es : List Expr), At X T W N sc → chkEs N sc m es = true → okEs (Holds X T) m → PA X es (tEs T W m) ∧ allShp es = true
  | .nil, X, W, N, sc, es, A, h, o => by
    simp only [chkEs] at h
    split at h
    · exact ⟨pa_weak pa_nil fun σ H Q ⟨O, ρ, hr, p⟩ => p _ H (Ex.refl H) .nil, rfl⟩
    · cases h
  | .cons a r, X, W, N, sc, es, A, h, o => by
    simp only [chkEs] at h
    split at h
    · simp only [Bool.and_eq_true] at h
      obtain ⟨k1, k2⟩ := soundEs r _ A h.2 o.2
      refine ⟨pa_weak (pa_cons (soundE a _ A h.1.1 o.1).pe k1 (shp_star h.1.2)) fun σ H Q ⟨O, ρ, hr, p⟩ => ?_, by simp only [allShp, h.1.2, k2, Bool.and_self]⟩
      exact tE_bind wantA hr (show PoA T W O σ H Q ((evE a ρ).bind fun x => (evEs r ρ).bind fun xs => .ok (x :: xs)) from p) fun dx x H1 e1 d1 p1 => tEs_bind wantA (hr.mono e1) p1 fun dy y H2 e2 d2 p2 =>
        p2 _ H2 (Ex.refl H2) (.cons (d1.mono (hide_mono e2)) d2)
    · cases h
theorem soundSrcT : ∀ (m : Src) {X : Cx} {W : WX} {N : List Str} {sc : Scope} {elts : List Expr} {kk : Nat} {tpos : Pos} (e : Expr), At X T W N sc → chkSrcT N sc m e = true → shp e = true → okSrc (Holds X T) m → PI X (.Tuple elts kk tpos) e (tI T W m)
  | .e a, X, W, N, sc, _, _, _, e, A, h, hs, o => by
    simp only [chkSrcT] at h
    exact pi_any A.C.hK (soundE a _ A h o).pe
  | .rng1 a, X, W, N, sc, _, _, _, e, A, h, hs, o => by
    simp only [chkSrcT] at h
    split at h
    · simp only [Bool.and_eq_true] at h
      exact pi_r1 A (chkF_ok A.hs h.1.1) o.1 (soundE a _ A h.1.2 o.2).pe h.2
    · cases h
  | .zip a b, X, W, N, sc, _, _, _, e, A, h, hs, o => by
    simp only [chkSrcT] at h
    split at h
    · simp only [Bool.and_eq_true] at h
      exact pi_zp A (chkF_ok A.hs h.1.1.1.1) o.1 (soundE a _ A h.1.1.1.2 o.2.1).pe (soundE b _ A h.1.1.2 o.2.2).pe h.1.2 h.2
    · cases h
  | .rng2 a b, X, W, N, sc, _, _, _, e, A, h, hs, o => by simp [chkSrcT] at h
  | .rng3 a b c, X, W, N, sc, _, _, _, e, A, h, hs, o => by simp [chkSrcT] at h
theorem soundSrc : ∀ (m : Src) {X : Cx} {W : WX} {N : List Str} {sc : Scope} (tg e : Expr), At X T W N sc → chkSrc N sc m e = true → shp e = true → okSrc (Holds X T) m → PI X tg e (tI T W m)
  | .e a, X, W, N, sc, tg, e, A, h, hs, o => by
    simp only [chkSrc] at h
    exact pi_any A.C.hK (soundE a _ A h o).pe
  | .rng1 a, X, W, N, sc, tg, e, A, h, hs, o => by
    simp only [chkSrc] at h
    split at h
    · simp only [Bool.and_eq_true] at h
      exact pi_r1 A (chkF_ok A.hs h.1.1) o.1 (soundE a _ A h.1.2 o.2).pe h.2
    · cases h
  | .rng2 a b, X, W, N, sc, tg, e, A, h, hs, o => by
    simp only [chkSrc] at h
    split at h
    · simp only [Bool.and_eq_true] at h
      exact pi_r2 A (chkF_ok A.hs h.1.1.1.1) o.1 (soundE a _ A h.1.1.1.2 o.2.1).pe (soundE b _ A h.1.1.2 o.2.2).pe h.1.2 h.2
    · cases h
  | .rng3 a b c, X, W, N, sc, tg, e, A, h, hs, o => by
    simp only [chkSrc] at h
    split at h
    · simp only [Bool.and_eq_true] at h
      exact pi_r3 A (chkF_ok A.hs h.1.1.1.1.1.1) o.1 (soundE a _ A h.1.1.1.1.1.2 o.2.1).pe (soundE b _ A h.1.1.1.1.2 o.2.2.1).pe (soundE c _ A h.1.1.1.2 o.2.2.2).pe h.1.1.2 h.1.2 h.2
    · cases h
  | .zip a b, X, W, N, sc, tg, e, A, h, hs, o => by simp [chkSrc] at h
end
end
end MP

set_option Elab.async false
set_option linter.all false
set_option maxRecDepth 100000
set_option maxHeartbeats 16000000
set_option autoImplicit false
/-! MPX: try: body, except C as n: y = n; the exception is kept as a value. -/
namespace MP
open PySem L2
open PyProof.Rows hiding St

section
variable {X : Cx} {pins : List (Addr × Obj)} {σ : L2.St} {H : Hp} {s : Shared} {a : Addr} {oe : Obj}
/-- an object that stands, pinned and not tracked, is tracked from now on -/
theorem Inv.track {u : HO} (I : Inv X ((a, oe) :: pins) σ H s) (hex : X.ex = []) (h0 : X.s_0.heap.get? a = none) (hp : ∀ p ∈ X.pn ++ pins, p.1 ≠ a) (ok : ObjOk X.prog X.w (upd H a u) s.heap a u) : Inv X pins σ (upd H a u) s := by
  obtain ⟨g1, g2, g3, g4, g5⟩ := I.pin (a, oe) (List.mem_append_right _ List.mem_cons_self)
  have nt : ∀ b o, H b = some o → b ≠ a := fun b o e => ne_of_none e g2
  have B := I.base
  refine ⟨I.ok, I.os, I.bare, ⟨B.keep, B.slot, fun b o e n hx => ?_, B.there, fun b xs e => ?_, fun b o v e => ?_, fun b ps e => ?_⟩, I.loc, I.cell, ?_, fun x c e => ?_, fun p hm => ?_, I.hok.laidN (fun _ _ z => z) g2 ok, I.len⟩
  · have hb : b ≠ a := fun z => by rw [z, h0] at e; cases e
    rw [upd_ne hb]
    exact B.free b o e n hx
  · have q := B.tups b xs e
    rw [upd_ne (nt _ _ q)]
    exact q
  · have q := B.frzs b o v e
    rw [upd_ne (nt _ _ q)]
    exact q
  · obtain ⟨more, q⟩ := B.tbls b ps e
    exact ⟨more, by rw [upd_ne (nt _ _ q)]; exact q⟩
  · rw [upd_ne (Ne.symm g3)]
    exact I.free
  · obtain ⟨v, o, ho, hd⟩ := I.cell x c e
    have hc : c ≠ a := fun z => by
      rw [z, g1] at ho
      cases ho
      exact g5 v hd
    rw [upd_ne hc]
    exact I.freeC x c e
  · have hm2 : p ∈ X.pn ++ ((a, oe) :: pins) := by
      rcases List.mem_append.mp hm with q | q
      · exact List.mem_append_left _ q
      · exact List.mem_append_right _ (List.mem_cons_of_mem _ q)
    obtain ⟨k1, k2, k3, k4, k5⟩ := I.pin p hm2
    refine ⟨k1, ?_, k3, k4, k5⟩
    rw [upd_ne (hp p hm)]
    exact k2
end

def wHold (T : Tab) (i j : Nat) (D : Ends) : WX := fun cls d σ H => ∃ c ∈ T.exs, cls = .ref (T.exc c) ∧ d = none ∧ ∀ a, H a = none → D.nx (((σ.set i (some (.ref a))).set j (some (.ref a))).set i none) (upd H a (ExH cls a))
section
variable {X : Cx} {T : Tab} {x n y : Str} {i j : Nat} {body : List Stmt} {np yp np2 ap pos pos' : Pos} {tb : WX → TS}
theorem ps_try_hold (C : Cxt X T) (hs : X.stack = X.env :: X.outer) (hf : X.env.frame = some X.env.locals) (hex : X.ex = []) (hN : X.N.Nodup) (hi : X.N[i]? = some n) (hln : X.env.kindOf n = some .local) (hj : X.N[j]? = some y) (hlj : Loc X.env.scope y) (hfn : ∀ z, X.fn z = true) (hn1 : okName n = true) (hc : Names X x (.ref T.flt))
    (hb : ∀ (W : WX) (pn : List (Addr × Obj)) (xe : Value → Shared → Prop), Takes (X.tr pn xe) W → PassesOwn (model X.prog X.w) X.A X.env xe → PSs (X.tr pn xe) body (tb W)) :
    PS X (.Try body [.ExceptHandler (some (.Name x np)) (some n) [.Assign [.Name y yp] (.Name n np2) ap] pos'] [] [] pos) (fun D σ H => tb (wHold T i j D) D σ H) := by
  refine ⟨fun pins s0 σ0 H0 D I hyp => ?_⟩
  have okX := I.ok
  have frE : X.A.frames = some (X.env :: X.outer) := by rw [okX.frames, hs]
  have locN : Loc X.env.scope n := .inl hln
  refine wpAny_Try_except ?_
  have run := (hb (wHold T i j D) (X.pn ++ pins) (fun e z1 => wpAny (model X.prog X.w) X.A (noteFrame e X.env) (fun _ z2 => wpAny (model X.prog X.w) X.A (setFlight e none) (fun _ z3 =>
    wpAny (model X.prog X.w) X.A (handleBy e X.env [.ExceptHandler (some (.Name x np)) (some n) [.Assign [.Name y yp] (.Name n np2) ap] pos']) (SP X pins D) X.xe z3) X.xe z2) X.xe z1) (fun u t' air => ?_) PassesOwn.looking).run [] s0 σ0 H0 D (I.toTry _) hyp
  · refine wpAny_mono run (fun f t1 ends => ?_) (fun e t1 he => he)
    cases f with
    | next =>
      obtain ⟨σ1, H1, J1, q⟩ := ends
      exact wpAny_execs_nil ⟨σ1, H1, J1.ofTry okX, q⟩
    | brk =>
      obtain ⟨σ1, H1, J1, q⟩ := ends
      exact ⟨σ1, H1, J1.ofTry okX, q⟩
    | cont =>
      obtain ⟨σ1, H1, J1, q⟩ := ends
      exact ⟨σ1, H1, J1.ofTry okX, q⟩
    | ret u =>
      obtain ⟨v, σ1, H1, J1, r, q⟩ := ends
      exact ⟨v, σ1, H1, J1.ofTry okX, r, q⟩
  · obtain ⟨a, B, sI, pins', σ1, H1, cls, d, rfl, Jt, nb, up, sky, na, os, ag, c, hcm, rfl, rfl, hk⟩ := air
    have J : Inv X pins σ1 H1 sI := Jt.ofTry okX
    have skyE : Sky B (X.env :: X.outer) a (Zc (.ref (T.exc c)) none) X.env.locals t'.heap := by rw [← hs]; exact sky
    show wpAny (model X.prog X.w) X.A (noteFrame (.ref a) X.env) _ _ _
    refine Sky.land Zc.steady frE hf skyE fun g3 fz3 up3 => ?_
    have J3 : Inv X pins σ1 H1 { t' with heap := g3 } := J.landed nb fz3.1 (up.trans up3) os ag
    obtain ⟨o3, w3, ho3, hz3, hd3⟩ := fz3.there
    have nfr : a ∉ frs (X.env :: X.outer) := fun hm => by
      obtain ⟨_, o', e', hnf⟩ := fz3.2.2.1.mem hm
      rw [ho3] at e'
      cases e'
      exact hnf _ hd3
    have nL : a ≠ X.env.locals := fun z => nfr (List.mem_filterMap.mpr ⟨X.env, List.mem_cons_self, by rw [hf, z]⟩)
    have nF : a ∉ X.fs := fun hm => by
      obtain ⟨e, he, q⟩ := List.mem_filterMap.mp hm
      exact nfr (List.mem_filterMap.mpr ⟨e, List.mem_cons_of_mem _ he, q⟩)
    have Ba : B.get? a = none := by
      obtain ⟨_, q, _⟩ := id fz3
      exact q
    have S3 := J3.suite ho3 hd3 na nL nF
    refine wpAny_handleBy_cons (codeAny_handlers_test ?_) (by intro q; cases q)
    have tyA : PySem.W.Looks (model X.prog X.w) g3 (typeOf (.ref a)) (.ref (T.exc c)) := fun A Q E s k q => wpAny_typeOf_ref (k _ _ ho3) (by rw [hz3.1]; exact q)
    have mt := PySem.W.exm_one (M := model X.prog X.w) (J3.kIn) tyA (C.exF c hcm)
    have ask : ∀ {Q : Value → Shared → Prop} {E : Value → Shared → Prop}, Q (.ref T.flt) { t' with heap := g3 } → wpAny (model X.prog X.w) (X.A.mark (some (.ref a))) (eval (.Name x np) X.env) Q E { t' with heap := g3 } := fun {Q E} q => by
      obtain ⟨hg, hdb, hm | ⟨hm, hv, hnn⟩⟩ := hc
      · exact ld_glob (X := X.suite a ((a, o3) :: (X.pn ++ pins))) S3 hg hm q hdb
      · exact ld_blt (X := X.suite a ((a, o3) :: (X.pn ++ pins))) S3 hg hm hv q hnn hdb
    refine ask (mt.here ?_)
    refine codeAny_handlers_suite_as ?_
    refine HandSPX.lands_againZ fz3 fun g4 fz4 up4 => ?_
    have J4 : Inv X pins σ1 H1 { t' with heap := g4 } := J.landed nb fz4.1 ((up.trans up3).trans up4) os ag
    obtain ⟨o4, w4, ho4, hz4, hd4⟩ := fz4.there
    have S4 := J4.suite ho4 hd4 na nL nF
    refine store_ok (X := X.suite a ((a, o4) :: (X.pn ++ pins))) (v := .ref a) S4 hN hi locN rfl (fun t5 S5 => ?_) (.inr hln)
    -- the suite: y = n
    have suite : PSs (X.suite a ((a, o4) :: (X.pn ++ pins))) [.Assign [.Name y yp] (.Name n np2) ap] (tAsg (tVar i) (gName j)) :=
      pss_one (ps_set (X := X.suite a ((a, o4) :: (X.pn ++ pins))) hN hj hlj (pe_var (X := X.suite a ((a, o4) :: (X.pn ++ pins))) hi (.inl hln) (okName_1 hn1) (okName_2 hn1)) rfl (.inl (hfn y)))
    have σl : i < σ1.length := by
      rw [J.len]
      exact (List.getElem?_eq_some_iff.mp hi).1
    refine wpAny_mono (suite.run [] t5 _ H1 { nx := fun σ6 H6 => σ6 = (σ1.set i (some (.ref a))).set j (some (.ref a)) ∧ H6 = H1, rt := fun _ _ => False } S5 ⟨.ref a, List.getElem?_set_self σl, rfl, rfl⟩) (fun f t6 ends => ?_) (fun _ _ z => False.elim z)
    cases f with
    | next =>
      obtain ⟨σ6, H6, S6, rfl, rfl⟩ := ends
      have J6 : Inv X ((a, o4) :: pins) ((σ1.set i (some (.ref a))).set j (some (.ref a))) H6 t6 := by
        refine (S6.unsuite (pins := pins) okX).pins_of fun p hm => ?_
        rcases List.mem_cons.mp hm with rfl | hm
        · exact S6.pin (a, o4) (List.mem_append_left _ List.mem_cons_self)
        · exact S6.pin p (List.mem_append_left _ (List.mem_cons_of_mem _ (List.mem_append_right _ hm)))
      refine gone_ok J6 hN hi hln fun t7 J7 => ?_
      have here := (J7.pin (a, o4) (List.mem_append_right _ List.mem_cons_self)).1
      refine ⟨_, _, Inv.track (u := ExH (.ref (T.exc c)) a) J7 hex ?_ ?_ (exH_ok here hz4 hd4), hk a na⟩
      · cases q : X.s_0.heap.get? a with
        | none => rfl
        | some o =>
          obtain ⟨o', e'⟩ := J.base.there a o q (by rw [hex]; simp)
          have z := nb a o' e' (by rw [hs]; exact nfr)
          rw [Ba] at z
          cases z
      · intro p hm z
        obtain ⟨e1, e2, e3, e4, _⟩ := J.pin p hm
        have q := nb p.1 p.2 e1 fun hm => by
          rw [hs] at hm
          rw [z] at hm
          exact nfr hm
        rw [z, Ba] at q
        cases q
    | brk =>
      obtain ⟨_, _, _, q⟩ := ends
      exact False.elim q
    | cont =>
      obtain ⟨_, _, _, q⟩ := ends
      exact False.elim q
    | ret u =>
      obtain ⟨_, _, _, _, _, q⟩ := ends
      exact False.elim q
end
section
variable {X : Cx} {T : Tab}
theorem pe_isK (C : Cxt X T) {e : Nat} (he : e ∈ T.exs) {a : Addr} {oe : Obj} {pn : List (Addr × Obj)} (hz : Zc (.ref (T.exc e)) none oe) (hf : ∃ vs, oe.data = .fields vs) {cl : Cl} {x z n : Str} {i : Nat} {px np pz pos : Pos} (hi : X.N[i]? = some n) (vn : Vis X.env.scope n)
    (o1 : (n == ("__debug__" : Str)) = false) (o2 : (n == ("__classdict__" : Str)) = false) (F : FOk X "isinstance" x) (h : Holds X T (.blt "isinstance")) (G : FOk X (nmCl cl) z) (hc : clNeed (Holds X T) cl) (hx : clx cl = true) :
    PE (X.suite a ((a, oe) :: pn)) (.Call (.Name x px) [.Name n np, .Name z pz] [] pos) (fun σ H Q => σ[i]? = some (some (.ref a)) ∧ ∃ b, isI (.exc e) cl = .ok b ∧ Q (.bl b) H) := by
  obtain ⟨rfl, g, n1, n3⟩ := F
  obtain ⟨rfl, g2, m1, m3⟩ := G
  have key : ∀ (cv : V) (cw : Value), ClsV cv cw → (∀ b, isI (.exc e) cl = .ok b → PySem.W.kitOne X.K (.ref (T.exc e)) cw = some b) → PE (X.suite a ((a, oe) :: pn)) (.Name (Str.ofString (nmCl cl)) pz) (tC cv) →
      PE (X.suite a ((a, oe) :: pn)) (.Call (.Name (Str.ofString "isinstance") px) [.Name n np, .Name (Str.ofString (nmCl cl)) pz] [] pos) (fun σ H Q => σ[i]? = some (some (.ref a)) ∧ ∃ b, isI (.exc e) cl = .ok b ∧ Q (.bl b) H) := by
    intro cv cw k hk hz'
    refine pe_weak (pe_callB (X := X.suite a ((a, oe) :: pn)) (call_isE (X := X) (C.exT e he) hz hf) g h (by decide +kernel) (pa_cons (pe_var (X := X.suite a ((a, oe) :: pn)) hi vn o1 o2) (pa_cons hz' pa_nil)) n3 n1) fun σ H Q ⟨h1, b, h2, q⟩ => ?_
    exact ⟨_, h1, cv, cw, b, rfl, fun u r => k.eq r, hk b h2, q⟩
  cases cl with
  | exc nm d =>
    obtain ⟨h1, h2⟩ := hc
    exact key _ _ (.own _) (fun b hb => by simp only [isI, R.ok.injEq] at hb; subst hb; exact C.exI e he d h2) (pe_glob (X := X.suite a ((a, oe) :: pn)) g2 h1 rfl m1)
  | valueError => exact key _ _ (.ty _) (fun b hb => by simp only [isI, R.ok.injEq] at hb; subst hb; exact C.exV e he) (pe_bltn (X := X.suite a ((a, oe) :: pn)) g2 hc (by decide +kernel) rfl m3 m1)
  | _ => cases hx
def tsK (T : Tab) (i j : Nat) (c1 c2 c3 : Cl) (a : Addr) (cls : Value) (d : Option Addr) : TS := fun D σ H => ∃ e ∈ T.exs, cls = .ref (T.exc e) ∧ d = none ∧ (∃ σ1, σ = List.set σ1 i (some (.ref a))) ∧ ∃ t1 t2 t3, isI (.exc e) c1 = .ok t1 ∧ isI (.exc e) c2 = .ok t2 ∧ isI (.exc e) c3 = .ok t3 ∧ ∀ p, H p = none → D.nx (σ.set j (some (.ref p))) (upd H p (.tup [.bl t1, .bl t2, .bl t3]))
theorem ps_try_kinds {x y n x1 x2 x3 z1 z2 z3 : Str} {i j k : Nat} {c1 c2 c3 : Cl} {body : List Stmt} {np yp ap pos pos' tp q1 q2 q3 m1 m2 m3 r1 r2 r3 s1 s2 s3 : Pos} {tb : WX → TS} (C : Cxt X T) (hs : X.stack = X.env :: X.outer) (hf : X.env.frame = some X.env.locals) (hN : X.N.Nodup) (hi : X.N[i]? = some n) (hln : X.env.kindOf n = some .local) (hj : X.N[j]? = some y) (hlj : Loc X.env.scope y) (hfn : ∀ z, X.fn z = true) (hn : okName n = true) (hc : Names X x (.ref T.flt))
    (h : Holds X T (.blt "isinstance")) (F1 : FOk X "isinstance" x1) (F2 : FOk X "isinstance" x2) (F3 : FOk X "isinstance" x3) (G1 : FOk X (nmCl c1) z1) (G2 : FOk X (nmCl c2) z2) (G3 : FOk X (nmCl c3) z3) (k1 : clNeed (Holds X T) c1) (k2 : clNeed (Holds X T) c2) (k3 : clNeed (Holds X T) c3) (l1 : clx c1 = true) (l2 : clx c2 = true) (l3 : clx c3 = true)
    (hb : ∀ (W : WX) (pn : List (Addr × Obj)) (xe : Value → Shared → Prop), Takes (X.tr pn xe) W → PassesOwn (model X.prog X.w) X.A X.env xe → PSs (X.tr pn xe) body (tb W)) :
    PS X (.Try body [.ExceptHandler (some (.Name x np)) (some n) [.Assign [.Name y yp] (.Tuple [.Call (.Name x1 q1) [.Name n m1, .Name z1 r1] [] s1, .Call (.Name x2 q2) [.Name n m2, .Name z2 r2] [] s2, .Call (.Name x3 q3) [.Name n m3, .Name z3 r3] [] s3] k tp) ap] pos'] [] [] pos) (fun D σ H => tb (wAs X.K (.ref T.flt) i (tsK T i j c1 c2 c3) (fun _ _ _ _ => False) D) D σ H) := by
  refine ps_try_as hs hf hN hi hln hc (fun u s' ⟨a, B, sI, pins, σ, H, cls, d, e, I, nb, up, sky, na, os, ag, w⟩ => w.elim) hb fun a oe cls d pn hz hv => ⟨fun pins s σ H D I ⟨e, he, ec, ed, ⟨σ1, eσ⟩, t1, t2, t3, i1, i2, i3, q⟩ => ?_⟩
  subst ec ed
  have len : i < σ1.length := by
    have l := I.len
    rw [eσ, List.length_set] at l
    rw [l]
    exact (List.getElem?_eq_some_iff.mp hi).1
  have gi : σ[i]? = some (some (.ref a)) := by rw [eσ]; exact List.getElem?_set_self len
  have P := fun {x z : Str} {cl : Cl} {px np pz pos : Pos} (F : FOk X "isinstance" x) (G : FOk X (nmCl cl) z) (k : clNeed (Holds X T) cl) (l : clx cl = true) => pe_isK (a := a) (px := px) (np := np) (pz := pz) (pos := pos) (pn := pn) C he hz hv hi (.inl hln) (okName_1 hn) (okName_2 hn) F h G k l
  refine (pss_one (ps_set (X := X.suite a ((a, oe) :: pn)) hN hj hlj (pe_tup (pa_cons (P F1 G1 k1 l1) (pa_cons (P F2 G2 k2 l2) (pa_cons (P F3 G3 k3 l3) pa_nil)))) rfl (.inl (hfn y)))).run pins s σ H D I ?_
  exact ⟨gi, t1, i1, gi, t2, i2, gi, t3, i3, (by decide : (3 : Nat) ≤ sizeLine), fun p np => q p np⟩
end
end MP

set_option Elab.async false
set_option linter.all false
set_option maxRecDepth 100000
set_option maxHeartbeats 16000000
set_option autoImplicit false
/-! MPH: statements and defs come to what the evaluator tells. -/
namespace MP
open PySem L2
open PyProof.Rows hiding St

/-! ### the look -/
def noTup : Expr → Bool
  | .Tuple _ _ _ => false
  | _ => true
/-- does the list go to its name within the comprehension -/
def swapB (sc : Scope) (x : Str) (px : Pos) : Expr → Bool
  | .ListComp _ _ s p => decide (sc.kind = .function) && decide (sc.names.lookup x = some .local) && (px.line == p.line) && !(s.names.any fun (n, k) => n == x && (k == .local || k == .cell))
  | _ => false
def chkNames (N : List Str) (sc : Scope) : List Nat → List Expr → Bool
  | [], [] => true
  | i :: is, .Name x _ :: es => decide (N[i]? = some x) && isOwn sc x && chkNames N sc is es
  | _, _ => false
def chkN (N : List Str) (sc : Scope) (i : Nat) (x : Str) : Bool := decide (N[i]? = some x) && isOwn sc x && okName x
/-- a, b = u, v: plain names on both sides -/
def chkPar (N : List Str) (sc : Scope) (is : List Nat) (e : E) (ts : List Expr) (v : Expr) : Bool :=
  match is, e, ts, v with
  | [i, j], .tup (.cons a (.cons b .nil)), [.Name x px, .Name y py], .Tuple [.Name u pu, .Name w pw] _ _ =>
    decide (N[i]? = some x) && decide (N[j]? = some y) && decide (i ≠ j) && decide (x ≠ y) && decide (sc.names.lookup x = some .local) && decide (sc.names.lookup y = some .local) && decide (px.line = py.line) && decide (u ≠ ("__debug__" : Str)) && chkE N sc a (.Name u pu) && chkE N sc b (.Name w pw)
  | _, _, _, _ => false
mutual
def chkS (N : List Str) (sc : Scope) : S → Stmt → Bool
  | .asg i e, st => match st with
    | .Assign [.Name x _] v _ => chkN N sc i x && chkE N sc e v
    | _ => false
  | .asgN i e, st => match st with
    | .Assign [.Name x _] v _ => chkN N sc i x && chkE N sc e v && noComp v
    | _ => false
  | .asgT is e, st => match st with
    | .Assign [.Tuple ts _ _] v _ => (chkNames N sc is ts && chkE N sc e v && noComp v && noTup v) || chkPar N sc is e ts v
    | _ => false
  | .app i e, st => match st with
    | .Expr (.Call (.Attribute (.Name x _) n apos) [y] [] pos) _ => decide (n = ("append" : Str)) && chkN N sc i x && chkE N sc e y && shp y && (apos.endLine == pos.line)
    | _ => false
  | .ins i e1 e2, st => match st with
    | .Expr (.Call (.Attribute (.Name x _) n apos) [y, z] [] pos) _ => decide (n = ("insert" : Str)) && chkN N sc i x && chkE N sc e1 y && chkE N sc e2 z && shp y && shp z && (apos.endLine == pos.line)
    | _ => false
  | .retN i, st => match st with
    | .Return (some (.Name x _)) _ => decide (N[i]? = some x) && vis sc x && okName x
    | _ => false
  | .retA a b, st => match st with
    | .Return (some (.BinOp x .Add y _)) _ => chkE N sc a x && chkE N sc b y
    | _ => false
  | .sti i e1 e2, st => match st with
    | .Assign [.Subscript (.Name x _) y _] v _ => chkN N sc i x && chkE N sc e1 y && chkE N sc e2 v && noComp v && shp y
    | _ => false
  | .ifs c a b, st => match st with
    | .If t x y _ => chkE N sc c t && chkSs N sc a x && chkSs N sc b y
    | _ => false
  | .fors i src b, st => match st with
    | .For (.Name x _) it body [] _ => chkN N sc i x && chkSrc N sc src it && shp it && chkSs N sc b body
    | _ => false
  | .forT is src b, st => match st with
    | .For (.Tuple ts _ _) it body [] _ => chkNames N sc is ts && chkSrcT N sc src it && shp it && chkSs N sc b body
    | _ => false
  | .whl c b, st => match st with
    | .While t body [] _ => chkE N sc c t && chkSs N sc b body
    | _ => false
  | .ret e, st => match st with
    | .Return (some v) _ => chkE N sc e v
    | _ => false
  | .rse nm _, st => match st with
    | .Raise (some (.Call (.Name x _) [.Constant (.str _) _ _] [] _)) none _ => chkF sc nm x
    | _ => false
  | .drp e, st => match st with
    | .Expr v _ => chkE N sc e v && noComp v
    | _ => false
  | .pas, st => match st with
    | .Pass _ => true
    | _ => false
  | .tryx b nm i j, st => match st with
    | .Try body [.ExceptHandler (some (.Name x _)) (some n) [.Assign [.Name y _] (.Name n2 _) _] _] [] [] _ =>
      chkSs N sc b body && chkF sc nm x && decide (n2 = n) && decide (N[i]? = some n) && decide (sc.names.lookup n = some .local) && okName n && chkN N sc j y
    | _ => false
  | .tryk b nm i j c1 c2 c3, st => match st with
    | .Try body [.ExceptHandler (some (.Name x _)) (some n) [.Assign [.Name y _] (.Tuple [.Call (.Name x1 _) [.Name n1 _, .Name z1 _] [] _, .Call (.Name x2 _) [.Name n2 _, .Name z2 _] [] _, .Call (.Name x3 _) [.Name n3 _, .Name z3 _] [] _] _ _) _] _] [] [] _ =>
      chkSs N sc b body && chkF sc nm x && decide (n1 = n) && decide (n2 = n) && decide (n3 = n) && decide (N[i]? = some n) && decide (sc.names.lookup n = some .local) && okName n && chkN N sc j y && chkF sc "isinstance" x1 && chkF sc "isinstance" x2 && chkF sc "isinstance" x3 && chkF sc (nmCl c1) z1 && chkF sc (nmCl c2) z2 && chkF sc (nmCl c3) z3 && clx c1 && clx c2 && clx c3
    | _ => false
  | _, _ => false
def chkSs (N : List Str) (sc : Scope) : Ss → List Stmt → Bool
  | .nil, sts => match sts with
    | [] => true
    | _ => false
  | .cons (.frz _) r, sts => chkSs N sc r sts
  | .cons s r, sts => match sts with
    | st :: sts => chkS N sc s st && chkSs N sc r sts
    | [] => false
end
mutual
def okS (Φ : Need → Prop) : S → Prop
  | .asg _ e => okE Φ e
  | .asgN _ e => okE Φ e
  | .asgT _ e => okE Φ e
  | .app _ e => okE Φ e
  | .sti _ e1 e2 => okE Φ e1 ∧ okE Φ e2
  | .retA a b => okE Φ a ∧ okE Φ b
  | .ins _ e1 e2 => okE Φ e1 ∧ okE Φ e2
  | .ifs c a b => okE Φ c ∧ okSs Φ a ∧ okSs Φ b
  | .fors _ src b => okSrc Φ src ∧ okSs Φ b
  | .forT _ src b => okSrc Φ src ∧ okSs Φ b
  | .whl c b => okE Φ c ∧ okSs Φ b
  | .ret e => okE Φ e
  | .rse nm c => Φ (.exc nm c)
  | .drp e => okE Φ e
  | .tryx b nm _ _ => okSs Φ b ∧ Φ (.flt nm)
  | .tryk b nm _ _ c1 c2 c3 => okSs Φ b ∧ Φ (.flt nm) ∧ Φ (.blt "isinstance") ∧ clNeed Φ c1 ∧ clNeed Φ c2 ∧ clNeed Φ c3
  | _ => True
def okSs (Φ : Need → Prop) : Ss → Prop
  | .nil => True
  | .cons s r => okS Φ s ∧ okSs Φ r
end

/-! ### what holds in a def's body -/
structure Act where
  H0 : Hp
  O0 : List Addr
  lv : List (List Addr × Hp)
structure Rb (B : Act) (T : Tab) (O : List Addr) (σ : L2.St) (ρ : Env) (H : Hp) : Prop where
  rl : Rl T O σ ρ H
  ex : Ex B.H0 H
  sub : ∀ a ∈ B.O0, a ∈ O
  l0 : ∀ a ∈ B.O0, B.H0 a ≠ none
  fresh : ∀ (i : Nat) (xs : List D) (a : Addr), ρ[i]? = some (.own xs) → σ[i]? = some (some (.ref a)) → B.H0 a = none
  lv : ∀ p ∈ B.lv, Ew (hide p.1 p.2) (hide O H)
def RlS (B : Act) (T : Tab) (σ : L2.St) (ρ : Env) (H : Hp) : Prop := ∃ O, Rb B T O σ ρ H
section
variable {B : Act} {T : Tab} {W : WX} {O : List Addr} {σ : L2.St} {ρ : Env} {H H1 : Hp} {De : Ends}
theorem Rb.mono (e : Ex H H1) (r : Rb B T O σ ρ H) : Rb B T O σ ρ H1 := ⟨r.rl.mono e, r.ex.trans e, r.sub, r.l0, r.fresh, fun p hp => (r.lv p hp).trans (hide_mono e)⟩
theorem RlS.mono (e : Ex H H1) (r : RlS B T σ ρ H) : RlS B T σ ρ H1 := let ⟨O, r⟩ := r; ⟨O, r.mono e⟩
theorem own_set {i j : Nat} {d : D} {xs : List D} (h : (ρ.set i (.dat d))[j]? = some (.own xs)) : i ≠ j ∧ ρ[j]? = some (.own xs) := by
  by_cases e : i = j
  · subst e
    by_cases hl : i < ρ.length
    · rw [List.getElem?_set_self hl] at h; cases h
    · rw [List.getElem?_eq_none (by simpa using hl)] at h; cases h
  · rw [List.getElem?_set_ne e] at h
    exact ⟨e, h⟩
theorem own_setn {i j : Nat} {xs : List D} (h : (ρ.set i .un)[j]? = some (.own xs)) : i ≠ j ∧ ρ[j]? = some (.own xs) := by
  by_cases e : i = j
  · subst e
    by_cases hl : i < ρ.length
    · rw [List.getElem?_set_self hl] at h; cases h
    · rw [List.getElem?_eq_none (by simpa using hl)] at h; cases h
  · rw [List.getElem?_set_ne e] at h
    exact ⟨e, h⟩
theorem Rb.setd (r : Rb B T O σ ρ H) {d : D} {v : V} (dv : DV T (hide O H) d v) (i : Nat) : Rb B T O (σ.set i (some v)) (ρ.set i (.dat d)) H := by
  refine ⟨r.rl.setd dv i, r.ex, r.sub, r.l0, fun j xs a h1 h2 => ?_, r.lv⟩
  obtain ⟨ne, h1⟩ := own_set h1
  rw [List.getElem?_set_ne ne] at h2
  exact r.fresh j xs a h1 h2
theorem Rb.setn (r : Rb B T O σ ρ H) (i : Nat) (x : Option V) : Rb B T O (σ.set i x) (ρ.set i .un) H := by
  refine ⟨r.rl.setn i x, r.ex, r.sub, r.l0, fun j xs a h1 h2 => ?_, r.lv⟩
  obtain ⟨ne, h1⟩ := own_setn h1
  rw [List.getElem?_set_ne ne] at h2
  exact r.fresh j xs a h1 h2
/-- an address that is new to H is new to what stood before -/
theorem Rb.new0 (r : Rb B T O σ ρ H) {a : Addr} (n : H a = none) : B.H0 a = none := by
  cases q : B.H0 a with
  | none => rfl
  | some o => exact absurd n (r.ex.nn (by rw [q]; simp))

def PoS (B : Act) (T : Tab) (W : WX) (De : Ends) : Out → Prop
  | .nxt ρ' => ∀ σ' H', RlS B T σ' ρ' H' → De.nx σ' H'
  | .ret d => ∀ v H', Ex B.H0 H' → DV T (hide B.O0 H') d v → De.rt v H'
  | .retF xs => ∀ a us H', Ex B.H0 H' → B.H0 a = none → H' a = some (.lst us) → DVs T (hide (a :: B.O0) H') xs us → De.rt (.ref a) H'
  | .ex c ρ' => ∀ σ' H', RlS B T σ' ρ' H' → c ∈ T.exs → W (.ref (T.exc c)) none σ' H'
  | .no => False
def tS (T : Tab) (W : WX) (m : S) : TS := fun D σ H => ∃ B ρ, RlS B T σ ρ H ∧ PoS B T W D (evS m ρ)
def tSs (T : Tab) (W : WX) (m : Ss) : TS := fun D σ H => ∃ B ρ, RlS B T σ ρ H ∧ PoS B T W D (evSs m ρ)
/-- an expression in a statement -/
theorem tE_st {m : E} {f : D → Out} {Kn : VK} (r : Rb B T O σ ρ H) (p : PoS B T W De (withR (evE m ρ) ρ f)) (k : ∀ d v H1, Ex H H1 → DV T (hide O H1) d v → PoS B T W De (f d) → Kn v H1) : tE T W m σ H Kn := by
  refine ⟨O, ρ, r.rl, ?_⟩
  cases e : evE m ρ with
  | ok d =>
    rw [e] at p
    exact fun v H' e' dv => k d v H' e' dv p
  | ex c =>
    rw [e] at p
    exact fun H' e' => p σ H' ⟨O, r.mono e'⟩
  | no =>
    rw [e] at p
    exact False.elim p
theorem tT_st {m : E} {f : Bool → Out} {Kn : Bool → Hp → Prop} (r : Rb B T O σ ρ H) (p : PoS B T W De (withR (evT m ρ) ρ f)) (k : ∀ b H1, Ex H H1 → PoS B T W De (f b) → Kn b H1) : tT T W m σ H Kn := by
  refine ⟨O, ρ, r.rl, ?_⟩
  cases e : evT m ρ with
  | ok d =>
    rw [e] at p
    exact fun H' e' => k d H' e' p
  | ex c =>
    rw [e] at p
    exact fun H' e' => p σ H' ⟨O, r.mono e'⟩
  | no =>
    rw [e] at p
    exact False.elim p
theorem tI_st {m : Src} {f : List D → Out} {Kn : It → Hp → Prop} (r : Rb B T O σ ρ H) (p : PoS B T W De (withR (evSrc m ρ) ρ f)) (k : ∀ ds J H1, Ex H H1 → Yl T O H1 J ds → PoS B T W De (f ds) → Kn J H1) : tI T W m σ H Kn := by
  refine ⟨O, ρ, r.rl, ?_⟩
  cases e : evSrc m ρ with
  | ok d =>
    rw [e] at p
    exact fun J H' e' y => k d J H' e' y p
  | ex c =>
    rw [e] at p
    exact fun H' e' => p σ H' ⟨O, r.mono e'⟩
  | no =>
    rw [e] at p
    exact False.elim p
end
theorem ps_weak {X : Cx} {e : Stmt} {t t' : TS} (h : PS X e t) (w : ∀ D σ H, t' D σ H → t D σ H) : PS X e t' := ⟨fun pins s σ H D I q => h.run pins s σ H D I (w D σ H q)⟩
theorem ps_weakI {X : Cx} {e : Stmt} {t t' : TS} (h : PS X e t) (w : ∀ pins s D σ H, Inv X pins σ H s → t' D σ H → t D σ H) : PS X e t' := ⟨fun pins s σ H D I q => h.run pins s σ H D I (w pins s D σ H I q)⟩
theorem pss_weak {X : Cx} {e : List Stmt} {t t' : TS} (h : PSs X e t) (w : ∀ D σ H, t' D σ H → t D σ H) : PSs X e t' := ⟨fun pins s σ H D I q => h.run pins s σ H D I (w D σ H q)⟩
/-- where a statement stands -/
structure AtS (X : Cx) (T : Tab) (W : WX) (N : List Str) (sc : Scope) : Prop where
  A : At X T W N sc
  fn : ∀ x, X.fn x = true
  pass : PassesOwn (model X.prog X.w) X.A X.env X.xe
  stk : X.stack = X.env :: X.outer
  fr : X.env.frame = some X.env.locals
  ex : X.ex = []
  kind : sc.kind = .function
section
variable {X : Cx} {T : Tab} {W : WX} {N : List Str} {sc : Scope}
structure NOk (X : Cx) (i : Nat) (x : Str) : Prop where
  ix : X.N[i]? = some x
  loc : Loc X.env.scope x
  n1 : (x == ("__debug__" : Str)) = false
  n2 : (x == ("__classdict__" : Str)) = false
theorem loc_ok {x : Str} (hs : X.env.scope = sc) (h : isOwn sc x = true) : Loc X.env.scope x := by
  rw [hs]
  unfold isOwn at h
  split at h
  · exact .inl (by assumption)
  · exact .inr (by assumption)
  · cases h
theorem chkN_ok {i : Nat} {x : Str} (A : AtS X T W N sc) (h : chkN N sc i x = true) : NOk X i x := by
  unfold chkN at h
  simp only [Bool.and_eq_true, decide_eq_true_eq] at h
  exact ⟨by rw [A.A.hN]; exact h.1.1, loc_ok A.A.hs h.1.2, okName_1 h.2, okName_2 h.2⟩
theorem nd_ok (A : AtS X T W N sc) : X.N.Nodup := by rw [A.A.hN]; exact A.A.nd
theorem Loc.vis {sc : Scope} {x : Str} (h : Loc sc x) : Vis sc x := by
  rcases h with h | h
  · exact .inl h
  · exact .inr (.inl h)
theorem swap_none {v : Expr} {t : Option Expr} {l : Nat} {env : PySem.Env} (h : noComp v = true) : swapsWith v t l env = pure false := by
  cases v <;> first | rfl | (cases h)
theorem swap_lc {elt : Expr} {gs : List Comprehension} {scope : Scope} {p px : Pos} {x : Str} {l : Nat} {env : PySem.Env} (hs : env.scope = sc) (h : swapB sc x px (.ListComp elt gs scope p) = false) (hk : sc.kind = .function) : swapsWith (.ListComp elt gs scope p) (some (.Name x px)) l env = pure false := by
  have e : (env.blockKind == ScopeKind.function && env.kindOf x == some NameKind.local && px.line == p.line && !(scope.names.any fun (n, k) => n == x && (k == NameKind.local || k == NameKind.cell))) = false := by
    have hb : env.blockKind = .function := by unfold PySem.Env.blockKind; rw [hs, hk]; rfl
    have h2 : (decide (sc.kind = .function) && decide (sc.names.lookup x = some .local) && (px.line == p.line) && !(scope.names.any fun (n, k) => n == x && (k == NameKind.local || k == NameKind.cell))) = false := h
    rw [hk] at h2
    have k2 : env.kindOf x = sc.names.lookup x := by rw [← hs]; rfl
    rw [hb, k2]
    rw [show (ScopeKind.function == ScopeKind.function) = true from rfl, Bool.true_and]
    rw [show decide (ScopeKind.function = ScopeKind.function) = true from rfl, Bool.true_and] at h2
    rw [show (sc.names.lookup x == some NameKind.local) = decide (sc.names.lookup x = some NameKind.local) from by
      by_cases q : sc.names.lookup x = some NameKind.local
      · rw [q]; rfl
      · rw [decide_eq_false q]; exact beq_eq_false_iff_ne.mpr q]
    exact h2
  unfold swapsWith
  dsimp only [Expr.pos]
  rw [e]
theorem a_asg (A : AtS X T W N sc) {i : Nat} {e : E} {x : Str} {v : Expr} {px pos : Pos} (n : NOk X i x) (h : PE X v (tE T W e)) (hsw : swapsWith v (some (.Name x px)) pos.line X.env = pure false) : PS X (.Assign [.Name x px] v pos) (tS T W (.asg i e)) := by
  refine ps_weak (ps_set (i := i) (nd_ok A) n.ix n.loc h hsw (.inl (A.fn x))) fun D σ H ⟨B, ρ, ⟨O, r⟩, p⟩ => ?_
  simp only [evS] at p
  exact tE_st r p fun d w H1 e1 dv p1 => p1 _ _ ⟨O, (r.mono e1).setd dv i⟩
theorem a_asgL (A : AtS X T W N sc) {i j : Nat} {el : E} {src : Src} {x y : Str} {elt iter : Expr} {scope : Scope} {px py pos p2 : Pos} (n : NOk X i x) (h1 : N[j]? = some y) (h2 : isOwn scope y = true) (h3 : blkC N sc scope [(y, j)] = true) (h4 : shp iter = true)
    (he : ∀ s H C cl fp, PE (X.blk s H scope (compEnvC scope cl C X.env) fp) elt (tE T (fun _ _ _ _ => False) el)) (hi : PI X (.Name y py) iter (tI T W src)) (hsw : swapB sc x px (.ListComp elt [⟨.Name y py, iter, [], 0⟩] scope p2) = true) :
    PS X (.Assign [.Name x px] (.ListComp elt [⟨.Name y py, iter, [], 0⟩] scope p2) pos) (tS T W (.asg i (.lc j el src))) := by
  have hw : (decide (sc.kind = .function) && decide (sc.names.lookup x = some .local) && (px.line == p2.line) && !(scope.names.any fun (n, k) => n == x && (k == NameKind.local || k == NameKind.cell))) = true := hsw
  simp only [Bool.and_eq_true, decide_eq_true_eq, Bool.not_eq_true'] at hw
  obtain ⟨⟨⟨w1, w2⟩, w3⟩, w4⟩ := hw
  have w2' : X.env.scope.names.lookup x = some .local := by rw [A.A.hs]; exact w2
  refine ps_weakI (ps_setLc (i := i) A.A.C.calm (nd_ok A) n.ix w2' (sw_true (by rw [A.A.hs]; exact w1) w2' w3 w4) hi (by rw [A.A.hN, A.A.hs]; exact blkOk_by h3) (fun s H C cl fp => own_name A.A h1 h2) (fun _ _ _ _ _ => pts_nil) he (shp_fold h4)) fun pins s D σ H I ⟨B, ρ, ⟨O, r⟩, p⟩ => ?_
  simp only [evS] at p
  have q : tE T W (.lc j el src) σ H fun v H1 => gName i v σ H1 D.nx := tE_st r p fun d w H1 e1 dv p1 => p1 _ _ ⟨O, (r.mono e1).setd dv i⟩
  obtain ⟨O', ρ', hr, q⟩ := q
  refine lc_read (g := fun _ => .ok true) hr (in_len A.A I hr h1) q fun O' d v b H' K _ hg k => ?_
  cases hg
  exact k H' (Ex.refl H')
theorem a_asgP (A : AtS X T W N sc) {i j k : Nat} {el : E} {src : Src} {x y z : Str} {elt iter : Expr} {scope : Scope} {px py pz pt pos p2 : Pos} {k0 : Nat} (n : NOk X i x) (h1 : N[j]? = some y) (g1 : N[k]? = some z) (hjk : j ≠ k) (h2 : isOwn scope y = true) (g2 : isOwn scope z = true) (h3 : blkC N sc scope [(y, j), (z, k)] = true) (h4 : shp iter = true)
    (he : ∀ s H C cl fp, PE (X.blk s H scope (compEnvC scope cl C X.env) fp) elt (tE T (fun _ _ _ _ => False) el)) (hi : PI X (.Tuple [.Name y py, .Name z pz] k0 pt) iter (tI T W src)) (hsw : swapB sc x px (.ListComp elt [⟨.Tuple [.Name y py, .Name z pz] k0 pt, iter, [], 0⟩] scope p2) = true) :
    PS X (.Assign [.Name x px] (.ListComp elt [⟨.Tuple [.Name y py, .Name z pz] k0 pt, iter, [], 0⟩] scope p2) pos) (tS T W (.asg i (.lcP j k el src))) := by
  have hw : (decide (sc.kind = .function) && decide (sc.names.lookup x = some .local) && (px.line == p2.line) && !(scope.names.any fun (n, k) => n == x && (k == NameKind.local || k == NameKind.cell))) = true := hsw
  simp only [Bool.and_eq_true, decide_eq_true_eq, Bool.not_eq_true'] at hw
  obtain ⟨⟨⟨w1, w2⟩, w3⟩, w4⟩ := hw
  have w2' : X.env.scope.names.lookup x = some .local := by rw [A.A.hs]; exact w2
  refine ps_weakI (ps_setLc (i := i) A.A.C.calm (nd_ok A) n.ix w2' (sw_true (by rw [A.A.hs]; exact w1) w2' w3 w4) hi (by rw [A.A.hN, A.A.hs]; exact blkOk_by h3) (fun s H C cl fp => show PG (X.blk s H scope (compEnvC scope cl C X.env) fp) (.Tuple [.Name y py, .Name z pz] k0 pt) (gTup X.K 2 (gCons (gName j) (gCons (gName k) gNil))) from pg_tup (X := X.blk s H scope (compEnvC scope cl C X.env) fp) A.A.C.calm (pgs_cons (own_name A.A h1 h2) (pgs_cons (own_name A.A g1 g2) pgs_nil))) (fun _ _ _ _ _ => pts_nil) he (shp_fold h4)) fun pins s D σ H I ⟨B, ρ, ⟨O, r⟩, p⟩ => ?_
  simp only [evS] at p
  have q : tE T W (.lcP j k el src) σ H fun v H1 => gName i v σ H1 D.nx := tE_st r p fun d w H1 e1 dv p1 => p1 _ _ ⟨O, (r.mono e1).setd dv i⟩
  obtain ⟨O', ρ', hr, q⟩ := q
  exact lc_readP hjk hr (in_len A.A I hr h1) A.A.C.hK q
theorem a_asgF (A : AtS X T W N sc) {i j : Nat} {el cond : E} {src : Src} {x y : Str} {elt iter c : Expr} {scope : Scope} {px py pos p2 : Pos} (n : NOk X i x) (h1 : N[j]? = some y) (h2 : isOwn scope y = true) (h3 : blkC N sc scope [(y, j)] = true) (h4 : shp iter = true)
    (he : ∀ s H C cl fp, PE (X.blk s H scope (compEnvC scope cl C X.env) fp) elt (tE T (fun _ _ _ _ => False) el)) (hc : ∀ s H C cl fp, PT (X.blk s H scope (compEnvC scope cl C X.env) fp) c (tT T (fun _ _ _ _ => False) cond)) (hi : PI X (.Name y py) iter (tI T W src)) (hsw : swapB sc x px (.ListComp elt [⟨.Name y py, iter, [c], 0⟩] scope p2) = true) :
    PS X (.Assign [.Name x px] (.ListComp elt [⟨.Name y py, iter, [c], 0⟩] scope p2) pos) (tS T W (.asg i (.lcf j el src cond))) := by
  have hw : (decide (sc.kind = .function) && decide (sc.names.lookup x = some .local) && (px.line == p2.line) && !(scope.names.any fun (n, k) => n == x && (k == NameKind.local || k == NameKind.cell))) = true := hsw
  simp only [Bool.and_eq_true, decide_eq_true_eq, Bool.not_eq_true'] at hw
  obtain ⟨⟨⟨w1, w2⟩, w3⟩, w4⟩ := hw
  have w2' : X.env.scope.names.lookup x = some .local := by rw [A.A.hs]; exact w2
  refine ps_weakI (ps_setLc (i := i) A.A.C.calm (nd_ok A) n.ix w2' (sw_true (by rw [A.A.hs]; exact w1) w2' w3 w4) hi (by rw [A.A.hN, A.A.hs]; exact blkOk_by h3) (fun s H C cl fp => own_name A.A h1 h2) (fun s H C cl fp => pts_one (hc s H C cl fp)) he (shp_fold h4)) fun pins s D σ H I ⟨B, ρ, ⟨O, r⟩, p⟩ => ?_
  simp only [evS] at p
  have q : tE T W (.lcf j el src cond) σ H fun v H1 => gName i v σ H1 D.nx := tE_st r p fun d w H1 e1 dv p1 => p1 _ _ ⟨O, (r.mono e1).setd dv i⟩
  obtain ⟨O', ρ', hr, q⟩ := q
  refine lc_read (g := fun x => (evE cond (ρ'.set j (.dat x))).bind boolD) hr (in_len A.A I hr h1) q fun O' d v b H' K hR hg k => ?_
  refine ⟨O', ρ'.set j (.dat d), hR, ?_⟩
  show PoT _ _ _ _ _ ((evE cond (ρ'.set j (.dat d))).bind boolD)
  rw [hg]
  exact k
theorem a_ret {e : E} {v : Expr} {pos : Pos} (h : PE X v (tE T W e)) : PS X (.Return (some v) pos) (tS T W (.ret e)) := by
  refine ps_weak (ps_ret h) fun D σ H ⟨B, ρ, ⟨O, r⟩, p⟩ => ?_
  simp only [evS] at p
  exact tE_st r p fun d w H1 e1 dv p1 => p1 w H1 (r.ex.trans e1) (dv.mono (hide_sub r.sub))
theorem a_retN (A : AtS X T W N sc) {i : Nat} {x : Str} {px pos : Pos} (h1 : N[i]? = some x) (h2 : vis sc x = true) (h3 : okName x = true) : PS X (.Return (some (.Name x px)) pos) (tS T W (.retN i)) := by
  refine ps_weak (ps_ret (pe_var (i := i) (by rw [A.A.hN]; exact h1) (vis_ok A.A.hs h2) (okName_1 h3) (okName_2 h3))) fun D σ H ⟨B, ρ, ⟨O, r⟩, p⟩ => ?_
  simp only [evS] at p
  split at p
  · rename_i xs q
    obtain ⟨a, vs, q1, q2, q3, q4⟩ := r.rl.at_ i _ q
    exact ⟨_, q1, p a vs H r.ex (r.fresh i xs a q q1) q3 (q4.mono (hide_sub fun c hc => by
      rcases List.mem_cons.mp hc with rfl | hc
      · exact q2
      · exact r.sub c hc))⟩
  · exact False.elim p
/-- return a + b, a list of one's own making -/
theorem a_retA (A : AtS X T W N sc) {a b : E} {x y : Expr} {p2 pos : Pos} (ha : PE X x (tE T W a)) (hb : PE X y (tE T W b)) : PS X (.Return (some (.BinOp x .Add y p2)) pos) (tS T W (.retA a b)) := by
  refine ps_weak (ps_ret (pe_op op_catL ha hb)) fun D σ H ⟨B, ρ, ⟨O, r⟩, p⟩ => ?_
  simp only [evS] at p
  refine tE_st r p fun dx v H1 e1 d1 p1 => tE_st (r.mono e1) p1 fun dy w H2 e2 d2 p2 => ?_
  cases d1 with
  | lst q1 r1 =>
    cases d2 with
    | lst q2 r2 =>
      simp only at p2
      split at p2
      · rename_i hz
        refine ⟨_, _, _, _, rfl, rfl, by rw [A.A.C.hK]; exact ex_sql (hide_ex.trans e2.w) q1, by rw [A.A.C.hK]; exact ex_sql hide_ex q2, by rw [← r1.length, ← r2.length, ← line_eq]; exact hz, fun c n => ?_⟩
        have rr := r.mono (e1.trans e2)
        refine p2 c _ _ (rr.ex.trans (Ex.new n)) (rr.new0 n) upd_same (DVs.mono (fun z o q => ?_) ((r1.mono (hide_mono e2)).append r2))
        have hz : z ∉ O := fun k => by
          unfold hide at q
          rw [if_pos k] at q
          cases q
        rw [hide_out hz] at q
        have hc : z ≠ c := fun k => by
          rw [k, n] at q
          cases q
        refine .inl ?_
        rw [hide_out, upd_ne hc]
        · exact q
        · intro k
          rcases List.mem_cons.mp k with k | k
          · exact hc k
          · exact hz (rr.sub z k)
      · exact False.elim p2
    | _ => exact False.elim p2
  | _ => cases dy <;> exact False.elim p2
/-- name = [..], an exception may leave it -/
theorem a_asgX (A : AtS X T W N sc) {i : Nat} {m : E} {x : Str} {px pos p2 : Pos} {elt : Expr} {gs : List Comprehension} {scope : Scope} {t : TE} (h : PS X (.Assign [.Name x px] (.ListComp elt gs scope p2) pos) (tAsg t (gName i))) (k : ∀ σ H Q, tE T W m σ H Q → t σ H Q) : PS X (.Assign [.Name x px] (.ListComp elt gs scope p2) pos) (tS T W (.asg i m)) := by
  refine ps_weak h fun D σ H ⟨B, ρ, ⟨O, r⟩, p⟩ => ?_
  simp only [evS] at p
  exact k _ _ _ (tE_st r p fun d w H1 e1 dv p1 => p1 _ _ ⟨O, (r.mono e1).setd dv i⟩)
theorem swX (A : AtS X T W N sc) {x : Str} {px p2 : Pos} {l : Nat} {elt : Expr} {gs : List Comprehension} {scope : Scope} (hsw : swapB sc x px (.ListComp elt gs scope p2) = true) : X.env.scope.names.lookup x = some .local ∧ swapsWith (.ListComp elt gs scope p2) (some (.Name x px)) l X.env = pure true := by
  have hw : (decide (sc.kind = .function) && decide (sc.names.lookup x = some .local) && (px.line == p2.line) && !(scope.names.any fun (n, k) => n == x && (k == NameKind.local || k == NameKind.cell))) = true := hsw
  simp only [Bool.and_eq_true, decide_eq_true_eq, Bool.not_eq_true'] at hw
  obtain ⟨⟨⟨w1, w2⟩, w3⟩, w4⟩ := hw
  have w2' : X.env.scope.names.lookup x = some .local := by rw [A.A.hs]; exact w2
  exact ⟨w2', sw_true (by rw [A.A.hs]; exact w1) w2' w3 w4⟩
theorem a_asgX1 (A : AtS X T W N sc) {i j : Nat} {el : E} {src : Src} {x y : Str} {elt iter : Expr} {scope : Scope} {px py pos p2 : Pos} (n : NOk X i x) (h1 : N[j]? = some y) (h2 : isOwn scope y = true) (h3 : blkC N sc scope [(y, j)] = true) (h4 : shp iter = true)
    (he : ∀ s H C cl fp xe W', Takes (blkX X s H scope (compEnvC scope cl C X.env) fp xe) W' → PE (blkX X s H scope (compEnvC scope cl C X.env) fp xe) elt (tE T W' el)) (hi : PI X (.Name y py) iter (tI T W src)) (hsw : swapB sc x px (.ListComp elt [⟨.Name y py, iter, [], 0⟩] scope p2) = true) :
    PS X (.Assign [.Name x px] (.ListComp elt [⟨.Name y py, iter, [], 0⟩] scope p2) pos) (tS T W (.asg i (.lcX j el src))) :=
  a_asgX A (ps_setLcX (own := [(y, j)]) (W := W) (tt := fun _ => tYes) (te := fun W' => tE T W' el) A.A.C.calm (nd_ok A) n.ix (swX A hsw (l := 0)).1 (swX A hsw).2 hi (by rw [A.A.hN, A.A.hs]; exact blkOk_by h3) A.A.tk (.inl ⟨A.fr, A.stk⟩) (fun s H C cl fp xe => own_nameX A.A h1 h2) (fun _ _ _ _ _ _ _ _ => pts_nil) he (shp_fold h4)) fun σ H Q q => r_lcX q
theorem a_asgX2 (A : AtS X T W N sc) {i : Nat} {is : List Nat} {el : E} {src : Src} {x : Str} {ts : List Expr} {elt iter : Expr} {scope : Scope} {px pt pos p2 : Pos} {k0 : Nat} (n : NOk X i x) (h1 : chkTg N scope is ts = true) (h3 : blkC N sc scope ((tgN ts).zip is) = true) (h4 : shp iter = true)
    (he : ∀ s H C cl fp xe W', Takes (blkX X s H scope (compEnvC scope cl C X.env) fp xe) W' → PE (blkX X s H scope (compEnvC scope cl C X.env) fp xe) elt (tE T W' el)) (hi : PI X (.Tuple ts k0 pt) iter (tI T W src)) (hsw : swapB sc x px (.ListComp elt [⟨.Tuple ts k0 pt, iter, [], 0⟩] scope p2) = true) :
    PS X (.Assign [.Name x px] (.ListComp elt [⟨.Tuple ts k0 pt, iter, [], 0⟩] scope p2) pos) (tS T W (.asg i (.lcXT is el src))) :=
  a_asgX A (ps_setLcX (own := (tgN ts).zip is) (W := W) (g := gTup X.K is.length (gTs is)) (tt := fun _ => tYes) (te := fun W' => tE T W' el) A.A.C.calm (nd_ok A) n.ix (swX A hsw (l := 0)).1 (swX A hsw).2 hi (by rw [A.A.hN, A.A.hs]; exact blkOk_by h3) A.A.tk (.inl ⟨A.fr, A.stk⟩) (fun s H C cl fp xe => let z := pgs_own (s := s) (H := H) (C := C) (cl := cl) (fp := fp) (xe := xe) A.A h1; pg_tup (X := blkX X s H scope (compEnvC scope cl C X.env) fp xe) A.A.C.calm z.1 z.2.1 z.2.2) (fun _ _ _ _ _ _ _ _ => pts_nil) he (shp_fold h4)) fun σ H Q q => by rw [tg_own h1]; exact r_lcXT A.A q
theorem a_asgX3 (A : AtS X T W N sc) {i : Nat} {is : List Nat} {el cond : E} {src : Src} {x : Str} {ts : List Expr} {elt iter c : Expr} {scope : Scope} {px pt pos p2 : Pos} {k0 : Nat} (n : NOk X i x) (h1 : chkTg N scope is ts = true) (h3 : blkC N sc scope ((tgN ts).zip is) = true) (h4 : shp iter = true)
    (he : ∀ s H C cl fp xe W', Takes (blkX X s H scope (compEnvC scope cl C X.env) fp xe) W' → PE (blkX X s H scope (compEnvC scope cl C X.env) fp xe) elt (tE T W' el))
    (hc : ∀ s H C cl fp xe W', Takes (blkX X s H scope (compEnvC scope cl C X.env) fp xe) W' → PT (blkX X s H scope (compEnvC scope cl C X.env) fp xe) c (tT T W' cond)) (hi : PI X (.Tuple ts k0 pt) iter (tI T W src)) (hsw : swapB sc x px (.ListComp elt [⟨.Tuple ts k0 pt, iter, [c], 0⟩] scope p2) = true) :
    PS X (.Assign [.Name x px] (.ListComp elt [⟨.Tuple ts k0 pt, iter, [c], 0⟩] scope p2) pos) (tS T W (.asg i (.lcXC is el src cond))) :=
  a_asgX A (ps_setLcX (own := (tgN ts).zip is) (W := W) (g := gTup X.K is.length (gTs is)) (tt := fun W' => tT T W' cond) (te := fun W' => tE T W' el) A.A.C.calm (nd_ok A) n.ix (swX A hsw (l := 0)).1 (swX A hsw).2 hi (by rw [A.A.hN, A.A.hs]; exact blkOk_by h3) A.A.tk (.inl ⟨A.fr, A.stk⟩) (fun s H C cl fp xe => let z := pgs_own (s := s) (H := H) (C := C) (cl := cl) (fp := fp) (xe := xe) A.A h1; pg_tup (X := blkX X s H scope (compEnvC scope cl C X.env) fp xe) A.A.C.calm z.1 z.2.1 z.2.2) (fun s H C cl fp xe W' tk => pts_one (hc s H C cl fp xe W' tk)) he (shp_fold h4)) fun σ H Q q => by rw [tg_own h1]; exact r_lcXC A.A q
theorem a_asgX4 (A : AtS X T W N sc) {i j : Nat} {el cond : E} {src : Src} {x y : Str} {elt iter c : Expr} {scope : Scope} {px py pos p2 : Pos} (n : NOk X i x) (h1 : N[j]? = some y) (h2 : isOwn scope y = true) (h3 : blkC N sc scope [(y, j)] = true) (h4 : shp iter = true)
    (he : ∀ s H C cl fp xe W', Takes (blkX X s H scope (compEnvC scope cl C X.env) fp xe) W' → PE (blkX X s H scope (compEnvC scope cl C X.env) fp xe) elt (tE T W' el))
    (hc : ∀ s H C cl fp xe W', Takes (blkX X s H scope (compEnvC scope cl C X.env) fp xe) W' → PT (blkX X s H scope (compEnvC scope cl C X.env) fp xe) c (tT T W' cond)) (hi : PI X (.Name y py) iter (tI T W src)) (hsw : swapB sc x px (.ListComp elt [⟨.Name y py, iter, [c], 0⟩] scope p2) = true) :
    PS X (.Assign [.Name x px] (.ListComp elt [⟨.Name y py, iter, [c], 0⟩] scope p2) pos) (tS T W (.asg i (.lcXF j el src cond))) :=
  a_asgX A (ps_setLcX (own := [(y, j)]) (W := W) (tt := fun W' => tT T W' cond) (te := fun W' => tE T W' el) A.A.C.calm (nd_ok A) n.ix (swX A hsw (l := 0)).1 (swX A hsw).2 hi (by rw [A.A.hN, A.A.hs]; exact blkOk_by h3) A.A.tk (.inl ⟨A.fr, A.stk⟩) (fun s H C cl fp xe => own_nameX A.A h1 h2) (fun s H C cl fp xe W' tk => pts_one (hc s H C cl fp xe W' tk)) he (shp_fold h4)) fun σ H Q q => r_lcXF q
theorem a_drp {e : E} {v : Expr} {pos : Pos} (h : PE X v (tE T W e)) (hn : noComp v = true) : PS X (.Expr v pos) (tS T W (.drp e)) := by
  refine ps_weak (ps_expr h (swap_none hn)) fun D σ H ⟨B, ρ, ⟨O, r⟩, p⟩ => ?_
  simp only [evS] at p
  exact tE_st r p fun d w H1 e1 dv p1 => p1 _ _ ⟨O, r.mono e1⟩
theorem a_pas {pos : Pos} : PS X (.Pass pos) (tS T W .pas) := ps_weak ps_pass fun D σ H ⟨B, ρ, r, p⟩ => p _ _ r
theorem a_if {c : E} {a b : Ss} {t : Expr} {x y : List Stmt} {pos : Pos} (hc : PT X t (tT T W c)) (ha : PSs X x (tSs T W a)) (hb : PSs X y (tSs T W b)) : PS X (.If t x y pos) (tS T W (.ifs c a b)) := by
  refine ps_weak (ps_if hc ha hb) fun D σ H ⟨B, ρ, ⟨O, r⟩, p⟩ => ?_
  simp only [evS] at p
  refine tT_st r p fun b H1 e1 p1 => ?_
  cases b with
  | true => exact ⟨B, ρ, ⟨O, r.mono e1⟩, p1⟩
  | false => exact ⟨B, ρ, ⟨O, r.mono e1⟩, p1⟩
theorem a_rse (A : AtS X T W N sc) {nm : String} {c : Nat} {x m : Str} {k : Nat} {p1 p2 p3 pos : Pos} (F : FOk X nm x) (h : Holds X T (.exc nm c)) : PS X (.Raise (some (.Call (.Name x p1) [.Constant (.str m) k p2] [] p3)) none pos) (tS T W (.rse nm c)) := by
  obtain ⟨rfl, g, n1, n3⟩ := F
  obtain ⟨h1, h2⟩ := h
  obtain ⟨m1, m2, m3⟩ := A.A.C.exM c h2
  refine ps_weak (ps_raise A.A.C.calm A.A.tk (pmk_own PySem.F.excBase_ValueError m1 h1 m2 (raises_own (A.A.C.exT c h2).hs m3) g n1)) fun D σ H ⟨B, ρ, r, p⟩ => ?_
  exact p _ _ r h2
/-! ### loops -/
theorem a_for (A : AtS X T W N sc) {i : Nat} {src : Src} {b : Ss} {x : Str} {it : Expr} {body : List Stmt} {px pos : Pos} (n : NOk X i x) (hi : PI X (.Name x px) it (tI T W src)) (hs : shp it = true) (hb : PSs X body (tSs T W b)) : PS X (.For (.Name x px) it body [] pos) (tS T W (.fors i src b)) := by
  refine ps_weak (ps_for A.pass A.A.C.calm hi (pg_name (i := i) (nd_ok A) n.ix n.loc (.inl (A.fn x))) hb (shp_fold hs)) fun D σ H ⟨B, ρ, ⟨O, r⟩, p⟩ => ?_
  simp only [evS] at p
  refine tI_st r p fun ds J H1 e1 Y p1 => ?_
  have r1 := r.mono e1
  let B1 : Act := ⟨B.H0, B.O0, (O, H1) :: B.lv⟩
  have down : ∀ {σ' ρ' H'}, RlS B1 T σ' ρ' H' → RlS B T σ' ρ' H' := fun ⟨O', q⟩ => ⟨O', q.rl, q.ex, q.sub, q.l0, q.fresh, fun p hp => q.lv p (List.mem_cons_of_mem _ hp)⟩
  have up : RlS B1 T σ ρ H1 := ⟨O, r1.rl, r1.ex, r1.sub, r1.l0, r1.fresh, fun p hp => by
    rcases List.mem_cons.mp hp with rfl | hp
    · exact Ew.refl _
    · exact r1.lv p hp⟩
  refine ⟨fun k m σ' H' => m = ds.length - k ∧ k ≤ ds.length ∧ ∃ ρ', RlS B1 T σ' ρ' H' ∧ PoS B T W D (forGo (fun x ρ' => evSs b (ρ'.set i (.dat x))) (ds.drop k) ρ'), ⟨_, rfl, Nat.zero_le _, ρ, up, p1⟩, ?_⟩
  rintro k m σ' H' ⟨rfl, hk, ρ', ⟨O', r'⟩, p'⟩
  obtain ⟨Yi, Ye⟩ := Y k O' H' (r'.lv (O, H1) List.mem_cons_self) r'.rl.live
  by_cases hlt : k < ds.length
  · have hd : ds[k]? = some ds[k] := List.getElem?_eq_getElem hlt
    obtain ⟨Yg, Yy⟩ := Yi _ hd
    rw [List.drop_eq_getElem_cons hlt] at p'
    refine .inr ⟨Yg, fun σ2 H2 => ∃ ρ2, RlS B1 T σ2 ρ2 H2 ∧ PoS B T W D (forGo (fun x ρ' => evSs b (ρ'.set i (.dat x))) (ds.drop (k + 1)) ρ2), fun σ2 H2 q => ⟨ds.length - (k + 1), by omega, rfl, hlt, q⟩, fun v H2 y => ?_⟩
    obtain ⟨e2, dv⟩ := Yy v H2 y
    refine ⟨B1, ρ'.set i (.dat ds[k]), ⟨O', (r'.mono e2).setd dv i⟩, ?_⟩
    have p' : PoS B T W D (thenO (evSs b (ρ'.set i (.dat ds[k]))) (forGo (fun x ρ' => evSs b (ρ'.set i (.dat x))) (ds.drop (k + 1)))) := p'
    cases ev : evSs b (ρ'.set i (.dat ds[k])) with
    | nxt ρ2 =>
      rw [ev] at p'
      exact fun σ3 H3 r3 => ⟨ρ2, r3, p'⟩
    | ret d => rw [ev] at p'; exact p'
    | retF d => rw [ev] at p'; exact p'
    | ex c ρ2 => rw [ev] at p'; exact fun σ3 H3 r3 => p' σ3 H3 (down r3)
    | no => rw [ev] at p'; exact p'
  · have hkl : k = ds.length := by omega
    subst hkl
    rw [List.drop_length] at p'
    exact .inl ⟨Ye (Nat.le_refl _), p' _ _ (down ⟨O', r'⟩)⟩
theorem a_whl (A : AtS X T W N sc) {c : E} {b : Ss} {t : Expr} {body : List Stmt} {pos : Pos} (hc : PT X t (tT T W c)) (hb : PSs X body (tSs T W b)) : PS X (.While t body [] pos) (tS T W (.whl c b)) := by
  refine ps_weak (ps_while A.pass hc hb) fun D σ H ⟨B, ρ, r, p⟩ => ?_
  refine ⟨fun m σ' H' => ∃ ρ', RlS B T σ' ρ' H' ∧ PoS B T W D (whGo (fun ρ' => evT c ρ') (fun ρ' => evSs b ρ') m ρ'), ⟨fuel, ρ, r, p⟩, ?_⟩
  rintro m σ' H' ⟨ρ', ⟨O', r'⟩, p'⟩
  cases m with
  | zero => exact False.elim p'
  | succ m =>
    refine tT_st r' (show PoS B T W D (withR (evT c ρ') ρ' fun b' => if b' = true then thenO (evSs b ρ') (whGo (fun ρ' => evT c ρ') (fun ρ' => evSs b ρ') m) else .nxt ρ') from p') fun k H1 e1 p1 => ?_
    cases k with
    | false =>
      rw [if_neg Bool.false_ne_true]
      exact p1 _ _ ⟨O', r'.mono e1⟩
    | true =>
      rw [if_pos rfl]
      refine ⟨fun σ2 H2 => ∃ ρ2, RlS B T σ2 ρ2 H2 ∧ PoS B T W D (whGo (fun ρ' => evT c ρ') (fun ρ' => evSs b ρ') m ρ2), fun σ2 H2 q => ⟨m, Nat.lt_succ_self m, q⟩, B, ρ', ⟨O', r'.mono e1⟩, ?_⟩
      have p1 : PoS B T W D (thenO (evSs b ρ') (whGo (fun ρ' => evT c ρ') (fun ρ' => evSs b ρ') m)) := p1
      cases ev : evSs b ρ' with
      | nxt ρ2 =>
        rw [ev] at p1
        exact fun σ3 H3 r3 => ⟨ρ2, r3, p1⟩
      | ret d => rw [ev] at p1; exact p1
      | retF d => rw [ev] at p1; exact p1
      | ex c ρ2 => rw [ev] at p1; exact p1
      | no => rw [ev] at p1; exact p1
end
end MP

set_option Elab.async false
set_option linter.all false
set_option maxRecDepth 100000
set_option maxHeartbeats 16000000
set_option autoImplicit false
/-! MPI: lists of one's own, tuples taken apart, caught exceptions; statements put together; a def's promise. -/
namespace MP
open PySem L2
open PyProof.Rows hiding St

section
variable {X : Cx} {T : Tab} {W : WX} {N : List Str} {sc : Scope} {B : Act} {O : List Addr} {σ : L2.St} {ρ : Env} {H H1 : Hp}
/-- a list that was just made becomes the slot's own -/
theorem Rb.take (r : Rb B T O σ ρ H) {xs : List D} {vs : List V} {a : Addr} (n : H a = none) (e : Ex H H1) (h : H1 a = some (.lst vs)) (dv : DVs T (hide O H) xs vs) (i : Nat) : Rb B T (a :: O) (σ.set i (some (.ref a))) (ρ.set i (.own xs)) H1 := by
  have hx : Ew (hide O H) (hide (a :: O) H1) := fun b o q => by
    unfold hide at q ⊢
    split at q
    · cases q
    · rename_i hb
      have hne : b ≠ a := fun z => by rw [z, n] at q; cases q
      rw [if_neg (by simp only [List.mem_cons, not_or]; exact ⟨hne, hb⟩)]
      exact e.w b o q
  have oldOwn : ∀ {j : Nat} {ys : List D} {b : Addr}, i ≠ j → (ρ.set i (.own xs))[j]? = some (.own ys) → (σ.set i (some (.ref a)))[j]? = some (some (.ref b)) → ρ[j]? = some (.own ys) ∧ σ[j]? = some (some (.ref b)) ∧ b ≠ a := fun {j ys b} ne h1 h2 => by
    rw [List.getElem?_set_ne ne] at h1 h2
    obtain ⟨b', ws, k1, k2, k3, k4⟩ := r.rl.at_ j _ h1
    rw [k1] at h2
    cases h2
    exact ⟨h1, k1, fun z => by rw [z, n] at k3; cases k3⟩
  have selfOwn : ∀ {ys : List D} {b : Addr}, (ρ.set i (.own xs))[i]? = some (.own ys) → (σ.set i (some (.ref a)))[i]? = some (some (.ref b)) → b = a := fun {ys b} h1 h2 => by
    have hl : i < σ.length := by
      have := (List.getElem?_eq_some_iff.mp h2).1
      rwa [List.length_set] at this
    rw [List.getElem?_set_self hl] at h2
    cases h2
    rfl
  refine ⟨⟨⟨fun b hb => ?_, (live_mono e r.rl.live).2⟩, by rw [List.length_set, List.length_set]; exact r.rl.len, fun j s q => ?_, fun j k ys zs b h1 h2 h3 h4 => ?_⟩, r.ex.trans e, fun b hb => List.mem_cons_of_mem _ (r.sub b hb), r.l0, fun j ys b h1 h2 => ?_, fun p hp => (r.lv p hp).trans hx⟩
  · rcases List.mem_cons.mp hb with rfl | hb
    · rw [h]; simp
    · exact (live_mono e r.rl.live).1 b hb
  · by_cases ei : i = j
    · subst ei
      have hl : i < ρ.length := by
        have := (List.getElem?_eq_some_iff.mp q).1
        rwa [List.length_set] at this
      rw [List.getElem?_set_self hl] at q
      cases q
      exact ⟨a, vs, by rw [List.getElem?_set_self (by rw [r.rl.len]; exact hl)], List.mem_cons_self, h, dv.mono hx⟩
    · rw [List.getElem?_set_ne ei] at q ⊢
      have z := r.rl.at_ j s q
      cases s with
      | un => trivial
      | dat d => obtain ⟨v, h1, h2⟩ := z; exact ⟨v, h1, h2.mono hx⟩
      | own ys => obtain ⟨b, ws, h1, h2, h3, h4⟩ := z; exact ⟨b, ws, h1, List.mem_cons_of_mem _ h2, e.at h3 fun _ z => (nomatch z), h4.mono hx⟩
  · by_cases ej : i = j
    · subst ej
      have z := selfOwn h1 h3
      subst z
      by_cases ek : i = k
      · exact ek
      · exact absurd rfl (oldOwn ek h2 h4).2.2
    · by_cases ek : i = k
      · subst ek
        have z := selfOwn h2 h4
        subst z
        exact absurd rfl (oldOwn ej h1 h3).2.2
      · obtain ⟨a1, a2, _⟩ := oldOwn ej h1 h3
        obtain ⟨b1, b2, _⟩ := oldOwn ek h2 h4
        exact r.rl.sep j k ys zs b a1 b1 a2 b2
  · by_cases ej : i = j
    · subst ej
      have z := selfOwn h1 h2
      subst z
      exact r.new0 n
    · obtain ⟨a1, a2, _⟩ := oldOwn ej h1 h2
      exact r.fresh j ys b a1 a2
/-- the slot's own list is changed -/
theorem Rb.change (r : Rb B T O σ ρ H) {i : Nat} {xs ys : List D} {vs ws : List V} {a : Addr} (h1 : ρ[i]? = some (.own xs)) (h2 : σ[i]? = some (some (.ref a))) (h3 : H a = some (.lst vs)) (ha : a ∈ O) (dv : DVs T (hide O H) ys ws) : Rb B T O σ (ρ.set i (.own ys)) (upd H a (.lst ws)) := by
  have hi : i < ρ.length := (List.getElem?_eq_some_iff.mp h1).1
  have hh : hide O (upd H a (.lst ws)) = hide O H := hide_upd ha
  have f0 := r.fresh i xs a h1 h2
  have old : ∀ {j : Nat} {zs : List D}, (ρ.set i (.own ys))[j]? = some (.own zs) → ∃ zs', ρ[j]? = some (.own zs') := fun {j zs} q => by
    by_cases ei : i = j
    · subst ei; exact ⟨xs, h1⟩
    · rw [List.getElem?_set_ne ei] at q; exact ⟨zs, q⟩
  have cg : ∀ {G : Hp}, Ex G H → G a = none → Ex G (upd H a (.lst ws)) := fun e n => e.chg n (.inr ⟨_, h3⟩) fun b hb => upd_ne hb
  refine ⟨⟨⟨fun b hb => ?_, fun P hP => tab_keep (fun b o q nl => by
    rw [upd_ne (fun z => by rw [z, h3] at q; cases q; exact nl _ rfl)]
    exact q) (r.rl.live.2 P hP)⟩, by rw [List.length_set]; exact r.rl.len, fun j s q => ?_, fun j k us zs b k1 k2 k3 k4 => ?_⟩, cg r.ex f0, r.sub, r.l0, fun j zs b k1 k2 => ?_, fun p hp => by rw [hh]; exact r.lv p hp⟩
  · by_cases e : b = a
    · rw [e, upd_same]; simp
    · rw [upd_ne e]; exact r.rl.live.1 b hb
  · by_cases ei : i = j
    · subst ei
      rw [List.getElem?_set_self hi] at q
      cases q
      exact ⟨a, ws, h2, ha, upd_same, by rw [hh]; exact dv⟩
    · rw [List.getElem?_set_ne ei] at q
      have z := r.rl.at_ j s q
      cases s with
      | un => trivial
      | dat d => obtain ⟨v, k1, k2⟩ := z; exact ⟨v, k1, by rw [hh]; exact k2⟩
      | own us =>
        obtain ⟨b, ts, k1, k2, k3, k4⟩ := z
        have ne : b ≠ a := fun z => by
          subst z
          exact ei (r.rl.sep i j xs us b h1 q h2 k1)
        exact ⟨b, ts, k1, k2, by rw [upd_ne ne]; exact k3, by rw [hh]; exact k4⟩
  · obtain ⟨us', e1⟩ := old k1
    obtain ⟨zs', e2⟩ := old k2
    exact r.rl.sep j k us' zs' b e1 e2 k3 k4
  · obtain ⟨zs', e1⟩ := old k1
    exact r.fresh j zs' b e1 k2
/-- .. and becomes data -/
theorem Rb.freeze (r : Rb B T O σ ρ H) {i : Nat} {xs : List D} (h1 : ρ[i]? = some (.own xs)) : ∃ O', Rb B T O' σ (ρ.set i (.dat (.lst xs))) H := by
  have hi : i < ρ.length := (List.getElem?_eq_some_iff.mp h1).1
  obtain ⟨a, vs, k1, k2, k3, k4⟩ := r.rl.at_ i _ h1
  have hx : Ew (hide O H) (hide (O.filter fun b => decide (b ≠ a)) H) := hide_sub fun b hb => (List.mem_filter.mp hb).1
  have f0 := r.fresh i xs a h1 k1
  refine ⟨O.filter fun b => decide (b ≠ a), ⟨⟨⟨fun b hb => r.rl.live.1 b (List.mem_filter.mp hb).1, r.rl.live.2⟩, by rw [List.length_set]; exact r.rl.len, fun j s q => ?_, fun j k us zs b q1 q2 q3 q4 => ?_⟩, r.ex, fun b hb => ?_, r.l0, fun j zs b q1 q2 => ?_, fun p hp => (r.lv p hp).trans hx⟩⟩
  · by_cases ei : i = j
    · subst ei
      rw [List.getElem?_set_self hi] at q
      cases q
      refine ⟨.ref a, k1, .lst (SqL.of ?_) (k4.mono hx)⟩
      rw [hide_out (by simp)]
      exact k3
    · rw [List.getElem?_set_ne ei] at q
      have z := r.rl.at_ j s q
      cases s with
      | un => trivial
      | dat d => obtain ⟨v, m1, m2⟩ := z; exact ⟨v, m1, m2.mono hx⟩
      | own us =>
        obtain ⟨b, ts, m1, m2, m3, m4⟩ := z
        have ne : b ≠ a := fun z => by
          subst z
          exact ei (r.rl.sep i j xs us b h1 q k1 m1)
        exact ⟨b, ts, m1, List.mem_filter.mpr ⟨m2, by simpa using ne⟩, m3, m4.mono hx⟩
  · obtain ⟨_, q1⟩ := own_set q1
    obtain ⟨_, q2⟩ := own_set q2
    exact r.rl.sep j k us zs b q1 q2 q3 q4
  · refine List.mem_filter.mpr ⟨r.sub b hb, ?_⟩
    have ne : b ≠ a := fun z => by
      rw [z] at hb
      exact r.l0 a hb f0
    simpa using ne
  · obtain ⟨_, q1⟩ := own_set q1
    exact r.fresh j zs b q1 q2

theorem a_frz {i : Nat} {r : Ss} {sts : List Stmt} (h : PSs X sts (tSs T W r)) : PSs X sts (tSs T W (.cons (.frz i) r)) := by
  refine pss_weak h fun D σ H ⟨B, ρ, ⟨O, rb⟩, p⟩ => ?_
  simp only [evSs, evS] at p
  split at p
  · rename_i xs e
    obtain ⟨O', rb'⟩ := rb.freeze e
    exact ⟨B, _, ⟨O', rb'⟩, p⟩
  · exact ⟨B, ρ, ⟨O, rb⟩, p⟩
  · exact False.elim p
theorem a_app (A : AtS X T W N sc) {i : Nat} {e : E} {x : Str} {y : Expr} {px apos pos p2 : Pos} (n : NOk X i x) (h : PE X y (tE T W e)) (hy : shp y = true) (hl : (apos.endLine == pos.line) = true) : PS X (.Expr (.Call (.Attribute (.Name x px) "append" apos) [y] [] pos) p2) (tS T W (.app i e)) := by
  have st : starEach [y] X.env = (false, eval y X.env) :: starEach [] X.env := shp_star hy
  refine ps_weak (ps_expr (pe_bm PySem.F.plainAttrs_list PySem.F.slot_list_append PySem.F.type_list_append mt_append (pe_var (i := i) n.ix (Loc.vis n.loc) n.n1 n.n2) (pa1 h hy) rfl (by rw [st]; rfl) hl st rfl) rfl) fun D σ H ⟨B, ρ, ⟨O, r⟩, p⟩ => ?_
  simp only [evS] at p
  split at p
  · rename_i xs q
    obtain ⟨a, vs, k1, k2, k3, k4⟩ := r.rl.at_ i _ q
    refine ⟨.ref a, k1, .inl ⟨rfl, _, SqL.of k3⟩, ?_⟩
    refine tE_st r p fun d w H1 e1 dv p1 => ?_
    by_cases hz : xs.length < line
    · rw [if_pos hz] at p1
      refine ⟨a, vs, w, rfl, rfl, e1.at k3 fun _ z => (nomatch z), by rw [← k4.length, ← line_eq]; exact hz, ?_⟩
      exact p1 _ _ ⟨O, (r.mono e1).change q k1 (e1.at k3 fun _ z => (nomatch z)) k2 ((k4.mono (hide_mono e1)).append (.cons dv .nil))⟩
    · rw [if_neg hz] at p1
      exact False.elim p1
  · exact False.elim p
theorem a_ins (A : AtS X T W N sc) {i : Nat} {e1 e2 : E} {x : Str} {y z : Expr} {px apos pos p2 : Pos} (n : NOk X i x) (h1 : PE X y (tE T W e1)) (h2 : PE X z (tE T W e2)) (hy : shp y = true) (hz : shp z = true) (hl : (apos.endLine == pos.line) = true) : PS X (.Expr (.Call (.Attribute (.Name x px) "insert" apos) [y, z] [] pos) p2) (tS T W (.ins i e1 e2)) := by
  have st2 : starEach [z] X.env = (false, eval z X.env) :: starEach [] X.env := shp_star hz
  have st : starEach [y, z] X.env = (false, eval y X.env) :: starEach [z] X.env := shp_star hy
  refine ps_weak (ps_expr (pe_bm PySem.F.plainAttrs_list PySem.F.slot_list_insert PySem.F.type_list_insert mt_insert (pe_var (i := i) n.ix (Loc.vis n.loc) n.n1 n.n2) (pa2 h1 h2 hy hz) rfl (by rw [st, st2]; rfl) hl st (by rw [st2]; rfl)) rfl) fun D σ H ⟨B, ρ, ⟨O, r⟩, p⟩ => ?_
  simp only [evS] at p
  split at p
  · rename_i xs q
    obtain ⟨a, vs, k1, k2, k3, k4⟩ := r.rl.at_ i _ q
    refine ⟨.ref a, k1, .inl ⟨rfl, _, SqL.of k3⟩, ?_⟩
    refine tE_st r p fun k u H1 f1 du p1 => ?_
    have r1 := r.mono f1
    refine tE_st r1 p1 fun d w H2 f2 dv p2 => ?_
    cases du with
    | int zz =>
      simp only at p2
      split at p2
      · rename_i hc
        refine ⟨a, vs, zz, w, rfl, rfl, f2.at (f1.at k3 fun _ z => (nomatch z)) fun _ z => (nomatch z), by rw [← k4.length, ← line_eq]; exact hc.2.2, hc.1, ?_, ?_⟩
        · have h1 := hc.2.1
          have h2 := hc.2.2
          have e63 : (2 : Int) ^ 63 = 9223372036854775808 := by decide
          rw [e63]
          unfold line at h2
          omega
        · have k4' := k4.mono (hide_mono (f1.trans f2))
          rw [List.append_assoc, List.singleton_append]
          exact p2 _ _ ⟨O, (r1.mono f2).change q k1 (f2.at (f1.at k3 fun _ z => (nomatch z)) fun _ z => (nomatch z)) k2 ((k4'.take zz.toNat).append (.cons dv (k4'.drop zz.toNat)))⟩
      · exact False.elim p2
    | _ => exact False.elim p2
  · exact False.elim p
theorem swap_sole {t v : Expr} {l : Nat} {env : PySem.Env} (h : noComp v = true) : swapsWithSole [t] v l env = pure false := swap_none h
theorem a_sti (A : AtS X T W N sc) {i : Nat} {e1 e2 : E} {x : Str} {y v : Expr} {px pos p2 : Pos} (n : NOk X i x) (h1 : PE X y (tE T W e1)) (h2 : PE X v (tE T W e2)) (hv : noComp v = true) (hy : shp y = true) : PS X (.Assign [.Subscript (.Name x px) y p2] v pos) (tS T W (.sti i e1 e2)) := by
  have hw : swappedStores [.Subscript (.Name x px) y p2] v X.env = pure none := by cases v <;> rfl
  refine ps_weak (ps_asg h2 (pg_sub (pe_var (i := i) n.ix (Loc.vis n.loc) n.n1 n.n2) h1 set_list (by intro _; cases y <;> first | rfl | (cases hy))) (swap_sole hv) hw rfl) fun D σ H ⟨B, ρ, ⟨O, r⟩, p⟩ => ?_
  simp only [evS] at p
  split at p
  · rename_i xs q
    refine tE_st r p fun d w H1 f1 dv p1 => ?_
    have r1 := r.mono f1
    obtain ⟨a, vs, k1, k2, k3, k4⟩ := r1.rl.at_ i _ q
    refine ⟨.ref a, k1, ?_⟩
    refine tE_st r1 p1 fun k u H2 f2 du p2 => ?_
    cases du with
    | int z =>
      simp only at p2
      split at p2
      · rename_i j hj
        refine ⟨a, vs, z, j, rfl, rfl, f2.at k3 fun _ z => (nomatch z), by rw [← k4.length]; exact hj, ?_⟩
        exact p2 _ _ ⟨O, (r1.mono f2).change q k1 (f2.at k3 fun _ z => (nomatch z)) k2 (DVs.set (dv.mono (hide_mono f2)) j (k4.mono (hide_mono f2)))⟩
      · exact False.elim p2
    | _ => exact False.elim p2
  · exact False.elim p
theorem n_lst {es : Es} {xs : List Expr} {pos : Pos} (h : PA X xs (tEs T W es)) (hl : ∀ ds ρ, evEs es ρ = .ok ds → ds.length ≤ sizeLine) : PE X (.List xs pos) (tN T W (.lst es)) := by
  refine pe_weak (pe_lst h) fun σ H Q ⟨O, ρ, hr, p⟩ => ?_
  refine ⟨O, ρ, hr, ?_⟩
  simp only [evE] at p
  cases e : evEs es ρ with
  | ok ds =>
    rw [e] at p
    intro vs H' e' dv
    exact ⟨by rw [← dv.length]; exact hl ds ρ e, fun b n => p b vs H' e' n dv⟩
  | ex c => rw [e] at p; exact p
  | no => rw [e] at p; exact p
theorem n_list (A : At X T W N sc) {a : E} {x : Str} {y : Expr} {px pos : Pos} (F : FOk X "list" x) (h : Holds X T (.blt "list")) (ha : PE X y (tE T W a)) (hy : shp y = true) : PE X (.Call (.Name x px) [y] [] pos) (tN T W (.f1 .list a)) := by
  obtain ⟨rfl, g, n1, n3⟩ := F
  refine pe_weak (pe_callTy call_list_of g h (by decide +kernel) (pa1 ha hy) n3 n1 (shp_star hy) rfl) fun σ H Q ⟨O, ρ, hr, p⟩ => ?_
  refine ⟨O, ρ, hr, ?_⟩
  simp only [evE] at p
  cases e : evE a ρ with
  | ok d =>
    rw [e] at p
    intro v H' e' dv
    cases dv with
    | lst q r => exact ⟨_, _, rfl, .inl (by rw [A.C.hK]; exact ex_sql hide_ex q), fun l hl => p l _ H' e' hl r⟩
    | tup q r => exact ⟨_, _, rfl, .inr (by rw [A.C.hK]; exact ex_sqt hide_ex q), fun l hl => p l _ H' e' hl r⟩
    | _ => exact False.elim p
  | ex c => rw [e] at p; exact p
  | no => rw [e] at p; exact p
theorem a_asgN (A : AtS X T W N sc) {i : Nat} {e : E} {x : Str} {v : Expr} {px pos : Pos} (n : NOk X i x) (h : fresh e = true → PE X v (tN T W e)) (h0 : PE X v (tE T W e)) (hv : noComp v = true) : PS X (.Assign [.Name x px] v pos) (tS T W (.asgN i e)) := by
  by_cases hf : fresh e = true
  · refine ps_weak (ps_set (i := i) (nd_ok A) n.ix n.loc (h hf) (swap_none hv) (.inl (A.fn x))) fun D σ H ⟨B, ρ, ⟨O, r⟩, p⟩ => ?_
    simp only [evS, hf, if_true] at p
    refine ⟨O, ρ, r.rl, ?_⟩
    cases q : evE e ρ with
    | ok d =>
      rw [q] at p
      cases d with
      | lst xs =>
        intro a vs H0 e0 na dv
        exact p _ _ ⟨_, (r.mono e0).take na (Ex.new na) upd_same dv i⟩
      | _ => exact False.elim p
    | ex c => rw [q] at p; exact fun H' e' => p _ _ ⟨O, r.mono e'⟩
    | no => rw [q] at p; exact False.elim p
  · refine ps_weak (ps_set (i := i) (nd_ok A) n.ix n.loc h0 (swap_none hv) (.inl (A.fn x))) fun D σ H ⟨B, ρ, ⟨O, r⟩, p⟩ => ?_
    simp only [evS, hf] at p
    refine tE_st r p fun d w H1 e1 dv p1 => ?_
    cases d <;> exact False.elim p1
/-! ### tuples taken apart -/
def gNs : List Nat → TGs
  | [] => gNil
  | i :: is => gCons (gName i) (gNs is)
theorem pgs_names (A : AtS X T W N sc) : ∀ {is : List Nat} {ts : List Expr}, chkNames N sc is ts = true → PGs X ts (gNs is) ∧ (assignEach ts X.env).length = is.length ∧ (assignEach ts X.env).findIdx? (·.1) = none
  | [], [], _ => ⟨pgs_nil, rfl, rfl⟩
  | [], t :: ts, h => by simp [chkNames] at h
  | i :: is, [], h => by simp [chkNames] at h
  | i :: is, t :: ts, h => by
    cases t with
    | Name x px =>
      simp only [chkNames, Bool.and_eq_true, decide_eq_true_eq] at h
      obtain ⟨h1, h2, h3⟩ := pgs_names A h.2
      refine ⟨pgs_cons (pg_name (i := i) (nd_ok A) (by rw [A.A.hN]; exact h.1.1) (loc_ok A.A.hs h.1.2) (.inl (A.fn x))) h1 rfl, ?_, ?_⟩
      · show (assignEach ts X.env).length + 1 = is.length + 1
        rw [h2]
      · show ((false, assign (.Name x px) X.env) :: assignEach ts X.env).findIdx? (·.1) = none
        rw [List.findIdx?_cons, h3]
        rfl
    | _ => simp [chkNames] at h
theorem gNs_read : ∀ {is : List Nat} {ds : List D} {vs : List V} {σ : L2.St} {ρ ρ' : Env} {H : Hp} {Q : L2.St → Hp → Prop}, Rb B T O σ ρ H → DVs T (hide O H) ds vs → setAll is ds ρ = some ρ' → (∀ σ', Rb B T O σ' ρ' H → Q σ' H) → gNs is vs σ H Q
  | [], ds, vs, σ, ρ, ρ', H, Q, r, dv, h, k => by
    cases dv with
    | nil =>
      simp only [setAll, Option.some.injEq] at h
      subst h
      exact ⟨rfl, k σ r⟩
    | cons _ _ => simp [setAll] at h
  | i :: is, ds, vs, σ, ρ, ρ', H, Q, r, dv, h, k => by
    cases dv with
    | nil => simp [setAll] at h
    | cons d1 d2 =>
      simp only [setAll] at h
      exact ⟨_, _, rfl, gNs_read (r.setd d1 i) d2 h k⟩
theorem setAll_len : ∀ {is : List Nat} {ds : List D} {ρ ρ' : Env}, setAll is ds ρ = some ρ' → ds.length = is.length
  | [], [], _, _, _ => rfl
  | [], _ :: _, _, _, h => by simp [setAll] at h
  | _ :: _, [], _, _, h => by simp [setAll] at h
  | i :: is, d :: ds, ρ, ρ', h => by
    simp only [setAll] at h
    rw [List.length_cons, List.length_cons, setAll_len h]
theorem par_hw {x y u w : Str} {px py pu pw pt pt2 : Pos} {kt k2} {env : PySem.Env} (hk : env.scope.kind = .function) (hx : env.scope.names.lookup x = some .local) (hy : env.scope.names.lookup y = some .local) (hxy : x ≠ y) (hl : px.line = py.line) (hu : u ≠ ("__debug__" : Str)) :
    swappedStores [.Tuple [.Name x px, .Name y py] kt pt] (.Tuple [.Name u pu, .Name w pw] k2 pt2) env = pure (some [x, y]) := by
  have e1 : env.kindOf x = some .local := hx
  have e2 : env.kindOf y = some .local := hy
  have e3 : env.blockKind = .function := by
    unfold PySem.Env.blockKind
    rw [hk]
    rfl
  have e4 : (y == x) = false := by simpa using Ne.symm hxy
  unfold swappedStores
  simp [e1, e2, e3, e4, hl, foldedForSure, constantsAlone, List.eraseDups_cons, Expr.pos]
  exact fun z => absurd z hu
theorem a_par (A : AtS X T W N sc) {i j : Nat} {es : Es} {x y u w : Str} {px py pu pw pt pt2 pos : Pos} {kt k2} (hi : N[i]? = some x) (hj : N[j]? = some y) (hij : i ≠ j) (hxy : x ≠ y) (hx : sc.names.lookup x = some .local) (hy : sc.names.lookup y = some .local) (hl : px.line = py.line) (hu : u ≠ ("__debug__" : Str)) (ha : PA X [.Name u pu, .Name w pw] (tEs T W es)) :
    PS X (.Assign [.Tuple [.Name x px, .Name y py] kt pt] (.Tuple [.Name u pu, .Name w pw] k2 pt2) pos) (tS T W (.asgT [i, j] (.tup es))) := by
  refine ps_weak (ps_par A.A.C.calm (nd_ok A) (by rw [A.A.hN]; exact hi) (by rw [A.A.hN]; exact hj) hij (by rw [A.A.hs]; exact hx) (by rw [A.A.hs]; exact hy) ha (par_hw (by rw [A.A.hs]; exact A.kind) (by rw [A.A.hs]; exact hx) (by rw [A.A.hs]; exact hy) hxy hl hu)) fun D σ H ⟨B, ρ, ⟨O, r⟩, p⟩ => ?_
  refine ⟨O, ρ, r.rl, ?_⟩
  simp only [evS, evE] at p
  cases e : evEs es ρ with
  | ok ds =>
    rw [e] at p
    intro vs H1 e1 dv
    have p : PoS B T W D (match setAll [i, j] ds ρ with | some ρ' => .nxt ρ' | none => .no) := p
    split at p
    · rename_i ρ' hs
      obtain ⟨v, ws, rfl, w2, ws2, rfl, rfl, q⟩ := gNs_read (Q := D.nx) (r.mono e1) dv hs fun σ' r' => p _ _ ⟨O, r'⟩
      exact ⟨v, w2, rfl, q⟩
    · exact False.elim p
  | ex c =>
    rw [e] at p
    exact fun H' e' => p σ H' ⟨O, r.mono e'⟩
  | no =>
    rw [e] at p
    exact p
theorem a_asgT (A : AtS X T W N sc) {is : List Nat} {e : E} {ts : List Expr} {v : Expr} {k : Nat} {p2 pos : Pos} (hn : chkNames N sc is ts = true) (h : PE X v (tE T W e)) (hv : noComp v = true) (ht : noTup v = true) : PS X (.Assign [.Tuple ts k p2] v pos) (tS T W (.asgT is e)) := by
  obtain ⟨g1, g2, g3⟩ := pgs_names A hn
  have hw : swappedStores [.Tuple ts k p2] v X.env = pure none := by cases v <;> first | rfl | (cases ht)
  refine ps_weak (ps_asg h (pg_tup A.A.C.calm g1 g2 g3) (swap_sole hv) hw rfl) fun D σ H ⟨B, ρ, ⟨O, r⟩, p⟩ => ?_
  simp only [evS] at p
  refine tE_st r p fun d w H1 e1 dv p1 => ?_
  cases dv with
  | tup q dvs =>
    simp only at p1
    split at p1
    · rename_i ρ' hs
      refine ⟨_, _, rfl, by rw [A.A.C.hK]; exact ex_sqt hide_ex q, by rw [← dvs.length]; exact setAll_len hs, ?_⟩
      exact gNs_read (r.mono e1) dvs hs fun σ' r' => p1 _ _ ⟨O, r'⟩
    · exact False.elim p1
  | _ => exact False.elim p1
theorem a_forT (A : AtS X T W N sc) {is : List Nat} {src : Src} {b : Ss} {ts : List Expr} {it : Expr} {body : List Stmt} {k0 : Nat} {p2 pos : Pos} (hn : chkNames N sc is ts = true) (hi : PI X (.Tuple ts k0 p2) it (tI T W src)) (hs : shp it = true) (hb : PSs X body (tSs T W b)) : PS X (.For (.Tuple ts k0 p2) it body [] pos) (tS T W (.forT is src b)) := by
  obtain ⟨g1, g2, g3⟩ := pgs_names A hn
  refine ps_weak (ps_for A.pass A.A.C.calm hi (pg_tup A.A.C.calm g1 g2 g3) hb (shp_fold hs)) fun De σ H ⟨B, ρ, ⟨O, r⟩, p⟩ => ?_
  simp only [evS] at p
  refine tI_st r p fun ds J H1 e1 Y p1 => ?_
  have r1 := r.mono e1
  let B1 : Act := ⟨B.H0, B.O0, (O, H1) :: B.lv⟩
  have down : ∀ {σ' ρ' H'}, RlS B1 T σ' ρ' H' → RlS B T σ' ρ' H' := fun ⟨O', q⟩ => ⟨O', q.rl, q.ex, q.sub, q.l0, q.fresh, fun p hp => q.lv p (List.mem_cons_of_mem _ hp)⟩
  have up : RlS B1 T σ ρ H1 := ⟨O, r1.rl, r1.ex, r1.sub, r1.l0, r1.fresh, fun p hp => by
    rcases List.mem_cons.mp hp with rfl | hp
    · exact Ew.refl _
    · exact r1.lv p hp⟩
  refine ⟨fun k m σ' H' => m = ds.length - k ∧ k ≤ ds.length ∧ ∃ ρ', RlS B1 T σ' ρ' H' ∧ PoS B T W De (forGo (stepT is fun ρ' => evSs b ρ') (ds.drop k) ρ'), ⟨_, rfl, Nat.zero_le _, ρ, up, p1⟩, ?_⟩
  rintro k m σ' H' ⟨rfl, hk, ρ', ⟨O', r'⟩, p'⟩
  obtain ⟨Yi, Ye⟩ := Y k O' H' (r'.lv (O, H1) List.mem_cons_self) r'.rl.live
  by_cases hlt : k < ds.length
  · have hd : ds[k]? = some ds[k] := List.getElem?_eq_getElem hlt
    obtain ⟨Yg, Yy⟩ := Yi _ hd
    rw [List.drop_eq_getElem_cons hlt] at p'
    refine .inr ⟨Yg, fun σ2 H2 => ∃ ρ2, RlS B1 T σ2 ρ2 H2 ∧ PoS B T W De (forGo (stepT is fun ρ' => evSs b ρ') (ds.drop (k + 1)) ρ2), fun σ2 H2 q => ⟨ds.length - (k + 1), by omega, rfl, hlt, q⟩, fun v H2 y => ?_⟩
    obtain ⟨e2, dv⟩ := Yy v H2 y
    have p' : PoS B T W De (thenO (stepT is (fun ρ' => evSs b ρ') ds[k] ρ') (forGo (stepT is fun ρ' => evSs b ρ') (ds.drop (k + 1)))) := p'
    generalize ds[k] = dk at dv p'
    cases dv with
    | tup q dvs =>
      have p' : PoS B T W De (thenO (match setAll is _ ρ' with
        | some ρ2 => evSs b ρ2
        | none => .no) (forGo (stepT is fun ρ' => evSs b ρ') (ds.drop (k + 1)))) := p'
      split at p'
      · rename_i ρ2 hsa
        refine ⟨_, _, rfl, by rw [A.A.C.hK]; exact ex_sqt hide_ex q, by rw [← dvs.length]; exact setAll_len hsa, ?_⟩
        refine gNs_read (r'.mono e2) dvs hsa fun σ2 r2 => ?_
        refine ⟨B1, ρ2, ⟨O', r2⟩, ?_⟩
        cases ev : evSs b ρ2 with
        | nxt ρ3 =>
          rw [ev] at p'
          exact fun σ3 H3 r3 => ⟨ρ3, r3, p'⟩
        | ret d => rw [ev] at p'; exact p'
        | retF d => rw [ev] at p'; exact p'
        | ex c ρ3 => rw [ev] at p'; exact fun σ3 H3 r3 => p' σ3 H3 (down r3)
        | no => rw [ev] at p'; exact p'
      · exact False.elim p'
    | _ => exact False.elim p'
  · have hkl : k = ds.length := by omega
    subst hkl
    rw [List.drop_length] at p'
    exact .inl ⟨Ye (Nat.le_refl _), p' _ _ (down ⟨O', r'⟩)⟩
/-! ### try -/
theorem AtS.tr (A : AtS X T W N sc) {pn : List (Addr × Obj)} {xe : Value → Shared → Prop} {W' : WX} (tk : Takes (X.tr pn xe) W') (hp : PassesOwn (model X.prog X.w) X.A X.env xe) : AtS (X.tr pn xe) T W' N sc :=
  ⟨⟨⟨A.A.C.hK, A.A.C.calm, A.A.C.units, A.A.C.exT, A.A.C.exI, A.A.C.exV, A.A.C.exN, A.A.C.exF, A.A.C.exM, A.A.C.dig⟩, A.A.hN, A.A.nd, A.A.hs, tk⟩, A.fn, hp, A.stk, A.fr, A.ex, A.kind⟩
theorem a_try (A : AtS X T W N sc) {b : Ss} {nm : String} {i j : Nat} {x n y : Str} {body : List Stmt} {np yp np2 ap pos pos' : Pos} (F : FOk X nm x) (h : Holds X T (.flt nm)) (hi : N[i]? = some n) (hln : sc.names.lookup n = some .local) (hn : okName n = true) (hy : NOk X j y)
    (hb : ∀ (W' : WX) (pn : List (Addr × Obj)) (xe : Value → Shared → Prop), AtS (X.tr pn xe) T W' N sc → PSs (X.tr pn xe) body (tSs T W' b)) :
    PS X (.Try body [.ExceptHandler (some (.Name x np)) (some n) [.Assign [.Name y yp] (.Name n np2) ap] pos'] [] [] pos) (tS T W (.tryx b nm i j)) := by
  obtain ⟨rfl, g, n1, n3⟩ := F
  have hln' : X.env.kindOf n = some .local := by
    show X.env.scope.names.lookup n = some .local
    rw [A.A.hs]
    exact hln
  refine ps_weak (ps_try_hold (T := T) (i := i) (j := j) (tb := fun W' => tSs T W' b) A.A.C A.stk A.fr A.ex (nd_ok A) (by rw [A.A.hN]; exact hi) hln' hy.ix hy.loc A.fn hn ⟨g, n1, .inl h⟩ (fun W' pn xe tk hp => hb W' pn xe (A.tr tk hp))) fun D σ H ⟨B, ρ, r, p⟩ => ?_
  simp only [evS] at p
  refine ⟨B, ρ, r, ?_⟩
  cases ev : evSs b ρ with
  | nxt ρ' => rw [ev] at p; exact p
  | ret d => rw [ev] at p; exact p
  | retF d => rw [ev] at p; exact p
  | no => rw [ev] at p; exact p
  | ex c ρ' =>
    rw [ev] at p
    intro σ' H' ⟨O', r'⟩ hc
    refine ⟨c, hc, rfl, rfl, fun a na => p _ _ ⟨O', ?_⟩⟩
    have r2 := r'.mono (Ex.new (o := ExH (.ref (T.exc c)) a) na)
    have nO := live_new r'.rl.live na
    have dv : DV T (hide O' (upd H' a (ExH (.ref (T.exc c)) a))) (.exc c) (.ref a) := .exc hc (by rw [hide_out nO]; exact upd_same)
    by_cases hij : i = j
    · subst hij
      have e1 : ((σ'.set i (some (.ref a))).set i (some (.ref a))).set i none = σ'.set i none := by simp
      have e2 : (ρ'.set i (.dat (.exc c))).set i .un = ρ'.set i .un := by simp
      rw [e1, e2]
      exact r2.setn i none
    · have e1 : ((σ'.set i (some (.ref a))).set j (some (.ref a))).set i none = (σ'.set j (some (.ref a))).set i none := by
        rw [List.set_comm _ _ hij, List.set_set]
      rw [e1]
      exact (r2.setd dv j).setn i none
theorem a_tryk (A : AtS X T W N sc) {b : Ss} {nm : String} {i j k : Nat} {c1 c2 c3 : Cl} {x n y x1 x2 x3 z1 z2 z3 : Str} {body : List Stmt} {np yp ap pos pos' tp q1 q2 q3 m1 m2 m3 r1 r2 r3 s1 s2 s3 : Pos} (F : FOk X nm x) (h : Holds X T (.flt nm)) (hi : N[i]? = some n) (hln : sc.names.lookup n = some .local) (hn : okName n = true) (hy : NOk X j y)
    (hI : Holds X T (.blt "isinstance")) (F1 : FOk X "isinstance" x1) (F2 : FOk X "isinstance" x2) (F3 : FOk X "isinstance" x3) (G1 : FOk X (nmCl c1) z1) (G2 : FOk X (nmCl c2) z2) (G3 : FOk X (nmCl c3) z3) (k1 : clNeed (Holds X T) c1) (k2 : clNeed (Holds X T) c2) (k3 : clNeed (Holds X T) c3) (l1 : clx c1 = true) (l2 : clx c2 = true) (l3 : clx c3 = true)
    (hb : ∀ (W' : WX) (pn : List (Addr × Obj)) (xe : Value → Shared → Prop), AtS (X.tr pn xe) T W' N sc → PSs (X.tr pn xe) body (tSs T W' b)) :
    PS X (.Try body [.ExceptHandler (some (.Name x np)) (some n) [.Assign [.Name y yp] (.Tuple [.Call (.Name x1 q1) [.Name n m1, .Name z1 r1] [] s1, .Call (.Name x2 q2) [.Name n m2, .Name z2 r2] [] s2, .Call (.Name x3 q3) [.Name n m3, .Name z3 r3] [] s3] k tp) ap] pos'] [] [] pos) (tS T W (.tryk b nm i j c1 c2 c3)) := by
  obtain ⟨rfl, g, n1, n3⟩ := F
  have hln' : X.env.kindOf n = some .local := by
    show X.env.scope.names.lookup n = some .local
    rw [A.A.hs]
    exact hln
  refine ps_weak (ps_try_kinds (T := T) (i := i) (j := j) (tb := fun W' => tSs T W' b) A.A.C A.stk A.fr (nd_ok A) (by rw [A.A.hN]; exact hi) hln' hy.ix hy.loc A.fn hn ⟨g, n1, .inl h⟩ hI F1 F2 F3 G1 G2 G3 k1 k2 k3 l1 l2 l3 (fun W' pn xe tk hp => hb W' pn xe (A.tr tk hp))) fun D σ H ⟨B, ρ, r, p⟩ => ?_
  simp only [evS] at p
  refine ⟨B, ρ, r, ?_⟩
  cases ev : evSs b ρ with
  | nxt ρ' => rw [ev] at p; exact p
  | ret d => rw [ev] at p; exact p
  | retF d => rw [ev] at p; exact p
  | no => rw [ev] at p; exact p
  | ex c ρ' =>
    rw [ev] at p
    intro σ' H' ⟨O', r'⟩ hc
    simp only at p
    split at p
    · rename_i t1 t2 t3 i1 i2 i3
      refine ⟨true, A.A.C.exF c hc, fun _ a na => ⟨c, hc, rfl, rfl, ⟨σ', rfl⟩, t1, t2, t3, i1, i2, i3, fun q nq => ?_⟩, fun z => nomatch z⟩
      refine p _ _ ⟨O', ?_⟩
      have r2 := r'.mono (Ex.new (o := .tup [.bl t1, .bl t2, .bl t3]) nq)
      have nO := live_new r'.rl.live nq
      have dv : DV T (hide O' (upd H' q (.tup [.bl t1, .bl t2, .bl t3]))) (.tup [.bl t1, .bl t2, .bl t3]) (.ref q) := .tup (SqT.of (by rw [hide_out nO]; exact upd_same)) (.cons (.bl _) (.cons (.bl _) (.cons (.bl _) .nil)))
      by_cases hij : i = j
      · subst hij
        have e1 : ((σ'.set i (some (.ref a))).set i (some (.ref q))).set i none = σ'.set i none := by simp
        have e2 : (ρ'.set i (.dat (.tup [.bl t1, .bl t2, .bl t3]))).set i .un = ρ'.set i .un := by simp
        rw [e1, e2]
        exact r2.setn i none
      · have e1 : ((σ'.set i (some (.ref a))).set j (some (.ref q))).set i none = (σ'.set j (some (.ref q))).set i none := by
          rw [List.set_comm _ _ hij, List.set_set]
        rw [e1]
        exact (r2.setd dv j).setn i none
    · exact False.elim p
end
end MP

set_option Elab.async false
set_option linter.all false
set_option maxRecDepth 100000
set_option maxHeartbeats 16000000
set_option autoImplicit false
/-! MPJ: statements, put together; a def's promise. -/
namespace MP
open PySem L2
open PyProof.Rows hiding St

section
variable {T : Tab}
theorem fresh_pe {X : Cx} {W : WX} {N : List Str} {sc : Scope} (A : At X T W N sc) (e : E) (v : Expr) (h : chkE N sc e v = true) (o : okE (Holds X T) e) (hf : fresh e = true) : PE X v (tN T W e) := by
  cases e with
  | lst es =>
    simp only [chkE] at h
    split at h
    · simp only [Bool.and_eq_true, decide_eq_true_eq] at h
      exact n_lst (soundEs es _ A h.1 o).1 (lenEs_ok h.2)
    · cases h
  | callF nm f es df =>
    simp only [chkE] at h
    split at h
    · simp only [Bool.and_eq_true] at h
      have k := soundEs es _ A h.2 o.2
      exact n_callF A (chkF_ok A.hs h.1) o.1 k.1 k.2
    · cases h
  | f1 f a =>
    cases f with
    | list =>
      simp only [chkE] at h
      split at h
      · simp only [Bool.and_eq_true] at h
        exact n_list A (chkF_ok A.hs h.1.1.2) o.1 (soundE a _ A h.1.2 o.2).pe h.2
      · cases h
    | _ => cases hf
  | _ => cases hf
mutual
theorem soundS : ∀ (m : S) {X : Cx} {W : WX} {N : List Str} {sc : Scope} (st : Stmt), AtS X T W N sc → chkS N sc m st = true → okS (Holds X T) m → PS X st (tS T W m)
  | .asg i e, X, W, N, sc, st, A, h, o => by
    simp only [chkS] at h
    split at h
    · rename_i x px v pos
      simp only [Bool.and_eq_true] at h
      have n := chkN_ok A h.1
      have he := soundE e v A.A h.2 o
      by_cases hc : noComp v = true
      · exact a_asg A n he.pe (swap_none hc)
      · cases v with
        | ListComp elt gs scope p2 =>
          by_cases hw : swapB sc x px (.ListComp elt gs scope p2) = true
          · cases e with
            | lc j el src =>
              have h2 := h.2
              simp only [chkE] at h2
              split at h2
              · rename_i q
                cases q
                simp only [Bool.and_eq_true, decide_eq_true_eq] at h2
                obtain ⟨⟨⟨⟨⟨h1, h2⟩, h3⟩, h4⟩, h5⟩, h6⟩ := h2
                exact a_asgL A n h1 h2 h3 h6 (fun s H C cl fp => (soundE el _ (A.A.blk s H C cl fp) h4 (okE_imp holds_blk el o.1)).pe) (soundSrc src _ _ A.A h5 h6 o.2) hw
              · cases h2
            | lcP j k el src =>
              have h2 := h.2
              simp only [chkE] at h2
              split at h2
              · rename_i q
                cases q
                simp only [Bool.and_eq_true, decide_eq_true_eq] at h2
                obtain ⟨⟨⟨⟨⟨⟨⟨⟨h1, g1⟩, hij⟩, h2⟩, g2⟩, h3⟩, h4⟩, h5⟩, h6⟩ := h2
                exact a_asgP A n h1 g1 hij h2 g2 h3 h6 (fun s H C cl fp => (soundE el _ (A.A.blk s H C cl fp) h4 (okE_imp holds_blk el o.1)).pe) (soundSrcT src _ A.A h5 h6 o.2) hw
              · cases h2
            | lcf j el src c =>
              have h2 := h.2
              simp only [chkE] at h2
              split at h2
              · rename_i q
                cases q
                simp only [Bool.and_eq_true, decide_eq_true_eq] at h2
                obtain ⟨⟨⟨⟨⟨⟨h1, h2⟩, h3⟩, h4⟩, h5⟩, h6⟩, h7⟩ := h2
                exact a_asgF A n h1 h2 h3 h6 (fun s H C cl fp => (soundE el _ (A.A.blk s H C cl fp) h4 (okE_imp holds_blk el o.1)).pe) (fun s H C cl fp => (soundE c _ (A.A.blk s H C cl fp) h7 (okE_imp holds_blk c o.2.2)).pt) (soundSrc src _ _ A.A h5 h6 o.2.1) hw
              · cases h2
            | lcX j el src =>
              have h2 := h.2
              simp only [chkE] at h2
              split at h2
              · rename_i q
                cases q
                simp only [Bool.and_eq_true, decide_eq_true_eq] at h2
                obtain ⟨⟨⟨⟨⟨h1, h2⟩, h3⟩, h4⟩, h5⟩, h6⟩ := h2
                exact a_asgX1 A n h1 h2 h3 h6 (fun s H C cl fp xe W' tk => (soundE el _ (A.A.blkX s H _ C cl fp xe tk) h4 (okE_imp holds_blkX el o.1)).pe) (soundSrc src _ _ A.A h5 h6 o.2.1) hw
              · cases h2
            | lcXT is el src =>
              have h2 := h.2
              simp only [chkE] at h2
              split at h2
              · rename_i q
                cases q
                simp only [Bool.and_eq_true, decide_eq_true_eq] at h2
                obtain ⟨⟨⟨⟨h1, h3⟩, h4⟩, h5⟩, h6⟩ := h2
                exact a_asgX2 A n h1 h3 h6 (fun s H C cl fp xe W' tk => (soundE el _ (A.A.blkX s H _ C cl fp xe tk) h4 (okE_imp holds_blkX el o.1)).pe) (soundSrcT src _ A.A h5 h6 o.2.1) hw
              · cases h2
            | lcXF j el src c =>
              have h2 := h.2
              simp only [chkE] at h2
              split at h2
              · rename_i q
                cases q
                simp only [Bool.and_eq_true, decide_eq_true_eq] at h2
                obtain ⟨⟨⟨⟨⟨⟨h1, h2⟩, h3⟩, h4⟩, h5⟩, h6⟩, h7⟩ := h2
                exact a_asgX4 A n h1 h2 h3 h6 (fun s H C cl fp xe W' tk => (soundE el _ (A.A.blkX s H _ C cl fp xe tk) h4 (okE_imp holds_blkX el o.1)).pe) (fun s H C cl fp xe W' tk => (soundE c _ (A.A.blkX s H _ C cl fp xe tk) h7 (okE_imp holds_blkX c o.2.2.1)).pt) (soundSrc src _ _ A.A h5 h6 o.2.1) hw
              · cases h2
            | lcXC is el src c =>
              have h2 := h.2
              simp only [chkE] at h2
              split at h2
              · rename_i q
                cases q
                simp only [Bool.and_eq_true, decide_eq_true_eq] at h2
                obtain ⟨⟨⟨⟨⟨h1, h3⟩, h4⟩, h5⟩, h6⟩, h7⟩ := h2
                exact a_asgX3 A n h1 h3 h6 (fun s H C cl fp xe W' tk => (soundE el _ (A.A.blkX s H _ C cl fp xe tk) h4 (okE_imp holds_blkX el o.1)).pe) (fun s H C cl fp xe W' tk => (soundE c _ (A.A.blkX s H _ C cl fp xe tk) h7 (okE_imp holds_blkX c o.2.2.1)).pt) (soundSrcT src _ A.A h5 h6 o.2.1) hw
              · cases h2
            | _ => simp [chkE, noComp] at h
          · exact a_asg A n he.pe (swap_lc A.A.hs (by simpa using hw) A.kind)
        | SetComp _ _ _ _ => cases e <;> simp [chkE, noComp] at h
        | DictComp _ _ _ _ _ => cases e <;> simp [chkE, noComp] at h
        | _ => exact absurd rfl hc
    · cases h
  | .asgN i e, X, W, N, sc, st, A, h, o => by
    simp only [chkS] at h
    split at h
    · simp only [Bool.and_eq_true] at h
      exact a_asgN A (chkN_ok A h.1.1) (fun hf => fresh_pe A.A e _ h.1.2 o hf) (soundE e _ A.A h.1.2 o).pe h.2
    · cases h
  | .asgT is e, X, W, N, sc, st, A, h, o => by
    simp only [chkS] at h
    split at h
    · simp only [Bool.or_eq_true] at h
      rcases h with h | h
      · simp only [Bool.and_eq_true] at h
        exact a_asgT A h.1.1.1 (soundE e _ A.A h.1.1.2 o).pe h.1.2 h.2
      · unfold chkPar at h
        split at h
        · simp only [Bool.and_eq_true, decide_eq_true_eq] at h
          obtain ⟨⟨⟨⟨⟨⟨⟨⟨⟨h1, h2⟩, h3⟩, h4⟩, h5⟩, h6⟩, h7⟩, h8⟩, h9⟩, h10⟩ := h
          exact a_par A h1 h2 h3 h4 h5 h6 h7 h8 (soundEs (.cons _ (.cons _ .nil)) _ A.A (by simp [chkEs, h9, h10, shp]) o).1
        · cases h
    · cases h
  | .frz i, X, W, N, sc, st, A, h, o => by simp [chkS] at h
  | .app i e, X, W, N, sc, st, A, h, o => by
    simp only [chkS] at h
    split at h
    · simp only [Bool.and_eq_true, decide_eq_true_eq] at h
      obtain ⟨⟨⟨⟨rfl, h1⟩, h2⟩, h3⟩, h4⟩ := h
      exact a_app A (chkN_ok A h1) (soundE e _ A.A h2 o).pe h3 h4
    · cases h
  | .sti i e1 e2, X, W, N, sc, st, A, h, o => by
    simp only [chkS] at h
    split at h
    · simp only [Bool.and_eq_true] at h
      exact a_sti A (chkN_ok A h.1.1.1.1) (soundE e1 _ A.A h.1.1.1.2 o.1).pe (soundE e2 _ A.A h.1.1.2 o.2).pe h.1.2 h.2
    · cases h
  | .ins i e1 e2, X, W, N, sc, st, A, h, o => by
    simp only [chkS] at h
    split at h
    · simp only [Bool.and_eq_true, decide_eq_true_eq] at h
      obtain ⟨⟨⟨⟨⟨⟨rfl, h1⟩, h2⟩, h3⟩, h4⟩, h5⟩, h6⟩ := h
      exact a_ins A (chkN_ok A h1) (soundE e1 _ A.A h2 o.1).pe (soundE e2 _ A.A h3 o.2).pe h4 h5 h6
    · cases h
  | .retN i, X, W, N, sc, st, A, h, o => by
    simp only [chkS] at h
    split at h
    · simp only [Bool.and_eq_true, decide_eq_true_eq] at h
      exact a_retN A h.1.1 h.1.2 h.2
    · cases h
  | .ifs c a b, X, W, N, sc, st, A, h, o => by
    simp only [chkS] at h
    split at h
    · simp only [Bool.and_eq_true] at h
      exact a_if (soundE c _ A.A h.1.1 o.1).pt (soundSs a _ A h.1.2 o.2.1) (soundSs b _ A h.2 o.2.2)
    · cases h
  | .fors i src b, X, W, N, sc, st, A, h, o => by
    simp only [chkS] at h
    split at h
    · simp only [Bool.and_eq_true] at h
      exact a_for A (chkN_ok A h.1.1.1) (soundSrc src _ _ A.A h.1.1.2 h.1.2 o.1) h.1.2 (soundSs b _ A h.2 o.2)
    · cases h
  | .forT is src b, X, W, N, sc, st, A, h, o => by
    simp only [chkS] at h
    split at h
    · simp only [Bool.and_eq_true] at h
      exact a_forT A h.1.1.1 (soundSrcT src _ A.A h.1.1.2 h.1.2 o.1) h.1.2 (soundSs b _ A h.2 o.2)
    · cases h
  | .whl c b, X, W, N, sc, st, A, h, o => by
    simp only [chkS] at h
    split at h
    · simp only [Bool.and_eq_true] at h
      exact a_whl A (soundE c _ A.A h.1 o.1).pt (soundSs b _ A h.2 o.2)
    · cases h
  | .ret e, X, W, N, sc, st, A, h, o => by
    simp only [chkS] at h
    split at h
    · exact a_ret (soundE e _ A.A h o).pe
    · cases h
  | .rse nm c, X, W, N, sc, st, A, h, o => by
    simp only [chkS] at h
    split at h
    · exact a_rse A (chkF_ok A.A.hs h) o
    · cases h
  | .retA a b, X, W, N, sc, st, A, h, o => by
    simp only [chkS] at h
    split at h
    · simp only [Bool.and_eq_true] at h
      exact a_retA A (soundE a _ A.A h.1 o.1).pe (soundE b _ A.A h.2 o.2).pe
    · cases h
  | .drp e, X, W, N, sc, st, A, h, o => by
    simp only [chkS] at h
    split at h
    · simp only [Bool.and_eq_true] at h
      exact a_drp (soundE e _ A.A h.1 o).pe h.2
    · cases h
  | .pas, X, W, N, sc, st, A, h, o => by
    simp only [chkS] at h
    split at h
    · exact a_pas
    · cases h
  | .tryx b nm i j, X, W, N, sc, st, A, h, o => by
    simp only [chkS] at h
    split at h
    · simp only [Bool.and_eq_true, decide_eq_true_eq] at h
      obtain ⟨⟨⟨⟨⟨⟨h1, h2⟩, rfl⟩, h4⟩, h5⟩, h6⟩, h7⟩ := h
      exact a_try A (chkF_ok A.A.hs h2) o.2 h4 h5 h6 (chkN_ok A h7) fun W' pn xe A' => soundSs b _ A' h1 o.1
    · cases h
  | .tryk b nm i j c1 c2 c3, X, W, N, sc, st, A, h, o => by
    simp only [chkS] at h
    split at h
    · simp only [Bool.and_eq_true, decide_eq_true_eq] at h
      obtain ⟨⟨⟨⟨⟨⟨⟨⟨⟨⟨⟨⟨⟨⟨⟨⟨⟨h1, h2⟩, rfl⟩, rfl⟩, rfl⟩, h4⟩, h5⟩, h6⟩, h7⟩, f1⟩, f2⟩, f3⟩, g1⟩, g2⟩, g3⟩, l1⟩, l2⟩, l3⟩ := h
      obtain ⟨o1, o2, o3, o4, o5, o6⟩ := o
      exact a_tryk A (chkF_ok A.A.hs h2) o2 h4 h5 h6 (chkN_ok A h7) o3 (chkF_ok A.A.hs f1) (chkF_ok A.A.hs f2) (chkF_ok A.A.hs f3) (chkF_ok A.A.hs g1) (chkF_ok A.A.hs g2) (chkF_ok A.A.hs g3) o4 o5 o6 l1 l2 l3 fun W' pn xe A' => soundSs b _ A' h1 o1
    · cases h
theorem soundSs : ∀ (m : Ss) {X : Cx} {W : WX} {N : List Str} {sc : Scope} (sts : List Stmt), AtS X T W N sc → chkSs N sc m sts = true → okSs (Holds X T) m → PSs X sts (tSs T W m)
  | .nil, X, W, N, sc, sts, A, h, o => by
    simp only [chkSs] at h
    split at h
    · exact pss_weak pss_nil fun De σ H ⟨B, ρ, r, p⟩ => p _ _ r
    · cases h
  | .cons s r, X, W, N, sc, sts, A, h, o => by
    by_cases hz : ∃ i, s = .frz i
    · obtain ⟨i, rfl⟩ := hz
      simp only [chkSs] at h
      exact a_frz (soundSs r _ A h o.2)
    · obtain ⟨st, ss, rfl, h1, h2⟩ : ∃ st ss, sts = st :: ss ∧ chkS N sc s st = true ∧ chkSs N sc r ss = true := by
        cases sts with
        | nil => cases s <;> first | exact (hz ⟨_, rfl⟩).elim | simp [chkSs] at h
        | cons st ss =>
          refine ⟨st, ss, rfl, ?_⟩
          cases s <;> first | exact (hz ⟨_, rfl⟩).elim | (simp only [chkSs, Bool.and_eq_true] at h; exact h)
      refine pss_weak (pss_cons (soundS s _ A h1 o.1) (soundSs r _ A h2 o.2)) fun De σ H ⟨B, ρ, rr, p⟩ => ?_
      refine ⟨B, ρ, rr, ?_⟩
      simp only [evSs] at p
      cases ev : evS s ρ with
      | nxt ρ' => rw [ev] at p; exact fun σ' H' r' => ⟨B, ρ', r', p⟩
      | ret d => rw [ev] at p; exact p
      | retF d => rw [ev] at p; exact p
      | ex c ρ' => rw [ev] at p; exact p
      | no => rw [ev] at p; exact p
end
end

/-- the facts of the written part and the names that the whole text leans on -/
structure Facts (K : PySem.W.Frag) (T : Tab) : Prop where
  hK : K = T.K
  exT : ∀ c ∈ T.exs, ExcC K (T.exc c)
  exI : ∀ c ∈ T.exs, ∀ d ∈ T.exs, PySem.W.kitOne K (.ref (T.exc c)) (.ref (T.exc d)) = some (c == d)
  exV : ∀ c ∈ T.exs, PySem.W.kitOne K (.ref (T.exc c)) (.type "ValueError") = some true
  exN : ∀ c ∈ T.exs, PySem.W.kitOne K (.type "NoneType") (.ref (T.exc c)) = some false
  exF : ∀ c ∈ T.exs, PySem.W.exmOne K (.ref (T.exc c)) (.ref T.flt) = some true
  exM : ∀ c ∈ T.exs, PySem.W.excIn K (T.exc c) [.type "ValueError", .type "Exception", .type "BaseException", .type "object"] "ValueError.__new__" = true ∧ PySem.W.keepIn K (.ref (T.exc c)) = true ∧ PySem.W.typeIn K (.ref (T.exc c)) = some (.type "type")
  dig : PySem.W.nsIn K cStatics "sys.int_max_str_digits" = some none
section
variable {P : Program} {w : World} {K : PySem.W.Frag} {mg : Str → Option Value} {base : Heap} {T : Tab}
theorem start_read {T : Tab} {O : List Addr} {H : Hp} {ds : List D} {vs : List V} (r : DVs T (hide O H) ds vs) (l : Lv T O H) (n : Nat) (N : List Str) (hn : N.length = n) (hl : ds.length ≤ n) : Rb ⟨H, O, []⟩ T O (start N vs) (ds.map .dat ++ List.replicate (n - ds.length) .un) H := by
  have hv := r.length
  have e : start N vs = vs.map some ++ List.replicate (N.length - vs.length) none := rfl
  refine ⟨⟨l, ?_, fun i s q => ?_, fun i j xs ys a h1 h2 h3 h4 => ?_⟩, Ex.refl _, fun a ha => ha, l.1, fun i xs a h1 h2 => ?_, fun p hp => by cases hp⟩
  · rw [e, List.length_append, List.length_append, List.length_map, List.length_map, List.length_replicate, List.length_replicate, hn]
    omega
  · by_cases hi : i < ds.length
    · rw [List.getElem?_append_left (by simpa using hi), List.getElem?_map] at q
      cases hd : ds[i]? with
      | none => rw [hd] at q; cases q
      | some d =>
        rw [hd] at q
        cases q
        obtain ⟨v, h1, h2⟩ := r.get hd
        refine ⟨v, ?_, h2⟩
        rw [e, List.getElem?_append_left (by rw [List.length_map]; omega), List.getElem?_map, h1]
        rfl
    · rw [List.getElem?_append_right (by simpa using hi)] at q
      rw [List.getElem?_replicate] at q
      split at q
      · cases q
        trivial
      · cases q
  · exfalso
    by_cases hi : i < ds.length
    · rw [List.getElem?_append_left (by simpa using hi), List.getElem?_map] at h1
      cases hd : ds[i]? with
      | none => rw [hd] at h1; cases h1
      | some d => rw [hd] at h1; cases h1
    · rw [List.getElem?_append_right (by simpa using hi), List.getElem?_replicate] at h1
      split at h1 <;> cases h1
  · exfalso
    by_cases hi : i < ds.length
    · rw [List.getElem?_append_left (by simpa using hi), List.getElem?_map] at h1
      cases hd : ds[i]? with
      | none => rw [hd] at h1; cases h1
      | some d => rw [hd] at h1; cases h1
    · rw [List.getElem?_append_right (by simpa using hi), List.getElem?_replicate] at h1
      split at h1 <;> cases h1
/-- what a body at level k may lean on, by names -/
def Need.At (P : Program) (w : World) (K : PySem.W.Frag) (mg : Str → Option Value) (base : Heap) (T : Tab) (k : Nat) : Need → Prop
  | .fn nm f df => ∃ fa fd ps dvs ds, mg (Str.ofString nm) = some (.ref fa) ∧ PySem.W.keepIn K (.ref fa) = true ∧ FnOk P w K mg base (L2.CX P w) k fa fd ps (spF T f) ∧ Binds K fd ps ds ∧ Vals dvs ds ∧ ∀ H, DVs T H df dvs
  | .fnF nm f df => ∃ fa fd ps dvs ds, mg (Str.ofString nm) = some (.ref fa) ∧ PySem.W.keepIn K (.ref fa) = true ∧ FnOk P w K mg base (L2.CX P w) k fa fd ps (spN T f) ∧ Binds K fd ps ds ∧ Vals dvs ds ∧ ∀ H, DVs T H df dvs
  | .fnL nm f df => ∃ j fa fd ps dvs ds, j + 3 ≤ k ∧ mg (Str.ofString nm) = some (.ref fa) ∧ PySem.W.keepIn K (.ref fa) = true ∧ FnOk P w K mg base (L2.CX P w) j fa fd ps (spF T f) ∧ Binds K fd ps ds ∧ Vals dvs ds ∧ ∀ H, DVs T H df dvs
  | .lam => False
  | .outs => True
  | .exc nm c => mg (Str.ofString nm) = some (.ref (T.exc c)) ∧ c ∈ T.exs
  | .blt nm => mg (Str.ofString nm) = none
  | .glo nm d => ∃ v u, mg (Str.ofString nm) = some u ∧ RelV v u ∧ ∀ H, DV T H d v
  | .flt nm => mg (Str.ofString nm) = some (.ref T.flt)
  | .iso nm c => mg (Str.ofString nm) = some (.ref (T.obj c)) ∧ ∀ e ∈ T.objs, IsoC K (T.obj e) ∧ PySem.W.kitOne K (.ref (T.obj e)) (.ref (T.obj c)) = some (e == c)
  | .isw nm => ∃ aw, mg (Str.ofString nm) = some (.ref aw) ∧ ∀ e ∈ T.objs, IsoC K (T.obj e) ∧ PySem.W.kitOne K (.ref (T.obj e)) (.ref aw) = some true
  | .cls nm c => mg (Str.ofString nm) = some (.ref (T.obj c)) ∧ c ∈ T.objs ∧ Mk0 K (T.obj c)
  | .meth m tbl => ∀ c ∈ T.objs, ∃ f fd ps, Cls K (T.obj c) ∧ Meth K (T.obj c) (Str.ofString m) f ∧ FnOk P w K mg base (L2.CX P w) k f fd ps (spF T (tbl c)) ∧ Binds K fd ps []
mutual
theorem okS_imp {Φ Ψ : Need → Prop} (h : ∀ n, Φ n → Ψ n) : ∀ m : S, okS Φ m → okS Ψ m
  | .asg _ e, o => okE_imp h e o
  | .asgN _ e, o => okE_imp h e o
  | .asgT _ e, o => okE_imp h e o
  | .frz _, _ => trivial
  | .retN _, _ => trivial
  | .retA a b, o => ⟨okE_imp h a o.1, okE_imp h b o.2⟩
  | .app _ e, o => okE_imp h e o
  | .sti _ a b, o => ⟨okE_imp h a o.1, okE_imp h b o.2⟩
  | .ins _ a b, o => ⟨okE_imp h a o.1, okE_imp h b o.2⟩
  | .ifs c a b, o => ⟨okE_imp h c o.1, okSs_imp h a o.2.1, okSs_imp h b o.2.2⟩
  | .fors _ src b, o => ⟨okSrc_imp h src o.1, okSs_imp h b o.2⟩
  | .forT _ src b, o => ⟨okSrc_imp h src o.1, okSs_imp h b o.2⟩
  | .whl c b, o => ⟨okE_imp h c o.1, okSs_imp h b o.2⟩
  | .ret e, o => okE_imp h e o
  | .rse _ _, o => h _ o
  | .drp e, o => okE_imp h e o
  | .pas, _ => trivial
  | .tryx b _ _ _, o => ⟨okSs_imp h b o.1, h _ o.2⟩
  | .tryk b _ _ _ c1 c2 c3, o => ⟨okSs_imp h b o.1, h _ o.2.1, h _ o.2.2.1, clNeed_imp h c1 o.2.2.2.1, clNeed_imp h c2 o.2.2.2.2.1, clNeed_imp h c3 o.2.2.2.2.2⟩
theorem okSs_imp {Φ Ψ : Need → Prop} (h : ∀ n, Φ n → Ψ n) : ∀ m : Ss, okSs Φ m → okSs Ψ m
  | .nil, _ => trivial
  | .cons s r, o => ⟨okS_imp h s o.1, okSs_imp h r o.2⟩
end
/-- THE RULE for a def: its text passes the look, what it leans on is there: it comes to run n np b -/
theorem def_ok {x qual : Str} {st : Stmt} {f : Addr} {fd : FuncData} {N ps : List Str} {k np : Nat} {b : Ss} (hF : ∃ (oc : Value) (od : Option Addr) (dV kV doc pm : Value) (an : Option Addr) (cdv ct : Value) (osl : Array (Option Value)),
    fd = PySem.W.fnOf x qual (defArgs st) (defBody st) (defScope st) dV kV doc pm an cdv ct ∧ K.lookup f = some ⟨oc, od, .func fd, osl⟩ ∧ PySem.W.codeIn K cdv qual = true)
    (S : FnScope N ps (defScope st)) (C : Facts K T) (hc : chkSs N (defScope st) b (defBody st) = true) (hps : ps.length = np) (ok : okSs (Need.At P w K mg base T k) b) : FnOk P w K mg base (L2.CX P w) (k + 1) f fd ps (spF T (run N.length np b)) := by
  obtain ⟨oc, od, dV, kV, doc, pm, an, cdv, ct, osl, rfl, lk, hcd⟩ := hF
  have pl : ps.length ≤ N.length := by have := congrArg List.length S.pre; rw [List.length_take] at this; omega
  refine fn_of lk hcd S (fun vs H Q E h => ?_) (fun A outer s H vs Q E hr h => ?_)
  · obtain ⟨O, ds, l, r, m⟩ := h
    unfold run at m
    by_cases hl : ds.length = np
    · rw [← r.length, hl, hps]
    · rw [if_neg hl] at m
      exact False.elim m
  · obtain ⟨O, ds, l, r, m⟩ := h
    unfold run at m
    have hl : ds.length = np := by
      by_cases hl : ds.length = np
      · exact hl
      · rw [if_neg hl] at m
        exact False.elim m
    rw [if_pos hl] at m
    generalize hX : cxOf (L2.CX P w) P w K mg base N qual (defScope st) f cdv A outer s H E = X at *
    have xA : X.A = A.deeper (envOfC qual (defScope st) s.heap.objs.size f cdv) := by rw [← hX]; rfl
    have W0 : Takes X (fun cls d _ H => E cls d H) := by
      rw [← hX]
      exact takes_of rfl rfl rfl rfl
    have At0 : AtS X T (fun cls d _ H => E cls d H) N (defScope st) := by
      refine ⟨⟨⟨?_, ?_, ?_, ?_, ?_, ?_, ?_, ?_, ?_, ?_⟩, ?_, S.nd, ?_, W0⟩, ?_, ?_, ?_, ?_, ?_, S.kind⟩
      · rw [← hX]; exact C.hK
      · rw [← hX]; rfl
      · rw [xA]
        have := hr.un
        omega
      · rw [← hX]; exact C.exT
      · rw [← hX]; exact C.exI
      · rw [← hX]; exact C.exV
      · rw [← hX]; exact C.exN
      · rw [← hX]; exact C.exF
      · rw [← hX]; exact C.exM
      · rw [← hX]; exact C.dig
      · rw [← hX]; rfl
      · rw [← hX]; rfl
      · rw [← hX]; exact fun _ => rfl
      · rw [← hX]; exact passes_of (K := fun e s' => L2.CX P w outer H s E e s') (E₁ := fun e s' => L2.CX P w outer H s E e s') rfl
      · rw [← hX]; rfl
      · rw [← hX]; rfl
      · rw [← hX]; rfl
    have holds : okSs (Holds X T) b := by
      refine okSs_imp (fun n hn => ?_) b ok
      cases n with
      | fn nm f df =>
        obtain ⟨fa, fd, ps, dvs, ds, h1, h2, h3, h4, h5, h6⟩ := hn
        refine ⟨k, fa, fd, ps, dvs, ds, ?_, ?_, ?_, ?_, ?_, h5, h6⟩
        · rw [xA]; exact hr
        · rw [← hX]; exact h1
        · rw [← hX]; exact h2
        · rw [← hX]; exact h3
        · rw [← hX]; exact h4
      | fnF nm f df =>
        obtain ⟨fa, fd, ps, dvs, ds, h1, h2, h3, h4, h5, h6⟩ := hn
        refine ⟨k, fa, fd, ps, dvs, ds, ?_, ?_, ?_, ?_, ?_, h5, h6⟩
        · rw [xA]; exact hr
        · rw [← hX]; exact h1
        · rw [← hX]; exact h2
        · rw [← hX]; exact h3
        · rw [← hX]; exact h4
      | fnL nm f df =>
        obtain ⟨j, fa, fd, ps, dvs, ds, h0, h1, h2, h3, h4, h5, h6⟩ := hn
        refine ⟨j, fa, fd, ps, dvs, ds, ?_, ?_, ?_, ?_, ?_, h5, h6⟩
        · rw [xA]; exact hr.mono h0
        · rw [← hX]; exact h1
        · rw [← hX]; exact h2
        · rw [← hX]; exact h3
        · rw [← hX]; exact h4
      | lam => exact False.elim hn
      | outs => exact ⟨At0.fr, At0.stk⟩
      | exc nm c => exact ⟨by rw [← hX]; exact hn.1, hn.2⟩
      | blt nm => show X.mg _ = none; rw [← hX]; exact hn
      | glo nm d =>
        obtain ⟨v, u, h1, h2, h3⟩ := hn
        exact ⟨v, u, by rw [← hX]; exact h1, h2, h3⟩
      | flt nm => show X.mg _ = _; rw [← hX]; exact hn
      | cls nm c => rw [← hX]; exact hn
      | iso nm c => rw [← hX]; exact hn
      | isw nm => rw [← hX]; exact hn
      | meth m tbl =>
        intro c hc
        obtain ⟨f, fd, ps, h1, h2, h3, h4⟩ := hn c hc
        exact ⟨k, f, fd, ps, by rw [xA]; exact hr, by rw [← hX]; exact h1, by rw [← hX]; exact h2, by rw [← hX]; exact h3, by rw [← hX]; exact h4⟩
    refine ⟨_, soundSs b _ At0 hc holds, ⟨H, O, []⟩, ds.map .dat ++ List.replicate (N.length - np) .un, ⟨O, ?_⟩, ?_⟩
    · rw [← hl]
      exact start_read r l N.length N rfl (by omega)
    · cases ev : evSs b (ds.map .dat ++ List.replicate (N.length - np) .un) with
      | nxt ρ' =>
        rw [ev] at m
        exact fun σ' H' ⟨O', r'⟩ => m .non H' r'.ex .non
      | ret d =>
        rw [ev] at m
        exact fun v H' e dv => m v H' e dv
      | retF xs =>
        rw [ev] at m
        exact fun a us H' e n hl dv => m _ H' e (.lst (SqL.of (by rw [hide_out (live_new l n)]; exact hl)) (dv.mono (hide_sub fun c hc => List.mem_cons_of_mem _ hc)))
      | ex c ρ' =>
        rw [ev] at m
        exact fun σ' H' ⟨O', r'⟩ hc => m H' r'.ex hc
      | no => rw [ev] at m; exact False.elim m
/-- .. that tells a list of its own making -/
theorem def_okNL {x qual : Str} {st : Stmt} {f : Addr} {fd : FuncData} {N ps : List Str} {k np : Nat} {b : Ss} {oc : Value} {od : Option Addr} {dV kV doc pm : Value} {an : Option Addr} {cdv ct : Value} {osl : Array (Option Value)}
    (lk : K.lookup f = some ⟨oc, od, .func fd, osl⟩) (efd : fd = PySem.W.fnOf x qual (defArgs st) (defBody st) (defScope st) dV kV doc pm an cdv ct) (hcd : PySem.W.codeIn K cdv qual = true)
    (S : FnScope N ps (defScope st)) (C : Facts K T) (hc : chkSs N (defScope st) b (defBody st) = true) (hps : ps.length = np) (hn : onlyFs b = true) (ok : okSs (fun n => Need.At P w K mg base T k n ∨ (n = .lam ∧ 3 ≤ k ∧ qual ++ ".<locals>." ++ "<lambda>" = qL ∧ ∃ c P, cdv = .ref c ∧ LamX.TabB base mg c P ∧ P ∈ T.tab)) b) : FnOk P w K mg base (L2.CX P w) (k + 1) f fd ps (spN T (run N.length np b)) := by
  subst efd
  have pl : ps.length ≤ N.length := by have := congrArg List.length S.pre; rw [List.length_take] at this; omega
  refine fn_of lk hcd S (fun vs H Q E h => ?_) (fun A outer s H vs Q E hr h => ?_)
  · obtain ⟨O, ds, l, r, m⟩ := h
    unfold run at m
    by_cases hl : ds.length = np
    · rw [← r.length, hl, hps]
    · rw [if_neg hl] at m
      exact False.elim m
  · obtain ⟨O, ds, l, r, m⟩ := h
    unfold run at m
    have hl : ds.length = np := by
      by_cases hl : ds.length = np
      · exact hl
      · rw [if_neg hl] at m
        exact False.elim m
    rw [if_pos hl] at m
    generalize hX : cxOf (L2.CX P w) P w K mg base N qual (defScope st) f cdv A outer s H E = X at *
    have xA : X.A = A.deeper (envOfC qual (defScope st) s.heap.objs.size f cdv) := by rw [← hX]; rfl
    have W0 : Takes X (fun cls d _ H => E cls d H) := by
      rw [← hX]
      exact takes_of rfl rfl rfl rfl
    have At0 : AtS X T (fun cls d _ H => E cls d H) N (defScope st) := by
      refine ⟨⟨⟨?_, ?_, ?_, ?_, ?_, ?_, ?_, ?_, ?_, ?_⟩, ?_, S.nd, ?_, W0⟩, ?_, ?_, ?_, ?_, ?_, S.kind⟩
      · rw [← hX]; exact C.hK
      · rw [← hX]; rfl
      · rw [xA]
        have := hr.un
        omega
      · rw [← hX]; exact C.exT
      · rw [← hX]; exact C.exI
      · rw [← hX]; exact C.exV
      · rw [← hX]; exact C.exN
      · rw [← hX]; exact C.exF
      · rw [← hX]; exact C.exM
      · rw [← hX]; exact C.dig
      · rw [← hX]; rfl
      · rw [← hX]; rfl
      · rw [← hX]; exact fun _ => rfl
      · rw [← hX]; exact passes_of (K := fun e s' => L2.CX P w outer H s E e s') (E₁ := fun e s' => L2.CX P w outer H s E e s') rfl
      · rw [← hX]; rfl
      · rw [← hX]; rfl
      · rw [← hX]; rfl
    have holds : okSs (Holds X T) b := by
      refine okSs_imp (fun n hn => ?_) b ok
      rcases hn with hn | ⟨rfl, hk3, hq, c, Pt, hk, TB, hP⟩
      rotate_left
      · have eq : X.env.qual = qual ++ ".<locals>." := by rw [← hX]; rfl
        refine ⟨c, Pt, ?_, ?_, hP, ?_, ?_⟩
        · rw [← hX]; exact hk
        · rw [← hX]; exact TB
        · rw [eq]; exact hq
        · rw [xA]; exact hr.mono hk3
      cases n with
      | fn nm f df =>
        obtain ⟨fa, fd, ps, dvs, ds, h1, h2, h3, h4, h5, h6⟩ := hn
        refine ⟨k, fa, fd, ps, dvs, ds, ?_, ?_, ?_, ?_, ?_, h5, h6⟩
        · rw [xA]; exact hr
        · rw [← hX]; exact h1
        · rw [← hX]; exact h2
        · rw [← hX]; exact h3
        · rw [← hX]; exact h4
      | fnF nm f df =>
        obtain ⟨fa, fd, ps, dvs, ds, h1, h2, h3, h4, h5, h6⟩ := hn
        refine ⟨k, fa, fd, ps, dvs, ds, ?_, ?_, ?_, ?_, ?_, h5, h6⟩
        · rw [xA]; exact hr
        · rw [← hX]; exact h1
        · rw [← hX]; exact h2
        · rw [← hX]; exact h3
        · rw [← hX]; exact h4
      | fnL nm f df =>
        obtain ⟨j, fa, fd, ps, dvs, ds, h0, h1, h2, h3, h4, h5, h6⟩ := hn
        refine ⟨j, fa, fd, ps, dvs, ds, ?_, ?_, ?_, ?_, ?_, h5, h6⟩
        · rw [xA]; exact hr.mono h0
        · rw [← hX]; exact h1
        · rw [← hX]; exact h2
        · rw [← hX]; exact h3
        · rw [← hX]; exact h4
      | lam => exact False.elim hn
      | outs => exact ⟨At0.fr, At0.stk⟩
      | exc nm c => exact ⟨by rw [← hX]; exact hn.1, hn.2⟩
      | blt nm => show X.mg _ = none; rw [← hX]; exact hn
      | glo nm d =>
        obtain ⟨v, u, h1, h2, h3⟩ := hn
        exact ⟨v, u, by rw [← hX]; exact h1, h2, h3⟩
      | flt nm => show X.mg _ = _; rw [← hX]; exact hn
      | cls nm c => rw [← hX]; exact hn
      | iso nm c => rw [← hX]; exact hn
      | isw nm => rw [← hX]; exact hn
      | meth m tbl =>
        intro c hc
        obtain ⟨f, fd, ps, h1, h2, h3, h4⟩ := hn c hc
        exact ⟨k, f, fd, ps, by rw [xA]; exact hr, by rw [← hX]; exact h1, by rw [← hX]; exact h2, by rw [← hX]; exact h3, by rw [← hX]; exact h4⟩
    refine ⟨_, soundSs b _ At0 hc holds, ⟨H, O, []⟩, ds.map .dat ++ List.replicate (N.length - np) .un, ⟨O, ?_⟩, ?_⟩
    · rw [← hl]
      exact start_read r l N.length N rfl (by omega)
    · cases ev : evSs b (ds.map .dat ++ List.replicate (N.length - np) .un) with
      | nxt ρ' =>
        rw [ev] at m
        exact False.elim m
      | ret d => exact absurd ev (onlyFs_nr b _ d hn)
      | retF xs =>
        rw [ev] at m
        exact m
      | ex c ρ' =>
        rw [ev] at m
        exact fun σ' H' ⟨O', r'⟩ hc => m H' r'.ex hc
      | no => rw [ev] at m; exact False.elim m
end
end MP

set_option Elab.async false
set_option linter.all false
set_option maxRecDepth 100000
set_option maxHeartbeats 4000000
set_option autoImplicit false
/-! MPK: the ends: a def under its name, the law's promise, the row. -/
namespace MP
open PySem L2
open PyProof.Rows hiding St
/-- a def without defaults, as def_ok wants it -/
theorem fun_ex {K : PySem.W.Frag} {x qual : Str} {st : Stmt} {f : Addr} {fd : FuncData} (F : Fun K x qual st f fd) : ∃ (oc : Value) (od : Option Addr) (dV kV doc pm : Value) (an : Option Addr) (cdv ct : Value) (osl : Array (Option Value)),
    fd = PySem.W.fnOf x qual (defArgs st) (defBody st) (defScope st) dV kV doc pm an cdv ct ∧ K.lookup f = some ⟨oc, od, .func fd, osl⟩ ∧ PySem.W.codeIn K cdv qual = true := by
  obtain ⟨oc, od, kV, doc, pm, an, cdv, ct, osl, h⟩ := F.ex
  exact ⟨oc, od, .none, kV, doc, pm, an, cdv, ct, osl, h⟩
/-- a body that ends with a return -/
def lastR : Ss → Bool
  | .nil => false
  | .cons s r => (match s, r with
    | .retA _ _, .nil => true
    | .retN _, .nil => true
    | _, _ => false) || lastR r
theorem thenO_nn {o : Out} {f : Env → Out} {ρ' : Env} (k : ∀ ρ, f ρ ≠ .nxt ρ') : thenO o f ≠ .nxt ρ' := by
  cases o <;> first | exact k _ | simp
theorem lastR_nn : ∀ (b : Ss) (ρ ρ' : Env), lastR b = true → evSs b ρ ≠ .nxt ρ'
  | .nil, ρ, ρ', h => by simp [lastR] at h
  | .cons s r, ρ, ρ', h => by
    simp only [lastR, Bool.or_eq_true] at h
    simp only [evSs]
    rcases h with h | h
    · split at h
      · simp only [evS]
        cases h1 : evE _ ρ with
        | ok x =>
          simp only [withR_ok]
          cases h2 : evE _ ρ with
          | ok y =>
            simp only [withR_ok]
            split
            · split <;> simp
            · simp
          | ex c => simp
          | no => simp
        | ex c => simp
        | no => simp
      · simp only [evS]
        split <;> simp
      · cases h
    · exact thenO_nn fun ρ2 => lastR_nn r ρ2 ρ' h
theorem run_lst {n np : Nat} {b : Ss} {ds : List D} {d : D} (hn : onlyFs b = true) (hl : lastR b = true) (h : run n np b ds = .ok d) : ∃ xs, d = .lst xs := by
  unfold run at h
  split at h
  · split at h
    · rename_i e
      exact absurd e (lastR_nn b _ _ hl)
    · rename_i e
      exact absurd e (onlyFs_nr b _ _ hn)
    · cases h
      exact ⟨_, rfl⟩
    · cases h
    · cases h
  · cases h
section
variable {P : Program} {w : World} {K : PySem.W.Frag} {mg : Str → Option Value} {base : Heap} {T : Tab}
/-- a def's call, kept for levels above -/
theorem At_mono {j k : Nat} {n : Need} (h : Need.At P w K mg base T j n) (le : j ≤ k) : Need.At P w K mg base T k n := by
  cases n with
  | fn nm f df =>
    obtain ⟨fa, fd, ps, dvs, ds, h1, h2, h3, h4⟩ := h
    exact ⟨fa, fd, ps, dvs, ds, h1, h2, h3.mono le, h4⟩
  | fnF nm f df =>
    obtain ⟨fa, fd, ps, dvs, ds, h1, h2, h3, h4⟩ := h
    exact ⟨fa, fd, ps, dvs, ds, h1, h2, h3.mono le, h4⟩
  | fnL nm f df =>
    obtain ⟨i, fa, fd, ps, dvs, ds, h0, h1⟩ := h
    exact ⟨i, fa, fd, ps, dvs, ds, Nat.le_trans h0 le, h1⟩
  | lam => exact h
  | outs => exact h
  | exc nm c => exact h
  | blt nm => exact h
  | glo nm d => exact h
  | flt nm => exact h
  | iso nm c => exact h
  | isw nm => exact h
  | cls nm c => exact h
  | meth m tbl => exact fun c hc => let ⟨f, fd, ps, h1, h2, h3, h4⟩ := h c hc; ⟨f, fd, ps, h1, h2, h3.mono le, h4⟩
/-- .. called within a lambda -/
theorem fnL_of {nm : String} {j k : Nat} {f : List D → R D} {df : List D} (h : Need.At P w K mg base T j (.fn nm f df)) (le : j + 3 ≤ k) : Need.At P w K mg base T k (.fnL nm f df) := by
  obtain ⟨fa, fd, ps, dvs, ds, h1⟩ := h
  exact ⟨j, fa, fd, ps, dvs, ds, le, h1⟩
/-- a def without defaults, under its name -/
theorem at_fn {nm : String} {st : Stmt} {fa : Addr} {N ps : List Str} {k np : Nat} {b : Ss} {f : List D → R D} {oc : Value} {od an : Option Addr} {osl : Array (Option Value)} {kV doc pm cdv ct : Value}
    (hm : mg (Str.ofString nm) = some (.ref fa)) (hk : PySem.W.keepIn K (.ref fa) = true)
    (l : K.lookup fa = some ⟨oc, od, .func (PySem.W.fnOf (Str.ofString nm) (Str.ofString nm) (defArgs st) (defBody st) (defScope st) .none kV doc pm an cdv ct), osl⟩) (c : PySem.W.codeIn K cdv (Str.ofString nm) = true)
    (S : FnScope N ps (defScope st)) (C : Facts K T) (hc : chkSs N (defScope st) b (defBody st) = true) (hps : ps.length = np)
    (bd : ∀ (kV doc pm : Value) (an : Option Addr) (cdv ct : Value) (us : List Value), us.length = ps.length → bindArgs (PySem.W.fnOf (Str.ofString nm) (Str.ofString nm) (defArgs st) (defBody st) (defScope st) .none kV doc pm an cdv ct) ⟨us, []⟩ = pure (ps.zip us))
    (hf : f = run N.length np b) (ok : okSs (Need.At P w K mg base T k) b) : Need.At P w K mg base T (k + 1) (.fn nm f []) := by
  subst hf
  have F := fun_mk (st := st) l c hk
  exact ⟨fa, _, ps, [], [], hm, hk, def_ok (np := np) (fun_ex F) S C hc hps ok, F.binds bd, .nil, fun _ => .nil⟩
/-- .. that makes a lambda -/
theorem at_fnNL {nm : String} {st : Stmt} {fa cc Pt : Addr} {N ps : List Str} {k np : Nat} {b : Ss} {f : List D → R D} {oc : Value} {od an : Option Addr} {osl : Array (Option Value)} {kV doc pm ct : Value}
    (hm : mg (Str.ofString nm) = some (.ref fa)) (hk : PySem.W.keepIn K (.ref fa) = true)
    (l : K.lookup fa = some ⟨oc, od, .func (PySem.W.fnOf (Str.ofString nm) (Str.ofString nm) (defArgs st) (defBody st) (defScope st) .none kV doc pm an (.ref cc) ct), osl⟩) (c : PySem.W.codeIn K (.ref cc) (Str.ofString nm) = true)
    (S : FnScope N ps (defScope st)) (C : Facts K T) (hc : chkSs N (defScope st) b (defBody st) = true) (hps : ps.length = np)
    (bd : ∀ (kV doc pm : Value) (an : Option Addr) (cdv ct : Value) (us : List Value), us.length = ps.length → bindArgs (PySem.W.fnOf (Str.ofString nm) (Str.ofString nm) (defArgs st) (defBody st) (defScope st) .none kV doc pm an cdv ct) ⟨us, []⟩ = pure (ps.zip us))
    (hf : f = run N.length np b) (hn : onlyFs b = true) (h3 : 3 ≤ k) (hq : Str.ofString nm ++ ".<locals>." ++ "<lambda>" = qL) (TB : LamX.TabB base mg cc Pt) (hP : Pt ∈ T.tab) (ok : okSs (fun n => Need.At P w K mg base T k n ∨ n = .lam) b) : Need.At P w K mg base T (k + 1) (.fnF nm f []) := by
  subst hf
  have F := fun_mk (st := st) l c hk
  exact ⟨fa, _, ps, [], [], hm, hk, def_okNL (np := np) l rfl c S C hc hps hn (okSs_imp (fun _ h => h.imp id fun e => ⟨e, h3, hq, cc, Pt, rfl, TB, hP⟩) b ok), F.binds bd, .nil, fun _ => .nil⟩
/-- a def that tells a list of its own making, taken as any def -/
theorem at_fn_of_F {nm : String} {k : Nat} {f : List D → R D} {df : List D} (h : Need.At P w K mg base T k (.fnF nm f df)) (hl : ∀ ds d, f ds = .ok d → ∃ xs, d = .lst xs) : Need.At P w K mg base T k (.fn nm f df) := by
  obtain ⟨fa, fd, ps, dvs, ds, h1, h2, h3, h4⟩ := h
  refine ⟨fa, fd, ps, dvs, ds, h1, h2, h3.imp fun vs H Q E q => ?_, h4⟩
  obtain ⟨O, ds, l, r, m⟩ := q
  refine ⟨O, ds, l, r, ?_⟩
  cases e : f ds with
  | ok d =>
    obtain ⟨xs, rfl⟩ := hl ds d e
    rw [e] at m
    exact fun a us H' e' n ha dv => m _ _ e' (.lst (SqL.of (by rw [hide_out (live_new l n)]; exact ha)) (dv.mono (hide_sub fun c hc => List.mem_cons_of_mem _ hc)))
  | ex c => rw [e] at m; exact m
  | no => rw [e] at m; exact m
/-- the law's promise -/
def spL (K : PySem.W.Frag) : Sp := fun vs H Q _ => ∃ (a : Addr) (ns : List Int), vs = [.ref a] ∧ SqL K H a (ns.map V.int) ∧ ns.length ≤ 63 ∧ (∀ z ∈ ns, Builtin.Int.intBits z ≤ 1048576) ∧ ∀ H', Q (.bl true) H'
theorem dv_ints {H : Hp} : ∀ ns : List Int, DVs T H (ns.map .int) (ns.map .int)
  | [] => .nil
  | n :: r => .cons (.int n) (dv_ints r)
/-- what a law's run on every script promises -/
def LawOk (f : List D → R D) : Prop := ∀ ns : List Int, ns.length ≤ 63 → (∀ z ∈ ns, Builtin.Int.intBits z ≤ 1048576) → f [.lst (ns.map .int)] = .ok (.bl true)
theorem hide_nil {H : Hp} : hide [] H = H := by
  funext b
  exact if_neg (by simp)
/-- .. where tables stand -/
def spLT (K : PySem.W.Frag) (T : Tab) : Sp := fun vs H Q _ => ∃ (a : Addr) (ns : List Int), vs = [.ref a] ∧ SqL K H a (ns.map V.int) ∧ ns.length ≤ 63 ∧ (∀ z ∈ ns, Builtin.Int.intBits z ≤ 1048576) ∧ (∀ P ∈ T.tab, LamX.TabS H P qL) ∧ ∀ H', Q (.bl true) H'
theorem law_fnT {x : Str} {st : Stmt} {fa : Addr} {fd : FuncData} {N ps : List Str} {k np : Nat} {b : Ss} {f : List D → R D}
    (hF : Fun K x x st fa fd) (S : FnScope N ps (defScope st)) (C : Facts K T) (hc : chkSs N (defScope st) b (defBody st) = true) (hps : ps.length = np)
    (hf : f = run N.length np b) (hl : LawOk f) (ok : okSs (Need.At P w K mg base T k) b) : FnOk P w K mg base (L2.CX P w) (k + 1) fa fd ps (spLT K T) := by
  subst hf
  refine (def_ok (np := np) (fun_ex hF) S C hc hps ok).imp fun vs H Q E h => ?_
  obtain ⟨a, ns, rfl, hS, h1, h2, hT, hq⟩ := h
  refine ⟨[], [.lst (ns.map .int)], ⟨fun a ha => (nomatch ha), hT⟩, ?_, ?_⟩
  · rw [hide_nil]
    refine .cons (.lst ?_ (dv_ints ns)) .nil
    rw [← C.hK]
    exact hS
  · rw [hl ns h1 h2]
    intro v H' _ dv
    cases dv
    exact hq H'
end
theorem kit_s {K : PySem.W.Frag} {t : Value} : PySem.W.kitOne K t t = some true := by
  unfold PySem.W.kitOne
  rw [if_pos (by simp)]
theorem kit_r {K : PySem.W.Frag} {t : Value} {S : Addr} {b : Bool} (h2 : PySem.W.isClsIn K S = true) (h3 : PySem.W.typeIn K (.ref S) = some (.type "type")) (h4 : PySem.W.subIn K t (.ref S) = some b) (ne : (t == Value.ref S) = false := by rfl) : PySem.W.kitOne K t (.ref S) = some b := by
  have e2 : ((PySem.W.clsIn K S).isSome && PySem.W.typeIn K (.ref S) == some (.type "type")) = true := by
    have h2' : (PySem.W.clsIn K S).isSome = true := h2
    rw [h2', h3] <;> rfl
  unfold PySem.W.kitOne
  rw [if_neg (by rw [ne]; exact Bool.false_ne_true)]
  exact (if_pos e2).trans h4
theorem kit_p {K : PySem.W.Frag} {A S : Addr} (h2 : PySem.W.isClsIn K S = true) (h3 : PySem.W.typeIn K (.ref S) = some (.type "type")) (h4 : PySem.W.subIn K (.ref A) (.ref S) = some false) (h5 : PySem.W.subIn K (.ref S) (.ref S) = some true) : PySem.W.kitOne K (.ref A) (.ref S) = some false := by
  refine kit_r h2 h3 h4 ?_
  have ne : A ≠ S := fun e => by
    rw [e, h5] at h4
    cases h4
  exact beq_eq_false_iff_ne.mpr fun e => by cases e; exact ne rfl
theorem kit_t {K : PySem.W.Frag} {S : Addr} (h : PySem.W.subIn K (.ref S) (.type "ValueError") = some true) : PySem.W.kitOne K (.ref S) (.type "ValueError") = some true := by
  unfold PySem.W.kitOne
  rw [if_neg (by rw [show (Value.ref S == Value.type "ValueError") = false from rfl]; exact Bool.false_ne_true)]
  have e : PySem.W.kitMeta "ValueError" = true := by decide +kernel
  show (if PySem.W.kitMeta "ValueError" = true then PySem.W.subIn K (.ref S) (.type "ValueError") else none) = some true
  rw [if_pos e]
  exact h
theorem exm_r {K : PySem.W.Frag} {t : Value} {S : Addr} {b : Bool} (h1 : PySem.W.subIn K (.ref S) (.type "BaseException") = some true) (h2 : PySem.W.isClsIn K S = true) (h3 : PySem.W.typeIn K (.ref S) = some (.type "type")) (h4 : PySem.W.subIn K t (.ref S) = some b) : PySem.W.exmOne K t (.ref S) = some b := by
  have e1 : (PySem.W.subIn K (.ref S) (.type "BaseException") == some true) = true := by rw [h1] <;> rfl
  have e2 : ((PySem.W.clsIn K S).isSome && PySem.W.typeIn K (.ref S) == some (.type "type")) = true := by
    have h2' : (PySem.W.clsIn K S).isSome = true := h2
    rw [h2', h3] <;> rfl
  exact (if_pos e1).trans ((if_pos e2).trans h4)
/-- .. with a table of code objects -/
theorem walk_mpT {l : PySem.W.OpenLaw} {q : Program} {loose : List Str} {XP : (Str → Option Value) → Heap → Prop} {YP : World → Heap → Prop} {d : DefRec} {K : Params → PySem.W.Frag} {x : Str} {k : Nat}
    (hn : l.most = some 63) (hdf : d.params.defaults = []) (hr : Room k callerA) (hY : ∀ (w : World) (h : Heap), YP w h → (K w.params).In h)
    (F : ∀ (w : World) (mg : Str → Option Value) (fa : Addr) (h : Heap), YP w h → (K w.params).In h → h.Ns mainGlobals mg → mg d.name = some (.ref fa) →
      ∃ (cc P : Addr) (T : Tab), T.tab = [P] ∧ h.get? P = some { cls := .none, data := .fields #[] } ∧ (K w.params).lookup P = none ∧ PySem.W.CodeHd h cc P ∧
      ∃ fd : FuncData, (∀ (s : Shared) (u : Value), BindsTo s fd ⟨[u], []⟩ [(x, u)]) ∧ ∀ base : Heap, (K w.params).In base → base.Ns mainGlobals mg → LamX.TabB base mg cc P → FnOk l.prog w (K w.params) mg base (L2.CX l.prog w) k fa fd [x] (spLT (K w.params) T)) :
    PySem.W.WalkO q loose XP YP l.row.toRowW d [] (fun f vs => PySem.call f vs) :=
  LamX.walk_ofTs (n := 63) (k := k) (x := x) (CX := fun w => L2.CX l.prog w) hn (by decide) hdf hr hY (fun w mg fa h Y KX G hm => by
    obtain ⟨cc, P, T, hT, hP, hN, hC, fd, hb, hF⟩ := F w mg fa h Y KX G hm
    have one : ∀ {φ : Addr × Addr → Prop}, φ (cc, P) → ∀ p ∈ [(cc, P)], φ p := fun h p hp => by
      rcases List.mem_cons.mp hp with rfl | hp
      · exact h
      · cases hp
    refine ⟨fd, [(cc, P)], spLT (K w.params) T, one hP, one hN, one hC, hb, fun H a ns hl hbits hH hS => ⟨a, ns, rfl, hS, hl, hbits, fun P' hP' => ?_, fun _ => rfl⟩, fun base hK hns TB => hF base hK hns (TB _ List.mem_cons_self)⟩
    rw [hT] at hP'
    rcases List.mem_cons.mp hP' with rfl | hP'
    · exact LamX.TabS.nil (hH _ List.mem_cons_self)
    · cases hP')
    fun w H s e s' h => by
      obtain ⟨_, _, _, _, _, _, _, _, _, _, _, _, z⟩ := h
      exact z.elim
end MP

namespace MP
def G.b_wide_14 : Ss := (.cons (.asg 1 (.bin .mod (.bin .mul (.var 0) (.int 48271)) (.int 999983)))
  (.cons (.ifs (.cmp .eq (.bin .mod (.var 1) (.int 2)) (.int 1)) (.cons (.ret (.tup (.cons (.bin .add (.int 2) (.bin .mod (.bin .fdiv (.var 1) (.int 2)) (.int 3))) (.cons (.bin .add (.int 1) (.bin .mod (.bin .fdiv (.var 1) (.int 6)) (.int 4))) .nil))))
  .nil) .nil)
  (.cons (.ret (.tup (.cons (.bin .add (.int 2) (.bin .mod (.bin .fdiv (.var 1) (.int 2)) (.int 10))) (.cons (.bin .add (.int 1) (.bin .mod (.bin .fdiv (.var 1) (.int 20)) (.int 60))) .nil))))
  .nil)))
def G.wide_14 (a : List D) : R D := run 2 1 G.b_wide_14 a

def G.b_cell_at_01 : Ss := (.cons (.ifs (.cmp .lt (.var 1) (.f1 .len (.var 0))) (.cons (.ret (.ix (.var 0) (.var 1)))
  .nil) .nil)
  (.cons (.ret (.int 0))
  .nil))
def G.cell_at_01 (a : List D) : R D := run 2 2 G.b_cell_at_01 a

def F.b_is_whole : Ss := (.cons (.ret (.and (.isi (.var 0) .int) (.not (.isi (.var 0) .bool))))
  .nil)
def F.is_whole (a : List D) : R D := run 1 1 F.b_is_whole a

def F.b_width_of : Ss := (.cons (.ifs (.or (.not (.call "is_whole" F.is_whole (.cons (.var 0) .nil) [])) (.not (.call "is_whole" F.is_whole (.cons (.var 1) .nil) []))) (.cons (.rse "NoWidth" 0)
  .nil) .nil)
  (.cons (.ifs (.or (.cmp .lt (.var 0) (.int 2)) (.or (.cmp .gt (.var 0) (.int 11)) (.or (.cmp .lt (.var 1) (.int 1)) (.cmp .gt (.var 1) (.int 60))))) (.cons (.rse "NoWidth" 0)
  .nil) .nil)
  (.cons (.ret (.tup (.cons (.var 0) (.cons (.var 1) .nil))))
  .nil)))
def F.width_of (a : List D) : R D := run 2 2 F.b_width_of a

def G.b_word_22 : Ss := (.cons (.asg 2 (.bin .shl (.int 1) (.bin .add (.ix (.var 0) (.int 0)) (.ix (.var 0) (.int 1)))))
  (.cons (.asg 3 (.bin .mod (.bin .mul (.var 1) (.int 618033988749894848204587)) (.bin .add (.bin .pow (.int 10) (.int 24)) (.int 7))))
  (.cons (.asg 4 (.bin .shl (.bin .sub (.bin .shl (.int 1) (.ix (.var 0) (.int 0))) (.int 1)) (.ix (.var 0) (.int 1))))
  (.cons (.asg 5 (.lst (.cons (.int 0) (.cons (.int 1) (.cons (.bin .sub (.bin .shl (.int 1) (.ix (.var 0) (.int 1))) (.int 1)) (.cons (.bin .shl (.int 1) (.ix (.var 0) (.int 1))) (.cons (.bin .sub (.var 4) (.int 1)) (.cons (.var 4) (.cons (.bin .add (.var 4) (.int 1)) (.cons (.bin .add (.var 4) (.bin .shl (.int 1) (.bin .sub (.ix (.var 0) (.int 1)) (.int 1)))) .nil))))))))))
  (.cons (.asg 6 (.bin .mod (.bin .fdiv (.var 3) (.bin .mul (.int 2) (.var 2))) (.int 16)))
  (.cons (.ifs (.cmp .lt (.var 6) (.int 8)) (.cons (.ret (.bin .add (.ix (.var 5) (.var 6)) (.bin .mul (.bin .mod (.var 3) (.int 2)) (.var 2))))
  .nil) .nil)
  (.cons (.ret (.bin .mod (.var 3) (.bin .mul (.int 2) (.var 2))))
  .nil)))))))
def G.word_22 (a : List D) : R D := run 7 2 G.b_word_22 a

def G.b_words_25 : Ss := (.cons (.asg 2 (.bin .shl (.int 1) (.bin .add (.ix (.var 0) (.int 0)) (.ix (.var 0) (.int 1)))))
  (.cons (.asgN 3 (.lst .nil))
  (.cons (.fors 4 (.e (.var 1)) (.cons (.asg 5 (.call "_law_word" G.word_22 (.cons (.var 0) (.cons (.var 4) .nil)) []))
  (.cons (.ifs (.and (.cmp .eq (.bin .mod (.bin .mod (.bin .mul (.var 4) (.int 16807)) (.int 999979)) (.int 5)) (.int 2)) (.onz 3)) (.cons (.asg 5 (.bin .mod (.bin .add (.oix 3 (.neg (.int 1))) (.bin .mul (.bin .mod (.var 4) (.int 2)) (.var 2))) (.bin .mul (.int 2) (.var 2))))
  .nil) .nil)
  (.cons (.app 3 (.var 5))
  .nil))))
  (.cons (.frz 3)
  (.cons (.ret (.var 3))
  .nil)))))
def G.words_25 (a : List D) : R D := run 6 2 G.b_words_25 a

def F.b_many_words : Ss := (.cons (.ret (.bin .shl (.int 1) (.bin .add (.bin .add (.int 1) (.ix (.var 0) (.int 0))) (.ix (.var 0) (.int 1)))))
  .nil)
def F.many_words (a : List D) : R D := run 1 1 F.b_many_words a

def F.b_asked_word : Ss := (.cons (.ifs (.or (.not (.call "is_whole" F.is_whole (.cons (.var 1) .nil) [])) (.or (.cmp .lt (.var 1) (.int 0)) (.cmp .ge (.var 1) (.call "many_words" F.many_words (.cons (.var 0) .nil) [])))) (.cons (.rse "NoWord" 1)
  .nil) .nil)
  (.cons (.ret (.var 1))
  .nil))
def F.asked_word (a : List D) : R D := run 2 2 F.b_asked_word a

def F.b_last_exponent : Ss := (.cons (.ret (.bin .sub (.bin .shl (.int 1) (.ix (.var 0) (.int 0))) (.int 1)))
  .nil)
def F.last_exponent (a : List D) : R D := run 1 1 F.b_last_exponent a

def F.b_cut : Ss := (.cons (.drp (.call "asked_word" F.asked_word (.cons (.var 0) (.cons (.var 1) .nil)) []))
  (.cons (.asg 2 (.bin .shr (.var 1) (.bin .add (.ix (.var 0) (.int 0)) (.ix (.var 0) (.int 1)))))
  (.cons (.asg 3 (.bin .and (.bin .shr (.var 1) (.ix (.var 0) (.int 1))) (.call "last_exponent" F.last_exponent (.cons (.var 0) .nil) [])))
  (.cons (.ret (.tup (.cons (.var 2) (.cons (.var 3) (.cons (.bin .and (.var 1) (.bin .sub (.bin .shl (.int 1) (.ix (.var 0) (.int 1))) (.int 1))) .nil)))))
  .nil))))
def F.cut (a : List D) : R D := run 4 2 F.b_cut a

def F.b_kind_of : Ss := (.cons (.asgT [2, 3, 4] (.call "cut" F.cut (.cons (.var 0) (.cons (.var 1) .nil)) []))
  (.cons (.ifs (.cmp .eq (.var 3) (.int 0)) (.cons (.ifs (.cmp .eq (.var 4) (.int 0)) (.cons (.ret (.str [110, 111, 117, 103, 104, 116]))
  .nil) .nil)
  (.cons (.ret (.str [115, 109, 97, 108, 108]))
  .nil)) .nil)
  (.cons (.ifs (.cmp .lt (.var 3) (.call "last_exponent" F.last_exponent (.cons (.var 0) .nil) [])) (.cons (.ret (.str [112, 108, 97, 105, 110]))
  .nil) .nil)
  (.cons (.ifs (.cmp .eq (.var 4) (.int 0)) (.cons (.ret (.str [101, 110, 100, 108, 101, 115, 115]))
  .nil) .nil)
  (.cons (.ifs (.cmp .eq (.bin .shr (.var 4) (.bin .sub (.ix (.var 0) (.int 1)) (.int 1))) (.int 1)) (.cons (.ret (.str [115, 116, 105, 108, 108]))
  .nil) .nil)
  (.cons (.ret (.str [108, 111, 117, 100]))
  .nil))))))
def F.kind_of (a : List D) : R D := run 5 2 F.b_kind_of a

def F.b_is_none : Ss := (.cons (.ret (.or (.cmp .eq (.call "kind_of" F.kind_of (.cons (.var 0) (.cons (.var 1) .nil)) []) (.str [115, 116, 105, 108, 108])) (.cmp .eq (.call "kind_of" F.kind_of (.cons (.var 0) (.cons (.var 1) .nil)) []) (.str [108, 111, 117, 100]))))
  .nil)
def F.is_none (a : List D) : R D := run 2 2 F.b_is_none a

def F.b_sign_bit : Ss := (.cons (.ret (.bin .shl (.int 1) (.bin .add (.ix (.var 0) (.int 0)) (.ix (.var 0) (.int 1)))))
  .nil)
def F.sign_bit (a : List D) : R D := run 1 1 F.b_sign_bit a

def F.b_unsigned : Ss := (.cons (.ret (.bin .and (.call "asked_word" F.asked_word (.cons (.var 0) (.cons (.var 1) .nil)) []) (.bin .sub (.call "sign_bit" F.sign_bit (.cons (.var 0) .nil) []) (.int 1))))
  .nil)
def F.unsigned (a : List D) : R D := run 2 2 F.b_unsigned a

def F.b_is_part : Ss := (.cons (.ret (.and (.call "is_whole" F.is_whole (.cons (.var 0) .nil) []) (.and (.cmp .ge (.var 0) (.int 0)) (.cmp .lt (.var 0) (.var 1)))))
  .nil)
def F.is_part (a : List D) : R D := run 2 2 F.b_is_part a

def F.b_joined : Ss := (.cons (.ifs (.or (.not (.call "is_part" F.is_part (.cons (.var 1) (.cons (.int 2) .nil)) [])) (.or (.not (.call "is_part" F.is_part (.cons (.var 2) (.cons (.bin .shl (.int 1) (.ix (.var 0) (.int 0))) .nil)) [])) (.not (.call "is_part" F.is_part (.cons (.var 3) (.cons (.bin .shl (.int 1) (.ix (.var 0) (.int 1))) .nil)) [])))) (.cons (.rse "NoWord" 1)
  .nil) .nil)
  (.cons (.ret (.bin .or (.bin .or (.bin .shl (.var 1) (.bin .add (.ix (.var 0) (.int 0)) (.ix (.var 0) (.int 1)))) (.bin .shl (.var 2) (.ix (.var 0) (.int 1)))) (.var 3)))
  .nil))
def F.joined (a : List D) : R D := run 4 4 F.b_joined a

def F.b_endless_of : Ss := (.cons (.ret (.call "joined" F.joined (.cons (.var 0) (.cons (.f1 .int (.var 1)) (.cons (.call "last_exponent" F.last_exponent (.cons (.var 0) .nil) []) (.cons (.int 0) .nil)))) []))
  .nil)
def F.endless_of (a : List D) : R D := run 2 2 F.b_endless_of a

def F.b_rank_of : Ss := (.cons (.asg 2 (.call "unsigned" F.unsigned (.cons (.var 0) (.cons (.var 1) .nil)) []))
  (.cons (.ifs (.cmp .gt (.var 2) (.call "endless_of" F.endless_of (.cons (.var 0) (.cons (.bl false) .nil)) [])) (.cons (.ret .non)
  .nil) .nil)
  (.cons (.ifs (.cmp .eq (.var 2) (.var 1)) (.cons (.ret (.var 2))
  .nil) .nil)
  (.cons (.ret (.bin .sub (.int 0) (.var 2)))
  .nil))))
def F.rank_of (a : List D) : R D := run 3 2 F.b_rank_of a

def F.b_place_key : Ss := (.cons (.ret (.bin .add (.bin .mul (.int 2) (.call "rank_of" F.rank_of (.cons (.var 0) (.cons (.var 1) .nil)) [])) (.f1 .int (.cmp .ne (.var 1) (.call "sign_bit" F.sign_bit (.cons (.var 0) .nil) [])))))
  .nil)
def F.place_key (a : List D) : R D := run 2 2 F.b_place_key a

def F.b_in_order : Ss := (.cons (.asg 2 (.lcXF 4 (.var 4) (.e (.var 1)) (.not (.call "is_none" F.is_none (.cons (.var 0) (.cons (.var 4) .nil)) []))))
  (.cons (.asg 3 (.lcXF 4 (.var 4) (.e (.var 1)) (.call "is_none" F.is_none (.cons (.var 0) (.cons (.var 4) .nil)) [])))
  (.cons (.retA (.srtK 4 (.call "place_key" F.place_key (.cons (.var 0) (.cons (.var 4) .nil)) []) (.var 2)) (.var 3))
  .nil)))
def F.in_order (a : List D) : R D := run 5 2 F.b_in_order a

def G.b_whole_01 : Ss := (.cons (.ret (.and (.isi (.var 0) .int) (.not (.isi (.var 0) .bool))))
  .nil)
def G.whole_01 (a : List D) : R D := run 1 1 G.b_whole_01 a

def G.b_key_25 : Ss := (.cons (.asg 2 (.bin .shl (.int 1) (.bin .add (.ix (.var 0) (.int 0)) (.ix (.var 0) (.int 1)))))
  (.cons (.asg 3 (.bin .mod (.var 1) (.var 2)))
  (.cons (.ifs (.cmp .ge (.var 3) (.bin .shl (.int 1) (.ix (.var 0) (.int 1)))) (.cons (.asg 3 (.bin .shl (.bin .add (.bin .mod (.var 3) (.bin .shl (.int 1) (.ix (.var 0) (.int 1)))) (.bin .shl (.int 1) (.ix (.var 0) (.int 1)))) (.bin .sub (.bin .shr (.var 3) (.ix (.var 0) (.int 1))) (.int 1))))
  .nil) .nil)
  (.cons (.ifs (.cmp .ge (.var 1) (.var 2)) (.cons (.ret (.bin .sub (.int 0) (.bin .mul (.int 2) (.var 3))))
  .nil) .nil)
  (.cons (.ret (.bin .add (.bin .mul (.int 2) (.var 3)) (.int 1)))
  .nil)))))
def G.key_25 (a : List D) : R D := run 4 2 G.b_key_25 a

def G.b_right_25 : Ss := (.cons (.ifs (.or (.not (.isi (.var 1) .list)) (.cmp .ne (.f1 .len (.var 1)) (.f1 .len (.var 2)))) (.cons (.ret (.bl false))
  .nil) .nil)
  (.cons (.fors 3 (.e (.var 1)) (.cons (.ifs (.not (.call "_law_whole" G.whole_01 (.cons (.var 3) .nil) [])) (.cons (.ret (.bl false))
  .nil) .nil)
  .nil))
  (.cons (.asg 4 (.bin .shl (.int 1) (.bin .add (.ix (.var 0) (.int 0)) (.ix (.var 0) (.int 1)))))
  (.cons (.asg 5 (.bin .shl (.bin .sub (.bin .shl (.int 1) (.ix (.var 0) (.int 0))) (.int 1)) (.ix (.var 0) (.int 1))))
  (.cons (.asg 6 (.lcf 3 (.var 3) (.e (.var 2)) (.cmp .gt (.bin .mod (.var 3) (.var 4)) (.var 5))))
  (.cons (.asg 7 (.bin .sub (.f1 .len (.var 2)) (.f1 .len (.var 6))))
  (.cons (.ifs (.or (.cmp .ne (.slcL (.var 1) (.var 7)) (.var 6)) (.cmp .ne (.f1 .sorted (.var 1)) (.f1 .sorted (.var 2)))) (.cons (.ret (.bl false))
  .nil) .nil)
  (.cons (.asg 8 (.lc 3 (.call "_law_key" G.key_25 (.cons (.var 0) (.cons (.var 3) .nil)) []) (.e (.slcH (.var 1) (.var 7)))))
  (.cons (.ret (.cmp .eq (.var 8) (.f1 .sorted (.var 8))))
  .nil)))))))))
def G.right_25 (a : List D) : R D := run 9 3 G.b_right_25 a

def G.b_refused_25 : Ss := (.cons (.asg 2 .non)
  (.cons (.tryx (.cons (.drp (.call "in_order" F.in_order (.cons (.var 0) (.cons (.var 1) .nil)) []))
  .nil) "FloatError" 3 2)
  (.cons (.ret (.and (.isi (.var 2) (.exc "NoWord" 1)) (.and (.isi (.var 2) .valueError) (.not (.isi (.var 2) (.exc "NoNumber" 3))))))
  .nil)))
def G.refused_25 (a : List D) : R D := run 4 2 G.b_refused_25 a

def F.b_exact : Ss := (.cons (.ifs (.cmp .eq (.var 0) (.int 0)) (.cons (.ret (.tup (.cons (.int 0) (.cons (.int 0) .nil))))
  .nil) .nil)
  (.cons (.asg 2 (.bin .sub (.m0 .bits (.bin .and (.var 0) (.bin .sub (.int 0) (.var 0)))) (.int 1)))
  (.cons (.ret (.tup (.cons (.bin .shr (.var 0) (.var 2)) (.cons (.bin .add (.var 1) (.var 2)) .nil))))
  .nil)))
def F.exact (a : List D) : R D := run 3 2 F.b_exact a

def F.b_signed : Ss := (.cons (.ret (.bin .or (.call "unsigned" F.unsigned (.cons (.var 0) (.cons (.var 1) .nil)) []) (.bin .and (.call "asked_word" F.asked_word (.cons (.var 0) (.cons (.var 2) .nil)) []) (.call "sign_bit" F.sign_bit (.cons (.var 0) .nil) []))))
  .nil)
def F.signed (a : List D) : R D := run 3 3 F.b_signed a

def F.b_word_at : Ss := (.cons (.ifs (.or (.not (.call "is_whole" F.is_whole (.cons (.var 1) .nil) [])) (.cmp .gt (.f1 .abs (.var 1)) (.call "endless_of" F.endless_of (.cons (.var 0) (.cons (.bl false) .nil)) []))) (.cons (.rse "NoNumber" 3)
  .nil) .nil)
  (.cons (.ifs (.cmp .lt (.var 1) (.int 0)) (.cons (.ret (.bin .or (.bin .sub (.int 0) (.var 1)) (.call "sign_bit" F.sign_bit (.cons (.var 0) .nil) [])))
  .nil) .nil)
  (.cons (.ret (.var 1))
  .nil)))
def F.word_at (a : List D) : R D := run 2 2 F.b_word_at a

def F.b_stepped : Ss := (.cons (.asg 3 (.call "rank_of" F.rank_of (.cons (.var 0) (.cons (.var 1) .nil)) []))
  (.cons (.ifs (.or (.cmp .is (.var 3) .non) (.cmp .gt (.f1 .abs (.bin .add (.var 3) (.var 2))) (.call "endless_of" F.endless_of (.cons (.var 0) (.cons (.bl false) .nil)) []))) (.cons (.ret (.var 1))
  .nil) .nil)
  (.cons (.ifs (.cmp .eq (.bin .add (.var 3) (.var 2)) (.int 0)) (.cons (.ret (.call "signed" F.signed (.cons (.var 0) (.cons (.int 0) (.cons (.var 1) .nil))) []))
  .nil) .nil)
  (.cons (.ret (.call "word_at" F.word_at (.cons (.var 0) (.cons (.bin .add (.var 3) (.var 2)) .nil)) []))
  .nil))))
def F.stepped (a : List D) : R D := run 4 3 F.b_stepped a

def F.b_turned : Ss := (.cons (.ret (.bin .xor (.call "asked_word" F.asked_word (.cons (.var 0) (.cons (.var 1) .nil)) []) (.call "sign_bit" F.sign_bit (.cons (.var 0) .nil) [])))
  .nil)
def F.turned (a : List D) : R D := run 2 2 F.b_turned a

def G.b_steps_21 : Ss := (.cons (.asg 2 (.bin .shl (.int 1) (.bin .add (.ix (.var 0) (.int 0)) (.ix (.var 0) (.int 1)))))
  (.cons (.asg 3 (.bin .mod (.var 1) (.var 2)))
  (.cons (.ifs (.cmp .ge (.var 3) (.bin .shl (.int 1) (.ix (.var 0) (.int 1)))) (.cons (.asg 3 (.bin .shl (.bin .add (.bin .mod (.var 3) (.bin .shl (.int 1) (.ix (.var 0) (.int 1)))) (.bin .shl (.int 1) (.ix (.var 0) (.int 1)))) (.bin .sub (.bin .shr (.var 3) (.ix (.var 0) (.int 1))) (.int 1))))
  .nil) .nil)
  (.cons (.ifs (.cmp .ge (.var 1) (.var 2)) (.cons (.ret (.bin .sub (.int 0) (.var 3)))
  .nil) .nil)
  (.cons (.ret (.var 3))
  .nil)))))
def G.steps_21 (a : List D) : R D := run 4 2 G.b_steps_21 a

def G.b_wide_02 : Ss := (.cons (.asg 1 (.bin .mod (.bin .mul (.var 0) (.int 48271)) (.int 999983)))
  (.cons (.ret (.tup (.cons (.bin .add (.int 2) (.bin .mod (.var 1) (.int 10))) (.cons (.bin .add (.int 1) (.bin .mod (.bin .fdiv (.var 1) (.int 10)) (.int 60))) .nil))))
  .nil))
def G.wide_02 (a : List D) : R D := run 2 1 G.b_wide_02 a

def G.b_word_02 : Ss := (.cons (.asg 2 (.bin .shl (.int 1) (.bin .add (.bin .add (.int 1) (.ix (.var 0) (.int 0))) (.ix (.var 0) (.int 1)))))
  (.cons (.asg 3 (.bin .mod (.bin .mul (.var 1) (.int 618033988749894848204587)) (.bin .add (.bin .pow (.int 10) (.int 24)) (.int 7))))
  (.cons (.asg 4 (.bin .shl (.bin .sub (.bin .shl (.int 1) (.ix (.var 0) (.int 0))) (.int 1)) (.ix (.var 0) (.int 1))))
  (.cons (.asg 5 (.lst (.cons (.int 0) (.cons (.int 1) (.cons (.bin .sub (.bin .shl (.int 1) (.ix (.var 0) (.int 1))) (.int 1)) (.cons (.bin .shl (.int 1) (.ix (.var 0) (.int 1))) (.cons (.bin .sub (.var 4) (.int 1)) (.cons (.var 4) (.cons (.bin .add (.var 4) (.int 1)) (.cons (.bin .add (.var 4) (.bin .shl (.int 1) (.bin .sub (.ix (.var 0) (.int 1)) (.int 1)))) .nil))))))))))
  (.cons (.asg 6 (.bin .mod (.bin .fdiv (.var 3) (.var 2)) (.int 16)))
  (.cons (.ifs (.cmp .lt (.var 6) (.int 8)) (.cons (.ret (.bin .add (.ix (.var 5) (.var 6)) (.bin .mul (.bin .mod (.var 3) (.int 2)) (.bin .fdiv (.var 2) (.int 2)))))
  .nil) .nil)
  (.cons (.ret (.bin .mod (.var 3) (.var 2)))
  .nil)))))))
def G.word_02 (a : List D) : R D := run 7 2 G.b_word_02 a

def G.b_word_14 : Ss := (.cons (.asg 2 (.bin .shl (.int 1) (.bin .add (.ix (.var 0) (.int 0)) (.ix (.var 0) (.int 1)))))
  (.cons (.asg 3 (.bin .mod (.bin .mul (.var 1) (.int 618033988749894848204587)) (.bin .add (.bin .pow (.int 10) (.int 24)) (.int 7))))
  (.cons (.asg 4 (.bin .shl (.bin .sub (.bin .shl (.int 1) (.ix (.var 0) (.int 0))) (.int 1)) (.ix (.var 0) (.int 1))))
  (.cons (.asg 5 (.lst (.cons (.int 0) (.cons (.int 1) (.cons (.bin .sub (.bin .shl (.int 1) (.ix (.var 0) (.int 1))) (.int 1)) (.cons (.bin .shl (.int 1) (.ix (.var 0) (.int 1))) (.cons (.bin .sub (.var 4) (.int 1)) (.cons (.var 4) (.cons (.bin .add (.var 4) (.int 1)) (.cons (.bin .add (.var 4) (.bin .shl (.int 1) (.bin .sub (.ix (.var 0) (.int 1)) (.int 1)))) .nil))))))))))
  (.cons (.asg 6 (.bin .mod (.bin .fdiv (.var 3) (.bin .mul (.int 2) (.var 2))) (.int 22)))
  (.cons (.ifs (.cmp .lt (.var 6) (.int 8)) (.cons (.ret (.bin .add (.ix (.var 5) (.var 6)) (.bin .mul (.bin .mod (.var 3) (.int 2)) (.var 2))))
  .nil) .nil)
  (.cons (.ifs (.cmp .lt (.var 6) (.int 11)) (.cons (.asg 7 (.bin .sub (.bin .add (.bin .shl (.bin .mod (.bin .fdiv (.var 3) (.int 2)) (.bin .shl (.int 1) (.ix (.var 0) (.int 0)))) (.ix (.var 0) (.int 1))) (.var 6)) (.int 9)))
  (.cons (.ret (.bin .add (.f2 .max (.var 7) (.int 0)) (.bin .mul (.bin .mod (.var 3) (.int 2)) (.var 2))))
  .nil)) .nil)
  (.cons (.ret (.bin .mod (.var 3) (.bin .mul (.int 2) (.var 2))))
  .nil))))))))
def G.word_14 (a : List D) : R D := run 8 2 G.b_word_14 a

def G.b_pair_11 : Ss := (.cons (.ret (.and (.isi (.var 0) .tuple) (.and (.cmp .eq (.f1 .len (.var 0)) (.int 2)) (.and (.call "_law_whole" G.whole_01 (.cons (.ix (.var 0) (.int 0)) .nil) []) (.call "_law_whole" G.whole_01 (.cons (.ix (.var 0) (.int 1)) .nil) [])))))
  .nil)
def G.pair_11 (a : List D) : R D := run 1 1 G.b_pair_11 a
end MP

set_option Elab.async false
set_option linter.all false
set_option maxRecDepth 100000
set_option maxHeartbeats 4000000
set_option autoImplicit false
/-! MPL: plain facts of the evaluator. -/
namespace MP
open PySem

/-! ### bits -/
abbrev Bd (k : Nat) (i : Int) : Prop := bits i ≤ k
theorem Bd.iff {k : Nat} {i : Int} : Bd k i ↔ i.natAbs < 2 ^ k := PySem.intBits_le_iff
theorem Bd.mono {j k : Nat} {i : Int} (h : Bd j i) (le : j ≤ k) : Bd k i := Nat.le_trans h le
theorem Bd.lit (i : Int) : Bd (bits i) i := Nat.le_refl _
theorem Bd.mul {a b : Nat} {i j : Int} (h : Bd a i) (g : Bd b j) : Bd (a + b) (i * j) := PySem.intBits_mul_le h g
theorem Bd.add {a b : Nat} {i j : Int} (h : Bd a i) (g : Bd b j) : Bd (max a b + 1) (i + j) := by
  exact PySem.intBits_add_le h g
theorem Bd.sub {a b : Nat} {i j : Int} (h : Bd a i) (g : Bd b j) : Bd (max a b + 1) (i - j) := by
  exact PySem.intBits_sub_le h g
theorem Bd.neg {a : Nat} {i : Int} (h : Bd a i) : Bd a (-i) := PySem.intBits_neg_le h
theorem Bd.abs {a : Nat} {i : Int} (h : Bd a i) : Bd a (i.natAbs : Int) := PySem.intBits_natAbs_le h
theorem Bd.mod {b : Nat} {i j : Int} (p : 0 < j) (g : Bd b j) : Bd b (i % j) := by
  rw [Bd.iff] at *
  have h1 := Int.emod_nonneg i (by omega : j ≠ 0)
  have h2 := Int.emod_lt_of_pos i p
  omega
theorem Bd.fdiv {a : Nat} {i j : Int} (p : 0 < j) (h : Bd a i) : Bd a (i / j) := by
  have := PySem.intBits_fdiv_le (y := j) h
  rw [Int.fdiv_eq_ediv_of_nonneg _ (by omega)] at this
  exact this
theorem Bd.pow2 (k : Nat) : Bd (k + 1) (2 ^ k : Int) := by
  rw [Bd.iff, Int.natAbs_pow]
  exact Nat.pow_lt_pow_right (by decide) (by omega)
theorem Bd.shl {a : Nat} {i : Int} (k : Nat) (h : Bd a i) : Bd (a + k) (i * 2 ^ k) := by
  rw [Bd.iff] at *
  rw [Int.natAbs_mul, Int.natAbs_pow, Nat.pow_add]
  exact Nat.mul_lt_mul_of_pos_right h (Nat.pow_pos (by decide))
theorem Bd.shlm {a : Nat} {i x j : Int} (h : Bd a i) (p : 0 < j) : Bd (a + j.toNat) (i * 2 ^ (x % j).toNat) := by
  refine (Bd.shl _ h).mono ?_
  have h1 := Int.emod_nonneg x (by omega : j ≠ 0)
  have h2 := Int.emod_lt_of_pos x p
  omega
theorem Bd.rng {k : Nat} {i : Int} (h1 : -(2 ^ k : Int) < i) (h2 : i < 2 ^ k) : Bd k i := by
  rw [Bd.iff]
  have : ((2 ^ k : Nat) : Int) = (2 : Int) ^ k := by push_cast; rfl
  omega
theorem Bd.le {a k : Nat} {i : Int} (h : Bd a i) (q : a ≤ k) : bits i ≤ k := Nat.le_trans h q
theorem bsum {a b c : Nat} {i j : Int} (h : Bd a i) (g : Bd b j) (q : a + b ≤ c) : bits i + bits j ≤ c := Nat.le_trans (Nat.add_le_add h g) q

theorem bits_one : bits 1 = 1 := by decide
theorem bits_two : bits 2 = 2 := by decide
theorem bits_three : bits 3 = 2 := by decide

/-! ### values -/
theorem mul_ok {i j : Int} (h : bits i + bits j ≤ 134217728) : mulD (.int i) (.int j) = .ok (.int (i * j)) := if_pos h
theorem mod_ok {i j : Int} (h : 0 < j) : modD (.int i) (.int j) = .ok (.int (i % j)) := if_pos h
theorem fdiv_ok {i j : Int} (h : 0 < j) (h2 : j < 1073741824) : fdivD (.int i) (.int j) = .ok (.int (i / j)) := if_pos ⟨h, PyProof.noPylong_small (by omega)⟩
theorem shl_ok {i j : Int} (h : 0 ≤ j) (h2 : (bits i : Int) + j ≤ 134217728) : shlD (.int i) (.int j) = .ok (.int (i * 2 ^ j.toNat)) := if_pos ⟨h, h2⟩
theorem shr_ok {i j : Int} (h : 0 ≤ j) : shrD (.int i) (.int j) = .ok (.int (i / 2 ^ j.toNat)) := if_pos h
theorem pow_ok {i j : Int} (h : 0 ≤ j ∧ j ≤ 1000000 ∧ i.natAbs < 2 ^ 64) : powD (.int i) (.int j) = .ok (.int (i ^ j.toNat)) := if_pos h
theorem add_int {i j : Int} : addD (.int i) (.int j) = .ok (.int (i + j)) := rfl
theorem sub_int {i j : Int} : int2 (· - ·) (.int i) (.int j) = .ok (.int (i - j)) := rfl
theorem and_int {i j : Int} : int2 Builtin.bitAnd (.int i) (.int j) = .ok (.int (Builtin.bitAnd i j)) := rfl
theorem or_int {i j : Int} : int2 Builtin.bitOr (.int i) (.int j) = .ok (.int (Builtin.bitOr i j)) := rfl
theorem xor_int {i j : Int} : int2 Builtin.bitXor (.int i) (.int j) = .ok (.int (Builtin.bitXor i j)) := rfl
theorem neg_int {i : Int} : negD (.int i) = .ok (.int (-i)) := rfl
theorem bin_add {x y : D} : binD .add x y = addD x y := rfl
theorem bin_sub {x y : D} : binD .sub x y = int2 (· - ·) x y := rfl
theorem bin_mul {x y : D} : binD .mul x y = mulD x y := rfl
theorem bin_fdiv {x y : D} : binD .fdiv x y = fdivD x y := rfl
theorem bin_mod {x y : D} : binD .mod x y = modD x y := rfl
theorem bin_shl {x y : D} : binD .shl x y = shlD x y := rfl
theorem bin_shr {x y : D} : binD .shr x y = shrD x y := rfl
theorem bin_pow {x y : D} : binD .pow x y = powD x y := rfl
theorem bin_and {x y : D} : binD .and x y = int2 Builtin.bitAnd x y := rfl
theorem bin_or {x y : D} : binD .or x y = int2 Builtin.bitOr x y := rfl
theorem bin_xor {x y : D} : binD .xor x y = int2 Builtin.bitXor x y := rfl
theorem cmp_eq {i j : Int} : cmpD .eq (.int i) (.int j) = .ok (decide (i = j)) := by
  show R.ok (i == j) = _
  exact congrArg R.ok (by by_cases h : i = j <;> simp [h])
theorem cmp_ne {i j : Int} : cmpD .ne (.int i) (.int j) = .ok (decide (¬ i = j)) := by
  show R.ok (!(i == j)) = _
  exact congrArg R.ok (by by_cases h : i = j <;> simp [h])
theorem cmp_lt {i j : Int} : cmpD .lt (.int i) (.int j) = .ok (decide (i < j)) := rfl
theorem cmp_le {i j : Int} : cmpD .le (.int i) (.int j) = .ok (decide (i ≤ j)) := rfl
theorem cmp_gt {i j : Int} : cmpD .gt (.int i) (.int j) = .ok (decide (j < i)) := rfl
theorem cmp_ge {i j : Int} : cmpD .ge (.int i) (.int j) = .ok (decide (j ≤ i)) := rfl
theorem bool_ok {b : Bool} : boolD (.bl b) = .ok b := rfl
theorem int_ok {i : Int} : intD (.int i) = .ok i := rfl
theorem len_lst {xs : List D} : f1D .len (.lst xs) = .ok (.int xs.length) := rfl
theorem len_tup {xs : List D} : f1D .len (.tup xs) = .ok (.int xs.length) := rfl
theorem abs_int {i : Int} : f1D .abs (.int i) = .ok (.int i.natAbs) := rfl
theorem int_int {i : Int} : f1D .int (.int i) = .ok (.int i) := rfl
theorem int_bl {b : Bool} : f1D .int (.bl b) = .ok (.int (if b = true then 1 else 0)) := by cases b <;> rfl
theorem max_int {i j : Int} : f2D .max (.int i) (.int j) = .ok (.int (max i j)) := rfl
theorem min_int {i j : Int} : f2D .min (.int i) (.int j) = .ok (.int (min i j)) := rfl
theorem bits_int {i : Int} : m0D .bits (.int i) = .ok (.int (bits i)) := rfl
theorem place_ok {n i : Nat} (h : i < n) : place n (i : Int) = some i := by
  unfold place
  rw [if_pos (by omega), if_pos (by omega)]
  rfl
theorem ix_tup {xs : List D} {i : Nat} (h : i < xs.length) : ixD (.tup xs) (.int (i : Int)) = .ok xs[i] := by
  show (match (place xs.length (i : Int)).bind (xs[·]?) with | some d => R.ok d | none => .no) = _
  rw [place_ok h]
  show (match xs[i]? with | some d => R.ok d | none => .no) = _
  rw [List.getElem?_eq_getElem h]
theorem ix_tup0 {a : D} {r : List D} : ixD (.tup (a :: r)) (.int 0) = .ok a := ix_tup (i := 0) (by simp)
theorem ix_tup1 {a b : D} {r : List D} : ixD (.tup (a :: b :: r)) (.int 1) = .ok b := ix_tup (i := 1) (by simp)
theorem ix_tup2 {a b c : D} {r : List D} : ixD (.tup (a :: b :: c :: r)) (.int 2) = .ok c := ix_tup (i := 2) (by simp)
theorem ix_lst {xs : List D} {i : Nat} (h : i < xs.length) : ixD (.lst xs) (.int (i : Int)) = .ok xs[i] := by
  show (match (place xs.length (i : Int)).bind (xs[·]?) with | some d => R.ok d | none => .no) = _
  rw [place_ok h]
  show (match xs[i]? with | some d => R.ok d | none => .no) = _
  rw [List.getElem?_eq_getElem h]
theorem ix_ints {ns : List Int} {i : Nat} (h : i < ns.length) : ixD (.lst (ns.map .int)) (.int (i : Int)) = .ok (.int ns[i]) := by
  rw [ix_lst (by simpa using h)]
  simp

/-! ### the evaluator's steps -/
def outR : Out → R D
  | .nxt _ => .ok .non
  | .ret d => .ok d
  | .retF xs => .ok (.lst xs)
  | .ex c _ => .ex c
  | .no => .no
theorem run_eq {n np : Nat} {b : Ss} {args : List D} (h : args.length = np) : run n np b args = outR (evSs b (args.map .dat ++ List.replicate (n - np) .un)) := by
  unfold run
  rw [if_pos h]
  cases evSs b (args.map .dat ++ List.replicate (n - np) .un) <;> rfl
theorem outR_nxt {ρ : Env} : outR (.nxt ρ) = .ok .non := rfl
theorem outR_ret {d : D} : outR (.ret d) = .ok d := rfl
theorem outR_retF {xs : List D} : outR (.retF xs) = .ok (.lst xs) := rfl
theorem outR_ex {c : Nat} {ρ : Env} : outR (.ex c ρ) = .ex c := rfl
theorem outR_ite {p : Prop} [Decidable p] {a b : Out} : outR (if p then a else b) = if p then outR a else outR b := by split <;> rfl
theorem thenO_ite {p : Prop} [Decidable p] {a b : Out} {f : Env → Out} : thenO (if p then a else b) f = if p then thenO a f else thenO b f := by split <;> rfl
theorem withR_ite {α : Type} {p : Prop} [Decidable p] {a b : R α} {ρ : Env} {f : α → Out} : withR (if p then a else b) ρ f = if p then withR a ρ f else withR b ρ f := by split <;> rfl
theorem bind_ite {α β : Type} {p : Prop} [Decidable p] {a b : R α} {f : α → R β} : (if p then a else b).bind f = if p then a.bind f else b.bind f := by split <;> rfl
theorem getS0 {a : D} {r : Env} : getS (.dat a :: r) 0 = .ok a := rfl
theorem getSs {s : Slot} {r : Env} {i : Nat} : getS (s :: r) (i + 1) = getS r i := rfl
theorem set0 {s t : Slot} {r : Env} : List.set (s :: r) 0 t = t :: r := rfl
theorem setS {s t : Slot} {r : Env} {i : Nat} : List.set (s :: r) (i + 1) t = s :: List.set r i t := rfl
theorem forGo_inv {step : D → Env → Out} {I : Env → Prop} : ∀ (xs : List D) (ρ : Env), I ρ → (∀ x ∈ xs, ∀ ρ, I ρ → ∃ ρ', step x ρ = .nxt ρ' ∧ I ρ') → ∃ ρ', forGo step xs ρ = .nxt ρ' ∧ I ρ'
  | [], ρ, h, _ => ⟨ρ, rfl, h⟩
  | x :: xs, ρ, h, hs => by
    obtain ⟨ρ1, e1, h1⟩ := hs x (List.mem_cons_self ..) ρ h
    obtain ⟨ρ2, e2, h2⟩ := forGo_inv xs ρ1 h1 fun y hy => hs y (List.mem_cons_of_mem _ hy)
    refine ⟨ρ2, ?_, h2⟩
    unfold forGo
    rw [e1]
    exact e2
/-- what a loop's body must do -/
def Goes (I : Env → Prop) (o : Out) : Prop := ∃ ρ', o = .nxt ρ' ∧ I ρ'
theorem forGo_idx {step : D → Env → Out} {I : Nat → Env → Prop} {N : Nat} : ∀ (xs : List D) (i : Nat) (ρ : Env), I i ρ → (∀ x ∈ xs, ∀ j ρ, j < N → I j ρ → Goes (I (j + 1)) (step x ρ)) → i + xs.length ≤ N → ∃ ρ', forGo step xs ρ = .nxt ρ' ∧ I (i + xs.length) ρ'
  | [], i, ρ, h, _, _ => ⟨ρ, rfl, h⟩
  | x :: xs, i, ρ, h, hs, hl => by
    rw [List.length_cons] at hl
    obtain ⟨ρ1, e1, h1⟩ := hs x (List.mem_cons_self ..) i ρ (by omega) h
    obtain ⟨ρ2, e2, h2⟩ := forGo_idx xs (i + 1) ρ1 h1 (fun y hy => hs y (List.mem_cons_of_mem _ hy)) (by omega)
    refine ⟨ρ2, ?_, ?_⟩
    · unfold forGo
      rw [e1]
      exact e2
    · rw [List.length_cons, show i + (xs.length + 1) = i + 1 + xs.length by omega]
      exact h2
theorem seq {s : S} {r : Ss} {ρ ρ1 : Env} {P : Out → Prop} (h : evS s ρ = .nxt ρ1) (k : P (evSs r ρ1)) : P (evSs (.cons s r) ρ) := by
  have e : evSs (.cons s r) ρ = evSs r ρ1 := by
    simp only [evSs]
    rw [h, thenO_nxt]
  rw [e]
  exact k
theorem seq_ret {s : S} {r : Ss} {ρ : Env} {d : D} {P : Out → Prop} (h : evS s ρ = .ret d) (k : P (.ret d)) : P (evSs (.cons s r) ρ) := by
  have e : evSs (.cons s r) ρ = .ret d := by
    simp only [evSs]
    rw [h, thenO_ret]
  rw [e]
  exact k
theorem seq_nil {ρ : Env} {P : Out → Prop} (k : P (.nxt ρ)) : P (evSs .nil ρ) := by
  simp only [evSs]
  exact k
theorem seqs {s : S} {r : Ss} {ρ : Env} {P : Out → Prop} {i : Nat} {sl : Slot} (h : evS s ρ = .nxt (ρ.set i sl)) (k : P (evSs r (ρ.set i sl))) : P (evSs (.cons s r) ρ) := seq h k
/-! ### the cell at a place -/
theorem cell_at_ok {ns : List Int} {k : Int} (h0 : 0 ≤ k) : ∃ v, G.cell_at_01 [.lst (ns.map .int), .int k] = .ok (.int v) ∧ (v = 0 ∨ v ∈ ns) := by
  simp only [G.cell_at_01, G.b_cell_at_01]
  rw [run_eq (by rfl)]
  simp only [List.map_cons, List.map_nil, List.replicate, List.cons_append, List.nil_append, evSs, evS, evT, evE, getS0, getSs, R.bind_ok, cmp_lt, len_lst, bool_ok, withR_ok, thenO_ite, thenO_nxt, thenO_ret, outR_ite, outR_ret, List.length_map, decide_eq_true_eq]
  by_cases h : k < (ns.length : Int)
  · rw [if_pos h]
    obtain ⟨n, rfl⟩ : ∃ n : Nat, k = n := ⟨k.toNat, by omega⟩
    rw [ix_ints (by omega)]
    exact ⟨_, rfl, .inr (List.getElem_mem _)⟩
  · rw [if_neg h]
    exact ⟨0, rfl, .inl rfl⟩
/-! ### halves -/
theorem pow2_pos (s : Nat) : (0 : Int) < 2 ^ s := Int.pow_pos (by decide)
theorem whole_01_ok {a : Int} : G.whole_01 [.int a] = .ok (.bl true) := rfl
end MP

set_option Elab.async false
set_option linter.all false
set_option maxRecDepth 100000
set_option maxHeartbeats 4000000
set_option autoImplicit false
/-! LE: widths and words. -/
namespace MP
open PySem
theorem shlN {i : Int} {k : Nat} (h : bits i + k ≤ 134217728) : shlD (.int i) (.int (k : Int)) = .ok (.int (i * 2 ^ k)) := by
  rw [shl_ok (by omega) (by omega), Int.toNat_natCast]
theorem shrN {i : Int} {k : Nat} : shrD (.int i) (.int (k : Int)) = .ok (.int (i / 2 ^ k)) := by
  rw [shr_ok (by omega), Int.toNat_natCast]
theorem shl1 {k : Nat} (h : k ≤ 1000000) : shlD (.int 1) (.int (k : Int)) = .ok (.int (2 ^ k)) := by
  rw [shlN (by have := bits_one; omega), Int.one_mul]
theorem fdiv_big {i j : Int} (h : 0 < j) (h2 : bits j ≤ 8000) : fdivD (.int i) (.int j) = .ok (.int (i / j)) := by
  refine if_pos ⟨h, PyProof.noPylong_of_log2 ?_⟩
  have h3 : j.natAbs < 2 ^ 8000 := Bd.iff.mp h2
  exact (Nat.log2_lt (by omega)).mpr (Nat.lt_of_lt_of_le h3 (Nat.pow_le_pow_right (by decide) (by decide)))
theorem pow_le_i {i j : Nat} (h : i ≤ j) : (2 : Int) ^ i ≤ 2 ^ j := by
  have := Nat.pow_le_pow_right (n := 2) (by decide) h
  exact_mod_cast this
/-- a width -/
structure Wd (a b : Nat) : Prop where
  a1 : 2 ≤ a
  a2 : a ≤ 11
  b1 : 1 ≤ b
  b2 : b ≤ 60
theorem is_whole_ok {i : Int} : F.is_whole [.int i] = .ok (.bl true) := rfl
section
variable {a b : Nat}
theorem Wd.c1 : (1 : Int) + a + b = ((1 + a + b : Nat) : Int) := by omega
theorem Wd.c2 : (a : Int) + b = ((a + b : Nat) : Int) := by omega
theorem Wd.c3 (w : Wd a b) : (b : Int) - 1 = ((b - 1 : Nat) : Int) := by have := w.b1; omega
theorem Wd.p2 : (2 : Int) ^ (1 + a + b) = 2 * (2 ^ a * 2 ^ b) := by rw [Int.pow_add, Int.pow_add, Int.mul_assoc]; rfl
theorem Wd.p1 : (2 : Int) ^ (a + b) = 2 ^ a * 2 ^ b := Int.pow_add ..
theorem width_ok (w : Wd a b) : F.width_of [.int a, .int b] = .ok (.tup [.int a, .int b]) := by
  have h1 := w.a1; have h2 := w.a2; have h3 := w.b1; have h4 := w.b2
  have g1 : ¬ (a : Int) < 2 := by omega
  have g2 : ¬ (11 : Int) < a := by omega
  have g3 : ¬ (b : Int) < 1 := by omega
  have g4 : ¬ (60 : Int) < b := by omega
  simp only [F.width_of, F.b_width_of]
  rw [run_eq (by rfl)]
  simp only [evSs, evS, evT, evE, evEs, evSrc, getS0, getSs, set0, setS, R.bind_ok, R.bind_ex, bind_ite, withR_ok, withR_ex, withR_ite, thenO_nxt, thenO_ret, thenO_ex, thenO_ite, outR_nxt, outR_ret, outR_ex, outR_ite, bool_ok, int_ok, bin_add, bin_sub, bin_mul, bin_fdiv, bin_mod, bin_shl, bin_shr, bin_pow, bin_and, bin_or, bin_xor, cmp_eq, cmp_ne, cmp_lt, cmp_le, cmp_gt, cmp_ge, add_int, sub_int, and_int, or_int, xor_int, neg_int, len_lst, len_tup, abs_int, int_int, int_bl, max_int, min_int, bits_int, ix_tup0, ix_tup1, ix_tup2, List.map_cons, List.map_nil, List.replicate, List.cons_append, List.nil_append, List.append_nil, List.length_cons, List.length_nil, decide_eq_true_eq, Nat.reduceSub, Nat.reduceAdd, Int.reduceToNat, is_whole_ok, g1, g2, g3, g4, decide_false, Bool.not_true, Bool.false_eq_true, if_false]
theorem many_ok (w : Wd a b) : F.many_words [.tup [.int a, .int b]] = .ok (.int (2 ^ (1 + a + b))) := by
  have h2 := w.a2; have h4 := w.b2
  simp only [F.many_words, F.b_many_words]
  rw [run_eq (by rfl)]
  simp (disch := omega) only [evSs, evS, evT, evE, evEs, evSrc, getS0, getSs, set0, setS, R.bind_ok, R.bind_ex, bind_ite, withR_ok, withR_ex, withR_ite, thenO_nxt, thenO_ret, thenO_ex, thenO_ite, outR_nxt, outR_ret, outR_ex, outR_ite, bool_ok, int_ok, bin_add, bin_sub, bin_mul, bin_fdiv, bin_mod, bin_shl, bin_shr, bin_pow, bin_and, bin_or, bin_xor, cmp_eq, cmp_ne, cmp_lt, cmp_le, cmp_gt, cmp_ge, add_int, sub_int, and_int, or_int, xor_int, neg_int, len_lst, len_tup, abs_int, int_int, int_bl, max_int, min_int, bits_int, ix_tup0, ix_tup1, ix_tup2, List.map_cons, List.map_nil, List.replicate, List.cons_append, List.nil_append, List.append_nil, List.length_cons, List.length_nil, decide_eq_true_eq, Nat.reduceSub, Nat.reduceAdd, Int.reduceToNat, Wd.c1, shl1]
theorem last_ok (w : Wd a b) : F.last_exponent [.tup [.int a, .int b]] = .ok (.int (2 ^ a - 1)) := by
  have h2 := w.a2
  simp only [F.last_exponent, F.b_last_exponent]
  rw [run_eq (by rfl)]
  simp (disch := omega) only [evSs, evS, evT, evE, evEs, evSrc, getS0, getSs, set0, setS, R.bind_ok, R.bind_ex, bind_ite, withR_ok, withR_ex, withR_ite, thenO_nxt, thenO_ret, thenO_ex, thenO_ite, outR_nxt, outR_ret, outR_ex, outR_ite, bool_ok, int_ok, bin_add, bin_sub, bin_mul, bin_fdiv, bin_mod, bin_shl, bin_shr, bin_pow, bin_and, bin_or, bin_xor, cmp_eq, cmp_ne, cmp_lt, cmp_le, cmp_gt, cmp_ge, add_int, sub_int, and_int, or_int, xor_int, neg_int, len_lst, len_tup, abs_int, int_int, int_bl, max_int, min_int, bits_int, ix_tup0, ix_tup1, ix_tup2, List.map_cons, List.map_nil, List.replicate, List.cons_append, List.nil_append, List.append_nil, List.length_cons, List.length_nil, decide_eq_true_eq, Nat.reduceSub, Nat.reduceAdd, Int.reduceToNat, shl1]
theorem asked_ok (w : Wd a b) {x : Int} (h0 : 0 ≤ x) (h1 : x < 2 ^ (1 + a + b)) : F.asked_word [.tup [.int a, .int b], .int x] = .ok (.int x) := by
  have g1 : ¬ x < 0 := by omega
  have g2 : ¬ (2 : Int) ^ (1 + a + b) ≤ x := by omega
  simp only [F.asked_word, F.b_asked_word]
  rw [run_eq (by rfl)]
  simp only [evSs, evS, evT, evE, evEs, evSrc, getS0, getSs, set0, setS, R.bind_ok, R.bind_ex, bind_ite, withR_ok, withR_ex, withR_ite, thenO_nxt, thenO_ret, thenO_ex, thenO_ite, outR_nxt, outR_ret, outR_ex, outR_ite, bool_ok, int_ok, bin_add, bin_sub, bin_mul, bin_fdiv, bin_mod, bin_shl, bin_shr, bin_pow, bin_and, bin_or, bin_xor, cmp_eq, cmp_ne, cmp_lt, cmp_le, cmp_gt, cmp_ge, add_int, sub_int, and_int, or_int, xor_int, neg_int, len_lst, len_tup, abs_int, int_int, int_bl, max_int, min_int, bits_int, ix_tup0, ix_tup1, ix_tup2, List.map_cons, List.map_nil, List.replicate, List.cons_append, List.nil_append, List.append_nil, List.length_cons, List.length_nil, decide_eq_true_eq, Nat.reduceSub, Nat.reduceAdd, Int.reduceToNat, is_whole_ok, many_ok w, g1, g2, decide_false, Bool.not_true, Bool.false_eq_true, if_false]
theorem cut_ok (w : Wd a b) {x : Int} (h0 : 0 ≤ x) (h1 : x < 2 ^ (1 + a + b)) : F.cut [.tup [.int a, .int b], .int x] = .ok (.tup [.int (x / 2 ^ (a + b)), .int (x / 2 ^ b % 2 ^ a), .int (x % 2 ^ b)]) := by
  have h2 := w.a2; have h4 := w.b2
  simp only [F.cut, F.b_cut]
  rw [run_eq (by rfl)]
  simp (disch := omega) only [evSs, evS, evT, evE, evEs, evSrc, getS0, getSs, set0, setS, R.bind_ok, R.bind_ex, bind_ite, withR_ok, withR_ex, withR_ite, thenO_nxt, thenO_ret, thenO_ex, thenO_ite, outR_nxt, outR_ret, outR_ex, outR_ite, bool_ok, int_ok, bin_add, bin_sub, bin_mul, bin_fdiv, bin_mod, bin_shl, bin_shr, bin_pow, bin_and, bin_or, bin_xor, cmp_eq, cmp_ne, cmp_lt, cmp_le, cmp_gt, cmp_ge, add_int, sub_int, and_int, or_int, xor_int, neg_int, len_lst, len_tup, abs_int, int_int, int_bl, max_int, min_int, bits_int, ix_tup0, ix_tup1, ix_tup2, List.map_cons, List.map_nil, List.replicate, List.cons_append, List.nil_append, List.append_nil, List.length_cons, List.length_nil, decide_eq_true_eq, Nat.reduceSub, Nat.reduceAdd, Int.reduceToNat, asked_ok w h0 h1, last_ok w, Wd.c2, shl1, shrN, PySem.W.kbt_mask]
theorem part_ok {x m : Int} (h0 : 0 ≤ x) (h1 : x < m) : F.is_part [.int x, .int m] = .ok (.bl true) := by
  simp only [F.is_part, F.b_is_part]
  rw [run_eq (by rfl)]
  simp only [evSs, evS, evT, evE, evEs, evSrc, getS0, getSs, set0, setS, R.bind_ok, R.bind_ex, bind_ite, withR_ok, withR_ex, withR_ite, thenO_nxt, thenO_ret, thenO_ex, thenO_ite, outR_nxt, outR_ret, outR_ex, outR_ite, bool_ok, int_ok, bin_add, bin_sub, bin_mul, bin_fdiv, bin_mod, bin_shl, bin_shr, bin_pow, bin_and, bin_or, bin_xor, cmp_eq, cmp_ne, cmp_lt, cmp_le, cmp_gt, cmp_ge, add_int, sub_int, and_int, or_int, xor_int, neg_int, len_lst, len_tup, abs_int, int_int, int_bl, max_int, min_int, bits_int, ix_tup0, ix_tup1, ix_tup2, List.map_cons, List.map_nil, List.replicate, List.cons_append, List.nil_append, List.append_nil, List.length_cons, List.length_nil, decide_eq_true_eq, Nat.reduceSub, Nat.reduceAdd, Int.reduceToNat, is_whole_ok, h0, h1, decide_true, if_true]
theorem or_shift {x y : Int} {k : Nat} (h0 : 0 ≤ y) (h1 : y < 2 ^ k) : Builtin.bitOr (x * 2 ^ k) y = x * 2 ^ k + y := by
  have hk := PySem.W.kbt_mask y k
  rw [Int.emod_eq_of_lt h0 h1] at hk
  have hz : Builtin.bitAnd (x * 2 ^ k) y = 0 := by
    have key : ∀ (k : Nat) (x y : Int), 0 ≤ y → y < 2 ^ k → Builtin.bitAnd (x * 2 ^ k) y = 0 := by
      intro k
      induction k with
      | zero =>
        intro x y h0 h1
        have : y = 0 := by rw [Int.pow_zero] at h1; omega
        rw [this]
        exact PyProof.Rows.bitAnd_zero _
      | succ k ih =>
        intro x y h0 h1
        rw [Int.pow_succ] at h1
        have e : x * 2 ^ (k + 1) = 2 * (x * 2 ^ k) := by rw [Int.pow_succ, ← Int.mul_assoc, Int.mul_comm]
        rw [PySem.W.kbt_halves, e, Int.mul_ediv_cancel_left _ (by decide), ih x (y / 2) (by omega) (by omega), if_neg (by omega)]
        rfl
    exact key k x y h0 h1
  rw [PyProof.Rows.bitOr_and, hz]
  omega
theorem joined_ok (w : Wd a b) {s e f : Int} (s0 : 0 ≤ s) (s1 : s < 2) (e0 : 0 ≤ e) (e1 : e < 2 ^ a) (f0 : 0 ≤ f) (f1 : f < 2 ^ b) :
    F.joined [.tup [.int a, .int b], .int s, .int e, .int f] = .ok (.int (s * 2 ^ (a + b) + e * 2 ^ b + f)) := by
  have h2 := w.a2; have h4 := w.b2
  have bs : bits s ≤ 2 := Bd.rng (by omega) (by omega)
  have be : bits e ≤ 20 := by
    refine Bd.rng (by have : (2:Int) ^ 20 = 1048576 := rfl; omega) ?_
    have := pow_le_i (show a ≤ 20 by omega)
    omega
  have o1 : Builtin.bitOr (s * 2 ^ (a + b)) (e * 2 ^ b) = s * 2 ^ (a + b) + e * 2 ^ b := by
    refine or_shift (Int.mul_nonneg e0 (Int.le_of_lt (pow2_pos b))) ?_
    rw [Wd.p1]
    exact Int.mul_lt_mul_of_pos_right e1 (pow2_pos b)
  have o2 : Builtin.bitOr (s * 2 ^ (a + b) + e * 2 ^ b) f = s * 2 ^ (a + b) + e * 2 ^ b + f := by
    have e3 : s * 2 ^ (a + b) + e * 2 ^ b = (s * 2 ^ a + e) * 2 ^ b := by rw [Wd.p1, Int.add_mul, Int.mul_assoc]
    rw [e3]
    exact or_shift f0 f1
  simp only [F.joined, F.b_joined]
  rw [run_eq (by rfl)]
  simp (disch := omega) only [evSs, evS, evT, evE, evEs, evSrc, getS0, getSs, set0, setS, R.bind_ok, R.bind_ex, bind_ite, withR_ok, withR_ex, withR_ite, thenO_nxt, thenO_ret, thenO_ex, thenO_ite, outR_nxt, outR_ret, outR_ex, outR_ite, bool_ok, int_ok, bin_add, bin_sub, bin_mul, bin_fdiv, bin_mod, bin_shl, bin_shr, bin_pow, bin_and, bin_or, bin_xor, cmp_eq, cmp_ne, cmp_lt, cmp_le, cmp_gt, cmp_ge, add_int, sub_int, and_int, or_int, xor_int, neg_int, len_lst, len_tup, abs_int, int_int, int_bl, max_int, min_int, bits_int, ix_tup0, ix_tup1, ix_tup2, List.map_cons, List.map_nil, List.replicate, List.cons_append, List.nil_append, List.append_nil, List.length_cons, List.length_nil, decide_eq_true_eq, Nat.reduceSub, Nat.reduceAdd, Int.reduceToNat, Wd.c2, shl1, shlN, part_ok s0 s1, part_ok e0 e1, part_ok f0 f1, o1, o2, Bool.not_true, Bool.false_eq_true, if_false]
end
end MP

set_option Elab.async false
set_option linter.all false
set_option maxRecDepth 100000
set_option maxHeartbeats 4000000
set_option autoImplicit false
/-! LF: the laws' words. -/
namespace MP
open PySem
theorem ix_pick {zs : List Int} {i : Int} (h0 : 0 ≤ i) (h1 : i < zs.length) : ∃ z ∈ zs, ixD (.lst (zs.map .int)) (.int i) = .ok (.int z) := by
  obtain ⟨n, rfl⟩ : ∃ n : Nat, i = n := ⟨i.toNat, by omega⟩
  exact ⟨zs[n]'(by omega), List.getElem_mem _, ix_ints (by omega)⟩
section
variable {a b : Nat}
theorem Wd.facts (w : Wd a b) : ∃ A B h : Int, (2 : Int) ^ a = A ∧ (2 : Int) ^ b = B ∧ (2 : Int) ^ (b - 1) = h ∧ B = 2 * h ∧ 1 ≤ h ∧ 4 ≤ A ∧ 4 * B ≤ A * B ∧ A ≤ 2048 := by
  have h1 := w.a1; have h2 := w.a2; have h3 := w.b1
  refine ⟨_, _, _, rfl, rfl, rfl, ?_, ?_, ?_, ?_, ?_⟩
  · obtain ⟨c, rfl⟩ : ∃ c, b = c + 1 := ⟨b - 1, by omega⟩
    rw [Nat.add_sub_cancel, Int.pow_succ, Int.mul_comm]
  · have := pow2_pos (b - 1); omega
  · have := pow_le_i h1; have e : (2 : Int) ^ 2 = 4 := rfl; omega
  · refine Int.mul_le_mul_of_nonneg_right ?_ (Int.le_of_lt (pow2_pos b))
    have := pow_le_i h1; have e : (2 : Int) ^ 2 = 4 := rfl; omega
  · have := pow_le_i h2; have e : (2 : Int) ^ 11 = 2048 := rfl; omega
theorem Wd.bm (w : Wd a b) : bits ((2 : Int) ^ (1 + a + b)) ≤ 8000 := by
  have h2 := w.a2; have h4 := w.b2
  exact Nat.le_trans (Bd.pow2 _) (by omega)
end
end MP

set_option Elab.async false
set_option linter.all false
set_option maxRecDepth 100000
set_option maxHeartbeats 4000000
set_option autoImplicit false
/-! LG: kinds and signs. -/
namespace MP
open PySem
/-- the kind by the two parts -/
def kindv (a b : Nat) (E f : Int) : List Nat :=
  if E = 0 then (if f = 0 then [110, 111, 117, 103, 104, 116] else [115, 109, 97, 108, 108])
  else if E < 2 ^ a - 1 then [112, 108, 97, 105, 110] else if f = 0 then [101, 110, 100, 108, 101, 115, 115] else if f / 2 ^ (b - 1) = 1 then [115, 116, 105, 108, 108] else [108, 111, 117, 100]
section
variable {a b : Nat}
theorem kind_of_ok (w : Wd a b) {x : Int} (h0 : 0 ≤ x) (h1 : x < 2 ^ (1 + a + b)) : F.kind_of [.tup [.int a, .int b], .int x] = .ok (.str (kindv a b (x / 2 ^ b % 2 ^ a) (x % 2 ^ b))) := by
  have c3 := w.c3
  simp only [F.kind_of, F.b_kind_of]
  rw [run_eq (by rfl)]
  simp only [List.map_cons, List.map_nil, List.replicate, List.cons_append, List.nil_append, Nat.reduceSub]
  refine seq (P := fun o => outR o = _) (by simp only [evSs, evS, evT, evE, evEs, evSrc, getS0, getSs, set0, setS, R.bind_ok, R.bind_ex, bind_ite, withR_ok, withR_ex, withR_ite, thenO_nxt, thenO_ret, thenO_ex, thenO_ite, outR_nxt, outR_ret, outR_ex, outR_ite, bool_ok, int_ok, bin_add, bin_sub, bin_mul, bin_fdiv, bin_mod, bin_shl, bin_shr, bin_pow, bin_and, bin_or, bin_xor, cmp_eq, cmp_ne, cmp_lt, cmp_le, cmp_gt, cmp_ge, add_int, sub_int, and_int, or_int, xor_int, neg_int, len_lst, len_tup, abs_int, int_int, int_bl, max_int, min_int, bits_int, ix_tup0, ix_tup1, ix_tup2, List.map_cons, List.map_nil, List.replicate, List.cons_append, List.nil_append, List.append_nil, List.length_cons, List.length_nil, decide_eq_true_eq, Nat.reduceSub, Nat.reduceAdd, Int.reduceToNat, cut_ok w h0 h1, setAll]; rfl) ?_
  generalize x / 2 ^ b % 2 ^ a = E
  generalize x % 2 ^ b = f
  unfold kindv
  simp only [evSs, evS, evT, evE, evEs, evSrc, getS0, getSs, set0, setS, R.bind_ok, R.bind_ex, bind_ite, withR_ok, withR_ex, withR_ite, thenO_nxt, thenO_ret, thenO_ex, thenO_ite, outR_nxt, outR_ret, outR_ex, outR_ite, bool_ok, int_ok, bin_add, bin_sub, bin_mul, bin_fdiv, bin_mod, bin_shl, bin_shr, bin_pow, bin_and, bin_or, bin_xor, cmp_eq, cmp_ne, cmp_lt, cmp_le, cmp_gt, cmp_ge, add_int, sub_int, and_int, or_int, xor_int, neg_int, len_lst, len_tup, abs_int, int_int, int_bl, max_int, min_int, bits_int, ix_tup0, ix_tup1, ix_tup2, List.map_cons, List.map_nil, List.replicate, List.cons_append, List.nil_append, List.append_nil, List.length_cons, List.length_nil, decide_eq_true_eq, Nat.reduceSub, Nat.reduceAdd, Int.reduceToNat, last_ok w, c3, shrN]
  repeat' split
  all_goals rfl
theorem sign_ok (w : Wd a b) : F.sign_bit [.tup [.int a, .int b]] = .ok (.int (2 ^ (a + b))) := by
  have h2 := w.a2; have h4 := w.b2
  simp only [F.sign_bit, F.b_sign_bit]
  rw [run_eq (by rfl)]
  simp (disch := omega) only [evSs, evS, evT, evE, evEs, evSrc, getS0, getSs, set0, setS, R.bind_ok, R.bind_ex, bind_ite, withR_ok, withR_ex, withR_ite, thenO_nxt, thenO_ret, thenO_ex, thenO_ite, outR_nxt, outR_ret, outR_ex, outR_ite, bool_ok, int_ok, bin_add, bin_sub, bin_mul, bin_fdiv, bin_mod, bin_shl, bin_shr, bin_pow, bin_and, bin_or, bin_xor, cmp_eq, cmp_ne, cmp_lt, cmp_le, cmp_gt, cmp_ge, add_int, sub_int, and_int, or_int, xor_int, neg_int, len_lst, len_tup, abs_int, int_int, int_bl, max_int, min_int, bits_int, ix_tup0, ix_tup1, ix_tup2, List.map_cons, List.map_nil, List.replicate, List.cons_append, List.nil_append, List.append_nil, List.length_cons, List.length_nil, decide_eq_true_eq, Nat.reduceSub, Nat.reduceAdd, Int.reduceToNat, Wd.c2, shl1]
theorem unsigned_ok (w : Wd a b) {x : Int} (h0 : 0 ≤ x) (h1 : x < 2 ^ (1 + a + b)) : F.unsigned [.tup [.int a, .int b], .int x] = .ok (.int (x % 2 ^ (a + b))) := by
  simp only [F.unsigned, F.b_unsigned]
  rw [run_eq (by rfl)]
  simp only [evSs, evS, evT, evE, evEs, evSrc, getS0, getSs, set0, setS, R.bind_ok, R.bind_ex, bind_ite, withR_ok, withR_ex, withR_ite, thenO_nxt, thenO_ret, thenO_ex, thenO_ite, outR_nxt, outR_ret, outR_ex, outR_ite, bool_ok, int_ok, bin_add, bin_sub, bin_mul, bin_fdiv, bin_mod, bin_shl, bin_shr, bin_pow, bin_and, bin_or, bin_xor, cmp_eq, cmp_ne, cmp_lt, cmp_le, cmp_gt, cmp_ge, add_int, sub_int, and_int, or_int, xor_int, neg_int, len_lst, len_tup, abs_int, int_int, int_bl, max_int, min_int, bits_int, ix_tup0, ix_tup1, ix_tup2, List.map_cons, List.map_nil, List.replicate, List.cons_append, List.nil_append, List.append_nil, List.length_cons, List.length_nil, decide_eq_true_eq, Nat.reduceSub, Nat.reduceAdd, Int.reduceToNat, asked_ok w h0 h1, sign_ok w, PySem.W.kbt_mask]
end
end MP

set_option Elab.async false
set_option linter.all false
set_option maxRecDepth 100000
set_option maxHeartbeats 4000000
set_option autoImplicit false
/-! LH: ranks. -/
namespace MP
open PySem
section
variable {a b : Nat}
theorem Wd.lh (w : Wd a b) : ∃ L H : Int, ((2 : Int) ^ a - 1) * 2 ^ b = L ∧ (2 : Int) ^ (a + b) = H ∧ 0 < L ∧ L < H ∧ (2 : Int) ^ (1 + a + b) = 2 * H := by
  obtain ⟨A, B, h, eA, eB, eh, f1, f2, f3, f4, f5⟩ := w.facts
  refine ⟨_, _, rfl, rfl, ?_, ?_, ?_⟩
  · rw [Int.sub_mul, Int.one_mul, eA, eB]; omega
  · rw [Wd.p1, Int.sub_mul, Int.one_mul, eA, eB]; omega
  · rw [Wd.p2, Wd.p1]
theorem endless_ok (w : Wd a b) : F.endless_of [.tup [.int a, .int b], .bl false] = .ok (.int ((2 ^ a - 1) * 2 ^ b)) := by
  have pa := pow2_pos a
  have pb := pow2_pos b
  have := joined_ok w (s := 0) (e := 2 ^ a - 1) (f := 0) (by omega) (by omega) (by omega) (by omega) (by omega) pb
  rw [Int.zero_mul, Int.zero_add, Int.add_zero] at this
  simp only [F.endless_of, F.b_endless_of]
  rw [run_eq (by rfl)]
  simp only [evSs, evS, evT, evE, evEs, evSrc, getS0, getSs, set0, setS, R.bind_ok, R.bind_ex, bind_ite, withR_ok, withR_ex, withR_ite, thenO_nxt, thenO_ret, thenO_ex, thenO_ite, outR_nxt, outR_ret, outR_ex, outR_ite, bool_ok, int_ok, bin_add, bin_sub, bin_mul, bin_fdiv, bin_mod, bin_shl, bin_shr, bin_pow, bin_and, bin_or, bin_xor, cmp_eq, cmp_ne, cmp_lt, cmp_le, cmp_gt, cmp_ge, add_int, sub_int, and_int, or_int, xor_int, neg_int, len_lst, len_tup, abs_int, int_int, int_bl, max_int, min_int, bits_int, ix_tup0, ix_tup1, ix_tup2, List.map_cons, List.map_nil, List.replicate, List.cons_append, List.nil_append, List.append_nil, List.length_cons, List.length_nil, decide_eq_true_eq, Nat.reduceSub, Nat.reduceAdd, Int.reduceToNat, last_ok w, Bool.false_eq_true, if_false, this]
/-- the rank by the half -/
def rk (H x : Int) : Int := if x < H then x else H - x
theorem mod_rk {H x : Int} (h0 : 0 ≤ x) (h1 : x < 2 * H) : x % H = if x < H then x else x - H := by
  split
  · exact Int.emod_eq_of_lt h0 (by assumption)
  · rw [show x = (x - H) + H by omega, Int.add_emod_right]
    rw [show x - H + H - H = x - H by omega]
    exact Int.emod_eq_of_lt (by omega) (by omega)
theorem rank_yes (w : Wd a b) {x : Int} (h0 : 0 ≤ x) (h1 : x < 2 ^ (1 + a + b)) (h : ¬ (2 ^ a - 1) * 2 ^ b < x % 2 ^ (a + b)) : F.rank_of [.tup [.int a, .int b], .int x] = .ok (.int (rk (2 ^ (a + b)) x)) := by
  obtain ⟨L, H, eL, eH, hL, hLH, e2⟩ := w.lh
  have hm := mod_rk (H := H) h0 (by omega)
  simp only [F.rank_of, F.b_rank_of]
  rw [run_eq (by rfl)]
  simp only [set0, setS, evSs, evS, evT, evE, evEs, evSrc, getS0, getSs, set0, setS, R.bind_ok, R.bind_ex, bind_ite, withR_ok, withR_ex, withR_ite, thenO_nxt, thenO_ret, thenO_ex, thenO_ite, outR_nxt, outR_ret, outR_ex, outR_ite, bool_ok, int_ok, bin_add, bin_sub, bin_mul, bin_fdiv, bin_mod, bin_shl, bin_shr, bin_pow, bin_and, bin_or, bin_xor, cmp_eq, cmp_ne, cmp_lt, cmp_le, cmp_gt, cmp_ge, add_int, sub_int, and_int, or_int, xor_int, neg_int, len_lst, len_tup, abs_int, int_int, int_bl, max_int, min_int, bits_int, ix_tup0, ix_tup1, ix_tup2, List.map_cons, List.map_nil, List.replicate, List.cons_append, List.nil_append, List.append_nil, List.length_cons, List.length_nil, decide_eq_true_eq, Nat.reduceSub, Nat.reduceAdd, Int.reduceToNat, unsigned_ok w h0 h1, endless_ok w, h, decide_false, Bool.false_eq_true, if_false]
  rw [eH, hm]
  unfold rk
  by_cases c : x < H
  · rw [if_pos c, if_pos c, if_pos rfl]
  · rw [if_neg c, if_neg c, if_neg (by omega), show 0 - (x - H) = H - x by omega]
/-- the word a step further -/
def nxv (L H x st : Int) : Int := if L < x % H ∨ L < ((rk H x + st).natAbs : Int) then x else if rk H x + st = 0 then x / H * H else if rk H x + st < 0 then H - (rk H x + st) else rk H x + st
theorem asked_bad_int (w : Wd a b) {x : Int} (h : x < 0 ∨ 2 ^ (1 + a + b) ≤ x) : F.asked_word [.tup [.int a, .int b], .int x] = .ex 1 := by
  simp only [F.asked_word, F.b_asked_word]
  rw [run_eq (by rfl)]
  by_cases c : x < 0
  · simp -implicitDefEqProofs only [evSs, evS, evT, evE, evEs, evSrc, getS0, getSs, set0, setS, R.bind_ok, R.bind_ex, bind_ite, withR_ok, withR_ex, withR_ite, thenO_nxt, thenO_ret, thenO_ex, thenO_ite, outR_nxt, outR_ret, outR_ex, outR_ite, bool_ok, int_ok, bin_add, bin_sub, bin_mul, bin_fdiv, bin_mod, bin_shl, bin_shr, bin_pow, bin_and, bin_or, bin_xor, cmp_eq, cmp_ne, cmp_lt, cmp_le, cmp_gt, cmp_ge, add_int, sub_int, and_int, or_int, xor_int, neg_int, len_lst, len_tup, abs_int, int_int, int_bl, max_int, min_int, bits_int, ix_tup0, ix_tup1, ix_tup2, List.map_cons, List.map_nil, List.replicate, List.cons_append, List.nil_append, List.append_nil, List.length_cons, List.length_nil, decide_eq_true_eq, Nat.reduceSub, Nat.reduceAdd, Int.reduceToNat, is_whole_ok, c, decide_true, Bool.not_true, Bool.false_eq_true, if_false, if_true]
  · have d : (2 : Int) ^ (1 + a + b) ≤ x := by omega
    simp -implicitDefEqProofs only [evSs, evS, evT, evE, evEs, evSrc, getS0, getSs, set0, setS, R.bind_ok, R.bind_ex, bind_ite, withR_ok, withR_ex, withR_ite, thenO_nxt, thenO_ret, thenO_ex, thenO_ite, outR_nxt, outR_ret, outR_ex, outR_ite, bool_ok, int_ok, bin_add, bin_sub, bin_mul, bin_fdiv, bin_mod, bin_shl, bin_shr, bin_pow, bin_and, bin_or, bin_xor, cmp_eq, cmp_ne, cmp_lt, cmp_le, cmp_gt, cmp_ge, add_int, sub_int, and_int, or_int, xor_int, neg_int, len_lst, len_tup, abs_int, int_int, int_bl, max_int, min_int, bits_int, ix_tup0, ix_tup1, ix_tup2, List.map_cons, List.map_nil, List.replicate, List.cons_append, List.nil_append, List.append_nil, List.length_cons, List.length_nil, decide_eq_true_eq, Nat.reduceSub, Nat.reduceAdd, Int.reduceToNat, is_whole_ok, many_ok w, c, d, decide_true, decide_false, Bool.not_true, Bool.false_eq_true, if_false, if_true]
end
end MP

set_option Elab.async false
set_option linter.all false
set_option maxRecDepth 100000
set_option maxHeartbeats 4000000
set_option autoImplicit false
/-! LI: widths and words of k14, k21. -/
namespace MP
open PySem
section
variable {a b : Nat}
theorem wide_14_ok {c : Int} (hc : bits c ≤ 4000000) : ∃ a b : Nat, G.wide_14 [.int c] = .ok (.tup [.int a, .int b]) ∧ Wd a b := by
  simp only [G.wide_14, G.b_wide_14]
  rw [run_eq (by rfl)]
  simp (disch := first | exact bsum (by (repeat' first | assumption | apply Bd.mod | apply Bd.shlm | apply Bd.shl | apply Bd.mul | apply Bd.add | apply Bd.sub | apply Bd.neg | apply Bd.abs | apply Bd.fdiv | apply Bd.pow2 | exact Bd.lit _ | decide | omega)) (by (repeat' first | assumption | apply Bd.mod | apply Bd.shlm | apply Bd.shl | apply Bd.mul | apply Bd.add | apply Bd.sub | apply Bd.neg | apply Bd.abs | apply Bd.fdiv | apply Bd.pow2 | exact Bd.lit _ | decide | omega)) (by decide +kernel) | decide +kernel | (have := bits_one; omega)) only [evSs, evS, evT, evE, evEs, evSrc, getS0, getSs, set0, setS, R.bind_ok, R.bind_ex, bind_ite, withR_ok, withR_ex, withR_ite, thenO_nxt, thenO_ret, thenO_ex, thenO_ite, outR_nxt, outR_ret, outR_ex, outR_ite, bool_ok, int_ok, bin_add, bin_sub, bin_mul, bin_fdiv, bin_mod, bin_shl, bin_shr, bin_pow, bin_and, bin_or, bin_xor, cmp_eq, cmp_ne, cmp_lt, cmp_le, cmp_gt, cmp_ge, add_int, sub_int, and_int, or_int, xor_int, neg_int, len_lst, len_tup, abs_int, int_int, int_bl, max_int, min_int, bits_int, ix_tup0, ix_tup1, ix_tup2, List.map_cons, List.map_nil, List.replicate, List.cons_append, List.nil_append, List.append_nil, List.length_cons, List.length_nil, decide_eq_true_eq, Nat.reduceSub, Nat.reduceAdd, Int.reduceToNat, mul_ok, mod_ok, fdiv_ok, shl_ok, shr_ok, pow_ok]
  have m0 : 0 ≤ c * 48271 % 999983 := by omega
  generalize c * 48271 % 999983 = m at *
  split
  · refine ⟨(2 + m / 2 % 3).toNat, (1 + m / 6 % 4).toNat, ?_, ⟨by omega, by omega, by omega, by omega⟩⟩
    rw [Int.toNat_of_nonneg (by omega), Int.toNat_of_nonneg (by omega)]
  · refine ⟨(2 + m / 2 % 10).toNat, (1 + m / 20 % 60).toNat, ?_, ⟨by omega, by omega, by omega, by omega⟩⟩
    rw [Int.toNat_of_nonneg (by omega), Int.toNat_of_nonneg (by omega)]
end
end MP

set_option Elab.async false
set_option linter.all false
set_option maxRecDepth 100000
set_option maxHeartbeats 4000000
set_option autoImplicit false
/-! LJ: steps in order; k22's words. -/
namespace MP
open PySem
section
variable {a b : Nat}
/-- the steps of a size -/
def sv (b : Nat) (s : Int) : Int := if s < 2 ^ b then s else (s % 2 ^ b + 2 ^ b) * 2 ^ (s / 2 ^ b - 1).toNat
theorem sv_mono {s t : Int} (h0 : 0 ≤ s) (h : s < t) : sv b s < sv b t := by
  have pb := pow2_pos b
  have m0 := Int.emod_nonneg s (show (2 : Int) ^ b ≠ 0 by omega)
  have m1 := Int.emod_lt_of_pos s pb
  have n0 := Int.emod_nonneg t (show (2 : Int) ^ b ≠ 0 by omega)
  have n1 := Int.emod_lt_of_pos t pb
  have ds := Int.emod_add_mul_ediv s (2 ^ b)
  have dt := Int.emod_add_mul_ediv t (2 ^ b)
  have big : ∀ {u : Int}, 2 ^ b ≤ u → 1 ≤ u / 2 ^ b := fun hu => Int.le_ediv_of_mul_le pb (by omega)
  unfold sv
  by_cases cs : s < 2 ^ b
  · rw [if_pos cs]
    by_cases ct : t < 2 ^ b
    · rw [if_pos ct]; exact h
    · rw [if_neg ct]
      have := Int.mul_le_mul_of_nonneg_left (show (1 : Int) ≤ 2 ^ (t / 2 ^ b - 1).toNat by have := pow2_pos (t / 2 ^ b - 1).toNat; omega) (show 0 ≤ t % 2 ^ b + 2 ^ b by omega)
      omega
  · have ct : ¬ t < 2 ^ b := by omega
    rw [if_neg cs, if_neg ct]
    have es := big (u := s) (by omega)
    rcases Int.lt_trichotomy (s / 2 ^ b) (t / 2 ^ b) with c | c | c
    · have e : (t / 2 ^ b - 1).toNat = (t / 2 ^ b - 1 - (s / 2 ^ b)).toNat + ((s / 2 ^ b - 1).toNat + 1) := by omega
      have q1 : (s % 2 ^ b + 2 ^ b) * 2 ^ (s / 2 ^ b - 1).toNat < 2 ^ b * 2 ^ ((s / 2 ^ b - 1).toNat + 1) := by
        rw [Int.pow_succ, Int.mul_comm (2 ^ (s / 2 ^ b - 1).toNat) 2, ← Int.mul_assoc]
        exact Int.mul_lt_mul_of_pos_right (by omega) (pow2_pos _)
      have q2 : (2 : Int) ^ b * 2 ^ ((s / 2 ^ b - 1).toNat + 1) ≤ 2 ^ b * 2 ^ (t / 2 ^ b - 1).toNat := Int.mul_le_mul_of_nonneg_left (pow_le_i (by omega)) (Int.le_of_lt pb)
      have q3 : (2 : Int) ^ b * 2 ^ (t / 2 ^ b - 1).toNat ≤ (t % 2 ^ b + 2 ^ b) * 2 ^ (t / 2 ^ b - 1).toNat := Int.mul_le_mul_of_nonneg_right (by omega) (Int.le_of_lt (pow2_pos _))
      omega
    · rw [c]
      rw [c] at ds
      exact Int.mul_lt_mul_of_pos_right (by omega) (pow2_pos _)
    · have := Int.mul_le_mul_of_nonneg_left (show t / 2 ^ b + 1 ≤ s / 2 ^ b by omega) (Int.le_of_lt pb)
      rw [Int.mul_add, Int.mul_one] at this
      omega
theorem sv_iff {s t : Int} (h0 : 0 ≤ s) (h1 : 0 ≤ t) : sv b s < sv b t ↔ s < t := by
  constructor
  · intro h
    rcases Int.lt_trichotomy s t with c | c | c
    · exact c
    · rw [c] at h; omega
    · have := sv_mono (b := b) h1 c; omega
  · exact sv_mono h0
theorem sv_zero : sv b 0 = 0 := if_pos (pow2_pos b)
def stv (b : Nat) (H x : Int) : Int := if H ≤ x then 0 - sv b (x % H) else sv b (x % H)
theorem word_22_ok (w : Wd a b) {c : Int} (hc : bits c ≤ 4000000) : ∃ x, G.word_22 [.tup [.int a, .int b], .int c] = .ok (.int x) ∧ 0 ≤ x ∧ x < 2 ^ (1 + a + b) := by
  have h2 := w.a2; have h4 := w.b2; have h3 := w.b1
  have hmp := pow2_pos (1 + a + b)
  have hbm := w.bm
  have hH : (2 : Int) * 2 ^ (a + b) = 2 ^ (1 + a + b) := by rw [Wd.p2, Wd.p1]
  have mH : bits 2 + bits ((2 : Int) ^ (a + b)) ≤ 134217728 := by
    have q1 : bits 2 = 2 := by decide
    have q2 : bits ((2 : Int) ^ (a + b)) ≤ 8000 := Nat.le_trans (Bd.pow2 _) (by omega)
    omega
  obtain ⟨A, B, h, eA, eB, eh, f1, f2, f3, f4, f5⟩ := w.facts
  have bA : bits ((2 : Int) ^ a - 1) ≤ 20 := by
    have h20 : (2 : Int) ^ 20 = 1048576 := rfl
    exact Bd.rng (by omega) (by omega)
  have ew : (2 : Int) ^ (1 + a + b) = 2 * (A * B) := by rw [Wd.p2, eA, eB]
  have eAB : ((2 : Int) ^ a - 1) * 2 ^ b = A * B - B := by rw [eA, eB, Int.sub_mul, Int.one_mul]
  have eAB' : ((2 : Int) ^ a - 1) * B = A * B - B := by rw [eA, Int.sub_mul, Int.one_mul]
  have c3 := w.c3
  simp only [G.word_22, G.b_word_22]
  rw [run_eq (by rfl)]
  simp only [List.map_cons, List.map_nil, List.replicate, List.cons_append, List.nil_append, Nat.reduceSub]
  refine seq (P := fun o => ∃ x, outR o = .ok (.int x) ∧ 0 ≤ x ∧ x < 2 ^ (1 + a + b)) (by simp (disch := omega) only [evSs, evS, evT, evE, evEs, evSrc, getS0, getSs, set0, setS, R.bind_ok, R.bind_ex, bind_ite, withR_ok, withR_ex, withR_ite, thenO_nxt, thenO_ret, thenO_ex, thenO_ite, outR_nxt, outR_ret, outR_ex, outR_ite, bool_ok, int_ok, bin_add, bin_sub, bin_mul, bin_fdiv, bin_mod, bin_shl, bin_shr, bin_pow, bin_and, bin_or, bin_xor, cmp_eq, cmp_ne, cmp_lt, cmp_le, cmp_gt, cmp_ge, add_int, sub_int, and_int, or_int, xor_int, neg_int, len_lst, len_tup, abs_int, int_int, int_bl, max_int, min_int, bits_int, ix_tup0, ix_tup1, ix_tup2, List.map_cons, List.map_nil, List.replicate, List.cons_append, List.nil_append, List.append_nil, List.length_cons, List.length_nil, decide_eq_true_eq, Nat.reduceSub, Nat.reduceAdd, Int.reduceToNat, Wd.c2, shl1]; rfl) ?_
  refine seq (P := fun o => ∃ x, outR o = .ok (.int x) ∧ 0 ≤ x ∧ x < 2 ^ (1 + a + b)) (by simp (disch := first | exact bsum (by (repeat' first | assumption | apply Bd.mod | apply Bd.shlm | apply Bd.shl | apply Bd.mul | apply Bd.add | apply Bd.sub | apply Bd.neg | apply Bd.abs | apply Bd.fdiv | apply Bd.pow2 | exact Bd.lit _ | decide | omega)) (by (repeat' first | assumption | apply Bd.mod | apply Bd.shlm | apply Bd.shl | apply Bd.mul | apply Bd.add | apply Bd.sub | apply Bd.neg | apply Bd.abs | apply Bd.fdiv | apply Bd.pow2 | exact Bd.lit _ | decide | omega)) (by decide +kernel) | decide +kernel | (have := bits_one; omega)) only [evSs, evS, evT, evE, evEs, evSrc, getS0, getSs, set0, setS, R.bind_ok, R.bind_ex, bind_ite, withR_ok, withR_ex, withR_ite, thenO_nxt, thenO_ret, thenO_ex, thenO_ite, outR_nxt, outR_ret, outR_ex, outR_ite, bool_ok, int_ok, bin_add, bin_sub, bin_mul, bin_fdiv, bin_mod, bin_shl, bin_shr, bin_pow, bin_and, bin_or, bin_xor, cmp_eq, cmp_ne, cmp_lt, cmp_le, cmp_gt, cmp_ge, add_int, sub_int, and_int, or_int, xor_int, neg_int, len_lst, len_tup, abs_int, int_int, int_bl, max_int, min_int, bits_int, ix_tup0, ix_tup1, ix_tup2, List.map_cons, List.map_nil, List.replicate, List.cons_append, List.nil_append, List.append_nil, List.length_cons, List.length_nil, decide_eq_true_eq, Nat.reduceSub, Nat.reduceAdd, Int.reduceToNat, mul_ok, mod_ok, fdiv_ok, shl_ok, shr_ok, pow_ok]; rfl) ?_
  have m0 : 0 ≤ c * 618033988749894848204587 % (10 ^ 24 + 7) := Int.emod_nonneg _ (by decide)
  generalize c * 618033988749894848204587 % (10 ^ 24 + 7) = m at *
  refine seq (P := fun o => ∃ x, outR o = .ok (.int x) ∧ 0 ≤ x ∧ x < 2 ^ (1 + a + b)) (by simp (disch := omega) only [evSs, evS, evT, evE, evEs, evSrc, getS0, getSs, set0, setS, R.bind_ok, R.bind_ex, bind_ite, withR_ok, withR_ex, withR_ite, thenO_nxt, thenO_ret, thenO_ex, thenO_ite, outR_nxt, outR_ret, outR_ex, outR_ite, bool_ok, int_ok, bin_add, bin_sub, bin_mul, bin_fdiv, bin_mod, bin_shl, bin_shr, bin_pow, bin_and, bin_or, bin_xor, cmp_eq, cmp_ne, cmp_lt, cmp_le, cmp_gt, cmp_ge, add_int, sub_int, and_int, or_int, xor_int, neg_int, len_lst, len_tup, abs_int, int_int, int_bl, max_int, min_int, bits_int, ix_tup0, ix_tup1, ix_tup2, List.map_cons, List.map_nil, List.replicate, List.cons_append, List.nil_append, List.append_nil, List.length_cons, List.length_nil, decide_eq_true_eq, Nat.reduceSub, Nat.reduceAdd, Int.reduceToNat, shl1, shlN]; rfl) ?_
  refine seq (P := fun o => ∃ x, outR o = .ok (.int x) ∧ 0 ≤ x ∧ x < 2 ^ (1 + a + b)) (by simp (disch := omega) only [evSs, evS, evT, evE, evEs, evSrc, getS0, getSs, set0, setS, R.bind_ok, R.bind_ex, bind_ite, withR_ok, withR_ex, withR_ite, thenO_nxt, thenO_ret, thenO_ex, thenO_ite, outR_nxt, outR_ret, outR_ex, outR_ite, bool_ok, int_ok, bin_add, bin_sub, bin_mul, bin_fdiv, bin_mod, bin_shl, bin_shr, bin_pow, bin_and, bin_or, bin_xor, cmp_eq, cmp_ne, cmp_lt, cmp_le, cmp_gt, cmp_ge, add_int, sub_int, and_int, or_int, xor_int, neg_int, len_lst, len_tup, abs_int, int_int, int_bl, max_int, min_int, bits_int, ix_tup0, ix_tup1, ix_tup2, List.map_cons, List.map_nil, List.replicate, List.cons_append, List.nil_append, List.append_nil, List.length_cons, List.length_nil, decide_eq_true_eq, Nat.reduceSub, Nat.reduceAdd, Int.reduceToNat, shl1, c3]; rfl) ?_
  have p0 : 0 ≤ m / 2 ^ (1 + a + b) % 16 := Int.emod_nonneg _ (by decide)
  refine seq (P := fun o => ∃ x, outR o = .ok (.int x) ∧ 0 ≤ x ∧ x < 2 ^ (1 + a + b)) (by simp (disch := first | omega | decide) only [evSs, evS, evT, evE, evEs, evSrc, getS0, getSs, set0, setS, R.bind_ok, R.bind_ex, bind_ite, withR_ok, withR_ex, withR_ite, thenO_nxt, thenO_ret, thenO_ex, thenO_ite, outR_nxt, outR_ret, outR_ex, outR_ite, bool_ok, int_ok, bin_add, bin_sub, bin_mul, bin_fdiv, bin_mod, bin_shl, bin_shr, bin_pow, bin_and, bin_or, bin_xor, cmp_eq, cmp_ne, cmp_lt, cmp_le, cmp_gt, cmp_ge, add_int, sub_int, and_int, or_int, xor_int, neg_int, len_lst, len_tup, abs_int, int_int, int_bl, max_int, min_int, bits_int, ix_tup0, ix_tup1, ix_tup2, List.map_cons, List.map_nil, List.replicate, List.cons_append, List.nil_append, List.append_nil, List.length_cons, List.length_nil, decide_eq_true_eq, Nat.reduceSub, Nat.reduceAdd, Int.reduceToNat, mul_ok mH, hH, fdiv_big hmp hbm, mod_ok]; rfl) ?_
  generalize m / 2 ^ (1 + a + b) % 16 = p at *
  by_cases hp : p < 8
  · obtain ⟨z, hz, ez⟩ := ix_pick (zs := [0, 1, 2 ^ b - 1, 2 ^ b, (2 ^ a - 1) * 2 ^ b - 1, (2 ^ a - 1) * 2 ^ b, (2 ^ a - 1) * 2 ^ b + 1, (2 ^ a - 1) * 2 ^ b + 2 ^ (b - 1)]) p0 (by simpa using hp)
    simp only [List.map_cons, List.map_nil] at ez
    have hz2 : 0 ≤ z ∧ z < A * B := by
      simp only [List.mem_cons, List.not_mem_nil, or_false, eB, eAB', eh] at hz
      rcases hz with rfl | rfl | rfl | rfl | rfl | rfl | rfl | rfl <;> omega
    have bb : bits (m % 2) + bits ((2 : Int) ^ (a + b)) ≤ 134217728 := by
      have q1 : bits (m % 2) ≤ 2 := Bd.rng (by omega) (by omega)
      have q2 : bits ((2 : Int) ^ (a + b)) ≤ 8000 := Nat.le_trans (Bd.pow2 _) (by omega)
      omega
    have hHp := pow2_pos (a + b)
    have hHe : (2 : Int) ^ (a + b) = A * B := by rw [Wd.p1, eA, eB]
    refine seq_ret (P := fun o => ∃ x, outR o = .ok (.int x) ∧ 0 ≤ x ∧ x < 2 ^ (1 + a + b)) (by simp (disch := first | assumption | decide) only [evSs, evS, evT, evE, evEs, evSrc, getS0, getSs, set0, setS, R.bind_ok, R.bind_ex, bind_ite, withR_ok, withR_ex, withR_ite, thenO_nxt, thenO_ret, thenO_ex, thenO_ite, outR_nxt, outR_ret, outR_ex, outR_ite, bool_ok, int_ok, bin_add, bin_sub, bin_mul, bin_fdiv, bin_mod, bin_shl, bin_shr, bin_pow, bin_and, bin_or, bin_xor, cmp_eq, cmp_ne, cmp_lt, cmp_le, cmp_gt, cmp_ge, add_int, sub_int, and_int, or_int, xor_int, neg_int, len_lst, len_tup, abs_int, int_int, int_bl, max_int, min_int, bits_int, ix_tup0, ix_tup1, ix_tup2, List.map_cons, List.map_nil, List.replicate, List.cons_append, List.nil_append, List.append_nil, List.length_cons, List.length_nil, decide_eq_true_eq, Nat.reduceSub, Nat.reduceAdd, Int.reduceToNat, hp, decide_true, if_true, ez, mod_ok, fdiv_ok, mul_ok bb]; rfl) ?_
    refine ⟨_, rfl, ?_, ?_⟩
    · have : 0 ≤ m % 2 * ((2 : Int) ^ (a + b)) := Int.mul_nonneg (by omega) (by omega)
      omega
    · rw [ew, hHe]
      have hm2 : m % 2 = 0 ∨ m % 2 = 1 := by omega
      rcases hm2 with q | q <;> rw [q] <;> omega
  · refine seq (P := fun o => ∃ x, outR o = .ok (.int x) ∧ 0 ≤ x ∧ x < 2 ^ (1 + a + b)) (by simp only [evSs, evS, evT, evE, evEs, evSrc, getS0, getSs, set0, setS, R.bind_ok, R.bind_ex, bind_ite, withR_ok, withR_ex, withR_ite, thenO_nxt, thenO_ret, thenO_ex, thenO_ite, outR_nxt, outR_ret, outR_ex, outR_ite, bool_ok, int_ok, bin_add, bin_sub, bin_mul, bin_fdiv, bin_mod, bin_shl, bin_shr, bin_pow, bin_and, bin_or, bin_xor, cmp_eq, cmp_ne, cmp_lt, cmp_le, cmp_gt, cmp_ge, add_int, sub_int, and_int, or_int, xor_int, neg_int, len_lst, len_tup, abs_int, int_int, int_bl, max_int, min_int, bits_int, ix_tup0, ix_tup1, ix_tup2, List.map_cons, List.map_nil, List.replicate, List.cons_append, List.nil_append, List.append_nil, List.length_cons, List.length_nil, decide_eq_true_eq, Nat.reduceSub, Nat.reduceAdd, Int.reduceToNat, hp, decide_false, Bool.false_eq_true, if_false]; rfl) ?_
    refine seq_ret (P := fun o => ∃ x, outR o = .ok (.int x) ∧ 0 ≤ x ∧ x < 2 ^ (1 + a + b)) (by simp (disch := assumption) only [evSs, evS, evT, evE, evEs, evSrc, getS0, getSs, set0, setS, R.bind_ok, R.bind_ex, bind_ite, withR_ok, withR_ex, withR_ite, thenO_nxt, thenO_ret, thenO_ex, thenO_ite, outR_nxt, outR_ret, outR_ex, outR_ite, bool_ok, int_ok, bin_add, bin_sub, bin_mul, bin_fdiv, bin_mod, bin_shl, bin_shr, bin_pow, bin_and, bin_or, bin_xor, cmp_eq, cmp_ne, cmp_lt, cmp_le, cmp_gt, cmp_ge, add_int, sub_int, and_int, or_int, xor_int, neg_int, len_lst, len_tup, abs_int, int_int, int_bl, max_int, min_int, bits_int, ix_tup0, ix_tup1, ix_tup2, List.map_cons, List.map_nil, List.replicate, List.cons_append, List.nil_append, List.append_nil, List.length_cons, List.length_nil, decide_eq_true_eq, Nat.reduceSub, Nat.reduceAdd, Int.reduceToNat, mul_ok mH, hH, mod_ok]; rfl) ?_
    exact ⟨_, rfl, Int.emod_nonneg _ (by omega), Int.emod_lt_of_pos _ hmp⟩
end
end MP

namespace MP
def K25.b_law : Ss := (.cons (.asg 1 (.call "_law_wide" G.wide_14 (.cons (.call "_law_cell_at" G.cell_at_01 (.cons (.var 0) (.cons (.int 0) .nil)) []) .nil) []))
  (.cons (.asg 2 (.call "width_of" F.width_of (.cons (.ix (.var 1) (.int 0)) (.cons (.ix (.var 1) (.int 1)) .nil)) []))
  (.cons (.asg 3 (.call "_law_words" G.words_25 (.cons (.var 1) (.cons (.slc (.var 0) (.int 1) (.int 291)) .nil)) []))
  (.cons (.asg 4 (.f1 .list (.var 3)))
  (.cons (.asgN 5 (.callF "in_order" F.in_order (.cons (.var 2) (.cons (.var 4) .nil)) []))
  (.cons (.ifs (.lend 5 (.or (.not (.call "_law_right" G.right_25 (.cons (.var 1) (.cons (.var 5) (.cons (.var 3) .nil))) [])) (.cmp .ne (.var 4) (.var 3)))) (.cons (.ret (.bl false))
  .nil) .nil)
  (.cons (.app 5 (.int 0))
  (.cons (.frz 5)
  (.cons (.asg 6 (.f1 .list (.var 5)))
  (.cons (.asg 7 (.bin .mod (.bin .fdiv (.call "_law_cell_at" G.cell_at_01 (.cons (.var 0) (.cons (.int 1) .nil)) []) (.int 7)) (.bin .add (.f1 .len (.var 3)) (.int 1))))
  (.cons (.asg 8 (.ix (.lst (.cons (.bin .shl (.int 1) (.bin .add (.bin .add (.int 1) (.ix (.var 1) (.int 0))) (.ix (.var 1) (.int 1)))) (.cons (.neg (.int 1)) (.cons .non (.cons (.bl true) (.cons (.str [48]) .nil)))))) (.bin .mod (.call "_law_cell_at" G.cell_at_01 (.cons (.var 0) (.cons (.int 2) .nil)) []) (.int 5))))
  (.cons (.ifs (.not (.call "_law_refused" G.refused_25 (.cons (.var 2) (.cons (.bin .add (.bin .add (.slcH (.var 3) (.var 7)) (.lst (.cons (.var 8) .nil))) (.slcL (.var 3) (.var 7))) .nil)) [])) (.cons (.ret (.bl false))
  .nil) .nil)
  (.cons (.ifs (.or (.not (.call "_law_right" G.right_25 (.cons (.var 1) (.cons (.call "in_order" F.in_order (.cons (.var 2) (.cons (.var 4) .nil)) []) (.cons (.var 3) .nil))) [])) (.cmp .ne (.var 4) (.var 3))) (.cons (.ret (.bl false))
  .nil) .nil)
  (.cons (.asg 9 (.bin .add (.slcL (.var 3) (.var 7)) (.lrev (.slcH (.var 3) (.var 7)))))
  (.cons (.ifs (.not (.call "_law_right" G.right_25 (.cons (.var 1) (.cons (.call "in_order" F.in_order (.cons (.var 2) (.cons (.f1 .list (.var 9)) .nil)) []) (.cons (.var 9) .nil))) [])) (.cons (.ret (.bl false))
  .nil) .nil)
  (.cons (.ret (.cmp .eq (.var 5) (.var 6)))
  .nil))))))))))))))))
def K25.law (a : List D) : R D := run 10 1 K25.b_law a
end MP

set_option linter.all false
set_option autoImplicit false
namespace MP
open PySem
section
variable {a b : Nat}
theorem kind_cases (w : Wd a b) {x : Int} (h0 : 0 ≤ x) (h1 : x < 2 ^ (1 + a + b)) :
    (x % 2 ^ (a + b) ≤ (2 ^ a - 1) * 2 ^ b ∧ (kindv a b (x / 2 ^ b % 2 ^ a) (x % 2 ^ b) = [110, 111, 117, 103, 104, 116] ∨ kindv a b (x / 2 ^ b % 2 ^ a) (x % 2 ^ b) = [115, 109, 97, 108, 108] ∨ kindv a b (x / 2 ^ b % 2 ^ a) (x % 2 ^ b) = [112, 108, 97, 105, 110] ∨ kindv a b (x / 2 ^ b % 2 ^ a) (x % 2 ^ b) = [101, 110, 100, 108, 101, 115, 115])) ∨
    ((2 ^ a - 1) * 2 ^ b < x % 2 ^ (a + b) ∧ x % 2 ^ (a + b) < (2 ^ a - 1) * 2 ^ b + 2 ^ (b - 1) ∧ kindv a b (x / 2 ^ b % 2 ^ a) (x % 2 ^ b) = [108, 111, 117, 100]) ∨
    ((2 ^ a - 1) * 2 ^ b + 2 ^ (b - 1) ≤ x % 2 ^ (a + b) ∧ kindv a b (x / 2 ^ b % 2 ^ a) (x % 2 ^ b) = [115, 116, 105, 108, 108]) := by
  have h2 := w.a2; have h4 := w.b2
  have hp := pow2_pos (a + b)
  have pb := pow2_pos b
  obtain ⟨A, B, h, eA, eB, eh, f1, f2, f3, f4, f5⟩ := w.facts
  have bA : bits ((2 : Int) ^ a - 1) ≤ 20 := by
    have h20 : (2 : Int) ^ 20 = 1048576 := rfl
    exact Bd.rng (by omega) (by omega)
  have hs : x % 2 ^ (a + b) = x / 2 ^ b % 2 ^ a * 2 ^ b + x % 2 ^ b := by
    have q1 := Int.emod_add_mul_ediv x (2 ^ b)
    have q2 := Int.emod_add_mul_ediv (x / 2 ^ b) (2 ^ a)
    have q3 : x / 2 ^ b / 2 ^ a = x / 2 ^ (a + b) := by
      rw [Int.ediv_ediv_of_nonneg (Int.le_of_lt pb), ← Int.pow_add, Nat.add_comm]
    have q4 := Int.emod_add_mul_ediv x (2 ^ (a + b))
    rw [q3] at q2
    have q6 : 2 ^ b * (x / 2 ^ b) = 2 ^ b * (x / 2 ^ b % 2 ^ a) + 2 ^ b * (2 ^ a * (x / 2 ^ (a + b))) := by
      rw [← Int.mul_add, q2]
    have q7 : 2 ^ (a + b) * (x / 2 ^ (a + b)) = 2 ^ b * (2 ^ a * (x / 2 ^ (a + b))) := by rw [Wd.p1, Int.mul_comm (2 ^ a), Int.mul_assoc]
    have q8 : x / 2 ^ b % 2 ^ a * 2 ^ b = 2 ^ b * (x / 2 ^ b % 2 ^ a) := Int.mul_comm ..
    omega
  have E0 := Int.emod_nonneg (x / 2 ^ b) (show (2 : Int) ^ a ≠ 0 by omega)
  have E1 := Int.emod_lt_of_pos (x / 2 ^ b) (show (0 : Int) < 2 ^ a by omega)
  have F0 := Int.emod_nonneg x (show (2 : Int) ^ b ≠ 0 by omega)
  have F1 := Int.emod_lt_of_pos x pb
  rw [hs]
  generalize x / 2 ^ b % 2 ^ a = E at *
  generalize x % 2 ^ b = f at *
  unfold kindv
  have eAB : ((2 : Int) ^ a - 1) * 2 ^ b = A * B - B := by rw [eA, eB, Int.sub_mul, Int.one_mul]
  rw [eAB, eA, eB, eh]
  rw [eA] at E1
  rw [eB] at F1
  have fd : (f / h = 1) ↔ h ≤ f := by
    constructor
    · intro q
      have := Int.mul_ediv_self_le (x := f) (k := h) (by omega)
      rw [q, Int.mul_one] at this
      exact this
    · intro q
      have := Int.ediv_emod_unique (a := f) (b := h) (r := f - h) (q := 1) (by omega)
      exact (this.mpr ⟨by omega, by omega, by omega⟩).1
  have n1 : E = 0 → E * B = 0 := fun q => by rw [q, Int.zero_mul]
  have n2 : 1 ≤ E → B ≤ E * B := fun q => by
    have := Int.mul_le_mul_of_nonneg_right q (show 0 ≤ B by omega)
    omega
  have n3 : E < A - 1 → E * B + B ≤ A * B - B := fun q => by
    have := Int.mul_le_mul_of_nonneg_right (show E + 1 ≤ A - 1 by omega) (show 0 ≤ B by omega)
    rw [Int.add_mul, Int.sub_mul, Int.one_mul] at this
    exact this
  have n4 : E = A - 1 → E * B = A * B - B := fun q => by rw [q, Int.sub_mul, Int.one_mul]
  generalize E * B = EB at *
  generalize A * B = AB at *
  simp only [fd]
  repeat' split
  all_goals first | exact .inl ⟨by omega, .inl rfl⟩ | exact .inl ⟨by omega, .inr (.inl rfl)⟩ | exact .inl ⟨by omega, .inr (.inr (.inl rfl))⟩ | exact .inl ⟨by omega, .inr (.inr (.inr rfl))⟩ | exact .inr (.inl ⟨by omega, by omega, rfl⟩) | exact .inr (.inr ⟨by omega, rfl⟩)
theorem is_none_ok (w : Wd a b) {x : Int} (h0 : 0 ≤ x) (h1 : x < 2 ^ (1 + a + b)) : F.is_none [.tup [.int a, .int b], .int x] = .ok (.bl (decide ((2 ^ a - 1) * 2 ^ b < x % 2 ^ (a + b)))) := by
  have ph := pow2_pos (b - 1)
  have hk := kind_of_ok w h0 h1
  have hc := kind_cases w h0 h1
  simp only [F.is_none, F.b_is_none]
  rw [run_eq (by rfl)]
  simp only [evSs, evS, evT, evE, evEs, evSrc, getS0, getSs, set0, setS, R.bind_ok, R.bind_ex, bind_ite, withR_ok, withR_ex, withR_ite, thenO_nxt, thenO_ret, thenO_ex, thenO_ite, outR_nxt, outR_ret, outR_ex, outR_ite, bool_ok, int_ok, bin_add, bin_sub, bin_mul, bin_fdiv, bin_mod, bin_shl, bin_shr, bin_pow, bin_and, bin_or, bin_xor, cmp_eq, cmp_ne, cmp_lt, cmp_le, cmp_gt, cmp_ge, add_int, sub_int, and_int, or_int, xor_int, neg_int, len_lst, len_tup, abs_int, int_int, int_bl, max_int, min_int, bits_int, ix_tup0, ix_tup1, ix_tup2, List.map_cons, List.map_nil, List.replicate, List.cons_append, List.nil_append, List.append_nil, List.length_cons, List.length_nil, decide_eq_true_eq, Nat.reduceSub, Nat.reduceAdd, Int.reduceToNat, hk]
  generalize kindv a b (x / 2 ^ b % 2 ^ a) (x % 2 ^ b) = k at *
  rcases hc with ⟨c, rfl | rfl | rfl | rfl⟩ | ⟨c, _, rfl⟩ | ⟨c, rfl⟩
  all_goals first | (rw [decide_eq_false (by omega)]; rfl) | (rw [decide_eq_true (by omega)]; rfl)
theorem plains_ints {n : Nat} : ∀ ts : List Int, plains n (ts.map .int) = true
  | [] => rfl
  | t :: ts => by
    rw [List.map_cons, plains, plains_ints ts]
    rfl
theorem last_int {ts : List Int} (h : ts ≠ []) : ∃ t ∈ ts, ixD (.lst (ts.map .int)) (.int (-1)) = .ok (.int t) := by
  have hp : 0 < ts.length := List.length_pos_iff.mpr h
  refine ⟨ts[ts.length - 1]'(by omega), List.getElem_mem _, ?_⟩
  have e : place (ts.map D.int).length (-1) = some (ts.length - 1) := by
    unfold place
    rw [if_neg (by decide), List.length_map, if_pos (by omega)]
    congr 1
    omega
  show (match (place (ts.map D.int).length (-1)).bind ((ts.map D.int)[·]?) with | some d => R.ok d | none => .no) = _
  rw [e]
  show (match (ts.map D.int)[ts.length - 1]? with | some d => R.ok d | none => .no) = _
  rw [List.getElem?_map, List.getElem?_eq_getElem (by omega)]
  rfl
theorem eqvs_ints : ∀ xs ys : List Int, eqvs (xs.map .int) (ys.map .int) = decide (xs = ys)
  | [], [] => rfl
  | [], y :: ys => by simp [eqvs]
  | x :: xs, [] => by simp [eqvs]
  | x :: xs, y :: ys => by
    rw [List.map_cons, List.map_cons, eqvs, eqvs_ints xs ys]
    by_cases h : x = y
    · subst h
      by_cases g : xs = ys <;> simp [D.eqv, g]
    · simp [D.eqv, h]
theorem plain_ints {xs : List Int} : (D.lst (xs.map .int)).plain 60 = true := plains_ints (n := 59) xs
theorem eq_ints {xs ys : List Int} : cmpD .eq (.lst (xs.map .int)) (.lst (ys.map .int)) = .ok (decide (xs = ys)) := by
  show (if ((D.lst (xs.map .int)).plain 60 && (D.lst (ys.map .int)).plain 60) = true then R.ok (eqvs (xs.map .int) (ys.map .int)) else _) = _
  rw [plain_ints, plain_ints, eqvs_ints]
  rfl
theorem ne_ints {xs ys : List Int} : cmpD .ne (.lst (xs.map .int)) (.lst (ys.map .int)) = .ok (decide (¬ xs = ys)) := by
  show notR (if ((D.lst (xs.map .int)).plain 60 && (D.lst (ys.map .int)).plain 60) = true then R.ok (eqvs (xs.map .int) (ys.map .int)) else .no) = _
  rw [plain_ints, plain_ints, eqvs_ints]
  by_cases h : xs = ys <;> simp [h, notR]
theorem as_ints : ∀ xs : List Int, asInts (xs.map D.int) = some xs
  | [] => rfl
  | x :: xs => by rw [List.map_cons, asInts, as_ints xs]; rfl
abbrev srtI (xs : List Int) : List Int := xs.mergeSort fun a b => decide (a ≤ b)
theorem sorted_ints {xs : List Int} : f1D .sorted (.lst (xs.map .int)) = .ok (.lst ((srtI xs).map .int)) := by
  show (match asInts (xs.map D.int) with | some ns => R.ok (D.lst ((ns.mergeSort fun a b => decide (a ≤ b)).map .int)) | none => .no) = _
  rw [as_ints]
theorem srtI_pw (xs : List Int) : (srtI xs).Pairwise (· ≤ ·) :=
  (List.pairwise_mergeSort (le := fun (a b : Int) => decide (a ≤ b)) (fun a b c h g => by simp only [decide_eq_true_eq] at *; omega) (fun a b => by simp only [Bool.or_eq_true, decide_eq_true_eq]; omega) xs).imp fun h => of_decide_eq_true h
theorem perm_eq : ∀ {xs ys : List Int}, xs.Perm ys → xs.Pairwise (· ≤ ·) → ys.Pairwise (· ≤ ·) → xs = ys
  | xs, ys, p, h1, h2 => p.eq_of_pairwise (le := (· ≤ ·)) (fun a b _ _ h g => Int.le_antisymm h g) h1 h2
theorem srtI_perm {xs ys : List Int} (p : xs.Perm ys) : srtI xs = srtI ys :=
  perm_eq ((List.mergeSort_perm xs _).trans (p.trans (List.mergeSort_perm ys _).symm)) (srtI_pw xs) (srtI_pw ys)
theorem srtI_id {xs : List Int} (h : xs.Pairwise (· ≤ ·)) : srtI xs = xs := perm_eq (List.mergeSort_perm xs _) (srtI_pw xs) h
theorem pick_ints {g : D → R Bool} {f : D → R D} {p : Int → Bool} : ∀ {xs : List Int}, (∀ x ∈ xs, g (.int x) = .ok (p x) ∧ f (.int x) = .ok (.int x)) → pick g f (xs.map .int) = .ok ((xs.filter p).map .int)
  | [], _ => rfl
  | x :: xs, h => by
    obtain ⟨h1, h2⟩ := h x List.mem_cons_self
    rw [List.map_cons, pick, h1]
    cases e : p x with
    | true =>
      simp only [h2, pick_ints fun y hy => h y (List.mem_cons_of_mem _ hy), R.bind_ok, List.filter_cons, e, if_true, List.map_cons]
    | false =>
      simp only [pick_ints fun y hy => h y (List.mem_cons_of_mem _ hy), List.filter_cons, e, Bool.false_eq_true, if_false]
theorem pick_map {f : D → R D} {k : Int → Int} : ∀ {xs : List Int}, (∀ x ∈ xs, f (.int x) = .ok (.int (k x))) → pick (fun _ => .ok true) f (xs.map .int) = .ok ((xs.map k).map .int)
  | [], _ => rfl
  | x :: xs, h => by
    rw [List.map_cons, pick]
    simp only [h x List.mem_cons_self, pick_map fun y hy => h y (List.mem_cons_of_mem _ hy), R.bind_ok, List.map_cons]
theorem pickX_ints {g : D → R Bool} {f : D → R D} {p : Int → Bool} : ∀ {xs : List Int}, (∀ x ∈ xs, g (.int x) = .ok (p x) ∧ f (.int x) = .ok (.int x)) → pickX g f (xs.map .int) = .ok ((xs.filter p).map .int)
  | [], _ => rfl
  | x :: xs, h => by
    obtain ⟨h1, h2⟩ := h x List.mem_cons_self
    rw [List.map_cons, pickX, h1]
    cases e : p x with
    | true =>
      simp only [h2, pickX_ints fun y hy => h y (List.mem_cons_of_mem _ hy), R.bind_ok, List.filter_cons, e, if_true, List.map_cons]
    | false =>
      simp only [pickX_ints fun y hy => h y (List.mem_cons_of_mem _ hy), R.bind_ok, List.filter_cons, e, Bool.false_eq_true, if_false]
theorem pickX_bad {g : D → R Bool} {f : D → R D} {p : Int → Bool} {d : D} {ys : List D} {c : Nat} (hd : g d = .ex c) : ∀ {xs : List Int}, (∀ x ∈ xs, g (.int x) = .ok (p x) ∧ f (.int x) = .ok (.int x)) → pickX g f (xs.map .int ++ d :: ys) = .ex c
  | [], _ => by
    show pickX g f (d :: ys) = _
    rw [pickX, hd]
    rfl
  | x :: xs, h => by
    obtain ⟨h1, h2⟩ := h x List.mem_cons_self
    rw [List.map_cons, List.cons_append, pickX, h1]
    cases e : p x with
    | true => simp only [h2, pickX_bad hd fun y hy => h y (List.mem_cons_of_mem _ hy), R.bind_ok, R.bind_ex, if_true]
    | false => simp only [pickX_bad hd fun y hy => h y (List.mem_cons_of_mem _ hy), R.bind_ok, Bool.false_eq_true, if_false]
theorem keys_ints {f : D → R D} {k : Int → Int} : ∀ {xs : List Int}, (∀ x ∈ xs, f (.int x) = .ok (.int (k x))) → keysD f (xs.map .int) = .ok (xs.map k)
  | [], _ => rfl
  | x :: xs, h => by
    rw [List.map_cons, keysD]
    simp only [h x List.mem_cons_self, keys_ints fun y hy => h y (List.mem_cons_of_mem _ hy), R.bind_ok, List.map_cons]
/-- xs by the keys k -/
def byK (k : Int → Int) (xs : List Int) : List Int := xs.mergeSort fun x y => decide (k x ≤ k y)
theorem zip_map_self {α β : Type} (k : α → β) : ∀ xs : List α, xs.zip (xs.map k) = xs.map fun x => (x, k x)
  | [] => rfl
  | x :: xs => by rw [List.map_cons, List.zip_cons_cons, zip_map_self k xs]; rfl
theorem srtB_ints {k : Int → Int} {xs : List Int} : srtB (xs.map D.int) (xs.map k) = (byK k xs).map .int := by
  unfold srtB byK
  have e : (xs.map D.int).zip (xs.map k) = xs.map fun x => (D.int x, k x) := by
    rw [List.zip_map]
    have z := zip_map_self id xs
    rw [List.map_id] at z
    rw [z, List.map_map]
    rfl
  rw [e]
  have h := List.map_mergeSort (r := fun x y : Int => decide (k x ≤ k y)) (s := fun p q : D × Int => decide (p.2 ≤ q.2)) (f := fun x : Int => (D.int x, k x)) (l := xs) (fun a _ b _ => rfl)
  rw [← h, List.map_map]
  rfl
theorem byK_perm {k : Int → Int} {xs : List Int} : (byK k xs).Perm xs := List.mergeSort_perm xs _
theorem byK_pw {k : Int → Int} (xs : List Int) : (byK k xs).Pairwise fun x y => k x ≤ k y :=
  (List.pairwise_mergeSort (le := fun (a b : Int) => decide (k a ≤ k b)) (fun a b c h g => by simp only [decide_eq_true_eq] at *; omega) (fun a b => by simp only [Bool.or_eq_true, decide_eq_true_eq]; omega) xs).imp fun h => of_decide_eq_true h
theorem lcXF_ok {i : Nat} {el cond : E} {src : Src} {ρ : Env} {xs ys : List D} (hs : evSrc src ρ = .ok xs) (hp : pickX (fun x => (evE cond (ρ.set i (.dat x))).bind boolD) (fun x => evE el (ρ.set i (.dat x))) xs = .ok ys) (hl : xs.length < line) : evE (.lcXF i el src cond) ρ = .ok (.lst ys) := by
  rw [evE, hs, R.bind_ok, hp, R.gd_ok, R.bind_ok, if_pos hl]
theorem lcXF_bad {i c : Nat} {el cond : E} {src : Src} {ρ : Env} {xs : List D} (hs : evSrc src ρ = .ok xs) (hp : pickX (fun x => (evE cond (ρ.set i (.dat x))).bind boolD) (fun x => evE el (ρ.set i (.dat x))) xs = .ex c) (hl : xs.length < line) : evE (.lcXF i el src cond) ρ = .ex c := by
  rw [evE, hs, R.bind_ok, hp]
  simp only [R.gd, decide_eq_true hl, if_true, R.bind_ex]
theorem lcf_ok {i : Nat} {el cond : E} {src : Src} {ρ : Env} {xs ys : List D} (hs : evSrc src ρ = .ok xs) (hp : pick (fun x => (evE cond (ρ.set i (.dat x))).bind boolD) (fun x => evE el (ρ.set i (.dat x))) xs = .ok ys) (hl : xs.length < line) : evE (.lcf i el src cond) ρ = .ok (.lst ys) := by
  rw [evE, hs, R.bind_ok, hp, R.bind_ok, if_pos hl]
theorem lc_ok {i : Nat} {el : E} {src : Src} {ρ : Env} {xs ys : List D} (hs : evSrc src ρ = .ok xs) (hp : pick (fun _ => .ok true) (fun x => evE el (ρ.set i (.dat x))) xs = .ok ys) (hl : xs.length < line) : evE (.lc i el src) ρ = .ok (.lst ys) := by
  rw [evE, hs, R.bind_ok, hp, R.bind_ok, if_pos hl]
theorem srtK_ok {i : Nat} {k e : E} {ρ : Env} {xs : List D} {zs : List Int} (he : evE e ρ = .ok (.lst xs)) (hk : keysD (fun d => evE k (ρ.set i (.dat d))) xs = .ok zs) : evE (.srtK i k e) ρ = .ok (.lst (srtB xs zs)) := by
  rw [evE, he, R.bind_ok]
  show (keysD _ xs).bind _ = _
  rw [hk, R.bind_ok]
theorem asg_ok {i : Nat} {e : E} {ρ : Env} {d : D} (h : evE e ρ = .ok d) : evS (.asg i e) ρ = .nxt (ρ.set i (.dat d)) := by rw [evS, h, withR_ok]
theorem retA_ok {x y : E} {ρ : Env} {xs ys : List D} (h : evE x ρ = .ok (.lst xs)) (g : evE y ρ = .ok (.lst ys)) (hz : xs.length + ys.length ≤ line) : evS (.retA x y) ρ = .retF (xs ++ ys) := by
  rw [evS, h, withR_ok, g, withR_ok]
  exact if_pos hz
/-! ### the program's order -/
def nn (a b : Nat) (x : Int) : Bool := decide ((2 ^ a - 1) * 2 ^ b < x % 2 ^ (a + b))
def pk (H x : Int) : Int := 2 * rk H x + (if ¬ x = H then 1 else 0)
def Wds (a b : Nat) (xs : List Int) : Prop := ∀ x ∈ xs, 0 ≤ x ∧ x < 2 ^ (1 + a + b)
def ord (a b : Nat) (xs : List Int) : List Int := byK (pk (2 ^ (a + b))) (xs.filter fun x => !nn a b x) ++ xs.filter (nn a b)
theorem place_ok25 (w : Wd a b) {x : Int} (h0 : 0 ≤ x) (h1 : x < 2 ^ (1 + a + b)) (h : nn a b x = false) : F.place_key [.tup [.int a, .int b], .int x] = .ok (.int (pk (2 ^ (a + b)) x)) := by
  have h : ¬ (2 ^ a - 1) * 2 ^ b < x % 2 ^ (a + b) := of_decide_eq_false h
  have h2 := w.a2; have h4 := w.b2
  have hp := pow2_pos (a + b)
  have bm : bits 2 + bits (rk (2 ^ (a + b)) x) ≤ 134217728 := by
    have e : (2 : Int) ^ (1 + a + b) = 2 * 2 ^ (a + b) := by rw [Nat.add_assoc, Int.pow_add]; rfl
    have q1 : bits 2 = 2 := by decide
    have q2 : bits (rk (2 ^ (a + b)) x) ≤ a + b + 1 := by
      unfold rk
      have e3 : (2 : Int) ^ (a + b + 1) = 2 ^ (a + b) * 2 := rfl
      refine Bd.rng ?_ ?_ <;> split <;> omega
    omega
  simp only [F.place_key, F.b_place_key]
  rw [run_eq (by rfl)]
  simp only [evSs, evS, evT, evE, evEs, evSrc, getS0, getSs, set0, setS, R.bind_ok, R.bind_ex, bind_ite, withR_ok, withR_ex, withR_ite, thenO_nxt, thenO_ret, thenO_ex, thenO_ite, outR_nxt, outR_ret, outR_ex, outR_ite, bool_ok, int_ok, bin_add, bin_sub, bin_mul, bin_fdiv, bin_mod, bin_shl, bin_shr, bin_pow, bin_and, bin_or, bin_xor, cmp_eq, cmp_ne, cmp_lt, cmp_le, cmp_gt, cmp_ge, add_int, sub_int, and_int, or_int, xor_int, neg_int, len_lst, len_tup, abs_int, int_int, int_bl, max_int, min_int, bits_int, ix_tup0, ix_tup1, ix_tup2, List.map_cons, List.map_nil, List.replicate, List.cons_append, List.nil_append, List.append_nil, List.length_cons, List.length_nil, decide_eq_true_eq, Nat.reduceSub, Nat.reduceAdd, Int.reduceToNat, rank_yes w h0 h1 h, mul_ok bm, sign_ok w]
  unfold pk
  by_cases c : x = 2 ^ (a + b) <;> simp [c]
theorem in_order_ok (w : Wd a b) {xs : List Int} (hx : Wds a b xs) (hl : xs.length ≤ 100) : F.in_order [.tup [.int a, .int b], .lst (xs.map .int)] = .ok (.lst ((ord a b xs).map .int)) := by
  have hn : ∀ x ∈ xs, F.is_none [.tup [.int a, .int b], .int x] = .ok (.bl (nn a b x)) := fun x h => is_none_ok w (hx x h).1 (hx x h).2
  have l1 : (xs.map D.int).length < line := by rw [List.length_map]; unfold line; omega
  simp only [F.in_order, F.b_in_order]
  rw [run_eq (by rfl)]
  simp only [List.map_cons, List.map_nil, List.replicate, List.cons_append, List.nil_append, Nat.reduceSub]
  have p1 : pickX (fun x => (evE (.not (.call "is_none" F.is_none (.cons (.var 0) (.cons (.var 4) .nil)) [])) ([Slot.dat (.tup [.int a, .int b]), .dat (.lst (xs.map .int)), .un, .un, .un].set 4 (.dat x))).bind boolD) (fun x => evE (.var 4) ([Slot.dat (.tup [.int a, .int b]), .dat (.lst (xs.map .int)), .un, .un, .un].set 4 (.dat x))) (xs.map .int) = .ok ((xs.filter fun x => !nn a b x).map .int) :=
    pickX_ints fun x h => ⟨by simp only [evSs, evS, evT, evE, evEs, evSrc, getS0, getSs, set0, setS, R.bind_ok, R.bind_ex, bind_ite, withR_ok, withR_ex, withR_ite, thenO_nxt, thenO_ret, thenO_ex, thenO_ite, outR_nxt, outR_ret, outR_ex, outR_ite, bool_ok, int_ok, bin_add, bin_sub, bin_mul, bin_fdiv, bin_mod, bin_shl, bin_shr, bin_pow, bin_and, bin_or, bin_xor, cmp_eq, cmp_ne, cmp_lt, cmp_le, cmp_gt, cmp_ge, add_int, sub_int, and_int, or_int, xor_int, neg_int, len_lst, len_tup, abs_int, int_int, int_bl, max_int, min_int, bits_int, ix_tup0, ix_tup1, ix_tup2, List.map_cons, List.map_nil, List.replicate, List.cons_append, List.nil_append, List.append_nil, List.length_cons, List.length_nil, decide_eq_true_eq, Nat.reduceSub, Nat.reduceAdd, Int.reduceToNat, hn x h], by simp only [evSs, evS, evT, evE, evEs, evSrc, getS0, getSs, set0, setS, R.bind_ok, R.bind_ex, bind_ite, withR_ok, withR_ex, withR_ite, thenO_nxt, thenO_ret, thenO_ex, thenO_ite, outR_nxt, outR_ret, outR_ex, outR_ite, bool_ok, int_ok, bin_add, bin_sub, bin_mul, bin_fdiv, bin_mod, bin_shl, bin_shr, bin_pow, bin_and, bin_or, bin_xor, cmp_eq, cmp_ne, cmp_lt, cmp_le, cmp_gt, cmp_ge, add_int, sub_int, and_int, or_int, xor_int, neg_int, len_lst, len_tup, abs_int, int_int, int_bl, max_int, min_int, bits_int, ix_tup0, ix_tup1, ix_tup2, List.map_cons, List.map_nil, List.replicate, List.cons_append, List.nil_append, List.append_nil, List.length_cons, List.length_nil, decide_eq_true_eq, Nat.reduceSub, Nat.reduceAdd, Int.reduceToNat]⟩
  refine seqs (P := fun o => outR o = _) (i := 2) (sl := .dat (.lst ((xs.filter fun x => !nn a b x).map .int))) (by
    exact asg_ok (lcXF_ok rfl p1 l1)) ?_
  simp only [set0, setS]
  have p2 : pickX (fun x => (evE (.call "is_none" F.is_none (.cons (.var 0) (.cons (.var 4) .nil)) []) ([Slot.dat (.tup [.int a, .int b]), .dat (.lst (xs.map .int)), .dat (.lst ((xs.filter fun x => !nn a b x).map .int)), .un, .un].set 4 (.dat x))).bind boolD) (fun x => evE (.var 4) ([Slot.dat (.tup [.int a, .int b]), .dat (.lst (xs.map .int)), .dat (.lst ((xs.filter fun x => !nn a b x).map .int)), .un, .un].set 4 (.dat x))) (xs.map .int) = .ok ((xs.filter (nn a b)).map .int) :=
    pickX_ints fun x h => ⟨by simp only [evSs, evS, evT, evE, evEs, evSrc, getS0, getSs, set0, setS, R.bind_ok, R.bind_ex, bind_ite, withR_ok, withR_ex, withR_ite, thenO_nxt, thenO_ret, thenO_ex, thenO_ite, outR_nxt, outR_ret, outR_ex, outR_ite, bool_ok, int_ok, bin_add, bin_sub, bin_mul, bin_fdiv, bin_mod, bin_shl, bin_shr, bin_pow, bin_and, bin_or, bin_xor, cmp_eq, cmp_ne, cmp_lt, cmp_le, cmp_gt, cmp_ge, add_int, sub_int, and_int, or_int, xor_int, neg_int, len_lst, len_tup, abs_int, int_int, int_bl, max_int, min_int, bits_int, ix_tup0, ix_tup1, ix_tup2, List.map_cons, List.map_nil, List.replicate, List.cons_append, List.nil_append, List.append_nil, List.length_cons, List.length_nil, decide_eq_true_eq, Nat.reduceSub, Nat.reduceAdd, Int.reduceToNat, hn x h], by simp only [evSs, evS, evT, evE, evEs, evSrc, getS0, getSs, set0, setS, R.bind_ok, R.bind_ex, bind_ite, withR_ok, withR_ex, withR_ite, thenO_nxt, thenO_ret, thenO_ex, thenO_ite, outR_nxt, outR_ret, outR_ex, outR_ite, bool_ok, int_ok, bin_add, bin_sub, bin_mul, bin_fdiv, bin_mod, bin_shl, bin_shr, bin_pow, bin_and, bin_or, bin_xor, cmp_eq, cmp_ne, cmp_lt, cmp_le, cmp_gt, cmp_ge, add_int, sub_int, and_int, or_int, xor_int, neg_int, len_lst, len_tup, abs_int, int_int, int_bl, max_int, min_int, bits_int, ix_tup0, ix_tup1, ix_tup2, List.map_cons, List.map_nil, List.replicate, List.cons_append, List.nil_append, List.append_nil, List.length_cons, List.length_nil, decide_eq_true_eq, Nat.reduceSub, Nat.reduceAdd, Int.reduceToNat]⟩
  refine seqs (P := fun o => outR o = _) (i := 3) (sl := .dat (.lst ((xs.filter (nn a b)).map .int))) (by
    exact asg_ok (lcXF_ok rfl p2 l1)) ?_
  simp only [set0, setS]
  have k1 : keysD (fun d => evE (.call "place_key" F.place_key (.cons (.var 0) (.cons (.var 4) .nil)) []) ([Slot.dat (.tup [.int a, .int b]), .dat (.lst (xs.map .int)), .dat (.lst ((xs.filter fun x => !nn a b x).map .int)), .dat (.lst ((xs.filter (nn a b)).map .int)), .un].set 4 (.dat d))) ((xs.filter fun x => !nn a b x).map .int) = .ok ((xs.filter fun x => !nn a b x).map (pk (2 ^ (a + b)))) :=
    keys_ints fun x h => by
      obtain ⟨h1, h2⟩ := List.mem_filter.mp h
      have h2 : nn a b x = false := by simpa using h2
      simp only [evSs, evS, evT, evE, evEs, evSrc, getS0, getSs, set0, setS, R.bind_ok, R.bind_ex, bind_ite, withR_ok, withR_ex, withR_ite, thenO_nxt, thenO_ret, thenO_ex, thenO_ite, outR_nxt, outR_ret, outR_ex, outR_ite, bool_ok, int_ok, bin_add, bin_sub, bin_mul, bin_fdiv, bin_mod, bin_shl, bin_shr, bin_pow, bin_and, bin_or, bin_xor, cmp_eq, cmp_ne, cmp_lt, cmp_le, cmp_gt, cmp_ge, add_int, sub_int, and_int, or_int, xor_int, neg_int, len_lst, len_tup, abs_int, int_int, int_bl, max_int, min_int, bits_int, ix_tup0, ix_tup1, ix_tup2, List.map_cons, List.map_nil, List.replicate, List.cons_append, List.nil_append, List.append_nil, List.length_cons, List.length_nil, decide_eq_true_eq, Nat.reduceSub, Nat.reduceAdd, Int.reduceToNat, place_ok25 w (hx x h1).1 (hx x h1).2 h2]
  have e1 : evE (.srtK 4 (.call "place_key" F.place_key (.cons (.var 0) (.cons (.var 4) .nil)) []) (.var 2)) [Slot.dat (.tup [.int a, .int b]), .dat (.lst (xs.map .int)), .dat (.lst ((xs.filter fun x => !nn a b x).map .int)), .dat (.lst ((xs.filter (nn a b)).map .int)), .un] = .ok (.lst ((byK (pk (2 ^ (a + b))) (xs.filter fun x => !nn a b x)).map .int)) := by
    rw [srtK_ok rfl k1, srtB_ints]
  have hz : ((byK (pk (2 ^ (a + b))) (xs.filter fun x => !nn a b x)).map D.int).length + ((xs.filter (nn a b)).map D.int).length ≤ line := by
    have f1 := List.length_filter_le (fun x => !nn a b x) xs
    have f2 := List.length_filter_le (nn a b) xs
    have f3 := (byK_perm (k := pk (2 ^ (a + b))) (xs := xs.filter fun x => !nn a b x)).length_eq
    rw [List.length_map, List.length_map, f3]
    unfold line
    omega
  rw [evSs, retA_ok e1 rfl hz, thenO_retF, outR_retF]
  unfold ord
  rw [List.map_append]
theorem sv_le {s t : Int} (h0 : 0 ≤ s) (h1 : 0 ≤ t) : sv b s ≤ sv b t ↔ s ≤ t := by
  have := sv_iff (b := b) h1 h0
  omega
theorem sv_bits (w : Wd a b) {s : Int} (h0 : 0 ≤ s) (h1 : s < 2 ^ (a + b)) : bits (sv b s) ≤ 4000 := by
  have h2 := w.a2; have h4 := w.b2
  have pb := pow2_pos b
  have q0 : 0 ≤ s / 2 ^ b := Int.ediv_nonneg h0 (Int.le_of_lt pb)
  have q1 : s / 2 ^ b < 2 ^ a := Int.ediv_lt_of_lt_mul pb (by rw [← Wd.p1]; exact h1)
  have pl := pow_le_i (show a ≤ 11 by omega)
  have e11 : (2 : Int) ^ 11 = 2048 := rfl
  unfold sv
  split
  · have : bits s ≤ b := Bd.rng (by omega) (by assumption)
    omega
  · have r1 : bits (s % 2 ^ b) ≤ 100 := Nat.le_trans (Bd.mod pb (Bd.pow2 b)) (by omega)
    have bs : bits (s % 2 ^ b + 2 ^ b) ≤ 200 := Nat.le_trans (Bd.add r1 (Bd.pow2 b)) (by omega)
    exact Nat.le_trans (Bd.shl _ bs) (by omega)
def keyv (b : Nat) (H x : Int) : Int := if H ≤ x then 0 - 2 * sv b (x % H) else 2 * sv b (x % H) + 1
theorem key_25_ok (w : Wd a b) {x : Int} (h0 : 0 ≤ x) (h1 : x < 2 ^ (1 + a + b)) : G.key_25 [.tup [.int a, .int b], .int x] = .ok (.int (keyv b (2 ^ (a + b)) x)) := by
  have h2 := w.a2; have h4 := w.b2
  have hp := pow2_pos (a + b)
  have pb := pow2_pos b
  have m0 := Int.emod_nonneg x (show (2 : Int) ^ (a + b) ≠ 0 by omega)
  have m1 := Int.emod_lt_of_pos x hp
  have q0 : 0 ≤ x % 2 ^ (a + b) / 2 ^ b := Int.ediv_nonneg m0 (Int.le_of_lt pb)
  have q1 : x % 2 ^ (a + b) / 2 ^ b < 2 ^ a := Int.ediv_lt_of_lt_mul pb (by rw [← Wd.p1]; exact m1)
  have pl := pow_le_i (show a ≤ 11 by omega)
  have e11 : (2 : Int) ^ 11 = 2048 := rfl
  have bs : bits (x % 2 ^ (a + b) % 2 ^ b + 2 ^ b) ≤ 200 := by
    have r1 : bits (x % 2 ^ (a + b) % 2 ^ b) ≤ 100 := Nat.le_trans (Bd.mod pb (Bd.pow2 b)) (by omega)
    exact Nat.le_trans (Bd.add r1 (Bd.pow2 b)) (by omega)
  have big : 2 ^ b ≤ x % 2 ^ (a + b) → 1 ≤ x % 2 ^ (a + b) / 2 ^ b := fun hu => Int.le_ediv_of_mul_le pb (by omega)
  have sb := sv_bits w m0 m1
  have bm : bits 2 + bits (sv b (x % 2 ^ (a + b))) ≤ 134217728 := by
    have q : bits 2 = 2 := by decide
    omega
  simp only [G.key_25, G.b_key_25]
  rw [run_eq (by rfl)]
  simp only [List.map_cons, List.map_nil, List.replicate, List.cons_append, List.nil_append, Nat.reduceSub]
  refine seq (P := fun o => outR o = _) (by simp (disch := omega) only [set0, setS, evSs, evS, evT, evE, evEs, evSrc, getS0, getSs, set0, setS, R.bind_ok, R.bind_ex, bind_ite, withR_ok, withR_ex, withR_ite, thenO_nxt, thenO_ret, thenO_ex, thenO_ite, outR_nxt, outR_ret, outR_ex, outR_ite, bool_ok, int_ok, bin_add, bin_sub, bin_mul, bin_fdiv, bin_mod, bin_shl, bin_shr, bin_pow, bin_and, bin_or, bin_xor, cmp_eq, cmp_ne, cmp_lt, cmp_le, cmp_gt, cmp_ge, add_int, sub_int, and_int, or_int, xor_int, neg_int, len_lst, len_tup, abs_int, int_int, int_bl, max_int, min_int, bits_int, ix_tup0, ix_tup1, ix_tup2, List.map_cons, List.map_nil, List.replicate, List.cons_append, List.nil_append, List.append_nil, List.length_cons, List.length_nil, decide_eq_true_eq, Nat.reduceSub, Nat.reduceAdd, Int.reduceToNat, Wd.c2, shl1]; rfl) ?_
  refine seq (P := fun o => outR o = _) (by simp only [set0, setS, evSs, evS, evT, evE, evEs, evSrc, getS0, getSs, set0, setS, R.bind_ok, R.bind_ex, bind_ite, withR_ok, withR_ex, withR_ite, thenO_nxt, thenO_ret, thenO_ex, thenO_ite, outR_nxt, outR_ret, outR_ex, outR_ite, bool_ok, int_ok, bin_add, bin_sub, bin_mul, bin_fdiv, bin_mod, bin_shl, bin_shr, bin_pow, bin_and, bin_or, bin_xor, cmp_eq, cmp_ne, cmp_lt, cmp_le, cmp_gt, cmp_ge, add_int, sub_int, and_int, or_int, xor_int, neg_int, len_lst, len_tup, abs_int, int_int, int_bl, max_int, min_int, bits_int, ix_tup0, ix_tup1, ix_tup2, List.map_cons, List.map_nil, List.replicate, List.cons_append, List.nil_append, List.append_nil, List.length_cons, List.length_nil, decide_eq_true_eq, Nat.reduceSub, Nat.reduceAdd, Int.reduceToNat, mod_ok hp]; rfl) ?_
  refine seq (ρ1 := [.dat (.tup [.int a, .int b]), .dat (.int x), .dat (.int (2 ^ (a + b))), .dat (.int (sv b (x % 2 ^ (a + b))))]) (P := fun o => outR o = _) ?_ ?_
  · unfold sv
    generalize x % 2 ^ (a + b) = s at *
    by_cases c : s < 2 ^ b
    · have c' : ¬ (2 : Int) ^ b ≤ s := by omega
      simp (disch := omega) only [set0, setS, evSs, evS, evT, evE, evEs, evSrc, getS0, getSs, set0, setS, R.bind_ok, R.bind_ex, bind_ite, withR_ok, withR_ex, withR_ite, thenO_nxt, thenO_ret, thenO_ex, thenO_ite, outR_nxt, outR_ret, outR_ex, outR_ite, bool_ok, int_ok, bin_add, bin_sub, bin_mul, bin_fdiv, bin_mod, bin_shl, bin_shr, bin_pow, bin_and, bin_or, bin_xor, cmp_eq, cmp_ne, cmp_lt, cmp_le, cmp_gt, cmp_ge, add_int, sub_int, and_int, or_int, xor_int, neg_int, len_lst, len_tup, abs_int, int_int, int_bl, max_int, min_int, bits_int, ix_tup0, ix_tup1, ix_tup2, List.map_cons, List.map_nil, List.replicate, List.cons_append, List.nil_append, List.append_nil, List.length_cons, List.length_nil, decide_eq_true_eq, Nat.reduceSub, Nat.reduceAdd, Int.reduceToNat, shl1, c, c', decide_false, Bool.false_eq_true, if_false, if_true]
    · have c' : (2 : Int) ^ b ≤ s := by omega
      have bg := big c'
      simp (disch := omega) only [set0, setS, evSs, evS, evT, evE, evEs, evSrc, getS0, getSs, set0, setS, R.bind_ok, R.bind_ex, bind_ite, withR_ok, withR_ex, withR_ite, thenO_nxt, thenO_ret, thenO_ex, thenO_ite, outR_nxt, outR_ret, outR_ex, outR_ite, bool_ok, int_ok, bin_add, bin_sub, bin_mul, bin_fdiv, bin_mod, bin_shl, bin_shr, bin_pow, bin_and, bin_or, bin_xor, cmp_eq, cmp_ne, cmp_lt, cmp_le, cmp_gt, cmp_ge, add_int, sub_int, and_int, or_int, xor_int, neg_int, len_lst, len_tup, abs_int, int_int, int_bl, max_int, min_int, bits_int, ix_tup0, ix_tup1, ix_tup2, List.map_cons, List.map_nil, List.replicate, List.cons_append, List.nil_append, List.append_nil, List.length_cons, List.length_nil, decide_eq_true_eq, Nat.reduceSub, Nat.reduceAdd, Int.reduceToNat, shl1, shrN, mod_ok pb, shl_ok, c, c', decide_true, if_false, if_true]
  unfold keyv
  simp only [set0, setS, evSs, evS, evT, evE, evEs, evSrc, getS0, getSs, set0, setS, R.bind_ok, R.bind_ex, bind_ite, withR_ok, withR_ex, withR_ite, thenO_nxt, thenO_ret, thenO_ex, thenO_ite, outR_nxt, outR_ret, outR_ex, outR_ite, bool_ok, int_ok, bin_add, bin_sub, bin_mul, bin_fdiv, bin_mod, bin_shl, bin_shr, bin_pow, bin_and, bin_or, bin_xor, cmp_eq, cmp_ne, cmp_lt, cmp_le, cmp_gt, cmp_ge, add_int, sub_int, and_int, or_int, xor_int, neg_int, len_lst, len_tup, abs_int, int_int, int_bl, max_int, min_int, bits_int, ix_tup0, ix_tup1, ix_tup2, List.map_cons, List.map_nil, List.replicate, List.cons_append, List.nil_append, List.append_nil, List.length_cons, List.length_nil, decide_eq_true_eq, Nat.reduceSub, Nat.reduceAdd, Int.reduceToNat, mul_ok bm]
  repeat' split
  all_goals rfl
theorem key_mono {H x y : Int} (hH : 0 < H) (x0 : 0 ≤ x) (x1 : x < 2 * H) (y0 : 0 ≤ y) (y1 : y < 2 * H) (h : pk H x ≤ pk H y) : keyv b H x ≤ keyv b H y := by
  have mx := mod_rk x0 x1
  have my := mod_rk y0 y1
  have hx0 := Int.emod_nonneg x (show H ≠ 0 by omega)
  have hy0 := Int.emod_nonneg y (show H ≠ 0 by omega)
  have i1 := sv_le (b := b) hx0 hy0
  have i2 := sv_le (b := b) hy0 hx0
  have i3 := sv_le (b := b) (Int.le_refl 0) hx0
  have i4 := sv_le (b := b) (Int.le_refl 0) hy0
  rw [sv_zero] at i3 i4
  unfold pk rk at h
  unfold keyv
  generalize sv b (x % H) = u at *
  generalize sv b (y % H) = v at *
  generalize x % H = p at *
  generalize y % H = q at *
  by_cases cx : x < H
  · have cx' : ¬ H ≤ x := by omega
    have cx2 : ¬ x = H := by omega
    rw [if_pos cx] at mx
    rw [if_pos cx, if_pos cx2] at h
    rw [if_neg cx']
    by_cases cy : y < H
    · have cy' : ¬ H ≤ y := by omega
      have cy2 : ¬ y = H := by omega
      rw [if_pos cy] at my
      rw [if_pos cy, if_pos cy2] at h
      rw [if_neg cy']
      omega
    · have cy' : H ≤ y := by omega
      rw [if_neg cy] at my
      rw [if_neg cy] at h
      split at h <;> omega
  · have cx' : H ≤ x := by omega
    rw [if_neg cx] at mx
    rw [if_neg cx] at h
    rw [if_pos cx']
    by_cases cy : y < H
    · have cy' : ¬ H ≤ y := by omega
      rw [if_neg cy']
      omega
    · have cy' : H ≤ y := by omega
      rw [if_neg cy] at my
      rw [if_neg cy] at h
      rw [if_pos cy']
      split at h <;> split at h <;> omega
theorem filt_perm (p : Int → Bool) : ∀ xs : List Int, (xs.filter (fun x => !p x) ++ xs.filter p).Perm xs
  | [] => .refl _
  | x :: xs => by
    cases e : p x with
    | true =>
      rw [List.filter_cons_of_neg (by simp [e]), List.filter_cons_of_pos (by simp [e])]
      exact List.perm_middle.trans ((filt_perm p xs).cons x)
    | false =>
      rw [List.filter_cons_of_pos (by simp [e]), List.filter_cons_of_neg (by simp [e]), List.cons_append]
      exact (filt_perm p xs).cons x
theorem ord_perm (xs : List Int) : (ord a b xs).Perm xs := by
  unfold ord
  exact (byK_perm.append_right _).trans (filt_perm _ xs)
theorem bnd_nat {n m : Nat} (h : m ≤ n) : bnd n 0 (some (m : Int)) = m := by
  unfold bnd
  simp only
  rw [if_neg (by omega), Int.toNat_natCast]
  omega
theorem slcL_ints {xs ys : List Int} {m : Nat} (h : xs.length = m) : slcD (.lst ((xs ++ ys).map .int)) (some (m : Int)) none = .ok (.lst (ys.map .int)) := by
  show R.ok (D.lst (cutL _ _ _)) = _
  unfold cutL
  rw [bnd_nat (by rw [List.length_map, List.length_append]; omega)]
  simp only [bnd]
  rw [List.map_append, List.drop_append_of_le_length (by rw [List.length_map]; omega), List.drop_of_length_le (by rw [List.length_map]; omega), List.nil_append, List.take_of_length_le]
  rw [List.length_append, List.length_map, List.length_map]
  omega
theorem bndH_nat {n d m : Nat} (h : m ≤ n) : bnd n d (some (m : Int)) = m := by
  unfold bnd
  simp only
  rw [if_neg (by omega), Int.toNat_natCast]
  omega
theorem slcH_ints {xs ys : List Int} {m : Nat} (h : xs.length = m) : slcD (.lst ((xs ++ ys).map .int)) none (some (m : Int)) = .ok (.lst (xs.map .int)) := by
  show R.ok (D.lst (cutL _ _ _)) = _
  unfold cutL
  rw [bndH_nat (by rw [List.length_map, List.length_append]; omega)]
  simp only [bnd, List.drop_zero]
  rw [List.map_append, List.take_append_of_le_length (by rw [List.length_map]; omega), List.take_of_length_le (by rw [List.length_map]; omega)]
theorem right_25_ok (w : Wd a b) {xs : List Int} (hx : Wds a b xs) (hl : xs.length ≤ 100) : G.right_25 [.tup [.int a, .int b], .lst ((ord a b xs).map .int), .lst (xs.map .int)] = .ok (.bl true) := by
  have h2 := w.a2; have h4 := w.b2
  have hp := pow2_pos (a + b)
  have pr := ord_perm (a := a) (b := b) xs
  have le := pr.length_eq
  have bA : bits ((2 : Int) ^ a - 1) ≤ 20 := by
    have h20 : (2 : Int) ^ 20 = 1048576 := rfl
    have := pow_le_i (show a ≤ 20 by omega)
    have := pow2_pos a
    exact Bd.rng (by omega) (by omega)
  simp only [G.right_25, G.b_right_25]
  rw [run_eq (by rfl)]
  simp only [List.map_cons, List.map_nil, List.replicate, List.cons_append, List.nil_append, Nat.reduceSub]
  refine seq (P := fun o => outR o = _) (by simp only [evSs, evS, evT, evE, evEs, evSrc, getS0, getSs, set0, setS, R.bind_ok, R.bind_ex, bind_ite, withR_ok, withR_ex, withR_ite, thenO_nxt, thenO_ret, thenO_ex, thenO_ite, outR_nxt, outR_ret, outR_ex, outR_ite, bool_ok, int_ok, bin_add, bin_sub, bin_mul, bin_fdiv, bin_mod, bin_shl, bin_shr, bin_pow, bin_and, bin_or, bin_xor, cmp_eq, cmp_ne, cmp_lt, cmp_le, cmp_gt, cmp_ge, add_int, sub_int, and_int, or_int, xor_int, neg_int, len_lst, len_tup, abs_int, int_int, int_bl, max_int, min_int, bits_int, ix_tup0, ix_tup1, ix_tup2, List.map_cons, List.map_nil, List.replicate, List.cons_append, List.nil_append, List.append_nil, List.length_cons, List.length_nil, decide_eq_true_eq, Nat.reduceSub, Nat.reduceAdd, Int.reduceToNat, isI, List.length_map, le, not_true, decide_false, Bool.not_true, Bool.false_eq_true, if_false]; rfl) ?_
  have stp : ∀ y ∈ (ord a b xs).map D.int, ∀ ρ : Env, (∃ s3 : Slot, ρ = [Slot.dat (.tup [.int a, .int b]), .dat (.lst ((ord a b xs).map .int)), .dat (.lst (xs.map .int)), s3, .un, .un, .un, .un, .un]) → Goes (fun ρ => ∃ s3 : Slot, ρ = [Slot.dat (.tup [.int a, .int b]), .dat (.lst ((ord a b xs).map .int)), .dat (.lst (xs.map .int)), s3, .un, .un, .un, .un, .un]) ((fun x (ρ' : Env) => evSs (.cons (.ifs (.not (.call "_law_whole" G.whole_01 (.cons (.var 3) .nil) [])) (.cons (.ret (.bl false)) .nil) .nil) .nil) (ρ'.set 3 (.dat x))) y ρ) := by
    rintro y hy ρ ⟨s3, rfl⟩
    obtain ⟨z, _, rfl⟩ := List.mem_map.mp hy
    simp only [setS, set0]
    refine seq (by simp only [evSs, evS, evT, evE, evEs, evSrc, getS0, getSs, set0, setS, R.bind_ok, R.bind_ex, bind_ite, withR_ok, withR_ex, withR_ite, thenO_nxt, thenO_ret, thenO_ex, thenO_ite, outR_nxt, outR_ret, outR_ex, outR_ite, bool_ok, int_ok, bin_add, bin_sub, bin_mul, bin_fdiv, bin_mod, bin_shl, bin_shr, bin_pow, bin_and, bin_or, bin_xor, cmp_eq, cmp_ne, cmp_lt, cmp_le, cmp_gt, cmp_ge, add_int, sub_int, and_int, or_int, xor_int, neg_int, len_lst, len_tup, abs_int, int_int, int_bl, max_int, min_int, bits_int, ix_tup0, ix_tup1, ix_tup2, List.map_cons, List.map_nil, List.replicate, List.cons_append, List.nil_append, List.append_nil, List.length_cons, List.length_nil, decide_eq_true_eq, Nat.reduceSub, Nat.reduceAdd, Int.reduceToNat, whole_01_ok, Bool.not_true, Bool.false_eq_true, if_false]; rfl) ?_
    exact seq_nil ⟨_, rfl, _, rfl⟩
  obtain ⟨ρ', e, s3, rfl⟩ := forGo_inv (I := fun ρ => ∃ s3 : Slot, ρ = [Slot.dat (.tup [.int a, .int b]), .dat (.lst ((ord a b xs).map .int)), .dat (.lst (xs.map .int)), s3, .un, .un, .un, .un, .un]) ((ord a b xs).map .int) _ ⟨.un, rfl⟩ stp
  refine seq (P := fun o => outR o = _) (by
    rw [evS]
    simp only [evSrc, evE, getS0, getSs, R.bind_ok, itemsD, withR_ok]
    exact e) ?_
  refine seq (P := fun o => outR o = _) (by simp (disch := omega) only [set0, setS, evSs, evS, evT, evE, evEs, evSrc, getS0, getSs, set0, setS, R.bind_ok, R.bind_ex, bind_ite, withR_ok, withR_ex, withR_ite, thenO_nxt, thenO_ret, thenO_ex, thenO_ite, outR_nxt, outR_ret, outR_ex, outR_ite, bool_ok, int_ok, bin_add, bin_sub, bin_mul, bin_fdiv, bin_mod, bin_shl, bin_shr, bin_pow, bin_and, bin_or, bin_xor, cmp_eq, cmp_ne, cmp_lt, cmp_le, cmp_gt, cmp_ge, add_int, sub_int, and_int, or_int, xor_int, neg_int, len_lst, len_tup, abs_int, int_int, int_bl, max_int, min_int, bits_int, ix_tup0, ix_tup1, ix_tup2, List.map_cons, List.map_nil, List.replicate, List.cons_append, List.nil_append, List.append_nil, List.length_cons, List.length_nil, decide_eq_true_eq, Nat.reduceSub, Nat.reduceAdd, Int.reduceToNat, Wd.c2, shl1]; rfl) ?_
  refine seq (P := fun o => outR o = _) (by simp (disch := omega) only [set0, setS, evSs, evS, evT, evE, evEs, evSrc, getS0, getSs, set0, setS, R.bind_ok, R.bind_ex, bind_ite, withR_ok, withR_ex, withR_ite, thenO_nxt, thenO_ret, thenO_ex, thenO_ite, outR_nxt, outR_ret, outR_ex, outR_ite, bool_ok, int_ok, bin_add, bin_sub, bin_mul, bin_fdiv, bin_mod, bin_shl, bin_shr, bin_pow, bin_and, bin_or, bin_xor, cmp_eq, cmp_ne, cmp_lt, cmp_le, cmp_gt, cmp_ge, add_int, sub_int, and_int, or_int, xor_int, neg_int, len_lst, len_tup, abs_int, int_int, int_bl, max_int, min_int, bits_int, ix_tup0, ix_tup1, ix_tup2, List.map_cons, List.map_nil, List.replicate, List.cons_append, List.nil_append, List.append_nil, List.length_cons, List.length_nil, decide_eq_true_eq, Nat.reduceSub, Nat.reduceAdd, Int.reduceToNat, shl1, shlN]; rfl) ?_
  have l1 : (xs.map D.int).length < line := by rw [List.length_map]; unfold line; omega
  have p1 : pick (fun x => (evE (.cmp .gt (.bin .mod (.var 3) (.var 4)) (.var 5)) ([Slot.dat (.tup [.int a, .int b]), .dat (.lst ((ord a b xs).map .int)), .dat (.lst (xs.map .int)), s3, .dat (.int (2 ^ (a + b))), .dat (.int ((2 ^ a - 1) * 2 ^ b)), .un, .un, .un].set 3 (.dat x))).bind boolD) (fun x => evE (.var 3) ([Slot.dat (.tup [.int a, .int b]), .dat (.lst ((ord a b xs).map .int)), .dat (.lst (xs.map .int)), s3, .dat (.int (2 ^ (a + b))), .dat (.int ((2 ^ a - 1) * 2 ^ b)), .un, .un, .un].set 3 (.dat x))) (xs.map .int) = .ok ((xs.filter (nn a b)).map .int) :=
    pick_ints fun x h => ⟨by simp only [setS, set0, evSs, evS, evT, evE, evEs, evSrc, getS0, getSs, set0, setS, R.bind_ok, R.bind_ex, bind_ite, withR_ok, withR_ex, withR_ite, thenO_nxt, thenO_ret, thenO_ex, thenO_ite, outR_nxt, outR_ret, outR_ex, outR_ite, bool_ok, int_ok, bin_add, bin_sub, bin_mul, bin_fdiv, bin_mod, bin_shl, bin_shr, bin_pow, bin_and, bin_or, bin_xor, cmp_eq, cmp_ne, cmp_lt, cmp_le, cmp_gt, cmp_ge, add_int, sub_int, and_int, or_int, xor_int, neg_int, len_lst, len_tup, abs_int, int_int, int_bl, max_int, min_int, bits_int, ix_tup0, ix_tup1, ix_tup2, List.map_cons, List.map_nil, List.replicate, List.cons_append, List.nil_append, List.append_nil, List.length_cons, List.length_nil, decide_eq_true_eq, Nat.reduceSub, Nat.reduceAdd, Int.reduceToNat, mod_ok hp]; rfl, by simp only [setS, set0, evSs, evS, evT, evE, evEs, evSrc, getS0, getSs, set0, setS, R.bind_ok, R.bind_ex, bind_ite, withR_ok, withR_ex, withR_ite, thenO_nxt, thenO_ret, thenO_ex, thenO_ite, outR_nxt, outR_ret, outR_ex, outR_ite, bool_ok, int_ok, bin_add, bin_sub, bin_mul, bin_fdiv, bin_mod, bin_shl, bin_shr, bin_pow, bin_and, bin_or, bin_xor, cmp_eq, cmp_ne, cmp_lt, cmp_le, cmp_gt, cmp_ge, add_int, sub_int, and_int, or_int, xor_int, neg_int, len_lst, len_tup, abs_int, int_int, int_bl, max_int, min_int, bits_int, ix_tup0, ix_tup1, ix_tup2, List.map_cons, List.map_nil, List.replicate, List.cons_append, List.nil_append, List.append_nil, List.length_cons, List.length_nil, decide_eq_true_eq, Nat.reduceSub, Nat.reduceAdd, Int.reduceToNat]⟩
  have ll : ((xs.filter (nn a b)).map D.int).length ≤ line := by
    have := List.length_filter_le (nn a b) xs
    rw [List.length_map]; unfold line; omega
  refine seqs (P := fun o => outR o = _) (i := 6) (sl := .dat (.lst ((xs.filter (nn a b)).map .int))) (by
    exact asg_ok (lcf_ok rfl p1 l1)) ?_
  simp only [set0, setS]
  refine seq (P := fun o => outR o = _) (by simp only [set0, setS, evSs, evS, evT, evE, evEs, evSrc, getS0, getSs, set0, setS, R.bind_ok, R.bind_ex, bind_ite, withR_ok, withR_ex, withR_ite, thenO_nxt, thenO_ret, thenO_ex, thenO_ite, outR_nxt, outR_ret, outR_ex, outR_ite, bool_ok, int_ok, bin_add, bin_sub, bin_mul, bin_fdiv, bin_mod, bin_shl, bin_shr, bin_pow, bin_and, bin_or, bin_xor, cmp_eq, cmp_ne, cmp_lt, cmp_le, cmp_gt, cmp_ge, add_int, sub_int, and_int, or_int, xor_int, neg_int, len_lst, len_tup, abs_int, int_int, int_bl, max_int, min_int, bits_int, ix_tup0, ix_tup1, ix_tup2, List.map_cons, List.map_nil, List.replicate, List.cons_append, List.nil_append, List.append_nil, List.length_cons, List.length_nil, decide_eq_true_eq, Nat.reduceSub, Nat.reduceAdd, Int.reduceToNat]; rfl) ?_
  have fl : (byK (pk (2 ^ (a + b))) (xs.filter fun x => !nn a b x)).length = xs.length - (xs.filter (nn a b)).length := by
    have q := ord_perm (a := a) (b := b) xs
    have q := q.length_eq
    unfold ord at q
    rw [List.length_append] at q
    omega
  have e7 : ((xs.map D.int).length : Int) - ((xs.filter (nn a b)).map D.int).length = ((xs.length - (xs.filter (nn a b)).length : Nat) : Int) := by
    have := List.length_filter_le (nn a b) xs
    rw [List.length_map, List.length_map]
    omega
  rw [e7]
  have s1 := slcL_ints (xs := byK (pk (2 ^ (a + b))) (xs.filter fun x => !nn a b x)) (ys := xs.filter (nn a b)) fl
  have s2 := slcH_ints (xs := byK (pk (2 ^ (a + b))) (xs.filter fun x => !nn a b x)) (ys := xs.filter (nn a b)) fl
  have e1 : slcD (.lst ((ord a b xs).map .int)) (some ((xs.length - (xs.filter (nn a b)).length : Nat) : Int)) none = .ok (.lst ((xs.filter (nn a b)).map .int)) := s1
  have e2 : slcD (.lst ((ord a b xs).map .int)) none (some ((xs.length - (xs.filter (nn a b)).length : Nat) : Int)) = .ok (.lst ((byK (pk (2 ^ (a + b))) (xs.filter fun x => !nn a b x)).map .int)) := s2
  refine seq (P := fun o => outR o = _) (by simp only [set0, setS, evSs, evS, evT, evE, evEs, evSrc, getS0, getSs, set0, setS, R.bind_ok, R.bind_ex, bind_ite, withR_ok, withR_ex, withR_ite, thenO_nxt, thenO_ret, thenO_ex, thenO_ite, outR_nxt, outR_ret, outR_ex, outR_ite, bool_ok, int_ok, bin_add, bin_sub, bin_mul, bin_fdiv, bin_mod, bin_shl, bin_shr, bin_pow, bin_and, bin_or, bin_xor, cmp_eq, cmp_ne, cmp_lt, cmp_le, cmp_gt, cmp_ge, add_int, sub_int, and_int, or_int, xor_int, neg_int, len_lst, len_tup, abs_int, int_int, int_bl, max_int, min_int, bits_int, ix_tup0, ix_tup1, ix_tup2, List.map_cons, List.map_nil, List.replicate, List.cons_append, List.nil_append, List.append_nil, List.length_cons, List.length_nil, decide_eq_true_eq, Nat.reduceSub, Nat.reduceAdd, Int.reduceToNat, e1, ne_ints, sorted_ints, srtI_perm pr, not_true, decide_false, Bool.false_eq_true, if_false]; rfl) ?_
  generalize hB : byK (pk (2 ^ (a + b))) (xs.filter fun x => !nn a b x) = B at *
  have hB1 : ∀ x ∈ B, 0 ≤ x ∧ x < 2 ^ (1 + a + b) := fun x hm => by
    rw [← hB] at hm
    exact hx x (List.mem_filter.mp (byK_perm.mem_iff.mp hm)).1
  have l2 : (B.map D.int).length < line := by rw [List.length_map, fl]; unfold line; omega
  have p2 : pick (fun _ => .ok true) (fun x => evE (.call "_law_key" G.key_25 (.cons (.var 0) (.cons (.var 3) .nil)) []) ([Slot.dat (.tup [.int a, .int b]), .dat (.lst ((ord a b xs).map .int)), .dat (.lst (xs.map .int)), s3, .dat (.int (2 ^ (a + b))), .dat (.int ((2 ^ a - 1) * 2 ^ b)), .dat (.lst ((xs.filter (nn a b)).map .int)), .dat (.int ((xs.length - (xs.filter (nn a b)).length : Nat) : Int)), .un].set 3 (.dat x))) (B.map .int) = .ok ((B.map (keyv b (2 ^ (a + b)))).map .int) :=
    pick_map fun x h => by simp only [setS, set0, evSs, evS, evT, evE, evEs, evSrc, getS0, getSs, set0, setS, R.bind_ok, R.bind_ex, bind_ite, withR_ok, withR_ex, withR_ite, thenO_nxt, thenO_ret, thenO_ex, thenO_ite, outR_nxt, outR_ret, outR_ex, outR_ite, bool_ok, int_ok, bin_add, bin_sub, bin_mul, bin_fdiv, bin_mod, bin_shl, bin_shr, bin_pow, bin_and, bin_or, bin_xor, cmp_eq, cmp_ne, cmp_lt, cmp_le, cmp_gt, cmp_ge, add_int, sub_int, and_int, or_int, xor_int, neg_int, len_lst, len_tup, abs_int, int_int, int_bl, max_int, min_int, bits_int, ix_tup0, ix_tup1, ix_tup2, List.map_cons, List.map_nil, List.replicate, List.cons_append, List.nil_append, List.append_nil, List.length_cons, List.length_nil, decide_eq_true_eq, Nat.reduceSub, Nat.reduceAdd, Int.reduceToNat, key_25_ok w (hB1 x h).1 (hB1 x h).2]
  refine seqs (P := fun o => outR o = _) (i := 8) (sl := .dat (.lst ((B.map (keyv b (2 ^ (a + b)))).map .int))) (by
    exact asg_ok (lc_ok (by simp only [evSrc, evE, getS0, getSs, R.bind_ok, int_ok, e2, itemsD]) p2 l2)) ?_
  simp only [set0, setS]
  have pw : (B.map (keyv b (2 ^ (a + b)))).Pairwise (· ≤ ·) := by
    rw [List.pairwise_map]
    have q := byK_pw (k := pk (2 ^ (a + b))) (xs.filter fun x => !nn a b x)
    rw [hB] at q
    have e : (2 : Int) ^ (1 + a + b) = 2 * 2 ^ (a + b) := by rw [Nat.add_assoc, Int.pow_add]; rfl
    exact q.imp_of_mem fun {x y} h1 h2 h => key_mono hp (hB1 x h1).1 (by have := (hB1 x h1).2; omega) (hB1 y h2).1 (by have := (hB1 y h2).2; omega) h
  refine seq_ret (P := fun o => outR o = _) (by simp only [set0, setS, evSs, evS, evT, evE, evEs, evSrc, getS0, getSs, set0, setS, R.bind_ok, R.bind_ex, bind_ite, withR_ok, withR_ex, withR_ite, thenO_nxt, thenO_ret, thenO_ex, thenO_ite, outR_nxt, outR_ret, outR_ex, outR_ite, bool_ok, int_ok, bin_add, bin_sub, bin_mul, bin_fdiv, bin_mod, bin_shl, bin_shr, bin_pow, bin_and, bin_or, bin_xor, cmp_eq, cmp_ne, cmp_lt, cmp_le, cmp_gt, cmp_ge, add_int, sub_int, and_int, or_int, xor_int, neg_int, len_lst, len_tup, abs_int, int_int, int_bl, max_int, min_int, bits_int, ix_tup0, ix_tup1, ix_tup2, List.map_cons, List.map_nil, List.replicate, List.cons_append, List.nil_append, List.append_nil, List.length_cons, List.length_nil, decide_eq_true_eq, Nat.reduceSub, Nat.reduceAdd, Int.reduceToNat, sorted_ints, srtI_id pw, eq_ints, decide_true]; try rfl) rfl
/-! ### the words -/
def tB25 : Ss := (.cons (.asg 5 (.call "_law_word" G.word_22 (.cons (.var 0) (.cons (.var 4) .nil)) []))
  (.cons (.ifs (.and (.cmp .eq (.bin .mod (.bin .mod (.bin .mul (.var 4) (.int 16807)) (.int 999979)) (.int 5)) (.int 2)) (.onz 3)) (.cons (.asg 5 (.bin .mod (.bin .add (.oix 3 (.neg (.int 1))) (.bin .mul (.bin .mod (.var 4) (.int 2)) (.var 2))) (.bin .mul (.int 2) (.var 2))))
  .nil) .nil)
  (.cons (.app 3 (.var 5))
  .nil)))
def I25 (a b : Nat) (cs : D) (j : Nat) (ρ : Env) : Prop := ∃ (ts : List Int) (s4 s5 : Slot), ρ = [.dat (.tup [.int a, .int b]), .dat cs, .dat (.int (2 ^ (a + b))), .own (ts.map .int), s4, s5] ∧ ts.length = j ∧ Wds a b ts
theorem words_25_ok (w : Wd a b) {cs : List Int} (hl : cs.length ≤ 63) (hb : ∀ c ∈ cs, bits c ≤ 4000000) : ∃ xs : List Int, G.words_25 [.tup [.int a, .int b], .lst (cs.map .int)] = .ok (.lst (xs.map .int)) ∧ Wds a b xs ∧ xs.length ≤ 63 := by
  have h2 := w.a2; have h4 := w.b2
  have hp := pow2_pos (a + b)
  have eW : (2 : Int) * 2 ^ (a + b) = 2 ^ (1 + a + b) := by rw [Wd.p2, Wd.p1]
  have hW := pow2_pos (1 + a + b)
  have bH : bits ((2 : Int) ^ (a + b)) ≤ 8000 := Nat.le_trans (Bd.pow2 _) (by omega)
  have mH : bits 2 + bits ((2 : Int) ^ (a + b)) ≤ 134217728 := by
    have q1 : bits 2 = 2 := by decide
    omega
  simp only [G.words_25, G.b_words_25]
  rw [run_eq (by rfl)]
  simp only [List.map_cons, List.map_nil, List.replicate, List.cons_append, List.nil_append, Nat.reduceSub]
  refine seq (P := fun o => ∃ xs : List Int, outR o = .ok (.lst (xs.map .int)) ∧ Wds a b xs ∧ xs.length ≤ 63) (by simp (disch := omega) only [set0, setS, evSs, evS, evT, evE, evEs, evSrc, getS0, getSs, set0, setS, R.bind_ok, R.bind_ex, bind_ite, withR_ok, withR_ex, withR_ite, thenO_nxt, thenO_ret, thenO_ex, thenO_ite, outR_nxt, outR_ret, outR_ex, outR_ite, bool_ok, int_ok, bin_add, bin_sub, bin_mul, bin_fdiv, bin_mod, bin_shl, bin_shr, bin_pow, bin_and, bin_or, bin_xor, cmp_eq, cmp_ne, cmp_lt, cmp_le, cmp_gt, cmp_ge, add_int, sub_int, and_int, or_int, xor_int, neg_int, len_lst, len_tup, abs_int, int_int, int_bl, max_int, min_int, bits_int, ix_tup0, ix_tup1, ix_tup2, List.map_cons, List.map_nil, List.replicate, List.cons_append, List.nil_append, List.append_nil, List.length_cons, List.length_nil, decide_eq_true_eq, Nat.reduceSub, Nat.reduceAdd, Int.reduceToNat, Wd.c2, shl1]; rfl) ?_
  refine seqs (P := fun o => ∃ xs : List Int, outR o = .ok (.lst (xs.map .int)) ∧ Wds a b xs ∧ xs.length ≤ 63) (i := 3) (sl := .own []) (by rfl) ?_
  simp only [setS, set0]
  have stp : ∀ y ∈ cs.map D.int, ∀ (j : Nat) (ρ : Env), j < 63 → I25 a b (.lst (cs.map .int)) j ρ → Goes (I25 a b (.lst (cs.map .int)) (j + 1)) ((fun x (ρ' : Env) => evSs tB25 (ρ'.set 4 (.dat x))) y ρ) := by
    rintro y hy j ρ hj ⟨ts, s4, s5, rfl, tl, tb⟩
    obtain ⟨z, hz, rfl⟩ := List.mem_map.mp hy
    have hzb := hb z hz
    obtain ⟨x, ex, x0, x1⟩ := word_22_ok w hzb
    show Goes (I25 a b (.lst (cs.map .int)) (j + 1)) (evSs tB25 (List.set [_, _, _, _, s4, s5] 4 _))
    simp only [setS, set0]
    unfold tB25
    refine seq (P := Goes (I25 a b (.lst (cs.map .int)) (j + 1))) (by simp only [evSs, evS, evT, evE, evEs, evSrc, getS0, getSs, set0, setS, R.bind_ok, R.bind_ex, bind_ite, withR_ok, withR_ex, withR_ite, thenO_nxt, thenO_ret, thenO_ex, thenO_ite, outR_nxt, outR_ret, outR_ex, outR_ite, bool_ok, int_ok, bin_add, bin_sub, bin_mul, bin_fdiv, bin_mod, bin_shl, bin_shr, bin_pow, bin_and, bin_or, bin_xor, cmp_eq, cmp_ne, cmp_lt, cmp_le, cmp_gt, cmp_ge, add_int, sub_int, and_int, or_int, xor_int, neg_int, len_lst, len_tup, abs_int, int_int, int_bl, max_int, min_int, bits_int, ix_tup0, ix_tup1, ix_tup2, List.map_cons, List.map_nil, List.replicate, List.cons_append, List.nil_append, List.append_nil, List.length_cons, List.length_nil, decide_eq_true_eq, Nat.reduceSub, Nat.reduceAdd, Int.reduceToNat, setAll, Int.toNat_natCast, Int.one_mul, ex, decide_true, decide_false, Bool.not_true, Bool.not_false, Bool.false_eq_true, if_true, if_false]; rfl) ?_
    have last : ∀ t : Int, 0 ≤ t ∧ t < 2 ^ (1 + a + b) → Goes (I25 a b (.lst (cs.map .int)) (j + 1)) (evSs (.cons (.app 3 (.var 5)) .nil) [.dat (.tup [.int a, .int b]), .dat (.lst (cs.map .int)), .dat (.int (2 ^ (a + b))), .own (ts.map .int), .dat (.int z), .dat (.int t)]) := by
      intro t ht
      have hl : (ts.map D.int).length < line := by rw [List.length_map]; unfold line; omega
      refine seq (P := Goes (I25 a b (.lst (cs.map .int)) (j + 1))) (by simp only [evSs, evS, evT, evE, evEs, evSrc, getS0, getSs, set0, setS, R.bind_ok, R.bind_ex, bind_ite, withR_ok, withR_ex, withR_ite, thenO_nxt, thenO_ret, thenO_ex, thenO_ite, outR_nxt, outR_ret, outR_ex, outR_ite, bool_ok, int_ok, bin_add, bin_sub, bin_mul, bin_fdiv, bin_mod, bin_shl, bin_shr, bin_pow, bin_and, bin_or, bin_xor, cmp_eq, cmp_ne, cmp_lt, cmp_le, cmp_gt, cmp_ge, add_int, sub_int, and_int, or_int, xor_int, neg_int, len_lst, len_tup, abs_int, int_int, int_bl, max_int, min_int, bits_int, ix_tup0, ix_tup1, ix_tup2, List.map_cons, List.map_nil, List.replicate, List.cons_append, List.nil_append, List.append_nil, List.length_cons, List.length_nil, decide_eq_true_eq, Nat.reduceSub, Nat.reduceAdd, Int.reduceToNat, List.getElem?_cons_succ, List.getElem?_cons_zero, hl, decide_true, decide_false, Bool.not_true, Bool.not_false, Bool.false_eq_true, if_true, if_false]; rfl) ?_
      refine seq_nil ⟨_, rfl, ts ++ [t], .dat (.int z), .dat (.int t), ?_, ?_, ?_⟩
      · rw [List.map_append]; rfl
      · rw [List.length_append, tl]; rfl
      · intro u hu
        rcases List.mem_append.mp hu with hu | hu
        · exact tb u hu
        · simp only [List.mem_cons, List.not_mem_nil, or_false] at hu
          rw [hu]; exact ht
    have pl := plains_ints (n := 59) ts
    have n1 : negD (.int 1) = .ok (.int (-1)) := rfl
    by_cases c : z * 16807 % 999979 % 5 = 2
    · by_cases e : ts = []
      · subst e
        refine seq (P := Goes (I25 a b (.lst (cs.map .int)) (j + 1))) (by simp (disch := first | assumption | omega | decide +kernel | exact bsum (by (repeat' first | assumption | apply Bd.mod | apply Bd.shlm | apply Bd.shl | apply Bd.mul | apply Bd.add | apply Bd.sub | apply Bd.neg | apply Bd.abs | apply Bd.fdiv | apply Bd.pow2 | exact Bd.lit _ | decide | omega)) (by (repeat' first | assumption | apply Bd.mod | apply Bd.shlm | apply Bd.shl | apply Bd.mul | apply Bd.add | apply Bd.sub | apply Bd.neg | apply Bd.abs | apply Bd.fdiv | apply Bd.pow2 | exact Bd.lit _ | decide | omega)) (by decide +kernel) | (have := bits_one; have := bits_two; have := bits_three; omega)) only [evSs, evS, evT, evE, evEs, evSrc, getS0, getSs, set0, setS, R.bind_ok, R.bind_ex, bind_ite, withR_ok, withR_ex, withR_ite, thenO_nxt, thenO_ret, thenO_ex, thenO_ite, outR_nxt, outR_ret, outR_ex, outR_ite, bool_ok, int_ok, bin_add, bin_sub, bin_mul, bin_fdiv, bin_mod, bin_shl, bin_shr, bin_pow, bin_and, bin_or, bin_xor, cmp_eq, cmp_ne, cmp_lt, cmp_le, cmp_gt, cmp_ge, add_int, sub_int, and_int, or_int, xor_int, neg_int, len_lst, len_tup, abs_int, int_int, int_bl, max_int, min_int, bits_int, ix_tup0, ix_tup1, ix_tup2, List.map_cons, List.map_nil, List.replicate, List.cons_append, List.nil_append, List.append_nil, List.length_cons, List.length_nil, decide_eq_true_eq, Nat.reduceSub, Nat.reduceAdd, Int.reduceToNat, mul_ok, mod_ok, fdiv_ok, shl_ok, shr_ok, pow_ok, c, List.getElem?_cons_succ, List.getElem?_cons_zero, pl, decide_true, decide_false, Bool.not_true, Bool.not_false, Bool.false_eq_true, if_true, if_false]; rfl) ?_
        exact last _ ⟨x0, x1⟩
      · obtain ⟨t, ht, el⟩ := last_int e
        have hne : (ts.map D.int).isEmpty = false := by cases ts with
          | nil => exact absurd rfl e
          | cons _ _ => rfl
        have bz : bits (z % 2) + bits ((2 : Int) ^ (a + b)) ≤ 134217728 := by
          have q1 : bits (z % 2) ≤ 2 := Bd.rng (by omega) (by omega)
          omega
        refine seq (P := Goes (I25 a b (.lst (cs.map .int)) (j + 1))) (by simp (disch := first | assumption | omega | decide +kernel | exact bsum (by (repeat' first | assumption | apply Bd.mod | apply Bd.shlm | apply Bd.shl | apply Bd.mul | apply Bd.add | apply Bd.sub | apply Bd.neg | apply Bd.abs | apply Bd.fdiv | apply Bd.pow2 | exact Bd.lit _ | decide | omega)) (by (repeat' first | assumption | apply Bd.mod | apply Bd.shlm | apply Bd.shl | apply Bd.mul | apply Bd.add | apply Bd.sub | apply Bd.neg | apply Bd.abs | apply Bd.fdiv | apply Bd.pow2 | exact Bd.lit _ | decide | omega)) (by decide +kernel) | (have := bits_one; have := bits_two; have := bits_three; omega)) only [evSs, evS, evT, evE, evEs, evSrc, getS0, getSs, set0, setS, R.bind_ok, R.bind_ex, bind_ite, withR_ok, withR_ex, withR_ite, thenO_nxt, thenO_ret, thenO_ex, thenO_ite, outR_nxt, outR_ret, outR_ex, outR_ite, bool_ok, int_ok, bin_add, bin_sub, bin_mul, bin_fdiv, bin_mod, bin_shl, bin_shr, bin_pow, bin_and, bin_or, bin_xor, cmp_eq, cmp_ne, cmp_lt, cmp_le, cmp_gt, cmp_ge, add_int, sub_int, and_int, or_int, xor_int, neg_int, len_lst, len_tup, abs_int, int_int, int_bl, max_int, min_int, bits_int, ix_tup0, ix_tup1, ix_tup2, List.map_cons, List.map_nil, List.replicate, List.cons_append, List.nil_append, List.append_nil, List.length_cons, List.length_nil, decide_eq_true_eq, Nat.reduceSub, Nat.reduceAdd, Int.reduceToNat, mul_ok bz, mul_ok mH, eW, mul_ok, mod_ok, fdiv_ok, shl_ok, shr_ok, pow_ok, c, List.getElem?_cons_succ, List.getElem?_cons_zero, pl, hne, n1, el, decide_true, decide_false, Bool.not_true, Bool.not_false, Bool.false_eq_true, if_true, if_false]; rfl) ?_
        exact last _ ⟨Int.emod_nonneg _ (by omega), Int.emod_lt_of_pos _ hW⟩
    · refine seq (P := Goes (I25 a b (.lst (cs.map .int)) (j + 1))) (by simp (disch := first | assumption | omega | decide +kernel | exact bsum (by (repeat' first | assumption | apply Bd.mod | apply Bd.shlm | apply Bd.shl | apply Bd.mul | apply Bd.add | apply Bd.sub | apply Bd.neg | apply Bd.abs | apply Bd.fdiv | apply Bd.pow2 | exact Bd.lit _ | decide | omega)) (by (repeat' first | assumption | apply Bd.mod | apply Bd.shlm | apply Bd.shl | apply Bd.mul | apply Bd.add | apply Bd.sub | apply Bd.neg | apply Bd.abs | apply Bd.fdiv | apply Bd.pow2 | exact Bd.lit _ | decide | omega)) (by decide +kernel) | (have := bits_one; have := bits_two; have := bits_three; omega)) only [evSs, evS, evT, evE, evEs, evSrc, getS0, getSs, set0, setS, R.bind_ok, R.bind_ex, bind_ite, withR_ok, withR_ex, withR_ite, thenO_nxt, thenO_ret, thenO_ex, thenO_ite, outR_nxt, outR_ret, outR_ex, outR_ite, bool_ok, int_ok, bin_add, bin_sub, bin_mul, bin_fdiv, bin_mod, bin_shl, bin_shr, bin_pow, bin_and, bin_or, bin_xor, cmp_eq, cmp_ne, cmp_lt, cmp_le, cmp_gt, cmp_ge, add_int, sub_int, and_int, or_int, xor_int, neg_int, len_lst, len_tup, abs_int, int_int, int_bl, max_int, min_int, bits_int, ix_tup0, ix_tup1, ix_tup2, List.map_cons, List.map_nil, List.replicate, List.cons_append, List.nil_append, List.append_nil, List.length_cons, List.length_nil, decide_eq_true_eq, Nat.reduceSub, Nat.reduceAdd, Int.reduceToNat, mul_ok, mod_ok, fdiv_ok, shl_ok, shr_ok, pow_ok, c, decide_true, decide_false, Bool.not_true, Bool.not_false, Bool.false_eq_true, if_true, if_false]; rfl) ?_
      exact last _ ⟨x0, x1⟩
  obtain ⟨ρ', e, ts, s4, s5, rfl, tl, tb⟩ := forGo_idx (N := 63) (I := I25 a b (.lst (cs.map .int))) (cs.map .int) 0 [.dat (.tup [.int a, .int b]), .dat (.lst (cs.map .int)), .dat (.int (2 ^ (a + b))), .own [], .un, .un] ⟨[], .un, .un, rfl, rfl, by intro x hx; cases hx⟩ stp (by rw [List.length_map]; omega)
  refine seq (P := fun o => ∃ xs : List Int, outR o = .ok (.lst (xs.map .int)) ∧ Wds a b xs ∧ xs.length ≤ 63) (by
    rw [evS]
    simp only [evSrc, evE, getS0, getSs, R.bind_ok, itemsD, withR_ok]
    exact e) ?_
  refine seq (P := fun o => ∃ xs : List Int, outR o = .ok (.lst (xs.map .int)) ∧ Wds a b xs ∧ xs.length ≤ 63) (by simp only [evSs, evS, evT, evE, evEs, evSrc, getS0, getSs, set0, setS, R.bind_ok, R.bind_ex, bind_ite, withR_ok, withR_ex, withR_ite, thenO_nxt, thenO_ret, thenO_ex, thenO_ite, outR_nxt, outR_ret, outR_ex, outR_ite, bool_ok, int_ok, bin_add, bin_sub, bin_mul, bin_fdiv, bin_mod, bin_shl, bin_shr, bin_pow, bin_and, bin_or, bin_xor, cmp_eq, cmp_ne, cmp_lt, cmp_le, cmp_gt, cmp_ge, add_int, sub_int, and_int, or_int, xor_int, neg_int, len_lst, len_tup, abs_int, int_int, int_bl, max_int, min_int, bits_int, ix_tup0, ix_tup1, ix_tup2, List.map_cons, List.map_nil, List.replicate, List.cons_append, List.nil_append, List.append_nil, List.length_cons, List.length_nil, decide_eq_true_eq, Nat.reduceSub, Nat.reduceAdd, Int.reduceToNat, setAll, Int.toNat_natCast, Int.one_mul, List.getElem?_cons_succ, List.getElem?_cons_zero, decide_true, decide_false, Bool.not_true, Bool.not_false, Bool.false_eq_true, if_true, if_false]; rfl) ?_
  simp only [evSs, evS, evT, evE, evEs, evSrc, getS0, getSs, set0, setS, R.bind_ok, R.bind_ex, bind_ite, withR_ok, withR_ex, withR_ite, thenO_nxt, thenO_ret, thenO_ex, thenO_ite, outR_nxt, outR_ret, outR_ex, outR_ite, bool_ok, int_ok, bin_add, bin_sub, bin_mul, bin_fdiv, bin_mod, bin_shl, bin_shr, bin_pow, bin_and, bin_or, bin_xor, cmp_eq, cmp_ne, cmp_lt, cmp_le, cmp_gt, cmp_ge, add_int, sub_int, and_int, or_int, xor_int, neg_int, len_lst, len_tup, abs_int, int_int, int_bl, max_int, min_int, bits_int, ix_tup0, ix_tup1, ix_tup2, List.map_cons, List.map_nil, List.replicate, List.cons_append, List.nil_append, List.append_nil, List.length_cons, List.length_nil, decide_eq_true_eq, Nat.reduceSub, Nat.reduceAdd, Int.reduceToNat]
  exact ⟨ts, rfl, tb, by rw [List.length_map] at tl; omega⟩
/-! ### refused -/
theorem none_bad {W d : D} (h : F.asked_word [W, d] = .ex 1) : F.is_none [W, d] = .ex 1 := by
  have h2 : F.cut [W, d] = .ex 1 := by
    simp only [F.cut, F.b_cut]
    rw [run_eq (by rfl)]
    simp only [evSs, evS, evT, evE, evEs, evSrc, getS0, getSs, set0, setS, R.bind_ok, R.bind_ex, bind_ite, withR_ok, withR_ex, withR_ite, thenO_nxt, thenO_ret, thenO_ex, thenO_ite, outR_nxt, outR_ret, outR_ex, outR_ite, bool_ok, int_ok, bin_add, bin_sub, bin_mul, bin_fdiv, bin_mod, bin_shl, bin_shr, bin_pow, bin_and, bin_or, bin_xor, cmp_eq, cmp_ne, cmp_lt, cmp_le, cmp_gt, cmp_ge, add_int, sub_int, and_int, or_int, xor_int, neg_int, len_lst, len_tup, abs_int, int_int, int_bl, max_int, min_int, bits_int, ix_tup0, ix_tup1, ix_tup2, List.map_cons, List.map_nil, List.replicate, List.cons_append, List.nil_append, List.append_nil, List.length_cons, List.length_nil, decide_eq_true_eq, Nat.reduceSub, Nat.reduceAdd, Int.reduceToNat, h]
  have h3 : F.kind_of [W, d] = .ex 1 := by
    simp only [F.kind_of, F.b_kind_of]
    rw [run_eq (by rfl)]
    simp only [evSs, evS, evT, evE, evEs, evSrc, getS0, getSs, set0, setS, R.bind_ok, R.bind_ex, bind_ite, withR_ok, withR_ex, withR_ite, thenO_nxt, thenO_ret, thenO_ex, thenO_ite, outR_nxt, outR_ret, outR_ex, outR_ite, bool_ok, int_ok, bin_add, bin_sub, bin_mul, bin_fdiv, bin_mod, bin_shl, bin_shr, bin_pow, bin_and, bin_or, bin_xor, cmp_eq, cmp_ne, cmp_lt, cmp_le, cmp_gt, cmp_ge, add_int, sub_int, and_int, or_int, xor_int, neg_int, len_lst, len_tup, abs_int, int_int, int_bl, max_int, min_int, bits_int, ix_tup0, ix_tup1, ix_tup2, List.map_cons, List.map_nil, List.replicate, List.cons_append, List.nil_append, List.append_nil, List.length_cons, List.length_nil, decide_eq_true_eq, Nat.reduceSub, Nat.reduceAdd, Int.reduceToNat, h2]
  simp only [F.is_none, F.b_is_none]
  rw [run_eq (by rfl)]
  simp only [evSs, evS, evT, evE, evEs, evSrc, getS0, getSs, set0, setS, R.bind_ok, R.bind_ex, bind_ite, withR_ok, withR_ex, withR_ite, thenO_nxt, thenO_ret, thenO_ex, thenO_ite, outR_nxt, outR_ret, outR_ex, outR_ite, bool_ok, int_ok, bin_add, bin_sub, bin_mul, bin_fdiv, bin_mod, bin_shl, bin_shr, bin_pow, bin_and, bin_or, bin_xor, cmp_eq, cmp_ne, cmp_lt, cmp_le, cmp_gt, cmp_ge, add_int, sub_int, and_int, or_int, xor_int, neg_int, len_lst, len_tup, abs_int, int_int, int_bl, max_int, min_int, bits_int, ix_tup0, ix_tup1, ix_tup2, List.map_cons, List.map_nil, List.replicate, List.cons_append, List.nil_append, List.append_nil, List.length_cons, List.length_nil, decide_eq_true_eq, Nat.reduceSub, Nat.reduceAdd, Int.reduceToNat, h3]
theorem in_order_bad (w : Wd a b) {us : List Int} {d : D} {vs : List D} (hx : Wds a b us) (hl : us.length + vs.length ≤ 1000) (hd : F.asked_word [.tup [.int a, .int b], d] = .ex 1) : F.in_order [.tup [.int a, .int b], .lst (us.map .int ++ d :: vs)] = .ex 1 := by
  have hn : ∀ x ∈ us, F.is_none [.tup [.int a, .int b], .int x] = .ok (.bl (nn a b x)) := fun x h => is_none_ok w (hx x h).1 (hx x h).2
  have l1 : decide ((us.map D.int ++ d :: vs).length < line) = true := decide_eq_true (by rw [List.length_append, List.length_map, List.length_cons]; unfold line; omega)
  have p1 : pickX (fun x => (evE (.not (.call "is_none" F.is_none (.cons (.var 0) (.cons (.var 4) .nil)) [])) ([Slot.dat (.tup [.int a, .int b]), .dat (.lst (us.map .int ++ d :: vs)), .un, .un, .un].set 4 (.dat x))).bind boolD) (fun x => evE (.var 4) ([Slot.dat (.tup [.int a, .int b]), .dat (.lst (us.map .int ++ d :: vs)), .un, .un, .un].set 4 (.dat x))) (us.map .int ++ d :: vs) = .ex 1 :=
    pickX_bad (p := fun x => !nn a b x) (by simp only [setS, set0, evSs, evS, evT, evE, evEs, evSrc, getS0, getSs, set0, setS, R.bind_ok, R.bind_ex, bind_ite, withR_ok, withR_ex, withR_ite, thenO_nxt, thenO_ret, thenO_ex, thenO_ite, outR_nxt, outR_ret, outR_ex, outR_ite, bool_ok, int_ok, bin_add, bin_sub, bin_mul, bin_fdiv, bin_mod, bin_shl, bin_shr, bin_pow, bin_and, bin_or, bin_xor, cmp_eq, cmp_ne, cmp_lt, cmp_le, cmp_gt, cmp_ge, add_int, sub_int, and_int, or_int, xor_int, neg_int, len_lst, len_tup, abs_int, int_int, int_bl, max_int, min_int, bits_int, ix_tup0, ix_tup1, ix_tup2, List.map_cons, List.map_nil, List.replicate, List.cons_append, List.nil_append, List.append_nil, List.length_cons, List.length_nil, decide_eq_true_eq, Nat.reduceSub, Nat.reduceAdd, Int.reduceToNat, none_bad hd]) fun x h => ⟨by simp only [setS, set0, evSs, evS, evT, evE, evEs, evSrc, getS0, getSs, set0, setS, R.bind_ok, R.bind_ex, bind_ite, withR_ok, withR_ex, withR_ite, thenO_nxt, thenO_ret, thenO_ex, thenO_ite, outR_nxt, outR_ret, outR_ex, outR_ite, bool_ok, int_ok, bin_add, bin_sub, bin_mul, bin_fdiv, bin_mod, bin_shl, bin_shr, bin_pow, bin_and, bin_or, bin_xor, cmp_eq, cmp_ne, cmp_lt, cmp_le, cmp_gt, cmp_ge, add_int, sub_int, and_int, or_int, xor_int, neg_int, len_lst, len_tup, abs_int, int_int, int_bl, max_int, min_int, bits_int, ix_tup0, ix_tup1, ix_tup2, List.map_cons, List.map_nil, List.replicate, List.cons_append, List.nil_append, List.append_nil, List.length_cons, List.length_nil, decide_eq_true_eq, Nat.reduceSub, Nat.reduceAdd, Int.reduceToNat, hn x h], by simp only [setS, set0, evSs, evS, evT, evE, evEs, evSrc, getS0, getSs, set0, setS, R.bind_ok, R.bind_ex, bind_ite, withR_ok, withR_ex, withR_ite, thenO_nxt, thenO_ret, thenO_ex, thenO_ite, outR_nxt, outR_ret, outR_ex, outR_ite, bool_ok, int_ok, bin_add, bin_sub, bin_mul, bin_fdiv, bin_mod, bin_shl, bin_shr, bin_pow, bin_and, bin_or, bin_xor, cmp_eq, cmp_ne, cmp_lt, cmp_le, cmp_gt, cmp_ge, add_int, sub_int, and_int, or_int, xor_int, neg_int, len_lst, len_tup, abs_int, int_int, int_bl, max_int, min_int, bits_int, ix_tup0, ix_tup1, ix_tup2, List.map_cons, List.map_nil, List.replicate, List.cons_append, List.nil_append, List.append_nil, List.length_cons, List.length_nil, decide_eq_true_eq, Nat.reduceSub, Nat.reduceAdd, Int.reduceToNat]⟩
  simp only [F.in_order, F.b_in_order]
  rw [run_eq (by rfl)]
  simp only [List.map_cons, List.map_nil, List.replicate, List.cons_append, List.nil_append, Nat.reduceSub]
  rw [evSs, evS, lcXF_bad rfl p1 (of_decide_eq_true l1)]
  simp only [withR_ex, thenO_ex, outR_ex]
theorem refused_25_ok {W l : D} (h : F.in_order [W, l] = .ex 1) : G.refused_25 [W, l] = .ok (.bl true) := by
  simp only [G.refused_25, G.b_refused_25]
  rw [run_eq (by rfl)]
  simp only [evSs, evS, evT, evE, evEs, evSrc, getS0, getSs, set0, setS, R.bind_ok, R.bind_ex, bind_ite, withR_ok, withR_ex, withR_ite, thenO_nxt, thenO_ret, thenO_ex, thenO_ite, outR_nxt, outR_ret, outR_ex, outR_ite, bool_ok, int_ok, bin_add, bin_sub, bin_mul, bin_fdiv, bin_mod, bin_shl, bin_shr, bin_pow, bin_and, bin_or, bin_xor, cmp_eq, cmp_ne, cmp_lt, cmp_le, cmp_gt, cmp_ge, add_int, sub_int, and_int, or_int, xor_int, neg_int, len_lst, len_tup, abs_int, int_int, int_bl, max_int, min_int, bits_int, ix_tup0, ix_tup1, ix_tup2, List.map_cons, List.map_nil, List.replicate, List.cons_append, List.nil_append, List.append_nil, List.length_cons, List.length_nil, decide_eq_true_eq, Nat.reduceSub, Nat.reduceAdd, Int.reduceToNat, h, isI]
  rfl
theorem slc_25 {ns : List Int} : ∃ cs : List Int, slcD (.lst (ns.map .int)) (some 1) (some 291) = .ok (.lst (cs.map .int)) ∧ (∀ c ∈ cs, c ∈ ns) ∧ cs.length ≤ ns.length := by
  refine ⟨cutL ns (some 1) (some 291), ?_, fun c hc => List.mem_of_mem_drop (List.mem_of_mem_take hc), ?_⟩
  · show R.ok (D.lst (cutL (ns.map D.int) (some 1) (some 291))) = _
    unfold cutL
    rw [List.length_map, ← List.map_drop, ← List.map_take]
  · unfold cutL
    rw [List.length_take, List.length_drop]
    omega
theorem odd25 (w : Wd a b) {c : Int} : ∃ d, ixD (.lst [.int (2 ^ (1 + a + b)), .int (-1), .non, .bl true, .str [48]]) (.int (c % 5)) = .ok d ∧ F.asked_word [.tup [.int a, .int b], d] = .ex 1 := by
  obtain ⟨p, hp⟩ : ∃ p : Nat, c % 5 = p := ⟨(c % 5).toNat, by omega⟩
  have hp4 : p = 0 ∨ p = 1 ∨ p = 2 ∨ p = 3 ∨ p = 4 := by omega
  rw [hp]
  rcases hp4 with rfl | rfl | rfl | rfl | rfl
  · exact ⟨_, ix_lst (by simp), asked_bad_int w (.inr (Int.le_refl _))⟩
  · exact ⟨_, ix_lst (by simp), asked_bad_int w (.inl (by decide))⟩
  · exact ⟨_, ix_lst (by simp), rfl⟩
  · exact ⟨_, ix_lst (by simp), rfl⟩
  · exact ⟨_, ix_lst (by simp), rfl⟩
theorem flat_ints : ∀ xs : List Int, (xs.map D.int).all flat1 = true
  | [] => rfl
  | x :: xs => by rw [List.map_cons, List.all_cons, flat_ints xs]; rfl
theorem list_lst {xs : List D} : f1D .list (.lst xs) = .ok (.lst xs) := rfl
theorem rev_ints {xs : List Int} : f1D .rev (.lst (xs.map .int)) = .ok (.lst (xs.reverse.map .int)) := by
  show R.ok (D.lst (xs.map D.int).reverse) = _
  rw [List.map_reverse]
theorem cat_lst {xs ys : List D} (h : xs.length + ys.length ≤ 100000) : addD (.lst xs) (.lst ys) = .ok (.lst (xs ++ ys)) := if_pos (by unfold line; omega)
end
theorem K25.law_ok : ∀ ns : List Int, ns.length ≤ 63 → (∀ z ∈ ns, PySem.Builtin.Int.intBits z ≤ 1048576) → K25.law [.lst (ns.map .int)] = .ok (.bl true) := by
  intro ns hl hb
  have cell_b : ∀ {v : Int}, (v = 0 ∨ v ∈ ns) → bits v ≤ 4000000 := fun {v} hv => by
    rcases hv with rfl | hv
    · decide
    · exact Nat.le_trans (hb v hv) (by decide)
  obtain ⟨v, ev, hv⟩ := cell_at_ok (ns := ns) (k := 0) (by omega)
  obtain ⟨v1, ev1, hv1⟩ := cell_at_ok (ns := ns) (k := 1) (by omega)
  obtain ⟨v2, ev2, hv2⟩ := cell_at_ok (ns := ns) (k := 2) (by omega)
  obtain ⟨a, b, ew, w⟩ := wide_14_ok (cell_b hv)
  have h2 := w.a2; have h4 := w.b2
  obtain ⟨cs, ecs, hcs, hcl⟩ := slc_25 (ns := ns)
  obtain ⟨xs, exs, hx, hxl⟩ := words_25_ok w (cs := cs) (by omega) (fun c hc => Nat.le_trans (hb c (hcs c hc)) (by decide))
  have o1 := in_order_ok w hx (by omega)
  have r1 := right_25_ok w hx (by omega)
  have sM : shlD (.int 1) (.int ((1 + a + b : Nat) : Int)) = .ok (.int (2 ^ (1 + a + b))) := shl1 (by omega)
  have ol := (ord_perm (a := a) (b := b) xs).length_eq
  have l1 : ((ord a b xs).map D.int).length < line := by rw [List.length_map]; unfold line; omega
  simp only [K25.law, K25.b_law]
  rw [run_eq (by rfl)]
  simp only [List.map_cons, List.map_nil, List.replicate, List.cons_append, List.nil_append, Nat.reduceSub]
  refine seq (P := fun o => outR o = _) (by simp only [evSs, evS, evT, evE, evEs, evSrc, getS0, getSs, set0, setS, R.bind_ok, R.bind_ex, bind_ite, withR_ok, withR_ex, withR_ite, thenO_nxt, thenO_ret, thenO_ex, thenO_ite, outR_nxt, outR_ret, outR_ex, outR_ite, bool_ok, int_ok, bin_add, bin_sub, bin_mul, bin_fdiv, bin_mod, bin_shl, bin_shr, bin_pow, bin_and, bin_or, bin_xor, cmp_eq, cmp_ne, cmp_lt, cmp_le, cmp_gt, cmp_ge, add_int, sub_int, and_int, or_int, xor_int, neg_int, len_lst, len_tup, abs_int, int_int, int_bl, max_int, min_int, bits_int, ix_tup0, ix_tup1, ix_tup2, List.map_cons, List.map_nil, List.replicate, List.cons_append, List.nil_append, List.append_nil, List.length_cons, List.length_nil, decide_eq_true_eq, Nat.reduceSub, Nat.reduceAdd, Int.reduceToNat, setAll, Int.toNat_natCast, Int.one_mul, ev, ew, decide_true, decide_false, Bool.not_true, Bool.not_false, Bool.false_eq_true, if_true, if_false]; rfl) ?_
  refine seq (P := fun o => outR o = _) (by simp only [evSs, evS, evT, evE, evEs, evSrc, getS0, getSs, set0, setS, R.bind_ok, R.bind_ex, bind_ite, withR_ok, withR_ex, withR_ite, thenO_nxt, thenO_ret, thenO_ex, thenO_ite, outR_nxt, outR_ret, outR_ex, outR_ite, bool_ok, int_ok, bin_add, bin_sub, bin_mul, bin_fdiv, bin_mod, bin_shl, bin_shr, bin_pow, bin_and, bin_or, bin_xor, cmp_eq, cmp_ne, cmp_lt, cmp_le, cmp_gt, cmp_ge, add_int, sub_int, and_int, or_int, xor_int, neg_int, len_lst, len_tup, abs_int, int_int, int_bl, max_int, min_int, bits_int, ix_tup0, ix_tup1, ix_tup2, List.map_cons, List.map_nil, List.replicate, List.cons_append, List.nil_append, List.append_nil, List.length_cons, List.length_nil, decide_eq_true_eq, Nat.reduceSub, Nat.reduceAdd, Int.reduceToNat, setAll, Int.toNat_natCast, Int.one_mul, ix_tup0, ix_tup1, width_ok w, decide_true, decide_false, Bool.not_true, Bool.not_false, Bool.false_eq_true, if_true, if_false]; rfl) ?_
  refine seq (P := fun o => outR o = _) (by simp only [evSs, evS, evT, evE, evEs, evSrc, getS0, getSs, set0, setS, R.bind_ok, R.bind_ex, bind_ite, withR_ok, withR_ex, withR_ite, thenO_nxt, thenO_ret, thenO_ex, thenO_ite, outR_nxt, outR_ret, outR_ex, outR_ite, bool_ok, int_ok, bin_add, bin_sub, bin_mul, bin_fdiv, bin_mod, bin_shl, bin_shr, bin_pow, bin_and, bin_or, bin_xor, cmp_eq, cmp_ne, cmp_lt, cmp_le, cmp_gt, cmp_ge, add_int, sub_int, and_int, or_int, xor_int, neg_int, len_lst, len_tup, abs_int, int_int, int_bl, max_int, min_int, bits_int, ix_tup0, ix_tup1, ix_tup2, List.map_cons, List.map_nil, List.replicate, List.cons_append, List.nil_append, List.append_nil, List.length_cons, List.length_nil, decide_eq_true_eq, Nat.reduceSub, Nat.reduceAdd, Int.reduceToNat, setAll, Int.toNat_natCast, Int.one_mul, ecs, exs, decide_true, decide_false, Bool.not_true, Bool.not_false, Bool.false_eq_true, if_true, if_false]; rfl) ?_
  refine seq (P := fun o => outR o = _) (by simp only [evSs, evS, evT, evE, evEs, evSrc, getS0, getSs, set0, setS, R.bind_ok, R.bind_ex, bind_ite, withR_ok, withR_ex, withR_ite, thenO_nxt, thenO_ret, thenO_ex, thenO_ite, outR_nxt, outR_ret, outR_ex, outR_ite, bool_ok, int_ok, bin_add, bin_sub, bin_mul, bin_fdiv, bin_mod, bin_shl, bin_shr, bin_pow, bin_and, bin_or, bin_xor, cmp_eq, cmp_ne, cmp_lt, cmp_le, cmp_gt, cmp_ge, add_int, sub_int, and_int, or_int, xor_int, neg_int, len_lst, len_tup, abs_int, int_int, int_bl, max_int, min_int, bits_int, ix_tup0, ix_tup1, ix_tup2, List.map_cons, List.map_nil, List.replicate, List.cons_append, List.nil_append, List.append_nil, List.length_cons, List.length_nil, decide_eq_true_eq, Nat.reduceSub, Nat.reduceAdd, Int.reduceToNat, setAll, Int.toNat_natCast, Int.one_mul, list_lst, decide_true, decide_false, Bool.not_true, Bool.not_false, Bool.false_eq_true, if_true, if_false]; rfl) ?_
  refine seqs (P := fun o => outR o = _) (i := 5) (sl := .own ((ord a b xs).map .int)) (by simp only [evSs, evS, evT, evE, evEs, evSrc, getS0, getSs, set0, setS, R.bind_ok, R.bind_ex, bind_ite, withR_ok, withR_ex, withR_ite, thenO_nxt, thenO_ret, thenO_ex, thenO_ite, outR_nxt, outR_ret, outR_ex, outR_ite, bool_ok, int_ok, bin_add, bin_sub, bin_mul, bin_fdiv, bin_mod, bin_shl, bin_shr, bin_pow, bin_and, bin_or, bin_xor, cmp_eq, cmp_ne, cmp_lt, cmp_le, cmp_gt, cmp_ge, add_int, sub_int, and_int, or_int, xor_int, neg_int, len_lst, len_tup, abs_int, int_int, int_bl, max_int, min_int, bits_int, ix_tup0, ix_tup1, ix_tup2, List.map_cons, List.map_nil, List.replicate, List.cons_append, List.nil_append, List.append_nil, List.length_cons, List.length_nil, decide_eq_true_eq, Nat.reduceSub, Nat.reduceAdd, Int.reduceToNat, o1, lstD, fresh, if_true]) ?_
  simp only [setS, set0]
  refine seq (P := fun o => outR o = _) (by
    rw [evS, evT, evE]
    simp only [List.getElem?_cons_succ, List.getElem?_cons_zero, flat_ints, if_true, setS, set0]
    simp only [evSs, evS, evT, evE, evEs, evSrc, getS0, getSs, set0, setS, R.bind_ok, R.bind_ex, bind_ite, withR_ok, withR_ex, withR_ite, thenO_nxt, thenO_ret, thenO_ex, thenO_ite, outR_nxt, outR_ret, outR_ex, outR_ite, bool_ok, int_ok, bin_add, bin_sub, bin_mul, bin_fdiv, bin_mod, bin_shl, bin_shr, bin_pow, bin_and, bin_or, bin_xor, cmp_eq, cmp_ne, cmp_lt, cmp_le, cmp_gt, cmp_ge, add_int, sub_int, and_int, or_int, xor_int, neg_int, len_lst, len_tup, abs_int, int_int, int_bl, max_int, min_int, bits_int, ix_tup0, ix_tup1, ix_tup2, List.map_cons, List.map_nil, List.replicate, List.cons_append, List.nil_append, List.append_nil, List.length_cons, List.length_nil, decide_eq_true_eq, Nat.reduceSub, Nat.reduceAdd, Int.reduceToNat, r1, ne_ints, not_true, decide_false, Bool.not_true, Bool.false_eq_true, if_false, hasL]
    rfl) ?_
  refine seqs (P := fun o => outR o = _) (i := 5) (sl := .own ((ord a b xs).map .int ++ [.int 0])) (by simp only [evSs, evS, evT, evE, evEs, evSrc, getS0, getSs, set0, setS, R.bind_ok, R.bind_ex, bind_ite, withR_ok, withR_ex, withR_ite, thenO_nxt, thenO_ret, thenO_ex, thenO_ite, outR_nxt, outR_ret, outR_ex, outR_ite, bool_ok, int_ok, bin_add, bin_sub, bin_mul, bin_fdiv, bin_mod, bin_shl, bin_shr, bin_pow, bin_and, bin_or, bin_xor, cmp_eq, cmp_ne, cmp_lt, cmp_le, cmp_gt, cmp_ge, add_int, sub_int, and_int, or_int, xor_int, neg_int, len_lst, len_tup, abs_int, int_int, int_bl, max_int, min_int, bits_int, ix_tup0, ix_tup1, ix_tup2, List.map_cons, List.map_nil, List.replicate, List.cons_append, List.nil_append, List.append_nil, List.length_cons, List.length_nil, decide_eq_true_eq, Nat.reduceSub, Nat.reduceAdd, Int.reduceToNat, List.getElem?_cons_succ, List.getElem?_cons_zero, l1, if_true]) ?_
  simp only [setS, set0]
  refine seqs (P := fun o => outR o = _) (i := 5) (sl := .dat (.lst ((ord a b xs ++ [0]).map .int))) (by
    rw [evS]
    simp only [List.getElem?_cons_succ, List.getElem?_cons_zero]
    rw [List.map_append]
    rfl) ?_
  simp only [setS, set0]
  refine seq (P := fun o => outR o = _) (by simp only [evSs, evS, evT, evE, evEs, evSrc, getS0, getSs, set0, setS, R.bind_ok, R.bind_ex, bind_ite, withR_ok, withR_ex, withR_ite, thenO_nxt, thenO_ret, thenO_ex, thenO_ite, outR_nxt, outR_ret, outR_ex, outR_ite, bool_ok, int_ok, bin_add, bin_sub, bin_mul, bin_fdiv, bin_mod, bin_shl, bin_shr, bin_pow, bin_and, bin_or, bin_xor, cmp_eq, cmp_ne, cmp_lt, cmp_le, cmp_gt, cmp_ge, add_int, sub_int, and_int, or_int, xor_int, neg_int, len_lst, len_tup, abs_int, int_int, int_bl, max_int, min_int, bits_int, ix_tup0, ix_tup1, ix_tup2, List.map_cons, List.map_nil, List.replicate, List.cons_append, List.nil_append, List.append_nil, List.length_cons, List.length_nil, decide_eq_true_eq, Nat.reduceSub, Nat.reduceAdd, Int.reduceToNat, setAll, Int.toNat_natCast, Int.one_mul, list_lst, decide_true, decide_false, Bool.not_true, Bool.not_false, Bool.false_eq_true, if_true, if_false]; rfl) ?_
  -- the place
  obtain ⟨m, hm, hml⟩ : ∃ m : Nat, v1 / 7 % ((xs.length : Int) + 1) = m ∧ m ≤ xs.length := by
    have q0 := Int.emod_nonneg (v1 / 7) (show (xs.length : Int) + 1 ≠ 0 by omega)
    have q1 := Int.emod_lt_of_pos (v1 / 7) (show (0 : Int) < (xs.length : Int) + 1 by omega)
    exact ⟨(v1 / 7 % ((xs.length : Int) + 1)).toNat, by omega, by omega⟩
  have f7 : fdivD (.int v1) (.int 7) = .ok (.int (v1 / 7)) := fdiv_ok (by decide) (by decide)
  have m7 : modD (.int (v1 / 7)) (.int ((xs.length : Int) + 1)) = .ok (.int m) := by rw [mod_ok (by omega), hm]
  refine seqs (P := fun o => outR o = _) (i := 7) (sl := .dat (.int m)) (by simp only [evSs, evS, evT, evE, evEs, evSrc, getS0, getSs, set0, setS, R.bind_ok, R.bind_ex, bind_ite, withR_ok, withR_ex, withR_ite, thenO_nxt, thenO_ret, thenO_ex, thenO_ite, outR_nxt, outR_ret, outR_ex, outR_ite, bool_ok, int_ok, bin_add, bin_sub, bin_mul, bin_fdiv, bin_mod, bin_shl, bin_shr, bin_pow, bin_and, bin_or, bin_xor, cmp_eq, cmp_ne, cmp_lt, cmp_le, cmp_gt, cmp_ge, add_int, sub_int, and_int, or_int, xor_int, neg_int, len_lst, len_tup, abs_int, int_int, int_bl, max_int, min_int, bits_int, ix_tup0, ix_tup1, ix_tup2, List.map_cons, List.map_nil, List.replicate, List.cons_append, List.nil_append, List.append_nil, List.length_cons, List.length_nil, decide_eq_true_eq, Nat.reduceSub, Nat.reduceAdd, Int.reduceToNat, ev1, f7, List.length_map, m7]) ?_
  simp only [setS, set0]
  obtain ⟨d, ed, hd⟩ := odd25 w (c := v2)
  have m5 : modD (.int v2) (.int 5) = .ok (.int (v2 % 5)) := mod_ok (by decide)
  refine seqs (P := fun o => outR o = _) (i := 8) (sl := .dat d) (by simp only [evSs, evS, evT, evE, evEs, evSrc, getS0, getSs, set0, setS, R.bind_ok, R.bind_ex, bind_ite, withR_ok, withR_ex, withR_ite, thenO_nxt, thenO_ret, thenO_ex, thenO_ite, outR_nxt, outR_ret, outR_ex, outR_ite, bool_ok, int_ok, bin_add, bin_sub, bin_mul, bin_fdiv, bin_mod, bin_shl, bin_shr, bin_pow, bin_and, bin_or, bin_xor, cmp_eq, cmp_ne, cmp_lt, cmp_le, cmp_gt, cmp_ge, add_int, sub_int, and_int, or_int, xor_int, neg_int, len_lst, len_tup, abs_int, int_int, int_bl, max_int, min_int, bits_int, ix_tup0, ix_tup1, ix_tup2, List.map_cons, List.map_nil, List.replicate, List.cons_append, List.nil_append, List.append_nil, List.length_cons, List.length_nil, decide_eq_true_eq, Nat.reduceSub, Nat.reduceAdd, Int.reduceToNat, ev2, Wd.c1, sM, m5, ed]) ?_
  simp only [setS, set0]
  have sp : xs = xs.take m ++ xs.drop m := (List.take_append_drop m xs).symm
  have tl : (xs.take m).length = m := by rw [List.length_take]; omega
  have dl : (xs.drop m).length ≤ 63 := by rw [List.length_drop]; omega
  have sH : slcD (.lst (xs.map .int)) none (some (m : Int)) = .ok (.lst ((xs.take m).map .int)) := by
    conv => lhs; rw [sp]
    exact slcH_ints tl
  have sL : slcD (.lst (xs.map .int)) (some (m : Int)) none = .ok (.lst ((xs.drop m).map .int)) := by
    conv => lhs; rw [sp]
    exact slcL_ints tl
  have hT : Wds a b (xs.take m) := fun x h => hx x (List.mem_of_mem_take h)
  have hD : Wds a b (xs.drop m) := fun x h => hx x (List.mem_of_mem_drop h)
  have bad := refused_25_ok (in_order_bad w hT (d := d) (vs := (xs.drop m).map .int) (by rw [List.length_map]; omega) hd)
  have c1 : addD (.lst ((xs.take m).map .int)) (.lst [d]) = .ok (.lst ((xs.take m).map .int ++ [d])) := cat_lst (by rw [List.length_map]; simp; omega)
  have c2 : addD (.lst ((xs.take m).map .int ++ [d])) (.lst ((xs.drop m).map .int)) = .ok (.lst ((xs.take m).map .int ++ d :: (xs.drop m).map .int)) := by
    rw [cat_lst (by rw [List.length_append, List.length_map, List.length_map]; simp; omega), List.append_assoc]
    rfl
  refine seq (P := fun o => outR o = _) (by simp only [evSs, evS, evT, evE, evEs, evSrc, getS0, getSs, set0, setS, R.bind_ok, R.bind_ex, bind_ite, withR_ok, withR_ex, withR_ite, thenO_nxt, thenO_ret, thenO_ex, thenO_ite, outR_nxt, outR_ret, outR_ex, outR_ite, bool_ok, int_ok, bin_add, bin_sub, bin_mul, bin_fdiv, bin_mod, bin_shl, bin_shr, bin_pow, bin_and, bin_or, bin_xor, cmp_eq, cmp_ne, cmp_lt, cmp_le, cmp_gt, cmp_ge, add_int, sub_int, and_int, or_int, xor_int, neg_int, len_lst, len_tup, abs_int, int_int, int_bl, max_int, min_int, bits_int, ix_tup0, ix_tup1, ix_tup2, List.map_cons, List.map_nil, List.replicate, List.cons_append, List.nil_append, List.append_nil, List.length_cons, List.length_nil, decide_eq_true_eq, Nat.reduceSub, Nat.reduceAdd, Int.reduceToNat, sH, c1, sL, c2, bad, Bool.not_true, Bool.false_eq_true, if_false]; rfl) ?_
  refine seq (P := fun o => outR o = _) (by simp only [evSs, evS, evT, evE, evEs, evSrc, getS0, getSs, set0, setS, R.bind_ok, R.bind_ex, bind_ite, withR_ok, withR_ex, withR_ite, thenO_nxt, thenO_ret, thenO_ex, thenO_ite, outR_nxt, outR_ret, outR_ex, outR_ite, bool_ok, int_ok, bin_add, bin_sub, bin_mul, bin_fdiv, bin_mod, bin_shl, bin_shr, bin_pow, bin_and, bin_or, bin_xor, cmp_eq, cmp_ne, cmp_lt, cmp_le, cmp_gt, cmp_ge, add_int, sub_int, and_int, or_int, xor_int, neg_int, len_lst, len_tup, abs_int, int_int, int_bl, max_int, min_int, bits_int, ix_tup0, ix_tup1, ix_tup2, List.map_cons, List.map_nil, List.replicate, List.cons_append, List.nil_append, List.append_nil, List.length_cons, List.length_nil, decide_eq_true_eq, Nat.reduceSub, Nat.reduceAdd, Int.reduceToNat, o1, r1, ne_ints, not_true, decide_false, Bool.not_true, Bool.false_eq_true, if_false]; rfl) ?_
  have c3 : addD (.lst ((xs.drop m).map .int)) (.lst ((xs.take m).reverse.map .int)) = .ok (.lst ((xs.drop m ++ (xs.take m).reverse).map .int)) := by
    rw [cat_lst (by rw [List.length_map, List.length_map, List.length_reverse]; omega), List.map_append]
  have hA : Wds a b (xs.drop m ++ (xs.take m).reverse) := fun x h => by
    rcases List.mem_append.mp h with h | h
    · exact hD x h
    · exact hT x (List.mem_reverse.mp h)
  have lA : (xs.drop m ++ (xs.take m).reverse).length ≤ 100 := by rw [List.length_append, List.length_reverse, tl, List.length_drop]; omega
  have o2 := in_order_ok w hA lA
  have r2 := right_25_ok w hA lA
  refine seq (P := fun o => outR o = _) (by simp only [evSs, evS, evT, evE, evEs, evSrc, getS0, getSs, set0, setS, R.bind_ok, R.bind_ex, bind_ite, withR_ok, withR_ex, withR_ite, thenO_nxt, thenO_ret, thenO_ex, thenO_ite, outR_nxt, outR_ret, outR_ex, outR_ite, bool_ok, int_ok, bin_add, bin_sub, bin_mul, bin_fdiv, bin_mod, bin_shl, bin_shr, bin_pow, bin_and, bin_or, bin_xor, cmp_eq, cmp_ne, cmp_lt, cmp_le, cmp_gt, cmp_ge, add_int, sub_int, and_int, or_int, xor_int, neg_int, len_lst, len_tup, abs_int, int_int, int_bl, max_int, min_int, bits_int, ix_tup0, ix_tup1, ix_tup2, List.map_cons, List.map_nil, List.replicate, List.cons_append, List.nil_append, List.append_nil, List.length_cons, List.length_nil, decide_eq_true_eq, Nat.reduceSub, Nat.reduceAdd, Int.reduceToNat, sL, sH, rev_ints, c3]; rfl) ?_
  refine seq (P := fun o => outR o = _) (by simp only [evSs, evS, evT, evE, evEs, evSrc, getS0, getSs, set0, setS, R.bind_ok, R.bind_ex, bind_ite, withR_ok, withR_ex, withR_ite, thenO_nxt, thenO_ret, thenO_ex, thenO_ite, outR_nxt, outR_ret, outR_ex, outR_ite, bool_ok, int_ok, bin_add, bin_sub, bin_mul, bin_fdiv, bin_mod, bin_shl, bin_shr, bin_pow, bin_and, bin_or, bin_xor, cmp_eq, cmp_ne, cmp_lt, cmp_le, cmp_gt, cmp_ge, add_int, sub_int, and_int, or_int, xor_int, neg_int, len_lst, len_tup, abs_int, int_int, int_bl, max_int, min_int, bits_int, ix_tup0, ix_tup1, ix_tup2, List.map_cons, List.map_nil, List.replicate, List.cons_append, List.nil_append, List.append_nil, List.length_cons, List.length_nil, decide_eq_true_eq, Nat.reduceSub, Nat.reduceAdd, Int.reduceToNat, list_lst, o2, r2, Bool.not_true, Bool.false_eq_true, if_false]; rfl) ?_
  exact seq_ret (P := fun o => outR o = _) (by simp only [evSs, evS, evT, evE, evEs, evSrc, getS0, getSs, set0, setS, R.bind_ok, R.bind_ex, bind_ite, withR_ok, withR_ex, withR_ite, thenO_nxt, thenO_ret, thenO_ex, thenO_ite, outR_nxt, outR_ret, outR_ex, outR_ite, bool_ok, int_ok, bin_add, bin_sub, bin_mul, bin_fdiv, bin_mod, bin_shl, bin_shr, bin_pow, bin_and, bin_or, bin_xor, cmp_eq, cmp_ne, cmp_lt, cmp_le, cmp_gt, cmp_ge, add_int, sub_int, and_int, or_int, xor_int, neg_int, len_lst, len_tup, abs_int, int_int, int_bl, max_int, min_int, bits_int, ix_tup0, ix_tup1, ix_tup2, List.map_cons, List.map_nil, List.replicate, List.cons_append, List.nil_append, List.append_nil, List.length_cons, List.length_nil, decide_eq_true_eq, Nat.reduceSub, Nat.reduceAdd, Int.reduceToNat, eq_ints, decide_true]; try rfl) rfl
end MP

namespace MP.LK25
open PySem L2
open PyProof.Rows hiding St
def top (i : Nat) : Stmt := PySem.Challenge.pw_floatforge_k25_whole_in_order.main.body.getD i (.Pass ⟨0, 0, 0, 0⟩)
abbrev s_law_wide : Stmt := top 27
theorem sc_law_wide : FnScope ["_law_cell", "_law_mixed"] ["_law_cell"] (defScope s_law_wide) := ⟨rfl, rfl, rfl, by decide +kernel, rfl, by decide +kernel, by decide +kernel⟩
theorem ck_law_wide : chkSs ["_law_cell", "_law_mixed"] (defScope s_law_wide) G.b_wide_14 (defBody s_law_wide) = true := by decide +kernel
abbrev s_law_cell_at : Stmt := top 25
theorem sc_law_cell_at : FnScope ["_law_script", "_law_k"] ["_law_script", "_law_k"] (defScope s_law_cell_at) := ⟨rfl, rfl, rfl, by decide +kernel, rfl, by decide +kernel, by decide +kernel⟩
theorem ck_law_cell_at : chkSs ["_law_script", "_law_k"] (defScope s_law_cell_at) G.b_cell_at_01 (defBody s_law_cell_at) = true := by decide +kernel
abbrev s_is_whole : Stmt := top 6
theorem sc_is_whole : FnScope ["thing"] ["thing"] (defScope s_is_whole) := ⟨rfl, rfl, rfl, by decide +kernel, rfl, by decide +kernel, by decide +kernel⟩
theorem ck_is_whole : chkSs ["thing"] (defScope s_is_whole) F.b_is_whole (defBody s_is_whole) = true := by decide +kernel
abbrev s_width_of : Stmt := top 7
theorem sc_width_of : FnScope ["e", "f"] ["e", "f"] (defScope s_width_of) := ⟨rfl, rfl, rfl, by decide +kernel, rfl, by decide +kernel, by decide +kernel⟩
theorem ck_width_of : chkSs ["e", "f"] (defScope s_width_of) F.b_width_of (defBody s_width_of) = true := by decide +kernel
abbrev s_law_word : Stmt := top 28
theorem sc_law_word : FnScope ["_law_wide_here", "_law_cell", "_law_half", "_law_mixed", "_law_last", "_law_some", "_law_pick"] ["_law_wide_here", "_law_cell"] (defScope s_law_word) := ⟨rfl, rfl, rfl, by decide +kernel, rfl, by decide +kernel, by decide +kernel⟩
theorem ck_law_word : chkSs ["_law_wide_here", "_law_cell", "_law_half", "_law_mixed", "_law_last", "_law_some", "_law_pick"] (defScope s_law_word) G.b_word_22 (defBody s_law_word) = true := by decide +kernel
abbrev s_law_words : Stmt := top 29
theorem sc_law_words : FnScope ["_law_wide_here", "_law_cells", "_law_half", "_law_some", "_law_cell", "_law_word_here"] ["_law_wide_here", "_law_cells"] (defScope s_law_words) := ⟨rfl, rfl, rfl, by decide +kernel, rfl, by decide +kernel, by decide +kernel⟩
theorem ck_law_words : chkSs ["_law_wide_here", "_law_cells", "_law_half", "_law_some", "_law_cell", "_law_word_here"] (defScope s_law_words) G.b_words_25 (defBody s_law_words) = true := by decide +kernel
abbrev s_many_words : Stmt := top 8
theorem sc_many_words : FnScope ["width"] ["width"] (defScope s_many_words) := ⟨rfl, rfl, rfl, by decide +kernel, rfl, by decide +kernel, by decide +kernel⟩
theorem ck_many_words : chkSs ["width"] (defScope s_many_words) F.b_many_words (defBody s_many_words) = true := by decide +kernel
abbrev s_asked_word : Stmt := top 10
theorem sc_asked_word : FnScope ["width", "word"] ["width", "word"] (defScope s_asked_word) := ⟨rfl, rfl, rfl, by decide +kernel, rfl, by decide +kernel, by decide +kernel⟩
theorem ck_asked_word : chkSs ["width", "word"] (defScope s_asked_word) F.b_asked_word (defBody s_asked_word) = true := by decide +kernel
abbrev s_last_exponent : Stmt := top 12
theorem sc_last_exponent : FnScope ["width"] ["width"] (defScope s_last_exponent) := ⟨rfl, rfl, rfl, by decide +kernel, rfl, by decide +kernel, by decide +kernel⟩
theorem ck_last_exponent : chkSs ["width"] (defScope s_last_exponent) F.b_last_exponent (defBody s_last_exponent) = true := by decide +kernel
abbrev s_cut : Stmt := top 13
theorem sc_cut : FnScope ["width", "word", "sign", "exponent"] ["width", "word"] (defScope s_cut) := ⟨rfl, rfl, rfl, by decide +kernel, rfl, by decide +kernel, by decide +kernel⟩
theorem ck_cut : chkSs ["width", "word", "sign", "exponent"] (defScope s_cut) F.b_cut (defBody s_cut) = true := by decide +kernel
abbrev s_kind_of : Stmt := top 16
theorem sc_kind_of : FnScope ["width", "word", "sign", "exponent", "fraction"] ["width", "word"] (defScope s_kind_of) := ⟨rfl, rfl, rfl, by decide +kernel, rfl, by decide +kernel, by decide +kernel⟩
theorem ck_kind_of : chkSs ["width", "word", "sign", "exponent", "fraction"] (defScope s_kind_of) F.b_kind_of (defBody s_kind_of) = true := by decide +kernel
abbrev s_is_none : Stmt := top 21
theorem sc_is_none : FnScope ["width", "word"] ["width", "word"] (defScope s_is_none) := ⟨rfl, rfl, rfl, by decide +kernel, rfl, by decide +kernel, by decide +kernel⟩
theorem ck_is_none : chkSs ["width", "word"] (defScope s_is_none) F.b_is_none (defBody s_is_none) = true := by decide +kernel
abbrev s_sign_bit : Stmt := top 11
theorem sc_sign_bit : FnScope ["width"] ["width"] (defScope s_sign_bit) := ⟨rfl, rfl, rfl, by decide +kernel, rfl, by decide +kernel, by decide +kernel⟩
theorem ck_sign_bit : chkSs ["width"] (defScope s_sign_bit) F.b_sign_bit (defBody s_sign_bit) = true := by decide +kernel
abbrev s_unsigned : Stmt := top 18
theorem sc_unsigned : FnScope ["width", "word"] ["width", "word"] (defScope s_unsigned) := ⟨rfl, rfl, rfl, by decide +kernel, rfl, by decide +kernel, by decide +kernel⟩
theorem ck_unsigned : chkSs ["width", "word"] (defScope s_unsigned) F.b_unsigned (defBody s_unsigned) = true := by decide +kernel
abbrev s_is_part : Stmt := top 14
theorem sc_is_part : FnScope ["part", "many"] ["part", "many"] (defScope s_is_part) := ⟨rfl, rfl, rfl, by decide +kernel, rfl, by decide +kernel, by decide +kernel⟩
theorem ck_is_part : chkSs ["part", "many"] (defScope s_is_part) F.b_is_part (defBody s_is_part) = true := by decide +kernel
abbrev s_joined : Stmt := top 15
theorem sc_joined : FnScope ["width", "sign", "exponent", "fraction"] ["width", "sign", "exponent", "fraction"] (defScope s_joined) := ⟨rfl, rfl, rfl, by decide +kernel, rfl, by decide +kernel, by decide +kernel⟩
theorem ck_joined : chkSs ["width", "sign", "exponent", "fraction"] (defScope s_joined) F.b_joined (defBody s_joined) = true := by decide +kernel
abbrev s_endless_of : Stmt := top 17
theorem sc_endless_of : FnScope ["width", "below"] ["width", "below"] (defScope s_endless_of) := ⟨rfl, rfl, rfl, by decide +kernel, rfl, by decide +kernel, by decide +kernel⟩
theorem ck_endless_of : chkSs ["width", "below"] (defScope s_endless_of) F.b_endless_of (defBody s_endless_of) = true := by decide +kernel
abbrev s_rank_of : Stmt := top 20
theorem sc_rank_of : FnScope ["width", "word", "size"] ["width", "word"] (defScope s_rank_of) := ⟨rfl, rfl, rfl, by decide +kernel, rfl, by decide +kernel, by decide +kernel⟩
theorem ck_rank_of : chkSs ["width", "word", "size"] (defScope s_rank_of) F.b_rank_of (defBody s_rank_of) = true := by decide +kernel
abbrev s_place_key : Stmt := top 22
theorem sc_place_key : FnScope ["width", "word"] ["width", "word"] (defScope s_place_key) := ⟨rfl, rfl, rfl, by decide +kernel, rfl, by decide +kernel, by decide +kernel⟩
theorem ck_place_key : chkSs ["width", "word"] (defScope s_place_key) F.b_place_key (defBody s_place_key) = true := by decide +kernel
abbrev s_in_order : Stmt := top 23
theorem sc_in_order : FnScope ["width", "words", "numbers", "nones", "word"] ["width", "words"] (defScope s_in_order) := ⟨rfl, rfl, rfl, by decide +kernel, rfl, by decide +kernel, by decide +kernel⟩
theorem ck_in_order : chkSs ["width", "words", "numbers", "nones", "word"] (defScope s_in_order) F.b_in_order (defBody s_in_order) = true := by decide +kernel
abbrev s_law_whole : Stmt := top 26
theorem sc_law_whole : FnScope ["_law_found"] ["_law_found"] (defScope s_law_whole) := ⟨rfl, rfl, rfl, by decide +kernel, rfl, by decide +kernel, by decide +kernel⟩
theorem ck_law_whole : chkSs ["_law_found"] (defScope s_law_whole) G.b_whole_01 (defBody s_law_whole) = true := by decide +kernel
abbrev s_law_key : Stmt := top 30
theorem sc_law_key : FnScope ["_law_wide_here", "_law_word_here", "_law_half", "_law_size"] ["_law_wide_here", "_law_word_here"] (defScope s_law_key) := ⟨rfl, rfl, rfl, by decide +kernel, rfl, by decide +kernel, by decide +kernel⟩
theorem ck_law_key : chkSs ["_law_wide_here", "_law_word_here", "_law_half", "_law_size"] (defScope s_law_key) G.b_key_25 (defBody s_law_key) = true := by decide +kernel
abbrev s_law_right : Stmt := top 31
theorem sc_law_right : FnScope ["_law_wide_here", "_law_found", "_law_words_here", "_law_word_here", "_law_half", "_law_last", "_law_nones", "_law_many", "_law_keys"] ["_law_wide_here", "_law_found", "_law_words_here"] (defScope s_law_right) := ⟨rfl, rfl, rfl, by decide +kernel, rfl, by decide +kernel, by decide +kernel⟩
theorem ck_law_right : chkSs ["_law_wide_here", "_law_found", "_law_words_here", "_law_word_here", "_law_half", "_law_last", "_law_nones", "_law_many", "_law_keys"] (defScope s_law_right) G.b_right_25 (defBody s_law_right) = true := by decide +kernel
abbrev s_law_refused : Stmt := top 32
theorem sc_law_refused : FnScope ["_law_width", "_law_words_here", "_law_found", "error"] ["_law_width", "_law_words_here"] (defScope s_law_refused) := ⟨rfl, rfl, rfl, by decide +kernel, rfl, by decide +kernel, by decide +kernel⟩
theorem ck_law_refused : chkSs ["_law_width", "_law_words_here", "_law_found", "error"] (defScope s_law_refused) G.b_refused_25 (defBody s_law_refused) = true := by decide +kernel
abbrev s_law : Stmt := top 33
theorem sc_law : FnScope ["_law_script", "_law_wide_here", "_law_width", "_law_words_here", "_law_handed", "_law_first", "_law_held", "_law_at", "_law_odd", "_law_about"] ["_law_script"] (defScope s_law) := ⟨rfl, rfl, rfl, by decide +kernel, rfl, by decide +kernel, by decide +kernel⟩
theorem ck_law : chkSs ["_law_script", "_law_wide_here", "_law_width", "_law_words_here", "_law_handed", "_law_first", "_law_held", "_law_at", "_law_odd", "_law_about"] (defScope s_law) K25.b_law (defBody s_law) = true := by decide +kernel
def tab (K : PySem.W.Frag) (e0 e1 e3 ef Pt : Addr) : Tab := ⟨K, fun c => match c with | 0 => e0 | 1 => e1 | 3 => e3 | _ => 0, fun c => match c with  | _ => 0, [0, 1, 3], [], ef, [Pt]⟩
theorem all_mk {w : World} {K : PySem.W.Frag} {h : Heap} {mg : Str → Option Value} {fa f1 f2 f3 f4 f5 f6 f7 f8 f9 f10 f11 f12 f13 f14 f15 f16 f17 f18 f19 f20 f21 f22 f23 f24 f25 e0 e1 e3 ef cc Pt : Addr} (X : K.In h) (hG : h.Ns mainGlobals mg) (hfa : mg "law" = some (.ref fa))
    {od1 an1 od2 an2 od3 an3 od4 an4 od5 an5 od6 an6 od7 an7 od8 an8 od9 an9 od10 an10 od11 an11 od12 an12 od13 an13 od14 an14 od15 an15 od16 an16 od17 an17 od18 an18 od19 an19 od20 an20 od21 an21 od22 an22 od23 an23 od24 an24 od25 an25 : Option Addr} {sl1 sl2 sl3 sl4 sl5 sl6 sl7 sl8 sl9 sl10 sl11 sl12 sl13 sl14 sl15 sl16 sl17 sl18 sl19 sl20 sl21 sl22 sl23 sl24 sl25 : Array (Option Value)} {oc1 kV1 dc1 pm1 cd1 ct1 oc2 kV2 dc2 pm2 cd2 ct2 oc3 kV3 dc3 pm3 cd3 ct3 oc4 kV4 dc4 pm4 cd4 ct4 oc5 kV5 dc5 pm5 cd5 ct5 oc6 kV6 dc6 pm6 cd6 ct6 oc7 kV7 dc7 pm7 cd7 ct7 oc8 kV8 dc8 pm8 cd8 ct8 oc9 kV9 dc9 pm9 cd9 ct9 oc10 kV10 dc10 pm10 cd10 ct10 oc11 kV11 dc11 pm11 cd11 ct11 oc12 kV12 dc12 pm12 cd12 ct12 oc13 kV13 dc13 pm13 cd13 ct13 oc14 kV14 dc14 pm14 cd14 ct14 oc15 kV15 dc15 pm15 cd15 ct15 oc16 kV16 dc16 pm16 cd16 ct16 oc17 kV17 dc17 pm17 cd17 ct17 oc18 kV18 dc18 pm18 cd18 ct18 oc19 kV19 dc19 pm19 cd19 ct19 oc20 kV20 dc20 pm20 ct20 oc21 kV21 dc21 pm21 cd21 ct21 oc22 kV22 dc22 pm22 cd22 ct22 oc23 kV23 dc23 pm23 cd23 ct23 oc24 kV24 dc24 pm24 cd24 ct24 oc25 kV25 dc25 pm25 cd25 ct25 : Value}
    (a1 : PySem.W.nsIn K mainGlobals "_law_wide" = some (some (.ref f1))) (l1 : K.lookup f1 = some ⟨oc1, od1, .func (PySem.W.fnOf "_law_wide" "_law_wide" (defArgs s_law_wide) (defBody s_law_wide) (defScope s_law_wide) .none kV1 dc1 pm1 an1 cd1 ct1), sl1⟩) (c1 : PySem.W.codeIn K cd1 "_law_wide" = true) (k1 : PySem.W.keepIn K (.ref f1) = true)
    (a2 : PySem.W.nsIn K mainGlobals "_law_cell_at" = some (some (.ref f2))) (l2 : K.lookup f2 = some ⟨oc2, od2, .func (PySem.W.fnOf "_law_cell_at" "_law_cell_at" (defArgs s_law_cell_at) (defBody s_law_cell_at) (defScope s_law_cell_at) .none kV2 dc2 pm2 an2 cd2 ct2), sl2⟩) (c2 : PySem.W.codeIn K cd2 "_law_cell_at" = true) (k2 : PySem.W.keepIn K (.ref f2) = true)
    (a3 : PySem.W.nsIn K mainGlobals "is_whole" = some (some (.ref f3))) (l3 : K.lookup f3 = some ⟨oc3, od3, .func (PySem.W.fnOf "is_whole" "is_whole" (defArgs s_is_whole) (defBody s_is_whole) (defScope s_is_whole) .none kV3 dc3 pm3 an3 cd3 ct3), sl3⟩) (c3 : PySem.W.codeIn K cd3 "is_whole" = true) (k3 : PySem.W.keepIn K (.ref f3) = true)
    (a4 : PySem.W.nsIn K mainGlobals "width_of" = some (some (.ref f4))) (l4 : K.lookup f4 = some ⟨oc4, od4, .func (PySem.W.fnOf "width_of" "width_of" (defArgs s_width_of) (defBody s_width_of) (defScope s_width_of) .none kV4 dc4 pm4 an4 cd4 ct4), sl4⟩) (c4 : PySem.W.codeIn K cd4 "width_of" = true) (k4 : PySem.W.keepIn K (.ref f4) = true)
    (a5 : PySem.W.nsIn K mainGlobals "_law_word" = some (some (.ref f5))) (l5 : K.lookup f5 = some ⟨oc5, od5, .func (PySem.W.fnOf "_law_word" "_law_word" (defArgs s_law_word) (defBody s_law_word) (defScope s_law_word) .none kV5 dc5 pm5 an5 cd5 ct5), sl5⟩) (c5 : PySem.W.codeIn K cd5 "_law_word" = true) (k5 : PySem.W.keepIn K (.ref f5) = true)
    (a6 : PySem.W.nsIn K mainGlobals "_law_words" = some (some (.ref f6))) (l6 : K.lookup f6 = some ⟨oc6, od6, .func (PySem.W.fnOf "_law_words" "_law_words" (defArgs s_law_words) (defBody s_law_words) (defScope s_law_words) .none kV6 dc6 pm6 an6 cd6 ct6), sl6⟩) (c6 : PySem.W.codeIn K cd6 "_law_words" = true) (k6 : PySem.W.keepIn K (.ref f6) = true)
    (a7 : PySem.W.nsIn K mainGlobals "many_words" = some (some (.ref f7))) (l7 : K.lookup f7 = some ⟨oc7, od7, .func (PySem.W.fnOf "many_words" "many_words" (defArgs s_many_words) (defBody s_many_words) (defScope s_many_words) .none kV7 dc7 pm7 an7 cd7 ct7), sl7⟩) (c7 : PySem.W.codeIn K cd7 "many_words" = true) (k7 : PySem.W.keepIn K (.ref f7) = true)
    (a8 : PySem.W.nsIn K mainGlobals "asked_word" = some (some (.ref f8))) (l8 : K.lookup f8 = some ⟨oc8, od8, .func (PySem.W.fnOf "asked_word" "asked_word" (defArgs s_asked_word) (defBody s_asked_word) (defScope s_asked_word) .none kV8 dc8 pm8 an8 cd8 ct8), sl8⟩) (c8 : PySem.W.codeIn K cd8 "asked_word" = true) (k8 : PySem.W.keepIn K (.ref f8) = true)
    (a9 : PySem.W.nsIn K mainGlobals "last_exponent" = some (some (.ref f9))) (l9 : K.lookup f9 = some ⟨oc9, od9, .func (PySem.W.fnOf "last_exponent" "last_exponent" (defArgs s_last_exponent) (defBody s_last_exponent) (defScope s_last_exponent) .none kV9 dc9 pm9 an9 cd9 ct9), sl9⟩) (c9 : PySem.W.codeIn K cd9 "last_exponent" = true) (k9 : PySem.W.keepIn K (.ref f9) = true)
    (a10 : PySem.W.nsIn K mainGlobals "cut" = some (some (.ref f10))) (l10 : K.lookup f10 = some ⟨oc10, od10, .func (PySem.W.fnOf "cut" "cut" (defArgs s_cut) (defBody s_cut) (defScope s_cut) .none kV10 dc10 pm10 an10 cd10 ct10), sl10⟩) (c10 : PySem.W.codeIn K cd10 "cut" = true) (k10 : PySem.W.keepIn K (.ref f10) = true)
    (a11 : PySem.W.nsIn K mainGlobals "kind_of" = some (some (.ref f11))) (l11 : K.lookup f11 = some ⟨oc11, od11, .func (PySem.W.fnOf "kind_of" "kind_of" (defArgs s_kind_of) (defBody s_kind_of) (defScope s_kind_of) .none kV11 dc11 pm11 an11 cd11 ct11), sl11⟩) (c11 : PySem.W.codeIn K cd11 "kind_of" = true) (k11 : PySem.W.keepIn K (.ref f11) = true)
    (a12 : PySem.W.nsIn K mainGlobals "is_none" = some (some (.ref f12))) (l12 : K.lookup f12 = some ⟨oc12, od12, .func (PySem.W.fnOf "is_none" "is_none" (defArgs s_is_none) (defBody s_is_none) (defScope s_is_none) .none kV12 dc12 pm12 an12 cd12 ct12), sl12⟩) (c12 : PySem.W.codeIn K cd12 "is_none" = true) (k12 : PySem.W.keepIn K (.ref f12) = true)
    (a13 : PySem.W.nsIn K mainGlobals "sign_bit" = some (some (.ref f13))) (l13 : K.lookup f13 = some ⟨oc13, od13, .func (PySem.W.fnOf "sign_bit" "sign_bit" (defArgs s_sign_bit) (defBody s_sign_bit) (defScope s_sign_bit) .none kV13 dc13 pm13 an13 cd13 ct13), sl13⟩) (c13 : PySem.W.codeIn K cd13 "sign_bit" = true) (k13 : PySem.W.keepIn K (.ref f13) = true)
    (a14 : PySem.W.nsIn K mainGlobals "unsigned" = some (some (.ref f14))) (l14 : K.lookup f14 = some ⟨oc14, od14, .func (PySem.W.fnOf "unsigned" "unsigned" (defArgs s_unsigned) (defBody s_unsigned) (defScope s_unsigned) .none kV14 dc14 pm14 an14 cd14 ct14), sl14⟩) (c14 : PySem.W.codeIn K cd14 "unsigned" = true) (k14 : PySem.W.keepIn K (.ref f14) = true)
    (a15 : PySem.W.nsIn K mainGlobals "is_part" = some (some (.ref f15))) (l15 : K.lookup f15 = some ⟨oc15, od15, .func (PySem.W.fnOf "is_part" "is_part" (defArgs s_is_part) (defBody s_is_part) (defScope s_is_part) .none kV15 dc15 pm15 an15 cd15 ct15), sl15⟩) (c15 : PySem.W.codeIn K cd15 "is_part" = true) (k15 : PySem.W.keepIn K (.ref f15) = true)
    (a16 : PySem.W.nsIn K mainGlobals "joined" = some (some (.ref f16))) (l16 : K.lookup f16 = some ⟨oc16, od16, .func (PySem.W.fnOf "joined" "joined" (defArgs s_joined) (defBody s_joined) (defScope s_joined) .none kV16 dc16 pm16 an16 cd16 ct16), sl16⟩) (c16 : PySem.W.codeIn K cd16 "joined" = true) (k16 : PySem.W.keepIn K (.ref f16) = true)
    (a17 : PySem.W.nsIn K mainGlobals "endless_of" = some (some (.ref f17))) (l17 : K.lookup f17 = some ⟨oc17, od17, .func (PySem.W.fnOf "endless_of" "endless_of" (defArgs s_endless_of) (defBody s_endless_of) (defScope s_endless_of) .none kV17 dc17 pm17 an17 cd17 ct17), sl17⟩) (c17 : PySem.W.codeIn K cd17 "endless_of" = true) (k17 : PySem.W.keepIn K (.ref f17) = true)
    (a18 : PySem.W.nsIn K mainGlobals "rank_of" = some (some (.ref f18))) (l18 : K.lookup f18 = some ⟨oc18, od18, .func (PySem.W.fnOf "rank_of" "rank_of" (defArgs s_rank_of) (defBody s_rank_of) (defScope s_rank_of) .none kV18 dc18 pm18 an18 cd18 ct18), sl18⟩) (c18 : PySem.W.codeIn K cd18 "rank_of" = true) (k18 : PySem.W.keepIn K (.ref f18) = true)
    (a19 : PySem.W.nsIn K mainGlobals "place_key" = some (some (.ref f19))) (l19 : K.lookup f19 = some ⟨oc19, od19, .func (PySem.W.fnOf "place_key" "place_key" (defArgs s_place_key) (defBody s_place_key) (defScope s_place_key) .none kV19 dc19 pm19 an19 cd19 ct19), sl19⟩) (c19 : PySem.W.codeIn K cd19 "place_key" = true) (k19 : PySem.W.keepIn K (.ref f19) = true)
    (a20 : PySem.W.nsIn K mainGlobals "in_order" = some (some (.ref f20))) (l20 : K.lookup f20 = some ⟨oc20, od20, .func (PySem.W.fnOf "in_order" "in_order" (defArgs s_in_order) (defBody s_in_order) (defScope s_in_order) .none kV20 dc20 pm20 an20 (.ref cc) ct20), sl20⟩) (c20 : PySem.W.codeIn K (.ref cc) "in_order" = true) (k20 : PySem.W.keepIn K (.ref f20) = true)
    (a21 : PySem.W.nsIn K mainGlobals "_law_whole" = some (some (.ref f21))) (l21 : K.lookup f21 = some ⟨oc21, od21, .func (PySem.W.fnOf "_law_whole" "_law_whole" (defArgs s_law_whole) (defBody s_law_whole) (defScope s_law_whole) .none kV21 dc21 pm21 an21 cd21 ct21), sl21⟩) (c21 : PySem.W.codeIn K cd21 "_law_whole" = true) (k21 : PySem.W.keepIn K (.ref f21) = true)
    (a22 : PySem.W.nsIn K mainGlobals "_law_key" = some (some (.ref f22))) (l22 : K.lookup f22 = some ⟨oc22, od22, .func (PySem.W.fnOf "_law_key" "_law_key" (defArgs s_law_key) (defBody s_law_key) (defScope s_law_key) .none kV22 dc22 pm22 an22 cd22 ct22), sl22⟩) (c22 : PySem.W.codeIn K cd22 "_law_key" = true) (k22 : PySem.W.keepIn K (.ref f22) = true)
    (a23 : PySem.W.nsIn K mainGlobals "_law_right" = some (some (.ref f23))) (l23 : K.lookup f23 = some ⟨oc23, od23, .func (PySem.W.fnOf "_law_right" "_law_right" (defArgs s_law_right) (defBody s_law_right) (defScope s_law_right) .none kV23 dc23 pm23 an23 cd23 ct23), sl23⟩) (c23 : PySem.W.codeIn K cd23 "_law_right" = true) (k23 : PySem.W.keepIn K (.ref f23) = true)
    (a24 : PySem.W.nsIn K mainGlobals "_law_refused" = some (some (.ref f24))) (l24 : K.lookup f24 = some ⟨oc24, od24, .func (PySem.W.fnOf "_law_refused" "_law_refused" (defArgs s_law_refused) (defBody s_law_refused) (defScope s_law_refused) .none kV24 dc24 pm24 an24 cd24 ct24), sl24⟩) (c24 : PySem.W.codeIn K cd24 "_law_refused" = true) (k24 : PySem.W.keepIn K (.ref f24) = true)
    (a25 : PySem.W.nsIn K mainGlobals "law" = some (some (.ref f25))) (l25 : K.lookup f25 = some ⟨oc25, od25, .func (PySem.W.fnOf "law" "law" (defArgs s_law) (defBody s_law) (defScope s_law) .none kV25 dc25 pm25 an25 cd25 ct25), sl25⟩) (c25 : PySem.W.codeIn K cd25 "law" = true) (k25 : PySem.W.keepIn K (.ref f25) = true)
    (dg : PySem.W.nsIn K cStatics "sys.int_max_str_digits" = some none)
    (ya : PySem.W.nsIn K mainGlobals "FloatError" = some (some (.ref ef)))
    (yn : PySem.W.specialIn K (.builtin "object.__class__") "__get__" = some (some (.builtin "getset_descriptor.__get__")))
    (yt : PySem.W.takesIn K (.builtin "object.__class__") = some true)
    (yb : PySem.W.subIn K (.ref ef) (.type "BaseException") = some true)
    (yi : PySem.W.isClsIn K ef = true)
    (yk : PySem.W.typeIn K (.ref ef) = some (.type "type"))
    (xa0 : PySem.W.nsIn K mainGlobals "NoWidth" = some (some (.ref e0)))
    (xg0 : PySem.W.findIn K (.ref e0) "__getattribute__" = some (some (.builtin "BaseException.__getattribute__")))
    (xk0 : PySem.W.findIn K (.ref e0) "__getattr__" = some none)
    (xs0 : PySem.W.subIn K (.ref e0) (.type "BaseException") = some true)
    (xd0 : PySem.W.hasDictIn K e0 = true)
    (xh0 : PySem.W.findIn K (.ref e0) "__class__" = some (some (.builtin "object.__class__")))
    (xm0 : PySem.W.mroIn K e0 (.type "object") = some true)
    (xc0 : PySem.W.excIn K e0 [.type "ValueError", .type "Exception", .type "BaseException", .type "object"] "ValueError.__new__" = true)
    (xe0 : PySem.W.keepIn K (.ref e0) = true)
    (xt0 : PySem.W.typeIn K (.ref e0) = some (.type "type"))
    (xi0 : PySem.W.isClsIn K e0 = true)
    (xv0 : PySem.W.subIn K (.ref e0) (.type "ValueError") = some true)
    (xn0 : PySem.W.subIn K (.type "NoneType") (.ref e0) = some false)
    (xf0 : PySem.W.subIn K (.ref e0) (.ref ef) = some true)
    (xa1 : PySem.W.nsIn K mainGlobals "NoWord" = some (some (.ref e1)))
    (xg1 : PySem.W.findIn K (.ref e1) "__getattribute__" = some (some (.builtin "BaseException.__getattribute__")))
    (xk1 : PySem.W.findIn K (.ref e1) "__getattr__" = some none)
    (xs1 : PySem.W.subIn K (.ref e1) (.type "BaseException") = some true)
    (xd1 : PySem.W.hasDictIn K e1 = true)
    (xh1 : PySem.W.findIn K (.ref e1) "__class__" = some (some (.builtin "object.__class__")))
    (xm1 : PySem.W.mroIn K e1 (.type "object") = some true)
    (xc1 : PySem.W.excIn K e1 [.type "ValueError", .type "Exception", .type "BaseException", .type "object"] "ValueError.__new__" = true)
    (xe1 : PySem.W.keepIn K (.ref e1) = true)
    (xt1 : PySem.W.typeIn K (.ref e1) = some (.type "type"))
    (xi1 : PySem.W.isClsIn K e1 = true)
    (xv1 : PySem.W.subIn K (.ref e1) (.type "ValueError") = some true)
    (xn1 : PySem.W.subIn K (.type "NoneType") (.ref e1) = some false)
    (xf1 : PySem.W.subIn K (.ref e1) (.ref ef) = some true)
    (xa3 : PySem.W.nsIn K mainGlobals "NoNumber" = some (some (.ref e3)))
    (xg3 : PySem.W.findIn K (.ref e3) "__getattribute__" = some (some (.builtin "BaseException.__getattribute__")))
    (xk3 : PySem.W.findIn K (.ref e3) "__getattr__" = some none)
    (xs3 : PySem.W.subIn K (.ref e3) (.type "BaseException") = some true)
    (xd3 : PySem.W.hasDictIn K e3 = true)
    (xh3 : PySem.W.findIn K (.ref e3) "__class__" = some (some (.builtin "object.__class__")))
    (xm3 : PySem.W.mroIn K e3 (.type "object") = some true)
    (xc3 : PySem.W.excIn K e3 [.type "ValueError", .type "Exception", .type "BaseException", .type "object"] "ValueError.__new__" = true)
    (xe3 : PySem.W.keepIn K (.ref e3) = true)
    (xt3 : PySem.W.typeIn K (.ref e3) = some (.type "type"))
    (xi3 : PySem.W.isClsIn K e3 = true)
    (xv3 : PySem.W.subIn K (.ref e3) (.type "ValueError") = some true)
    (xn3 : PySem.W.subIn K (.type "NoneType") (.ref e3) = some false)
    (xf3 : PySem.W.subIn K (.ref e3) (.ref ef) = some true)
    (xp0_0 : PySem.W.subIn K (.ref e0) (.ref e0) = some true)
    (xp0_1 : PySem.W.subIn K (.ref e0) (.ref e1) = some false)
    (xp0_3 : PySem.W.subIn K (.ref e0) (.ref e3) = some false)
    (xp1_0 : PySem.W.subIn K (.ref e1) (.ref e0) = some false)
    (xp1_1 : PySem.W.subIn K (.ref e1) (.ref e1) = some true)
    (xp1_3 : PySem.W.subIn K (.ref e1) (.ref e3) = some false)
    (xp3_0 : PySem.W.subIn K (.ref e3) (.ref e0) = some false)
    (xp3_1 : PySem.W.subIn K (.ref e3) (.ref e1) = some false)
    (xp3_3 : PySem.W.subIn K (.ref e3) (.ref e3) = some true)
    (z0 : PySem.W.nsIn K mainGlobals "ValueError" = some none)
    (z1 : PySem.W.nsIn K mainGlobals "bool" = some none)
    (z2 : PySem.W.nsIn K mainGlobals "int" = some none)
    (z3 : PySem.W.nsIn K mainGlobals "isinstance" = some none)
    (z4 : PySem.W.nsIn K mainGlobals "len" = some none)
    (z5 : PySem.W.nsIn K mainGlobals "list" = some none)
    (z6 : PySem.W.nsIn K mainGlobals "reversed" = some none)
    (z7 : PySem.W.nsIn K mainGlobals "sorted" = some none)
    : ∃ fd : FuncData, (∀ (s : Shared) (u : Value), BindsTo s fd ⟨[u], []⟩ [("_law_script", u)]) ∧ ∀ base : Heap, K.In base → base.Ns mainGlobals mg → LamX.TabB base mg cc Pt → FnOk PySem.Challenge.rw_floatforge_k25_whole_in_order.prog w K mg base (L2.CX PySem.Challenge.rw_floatforge_k25_whole_in_order.prog w) 12 fa fd ["_law_script"] (spLT K (tab K e0 e1 e3 ef Pt)) := by
  have e := hfa.symm.trans (PySem.W.mg_of X hG a25)
  cases e
  refine ⟨PySem.W.fnOf "law" "law" (defArgs s_law) (defBody s_law) (defScope s_law) .none kV25 dc25 pm25 an25 cd25 ct25, fun s u => .of_eq rfl, fun base _ _ TB => ?_⟩
  have hT : Facts K (tab K e0 e1 e3 ef Pt) := ⟨rfl, (List.forall_mem_cons.mpr ⟨⟨xg0, xk0, xs0, xd0, xh0, yn, yt, xm0⟩, (List.forall_mem_cons.mpr ⟨⟨xg1, xk1, xs1, xd1, xh1, yn, yt, xm1⟩, (List.forall_mem_cons.mpr ⟨⟨xg3, xk3, xs3, xd3, xh3, yn, yt, xm3⟩, (fun _ h => nomatch h)⟩)⟩)⟩),
    (List.forall_mem_cons.mpr ⟨(List.forall_mem_cons.mpr ⟨kit_s, (List.forall_mem_cons.mpr ⟨kit_p xi1 xt1 xp0_1 xp1_1, (List.forall_mem_cons.mpr ⟨kit_p xi3 xt3 xp0_3 xp3_3, (fun _ h => nomatch h)⟩)⟩)⟩), (List.forall_mem_cons.mpr ⟨(List.forall_mem_cons.mpr ⟨kit_p xi0 xt0 xp1_0 xp0_0, (List.forall_mem_cons.mpr ⟨kit_s, (List.forall_mem_cons.mpr ⟨kit_p xi3 xt3 xp1_3 xp3_3, (fun _ h => nomatch h)⟩)⟩)⟩), (List.forall_mem_cons.mpr ⟨(List.forall_mem_cons.mpr ⟨kit_p xi0 xt0 xp3_0 xp0_0, (List.forall_mem_cons.mpr ⟨kit_p xi1 xt1 xp3_1 xp1_1, (List.forall_mem_cons.mpr ⟨kit_s, (fun _ h => nomatch h)⟩)⟩)⟩), (fun _ h => nomatch h)⟩)⟩)⟩),
    (List.forall_mem_cons.mpr ⟨kit_t xv0, (List.forall_mem_cons.mpr ⟨kit_t xv1, (List.forall_mem_cons.mpr ⟨kit_t xv3, (fun _ h => nomatch h)⟩)⟩)⟩), (List.forall_mem_cons.mpr ⟨kit_r xi0 xt0 xn0, (List.forall_mem_cons.mpr ⟨kit_r xi1 xt1 xn1, (List.forall_mem_cons.mpr ⟨kit_r xi3 xt3 xn3, (fun _ h => nomatch h)⟩)⟩)⟩), (List.forall_mem_cons.mpr ⟨exm_r yb yi yk xf0, (List.forall_mem_cons.mpr ⟨exm_r yb yi yk xf1, (List.forall_mem_cons.mpr ⟨exm_r yb yi yk xf3, (fun _ h => nomatch h)⟩)⟩)⟩),
    (List.forall_mem_cons.mpr ⟨⟨xc0, xe0, xt0⟩, (List.forall_mem_cons.mpr ⟨⟨xc1, xe1, xt1⟩, (List.forall_mem_cons.mpr ⟨⟨xc3, xe3, xt3⟩, (fun _ h => nomatch h)⟩)⟩)⟩), dg⟩
  have be0 : ∀ k, Need.At PySem.Challenge.rw_floatforge_k25_whole_in_order.prog w K mg base (tab K e0 e1 e3 ef Pt) k (.exc "NoWidth" 0) := fun _ => ⟨PySem.W.mg_of X hG xa0, show (0 : Nat) ∈ ([0, 1, 3] : List Nat) by decide⟩
  have be1 : ∀ k, Need.At PySem.Challenge.rw_floatforge_k25_whole_in_order.prog w K mg base (tab K e0 e1 e3 ef Pt) k (.exc "NoWord" 1) := fun _ => ⟨PySem.W.mg_of X hG xa1, show (1 : Nat) ∈ ([0, 1, 3] : List Nat) by decide⟩
  have be3 : ∀ k, Need.At PySem.Challenge.rw_floatforge_k25_whole_in_order.prog w K mg base (tab K e0 e1 e3 ef Pt) k (.exc "NoNumber" 3) := fun _ => ⟨PySem.W.mg_of X hG xa3, show (3 : Nat) ∈ ([0, 1, 3] : List Nat) by decide⟩
  have bf : ∀ k, Need.At PySem.Challenge.rw_floatforge_k25_whole_in_order.prog w K mg base (tab K e0 e1 e3 ef Pt) k (.flt "FloatError") := fun _ => PySem.W.mg_of X hG ya
  have bou : ∀ k, Need.At PySem.Challenge.rw_floatforge_k25_whole_in_order.prog w K mg base (tab K e0 e1 e3 ef Pt) k .outs := fun _ => trivial
  have b0 : ∀ k, Need.At PySem.Challenge.rw_floatforge_k25_whole_in_order.prog w K mg base (tab K e0 e1 e3 ef Pt) k (.blt "ValueError") := fun _ => PySem.W.mg_none_of X hG z0
  have b1 : ∀ k, Need.At PySem.Challenge.rw_floatforge_k25_whole_in_order.prog w K mg base (tab K e0 e1 e3 ef Pt) k (.blt "bool") := fun _ => PySem.W.mg_none_of X hG z1
  have b2 : ∀ k, Need.At PySem.Challenge.rw_floatforge_k25_whole_in_order.prog w K mg base (tab K e0 e1 e3 ef Pt) k (.blt "int") := fun _ => PySem.W.mg_none_of X hG z2
  have b3 : ∀ k, Need.At PySem.Challenge.rw_floatforge_k25_whole_in_order.prog w K mg base (tab K e0 e1 e3 ef Pt) k (.blt "isinstance") := fun _ => PySem.W.mg_none_of X hG z3
  have b4 : ∀ k, Need.At PySem.Challenge.rw_floatforge_k25_whole_in_order.prog w K mg base (tab K e0 e1 e3 ef Pt) k (.blt "len") := fun _ => PySem.W.mg_none_of X hG z4
  have b5 : ∀ k, Need.At PySem.Challenge.rw_floatforge_k25_whole_in_order.prog w K mg base (tab K e0 e1 e3 ef Pt) k (.blt "list") := fun _ => PySem.W.mg_none_of X hG z5
  have b6 : ∀ k, Need.At PySem.Challenge.rw_floatforge_k25_whole_in_order.prog w K mg base (tab K e0 e1 e3 ef Pt) k (.blt "reversed") := fun _ => PySem.W.mg_none_of X hG z6
  have b7 : ∀ k, Need.At PySem.Challenge.rw_floatforge_k25_whole_in_order.prog w K mg base (tab K e0 e1 e3 ef Pt) k (.blt "sorted") := fun _ => PySem.W.mg_none_of X hG z7
  have n1 : Need.At PySem.Challenge.rw_floatforge_k25_whole_in_order.prog w K mg base (tab K e0 e1 e3 ef Pt) 1 (.fn "_law_wide" G.wide_14 []) := at_fn (st := s_law_wide) (np := 1) (b := G.b_wide_14) (PySem.W.mg_of X hG a1) k1 l1 c1 sc_law_wide (hT) ck_law_wide rfl (fun _ _ _ _ _ _ us hl => match us, hl with | [_], _ => rfl) rfl (by simp only [G.b_wide_14, inB_fnL, inL_fn, inL_blt, inL_glo, okSs, okS, okE, okEs, okSrc, inB_fn, inB_fnF, inB_exc, inB_blt, inB_glo, inB_flt, inB_cls, inB_meth, inB_iso, inB_isw, clNeed, nmCl, nmF1, nmF2, and_true, true_and])
  have n2 : Need.At PySem.Challenge.rw_floatforge_k25_whole_in_order.prog w K mg base (tab K e0 e1 e3 ef Pt) 1 (.fn "_law_cell_at" G.cell_at_01 []) := at_fn (st := s_law_cell_at) (np := 2) (b := G.b_cell_at_01) (PySem.W.mg_of X hG a2) k2 l2 c2 sc_law_cell_at (hT) ck_law_cell_at rfl (fun _ _ _ _ _ _ us hl => match us, hl with | [_, _], _ => rfl) rfl (by simp only [G.b_cell_at_01, inB_fnL, inL_fn, inL_blt, inL_glo, okSs, okS, okE, okEs, okSrc, inB_fn, inB_fnF, inB_exc, inB_blt, inB_glo, inB_flt, inB_cls, inB_meth, inB_iso, inB_isw, clNeed, nmCl, nmF1, nmF2, and_true, true_and, b4 _])
  have n3 : Need.At PySem.Challenge.rw_floatforge_k25_whole_in_order.prog w K mg base (tab K e0 e1 e3 ef Pt) 1 (.fn "is_whole" F.is_whole []) := at_fn (st := s_is_whole) (np := 1) (b := F.b_is_whole) (PySem.W.mg_of X hG a3) k3 l3 c3 sc_is_whole (hT) ck_is_whole rfl (fun _ _ _ _ _ _ us hl => match us, hl with | [_], _ => rfl) rfl (by simp only [F.b_is_whole, inB_fnL, inL_fn, inL_blt, inL_glo, okSs, okS, okE, okEs, okSrc, inB_fn, inB_fnF, inB_exc, inB_blt, inB_glo, inB_flt, inB_cls, inB_meth, inB_iso, inB_isw, clNeed, nmCl, nmF1, nmF2, and_true, true_and, b3 _, b2 _, b1 _])
  have n4 : Need.At PySem.Challenge.rw_floatforge_k25_whole_in_order.prog w K mg base (tab K e0 e1 e3 ef Pt) 2 (.fn "width_of" F.width_of []) := at_fn (st := s_width_of) (np := 2) (b := F.b_width_of) (PySem.W.mg_of X hG a4) k4 l4 c4 sc_width_of (hT) ck_width_of rfl (fun _ _ _ _ _ _ us hl => match us, hl with | [_, _], _ => rfl) rfl (by simp only [F.b_width_of, inB_fnL, inL_fn, inL_blt, inL_glo, okSs, okS, okE, okEs, okSrc, inB_fn, inB_fnF, inB_exc, inB_blt, inB_glo, inB_flt, inB_cls, inB_meth, inB_iso, inB_isw, clNeed, nmCl, nmF1, nmF2, and_true, true_and, be0 _, At_mono n3 (by decide : 1 ≤ 1)])
  have n5 : Need.At PySem.Challenge.rw_floatforge_k25_whole_in_order.prog w K mg base (tab K e0 e1 e3 ef Pt) 1 (.fn "_law_word" G.word_22 []) := at_fn (st := s_law_word) (np := 2) (b := G.b_word_22) (PySem.W.mg_of X hG a5) k5 l5 c5 sc_law_word (hT) ck_law_word rfl (fun _ _ _ _ _ _ us hl => match us, hl with | [_, _], _ => rfl) rfl (by simp only [G.b_word_22, inB_fnL, inL_fn, inL_blt, inL_glo, okSs, okS, okE, okEs, okSrc, inB_fn, inB_fnF, inB_exc, inB_blt, inB_glo, inB_flt, inB_cls, inB_meth, inB_iso, inB_isw, clNeed, nmCl, nmF1, nmF2, and_true, true_and])
  have n6 : Need.At PySem.Challenge.rw_floatforge_k25_whole_in_order.prog w K mg base (tab K e0 e1 e3 ef Pt) 2 (.fn "_law_words" G.words_25 []) := at_fn (st := s_law_words) (np := 2) (b := G.b_words_25) (PySem.W.mg_of X hG a6) k6 l6 c6 sc_law_words (hT) ck_law_words rfl (fun _ _ _ _ _ _ us hl => match us, hl with | [_, _], _ => rfl) rfl (by simp only [G.b_words_25, inB_fnL, inL_fn, inL_blt, inL_glo, okSs, okS, okE, okEs, okSrc, inB_fn, inB_fnF, inB_exc, inB_blt, inB_glo, inB_flt, inB_cls, inB_meth, inB_iso, inB_isw, clNeed, nmCl, nmF1, nmF2, and_true, true_and, At_mono n5 (by decide : 1 ≤ 1)])
  have n7 : Need.At PySem.Challenge.rw_floatforge_k25_whole_in_order.prog w K mg base (tab K e0 e1 e3 ef Pt) 1 (.fn "many_words" F.many_words []) := at_fn (st := s_many_words) (np := 1) (b := F.b_many_words) (PySem.W.mg_of X hG a7) k7 l7 c7 sc_many_words (hT) ck_many_words rfl (fun _ _ _ _ _ _ us hl => match us, hl with | [_], _ => rfl) rfl (by simp only [F.b_many_words, inB_fnL, inL_fn, inL_blt, inL_glo, okSs, okS, okE, okEs, okSrc, inB_fn, inB_fnF, inB_exc, inB_blt, inB_glo, inB_flt, inB_cls, inB_meth, inB_iso, inB_isw, clNeed, nmCl, nmF1, nmF2, and_true, true_and])
  have n8 : Need.At PySem.Challenge.rw_floatforge_k25_whole_in_order.prog w K mg base (tab K e0 e1 e3 ef Pt) 2 (.fn "asked_word" F.asked_word []) := at_fn (st := s_asked_word) (np := 2) (b := F.b_asked_word) (PySem.W.mg_of X hG a8) k8 l8 c8 sc_asked_word (hT) ck_asked_word rfl (fun _ _ _ _ _ _ us hl => match us, hl with | [_, _], _ => rfl) rfl (by simp only [F.b_asked_word, inB_fnL, inL_fn, inL_blt, inL_glo, okSs, okS, okE, okEs, okSrc, inB_fn, inB_fnF, inB_exc, inB_blt, inB_glo, inB_flt, inB_cls, inB_meth, inB_iso, inB_isw, clNeed, nmCl, nmF1, nmF2, and_true, true_and, be1 _, At_mono n3 (by decide : 1 ≤ 1), At_mono n7 (by decide : 1 ≤ 1)])
  have n9 : Need.At PySem.Challenge.rw_floatforge_k25_whole_in_order.prog w K mg base (tab K e0 e1 e3 ef Pt) 1 (.fn "last_exponent" F.last_exponent []) := at_fn (st := s_last_exponent) (np := 1) (b := F.b_last_exponent) (PySem.W.mg_of X hG a9) k9 l9 c9 sc_last_exponent (hT) ck_last_exponent rfl (fun _ _ _ _ _ _ us hl => match us, hl with | [_], _ => rfl) rfl (by simp only [F.b_last_exponent, inB_fnL, inL_fn, inL_blt, inL_glo, okSs, okS, okE, okEs, okSrc, inB_fn, inB_fnF, inB_exc, inB_blt, inB_glo, inB_flt, inB_cls, inB_meth, inB_iso, inB_isw, clNeed, nmCl, nmF1, nmF2, and_true, true_and])
  have n10 : Need.At PySem.Challenge.rw_floatforge_k25_whole_in_order.prog w K mg base (tab K e0 e1 e3 ef Pt) 3 (.fn "cut" F.cut []) := at_fn (st := s_cut) (np := 2) (b := F.b_cut) (PySem.W.mg_of X hG a10) k10 l10 c10 sc_cut (hT) ck_cut rfl (fun _ _ _ _ _ _ us hl => match us, hl with | [_, _], _ => rfl) rfl (by simp only [F.b_cut, inB_fnL, inL_fn, inL_blt, inL_glo, okSs, okS, okE, okEs, okSrc, inB_fn, inB_fnF, inB_exc, inB_blt, inB_glo, inB_flt, inB_cls, inB_meth, inB_iso, inB_isw, clNeed, nmCl, nmF1, nmF2, and_true, true_and, At_mono n8 (by decide : 2 ≤ 2), At_mono n9 (by decide : 1 ≤ 2)])
  have n11 : Need.At PySem.Challenge.rw_floatforge_k25_whole_in_order.prog w K mg base (tab K e0 e1 e3 ef Pt) 4 (.fn "kind_of" F.kind_of []) := at_fn (st := s_kind_of) (np := 2) (b := F.b_kind_of) (PySem.W.mg_of X hG a11) k11 l11 c11 sc_kind_of (hT) ck_kind_of rfl (fun _ _ _ _ _ _ us hl => match us, hl with | [_, _], _ => rfl) rfl (by simp only [F.b_kind_of, inB_fnL, inL_fn, inL_blt, inL_glo, okSs, okS, okE, okEs, okSrc, inB_fn, inB_fnF, inB_exc, inB_blt, inB_glo, inB_flt, inB_cls, inB_meth, inB_iso, inB_isw, clNeed, nmCl, nmF1, nmF2, and_true, true_and, At_mono n10 (by decide : 3 ≤ 3), At_mono n9 (by decide : 1 ≤ 3)])
  have n12 : Need.At PySem.Challenge.rw_floatforge_k25_whole_in_order.prog w K mg base (tab K e0 e1 e3 ef Pt) 5 (.fn "is_none" F.is_none []) := at_fn (st := s_is_none) (np := 2) (b := F.b_is_none) (PySem.W.mg_of X hG a12) k12 l12 c12 sc_is_none (hT) ck_is_none rfl (fun _ _ _ _ _ _ us hl => match us, hl with | [_, _], _ => rfl) rfl (by simp only [F.b_is_none, inB_fnL, inL_fn, inL_blt, inL_glo, okSs, okS, okE, okEs, okSrc, inB_fn, inB_fnF, inB_exc, inB_blt, inB_glo, inB_flt, inB_cls, inB_meth, inB_iso, inB_isw, clNeed, nmCl, nmF1, nmF2, and_true, true_and, At_mono n11 (by decide : 4 ≤ 4)])
  have n13 : Need.At PySem.Challenge.rw_floatforge_k25_whole_in_order.prog w K mg base (tab K e0 e1 e3 ef Pt) 1 (.fn "sign_bit" F.sign_bit []) := at_fn (st := s_sign_bit) (np := 1) (b := F.b_sign_bit) (PySem.W.mg_of X hG a13) k13 l13 c13 sc_sign_bit (hT) ck_sign_bit rfl (fun _ _ _ _ _ _ us hl => match us, hl with | [_], _ => rfl) rfl (by simp only [F.b_sign_bit, inB_fnL, inL_fn, inL_blt, inL_glo, okSs, okS, okE, okEs, okSrc, inB_fn, inB_fnF, inB_exc, inB_blt, inB_glo, inB_flt, inB_cls, inB_meth, inB_iso, inB_isw, clNeed, nmCl, nmF1, nmF2, and_true, true_and])
  have n14 : Need.At PySem.Challenge.rw_floatforge_k25_whole_in_order.prog w K mg base (tab K e0 e1 e3 ef Pt) 3 (.fn "unsigned" F.unsigned []) := at_fn (st := s_unsigned) (np := 2) (b := F.b_unsigned) (PySem.W.mg_of X hG a14) k14 l14 c14 sc_unsigned (hT) ck_unsigned rfl (fun _ _ _ _ _ _ us hl => match us, hl with | [_, _], _ => rfl) rfl (by simp only [F.b_unsigned, inB_fnL, inL_fn, inL_blt, inL_glo, okSs, okS, okE, okEs, okSrc, inB_fn, inB_fnF, inB_exc, inB_blt, inB_glo, inB_flt, inB_cls, inB_meth, inB_iso, inB_isw, clNeed, nmCl, nmF1, nmF2, and_true, true_and, At_mono n8 (by decide : 2 ≤ 2), At_mono n13 (by decide : 1 ≤ 2)])
  have n15 : Need.At PySem.Challenge.rw_floatforge_k25_whole_in_order.prog w K mg base (tab K e0 e1 e3 ef Pt) 2 (.fn "is_part" F.is_part []) := at_fn (st := s_is_part) (np := 2) (b := F.b_is_part) (PySem.W.mg_of X hG a15) k15 l15 c15 sc_is_part (hT) ck_is_part rfl (fun _ _ _ _ _ _ us hl => match us, hl with | [_, _], _ => rfl) rfl (by simp only [F.b_is_part, inB_fnL, inL_fn, inL_blt, inL_glo, okSs, okS, okE, okEs, okSrc, inB_fn, inB_fnF, inB_exc, inB_blt, inB_glo, inB_flt, inB_cls, inB_meth, inB_iso, inB_isw, clNeed, nmCl, nmF1, nmF2, and_true, true_and, At_mono n3 (by decide : 1 ≤ 1)])
  have n16 : Need.At PySem.Challenge.rw_floatforge_k25_whole_in_order.prog w K mg base (tab K e0 e1 e3 ef Pt) 3 (.fn "joined" F.joined []) := at_fn (st := s_joined) (np := 4) (b := F.b_joined) (PySem.W.mg_of X hG a16) k16 l16 c16 sc_joined (hT) ck_joined rfl (fun _ _ _ _ _ _ us hl => match us, hl with | [_, _, _, _], _ => rfl) rfl (by simp only [F.b_joined, inB_fnL, inL_fn, inL_blt, inL_glo, okSs, okS, okE, okEs, okSrc, inB_fn, inB_fnF, inB_exc, inB_blt, inB_glo, inB_flt, inB_cls, inB_meth, inB_iso, inB_isw, clNeed, nmCl, nmF1, nmF2, and_true, true_and, be1 _, At_mono n15 (by decide : 2 ≤ 2)])
  have n17 : Need.At PySem.Challenge.rw_floatforge_k25_whole_in_order.prog w K mg base (tab K e0 e1 e3 ef Pt) 4 (.fn "endless_of" F.endless_of []) := at_fn (st := s_endless_of) (np := 2) (b := F.b_endless_of) (PySem.W.mg_of X hG a17) k17 l17 c17 sc_endless_of (hT) ck_endless_of rfl (fun _ _ _ _ _ _ us hl => match us, hl with | [_, _], _ => rfl) rfl (by simp only [F.b_endless_of, inB_fnL, inL_fn, inL_blt, inL_glo, okSs, okS, okE, okEs, okSrc, inB_fn, inB_fnF, inB_exc, inB_blt, inB_glo, inB_flt, inB_cls, inB_meth, inB_iso, inB_isw, clNeed, nmCl, nmF1, nmF2, and_true, true_and, b2 _, At_mono n16 (by decide : 3 ≤ 3), At_mono n9 (by decide : 1 ≤ 3)])
  have n18 : Need.At PySem.Challenge.rw_floatforge_k25_whole_in_order.prog w K mg base (tab K e0 e1 e3 ef Pt) 5 (.fn "rank_of" F.rank_of []) := at_fn (st := s_rank_of) (np := 2) (b := F.b_rank_of) (PySem.W.mg_of X hG a18) k18 l18 c18 sc_rank_of (hT) ck_rank_of rfl (fun _ _ _ _ _ _ us hl => match us, hl with | [_, _], _ => rfl) rfl (by simp only [F.b_rank_of, inB_fnL, inL_fn, inL_blt, inL_glo, okSs, okS, okE, okEs, okSrc, inB_fn, inB_fnF, inB_exc, inB_blt, inB_glo, inB_flt, inB_cls, inB_meth, inB_iso, inB_isw, clNeed, nmCl, nmF1, nmF2, and_true, true_and, At_mono n14 (by decide : 3 ≤ 4), At_mono n17 (by decide : 4 ≤ 4)])
  have n19 : Need.At PySem.Challenge.rw_floatforge_k25_whole_in_order.prog w K mg base (tab K e0 e1 e3 ef Pt) 6 (.fn "place_key" F.place_key []) := at_fn (st := s_place_key) (np := 2) (b := F.b_place_key) (PySem.W.mg_of X hG a19) k19 l19 c19 sc_place_key (hT) ck_place_key rfl (fun _ _ _ _ _ _ us hl => match us, hl with | [_, _], _ => rfl) rfl (by simp only [F.b_place_key, inB_fnL, inL_fn, inL_blt, inL_glo, okSs, okS, okE, okEs, okSrc, inB_fn, inB_fnF, inB_exc, inB_blt, inB_glo, inB_flt, inB_cls, inB_meth, inB_iso, inB_isw, clNeed, nmCl, nmF1, nmF2, and_true, true_and, b2 _, At_mono n18 (by decide : 5 ≤ 5), At_mono n13 (by decide : 1 ≤ 5)])
  have n20F : Need.At PySem.Challenge.rw_floatforge_k25_whole_in_order.prog w K mg base (tab K e0 e1 e3 ef Pt) 10 (.fnF "in_order" F.in_order []) := at_fnNL (st := s_in_order) (np := 2) (b := F.b_in_order) (Pt := Pt) (PySem.W.mg_of X hG a20) k20 l20 c20 sc_in_order (hT) ck_in_order rfl (fun _ _ _ _ _ _ us hl => match us, hl with | [_, _], _ => rfl) rfl rfl (by decide) (by decide +kernel) TB List.mem_cons_self (by
    have q : ∀ n, Need.At PySem.Challenge.rw_floatforge_k25_whole_in_order.prog w K mg base (tab K e0 e1 e3 ef Pt) 9 n → (Need.At PySem.Challenge.rw_floatforge_k25_whole_in_order.prog w K mg base (tab K e0 e1 e3 ef Pt) 9 n ∨ n = .lam) := fun _ h => .inl h
    simp only [F.b_in_order, inB_fnL, inL_fn, inL_blt, inL_glo, okSs, okS, okE, okEs, okSrc, inB_fn, inB_fnF, inB_exc, inB_blt, inB_glo, inB_flt, inB_cls, inB_meth, inB_iso, inB_isw, clNeed, nmCl, nmF1, nmF2, and_true, true_and, true_or, or_true, b7 _, bou _, At_mono n12 (by decide : 5 ≤ 9), fnL_of n19 (by decide : 6 + 3 ≤ 9)])
  have n20 : Need.At PySem.Challenge.rw_floatforge_k25_whole_in_order.prog w K mg base (tab K e0 e1 e3 ef Pt) 10 (.fn "in_order" F.in_order []) := at_fn_of_F n20F fun ds d h => run_lst (b := F.b_in_order) rfl rfl h
  have n21 : Need.At PySem.Challenge.rw_floatforge_k25_whole_in_order.prog w K mg base (tab K e0 e1 e3 ef Pt) 1 (.fn "_law_whole" G.whole_01 []) := at_fn (st := s_law_whole) (np := 1) (b := G.b_whole_01) (PySem.W.mg_of X hG a21) k21 l21 c21 sc_law_whole (hT) ck_law_whole rfl (fun _ _ _ _ _ _ us hl => match us, hl with | [_], _ => rfl) rfl (by simp only [G.b_whole_01, inB_fnL, inL_fn, inL_blt, inL_glo, okSs, okS, okE, okEs, okSrc, inB_fn, inB_fnF, inB_exc, inB_blt, inB_glo, inB_flt, inB_cls, inB_meth, inB_iso, inB_isw, clNeed, nmCl, nmF1, nmF2, and_true, true_and, b3 _, b2 _, b1 _])
  have n22 : Need.At PySem.Challenge.rw_floatforge_k25_whole_in_order.prog w K mg base (tab K e0 e1 e3 ef Pt) 1 (.fn "_law_key" G.key_25 []) := at_fn (st := s_law_key) (np := 2) (b := G.b_key_25) (PySem.W.mg_of X hG a22) k22 l22 c22 sc_law_key (hT) ck_law_key rfl (fun _ _ _ _ _ _ us hl => match us, hl with | [_, _], _ => rfl) rfl (by simp only [G.b_key_25, inB_fnL, inL_fn, inL_blt, inL_glo, okSs, okS, okE, okEs, okSrc, inB_fn, inB_fnF, inB_exc, inB_blt, inB_glo, inB_flt, inB_cls, inB_meth, inB_iso, inB_isw, clNeed, nmCl, nmF1, nmF2, and_true, true_and])
  have n23 : Need.At PySem.Challenge.rw_floatforge_k25_whole_in_order.prog w K mg base (tab K e0 e1 e3 ef Pt) 2 (.fn "_law_right" G.right_25 []) := at_fn (st := s_law_right) (np := 3) (b := G.b_right_25) (PySem.W.mg_of X hG a23) k23 l23 c23 sc_law_right (hT) ck_law_right rfl (fun _ _ _ _ _ _ us hl => match us, hl with | [_, _, _], _ => rfl) rfl (by simp only [G.b_right_25, inB_fnL, inL_fn, inL_blt, inL_glo, okSs, okS, okE, okEs, okSrc, inB_fn, inB_fnF, inB_exc, inB_blt, inB_glo, inB_flt, inB_cls, inB_meth, inB_iso, inB_isw, clNeed, nmCl, nmF1, nmF2, and_true, true_and, b3 _, b5 _, b4 _, b7 _, At_mono n21 (by decide : 1 ≤ 1), At_mono n22 (by decide : 1 ≤ 1)])
  have n24 : Need.At PySem.Challenge.rw_floatforge_k25_whole_in_order.prog w K mg base (tab K e0 e1 e3 ef Pt) 11 (.fn "_law_refused" G.refused_25 []) := at_fn (st := s_law_refused) (np := 2) (b := G.b_refused_25) (PySem.W.mg_of X hG a24) k24 l24 c24 sc_law_refused (hT) ck_law_refused rfl (fun _ _ _ _ _ _ us hl => match us, hl with | [_, _], _ => rfl) rfl (by simp only [G.b_refused_25, inB_fnL, inL_fn, inL_blt, inL_glo, okSs, okS, okE, okEs, okSrc, inB_fn, inB_fnF, inB_exc, inB_blt, inB_glo, inB_flt, inB_cls, inB_meth, inB_iso, inB_isw, clNeed, nmCl, nmF1, nmF2, and_true, true_and, b3 _, b0 _, be1 _, be3 _, bf _, At_mono n20 (by decide : 10 ≤ 10)])
  exact law_fnT (np := 1) (b := K25.b_law) (fun_mk (st := s_law) l25 c25 k25) sc_law (hT) ck_law rfl rfl K25.law_ok (by simp only [K25.b_law, inB_fnL, inL_fn, inL_blt, inL_glo, okSs, okS, okE, okEs, okSrc, inB_fn, inB_fnF, inB_exc, inB_blt, inB_glo, inB_flt, inB_cls, inB_meth, inB_iso, inB_isw, clNeed, nmCl, nmF1, nmF2, and_true, true_and, b5 _, b4 _, b6 _, At_mono n1 (by decide : 1 ≤ 11), At_mono n2 (by decide : 1 ≤ 11), At_mono n4 (by decide : 2 ≤ 11), At_mono n6 (by decide : 2 ≤ 11), At_mono n20F (by decide : 10 ≤ 11), At_mono n20 (by decide : 10 ≤ 11), At_mono n23 (by decide : 2 ≤ 11), At_mono n24 (by decide : 11 ≤ 11)])
end MP.LK25

open PySem PySem.W PyProof.Rows in
set_option maxRecDepth 100000 in
set_option maxHeartbeats 0 in
theorem PySem.Challenge.cw_floatforge_k25_whole_in_order_holds : PySem.Challenge.rw_floatforge_k25_whole_in_order.Holds := by
  w_on; o_law; k_head; (case hw => w_witness2)
  k_fill
  refine MP.walk_mpT (l := PySem.Challenge.rw_floatforge_k25_whole_in_order) (x := "_law_script") (k := 12) rfl rfl ⟨rfl, by decide, by decide⟩ (fun w h Y => PySem.W.km_in_of Y) ?F
  case F =>
    intro w mg fa h Y KX G hmg
    have hT8 := PySem.W.km_tabs_of Y
    km_lay KX hmg KX KX KX
    have q := hT9 _ List.mem_cons_self
    refine' ⟨_, _, MP.LK25.tab _ _ _ _ _ _, rfl, q.2, by kernel_rfl, q.1, MP.LK25.all_mk KX G hmg ?h_a1 ?h_l1 ?h_c1 ?h_k1 ?h_a2 ?h_l2 ?h_c2 ?h_k2 ?h_a3 ?h_l3 ?h_c3 ?h_k3 ?h_a4 ?h_l4 ?h_c4 ?h_k4 ?h_a5 ?h_l5 ?h_c5 ?h_k5 ?h_a6 ?h_l6 ?h_c6 ?h_k6 ?h_a7 ?h_l7 ?h_c7 ?h_k7 ?h_a8 ?h_l8 ?h_c8 ?h_k8 ?h_a9 ?h_l9 ?h_c9 ?h_k9 ?h_a10 ?h_l10 ?h_c10 ?h_k10 ?h_a11 ?h_l11 ?h_c11 ?h_k11 ?h_a12 ?h_l12 ?h_c12 ?h_k12 ?h_a13 ?h_l13 ?h_c13 ?h_k13 ?h_a14 ?h_l14 ?h_c14 ?h_k14 ?h_a15 ?h_l15 ?h_c15 ?h_k15 ?h_a16 ?h_l16 ?h_c16 ?h_k16 ?h_a17 ?h_l17 ?h_c17 ?h_k17 ?h_a18 ?h_l18 ?h_c18 ?h_k18 ?h_a19 ?h_l19 ?h_c19 ?h_k19 ?h_a20 ?h_l20 ?h_c20 ?h_k20 ?h_a21 ?h_l21 ?h_c21 ?h_k21 ?h_a22 ?h_l22 ?h_c22 ?h_k22 ?h_a23 ?h_l23 ?h_c23 ?h_k23 ?h_a24 ?h_l24 ?h_c24 ?h_k24 ?h_a25 ?h_l25 ?h_c25 ?h_k25 ?h_dg ?h_ya ?h_yn ?h_yt ?h_yb ?h_yi ?h_yk ?h_xa0 ?h_xg0 ?h_xk0 ?h_xs0 ?h_xd0 ?h_xh0 ?h_xm0 ?h_xc0 ?h_xe0 ?h_xt0 ?h_xi0 ?h_xv0 ?h_xn0 ?h_xf0 ?h_xa1 ?h_xg1 ?h_xk1 ?h_xs1 ?h_xd1 ?h_xh1 ?h_xm1 ?h_xc1 ?h_xe1 ?h_xt1 ?h_xi1 ?h_xv1 ?h_xn1 ?h_xf1 ?h_xa3 ?h_xg3 ?h_xk3 ?h_xs3 ?h_xd3 ?h_xh3 ?h_xm3 ?h_xc3 ?h_xe3 ?h_xt3 ?h_xi3 ?h_xv3 ?h_xn3 ?h_xf3 ?h_xp0_0 ?h_xp0_1 ?h_xp0_3 ?h_xp1_0 ?h_xp1_1 ?h_xp1_3 ?h_xp3_0 ?h_xp3_1 ?h_xp3_3 ?h_z0 ?h_z1 ?h_z2 ?h_z3 ?h_z4 ?h_z5 ?h_z6 ?h_z7⟩
    (case h_a1 => k_is)
    (case h_l1 => k_is)
    (case h_c1 => k_is)
    (case h_k1 => k_is)
    (case h_a2 => k_is)
    (case h_l2 => k_is)
    (case h_c2 => k_is)
    (case h_k2 => k_is)
    (case h_a3 => k_is)
    (case h_l3 => k_is)
    (case h_c3 => k_is)
    (case h_k3 => k_is)
    (case h_a4 => k_is)
    (case h_l4 => k_is)
    (case h_c4 => k_is)
    (case h_k4 => k_is)
    (case h_a5 => k_is)
    (case h_l5 => k_is)
    (case h_c5 => k_is)
    (case h_k5 => k_is)
    (case h_a6 => k_is)
    (case h_l6 => k_is)
    (case h_c6 => k_is)
    (case h_k6 => k_is)
    (case h_a7 => k_is)
    (case h_l7 => k_is)
    (case h_c7 => k_is)
    (case h_k7 => k_is)
    (case h_a8 => k_is)
    (case h_l8 => k_is)
    (case h_c8 => k_is)
    (case h_k8 => k_is)
    (case h_a9 => k_is)
    (case h_l9 => k_is)
    (case h_c9 => k_is)
    (case h_k9 => k_is)
    (case h_a10 => k_is)
    (case h_l10 => k_is)
    (case h_c10 => k_is)
    (case h_k10 => k_is)
    (case h_a11 => k_is)
    (case h_l11 => k_is)
    (case h_c11 => k_is)
    (case h_k11 => k_is)
    (case h_a12 => k_is)
    (case h_l12 => k_is)
    (case h_c12 => k_is)
    (case h_k12 => k_is)
    (case h_a13 => k_is)
    (case h_l13 => k_is)
    (case h_c13 => k_is)
    (case h_k13 => k_is)
    (case h_a14 => k_is)
    (case h_l14 => k_is)
    (case h_c14 => k_is)
    (case h_k14 => k_is)
    (case h_a15 => k_is)
    (case h_l15 => k_is)
    (case h_c15 => k_is)
    (case h_k15 => k_is)
    (case h_a16 => k_is)
    (case h_l16 => k_is)
    (case h_c16 => k_is)
    (case h_k16 => k_is)
    (case h_a17 => k_is)
    (case h_l17 => k_is)
    (case h_c17 => k_is)
    (case h_k17 => k_is)
    (case h_a18 => k_is)
    (case h_l18 => k_is)
    (case h_c18 => k_is)
    (case h_k18 => k_is)
    (case h_a19 => k_is)
    (case h_l19 => k_is)
    (case h_c19 => k_is)
    (case h_k19 => k_is)
    (case h_a20 => k_is)
    (case h_l20 => k_is)
    (case h_c20 => k_is)
    (case h_k20 => k_is)
    (case h_a21 => k_is)
    (case h_l21 => k_is)
    (case h_c21 => k_is)
    (case h_k21 => k_is)
    (case h_a22 => k_is)
    (case h_l22 => k_is)
    (case h_c22 => k_is)
    (case h_k22 => k_is)
    (case h_a23 => k_is)
    (case h_l23 => k_is)
    (case h_c23 => k_is)
    (case h_k23 => k_is)
    (case h_a24 => k_is)
    (case h_l24 => k_is)
    (case h_c24 => k_is)
    (case h_k24 => k_is)
    (case h_a25 => k_is)
    (case h_l25 => k_is)
    (case h_c25 => k_is)
    (case h_k25 => k_is)
    (case h_dg => k_is)
    (case h_ya => k_is)
    (case h_yn => k_is)
    (case h_yt => k_is)
    (case h_yb => k_is)
    (case h_yi => k_is)
    (case h_yk => k_is)
    (case h_xa0 => k_is)
    (case h_xg0 => k_is)
    (case h_xk0 => k_is)
    (case h_xs0 => k_is)
    (case h_xd0 => k_is)
    (case h_xh0 => k_is)
    (case h_xm0 => k_is)
    (case h_xc0 => k_exc)
    (case h_xe0 => k_is)
    (case h_xt0 => k_is)
    (case h_xi0 => k_is)
    (case h_xv0 => first | k_is | rfl)
    (case h_xn0 => first | k_is | rfl)
    (case h_xf0 => first | k_is | rfl)
    (case h_xa1 => k_is)
    (case h_xg1 => k_is)
    (case h_xk1 => k_is)
    (case h_xs1 => k_is)
    (case h_xd1 => k_is)
    (case h_xh1 => k_is)
    (case h_xm1 => k_is)
    (case h_xc1 => k_exc)
    (case h_xe1 => k_is)
    (case h_xt1 => k_is)
    (case h_xi1 => k_is)
    (case h_xv1 => first | k_is | rfl)
    (case h_xn1 => first | k_is | rfl)
    (case h_xf1 => first | k_is | rfl)
    (case h_xa3 => k_is)
    (case h_xg3 => k_is)
    (case h_xk3 => k_is)
    (case h_xs3 => k_is)
    (case h_xd3 => k_is)
    (case h_xh3 => k_is)
    (case h_xm3 => k_is)
    (case h_xc3 => k_exc)
    (case h_xe3 => k_is)
    (case h_xt3 => k_is)
    (case h_xi3 => k_is)
    (case h_xv3 => first | k_is | rfl)
    (case h_xn3 => first | k_is | rfl)
    (case h_xf3 => first | k_is | rfl)
    (case h_xp0_0 => first | k_is | rfl)
    (case h_xp0_1 => first | k_is | rfl)
    (case h_xp0_3 => first | k_is | rfl)
    (case h_xp1_0 => first | k_is | rfl)
    (case h_xp1_1 => first | k_is | rfl)
    (case h_xp1_3 => first | k_is | rfl)
    (case h_xp3_0 => first | k_is | rfl)
    (case h_xp3_1 => first | k_is | rfl)
    (case h_xp3_3 => first | k_is | rfl)
    (case h_z0 => k_is)
    (case h_z1 => k_is)
    (case h_z2 => k_is)
    (case h_z3 => k_is)
    (case h_z4 => k_is)
    (case h_z5 => k_is)
    (case h_z6 => k_is)
    (case h_z7 => k_is)
