import PyProof.Rows.All
import Wide.All
import OpenK.AllK
import Wide.FinOn
import HandS.ForMost
import HandS.WideBits
import HandS.Text
import HandS.StrMore
import HandS.Exc
import HandS.ExcOwn
import HandS.ExcValue
import HandS.ExcIs
import HandS.IsInst
import HandS.Deep
import HandS.Style
import HandS.CallSlots
import HandS.WordsExc
import HandS.SortInts
import PyProof.WalkInts
import PyProof.Rows.RuleDivmod
import KE.KIntText
import PyProof.Rows.StrOr
import HandS.Replace
import HandS.Comp
import HandS.Iter
import HandS.New0
import HandS.EndBits
import HandS.Defaults
import KE.IntBitsLaws
import KE.BitLaws
import HandS.Codes
import PySem.Challenge.RW_floatforge_k76_whole_shortest
set_option Elab.async false
set_option linter.all false
/-! MPA: a small language of data (ints, truths, texts, tuples, lists) and its evaluator: what the program's defs come to, without a heap. -/
namespace MP
open PySem

/-- data -/
inductive D where
  | non | bl (b : Bool) | int (i : Int) | str (l : List Nat) | tup (xs : List D) | lst (xs : List D) | dic | exc (c : Nat) | obj (c : Nat)

/-- what an expression comes to: a value, an exception of the program's class c, or nothing that this language tells -/
inductive R (α : Type) where
  | ok (a : α) | ex (c : Nat) | no

namespace R
def bind {α β : Type} (r : R α) (f : α → R β) : R β := match r with
  | .ok a => f a
  | .ex c => .ex c
  | .no => .no
@[simp] theorem bind_ok {α β : Type} (a : α) (f : α → R β) : (R.ok a).bind f = f a := rfl
@[simp] theorem bind_ex {α β : Type} (c : Nat) (f : α → R β) : (R.ex c : R α).bind f = .ex c := rfl
@[simp] theorem bind_no {α β : Type} (f : α → R β) : (R.no : R α).bind f = .no := rfl
end R

inductive BOp where | add | sub | mul | fdiv | mod | shl | shr | pow | and | or | xor
inductive COp where | eq | ne | lt | le | gt | ge | is | isn | in_ | nin
inductive F1 where | len | abs | int | str | list | sorted | sum | max | min | rev
inductive F2 where | max | min | divmod
inductive M0 where | bits | upper
/-- methods of texts with one argument -/
inductive TM where | startswith | zfill | rstrip | partition | split | join | index
/-- the classes that isinstance asks of -/
inductive Cl where
  | int | bool | str | tuple | list | valueError
  | exc (nm : String) (c : Nat)
  | flt (nm : String)
  | obj (nm : String) (c : Nat)
  | way (nm : String)

mutual
inductive E where
  | var (i : Nat)
  | int (i : Int) | bl (b : Bool) | non | dic | str (l : List Nat)
  | glo (x : String) (d : D)
  | bin (o : BOp) (a b : E)
  | neg (a : E)
  | cmp (o : COp) (a b : E)
  | chn (o p : COp) (a b c : E)
  | chn3 (o p q : COp) (a b c d : E)
  | and (a b : E) | or (a b : E) | not (a : E)
  | ite (c a b : E)
  | tup (es : Es) | lst (es : Es)
  | ix (a b : E)
  | slcL (a lo : E) | slcH (a hi : E) | slc (a lo hi : E)
  | call (nm : String) (f : List D → R D) (es : Es) (df : List D)
  | f1 (f : F1) (a : E) | f2 (f : F2) (a b : E)
  | m0 (m : M0) (a : E) | tm (m : TM) (a b : E)
  | isi (a : E) (c : Cl)
  | lcP (i j : Nat) (el : E) (src : Src)
  | lc (i : Nat) (el : E) (src : Src) | lcf (i : Nat) (el : E) (src : Src) (cond : E)
  | mk (nm : String) (c : Nat)
  | meth (m : String) (tbl : Nat → List D → R D) (a : E) (es : Es)
  | oix (i : Nat) (e : E) | onz (i : Nat) | olen (i : Nat)
inductive Es where
  | nil | cons (e : E) (es : Es)
inductive Src where
  | e (a : E) | rng1 (a : E) | rng2 (a b : E) | rng3 (a b c : E) | zip (a b : E)
end

inductive Slot where | un | dat (d : D) | own (xs : List D)
abbrev Env := List Slot

mutual
inductive S where
  | asg (i : Nat) (e : E)
  | asgN (i : Nat) (e : E)
  | asgT (is : List Nat) (e : E)
  | frz (i : Nat)
  | app (i : Nat) (e : E)
  | sti (i : Nat) (e1 e2 : E)
  | ins (i : Nat) (e1 e2 : E)
  | ifs (c : E) (a b : Ss)
  | fors (i : Nat) (src : Src) (b : Ss)
  | forT (is : List Nat) (src : Src) (b : Ss)
  | whl (c : E) (b : Ss)
  | ret (e : E)
  | rse (nm : String) (c : Nat)
  | drp (e : E)
  | pas
  | tryx (b : Ss) (nm : String) (i j : Nat)
  | tryk (b : Ss) (nm : String) (i j : Nat) (c1 c2 c3 : Cl)
inductive Ss where
  | nil | cons (s : S) (r : Ss)
end

/-! ### values -/
mutual
/-- == of plain data -/
def D.eqv : D → D → Bool
  | .non, .non => true
  | .bl a, .bl b => a == b
  | .bl a, .int j => (if a then 1 else 0) == j
  | .int i, .bl b => i == (if b then 1 else 0)
  | .int i, .int j => i == j
  | .str x, .str y => x == y
  | .lst xs, .lst ys => eqvs xs ys
  | .tup xs, .tup ys => eqvs xs ys
  | _, _ => false
def eqvs : List D → List D → Bool
  | [], [] => true
  | x :: xs, y :: ys => D.eqv x y && eqvs xs ys
  | _, _ => false
end
mutual
/-- plain data: no objects within; at most n deep -/
def D.plain : Nat → D → Bool
  | _, .non => true
  | _, .bl _ => true
  | _, .int _ => true
  | _, .str l => l.all (· < 1114112)
  | n + 1, .tup xs => plains n xs
  | n + 1, .lst xs => plains n xs
  | _, _ => false
def plains : Nat → List D → Bool
  | _, [] => true
  | n, x :: xs => D.plain n x && plains n xs
end

def line : Nat := 16777216
def bits (i : Int) : Nat := Builtin.Int.intBits i

def addD : D → D → R D
  | .int i, .int j => .ok (.int (i + j))
  | .str a, .str b => if a.length + b.length ≤ line then .ok (.str (a ++ b)) else .no
  | .lst a, .lst b => if a.length + b.length ≤ line then .ok (.lst (a ++ b)) else .no
  | .tup a, .tup b => if 0 < a.length ∧ 0 < b.length ∧ a.length + b.length ≤ line then .ok (.tup (a ++ b)) else .no
  | _, _ => .no
def mulD : D → D → R D
  | .int i, .int j => if bits i + bits j ≤ 134217728 then .ok (.int (i * j)) else .no
  | .lst xs, .int k => if 0 ≤ k ∧ k ≤ 1000000 ∧ xs.length * k.toNat ≤ line then .ok (.lst (List.replicate k.toNat xs).flatten) else .no
  | .str l, .int k => if 0 ≤ k ∧ k ≤ 1000000 ∧ l.length * k.toNat ≤ line then .ok (.str (List.replicate k.toNat l).flatten) else .no
  | _, _ => .no
def fdivD : D → D → R D
  | .int i, .int j => if 0 < j ∧ Builtin.divisionGoesByPylong i j = false then .ok (.int (i / j)) else .no
  | _, _ => .no
def modD : D → D → R D
  | .int i, .int j => if 0 < j then .ok (.int (i % j)) else .no
  | _, _ => .no
def shlD : D → D → R D
  | .int i, .int j => if 0 ≤ j ∧ (bits i : Int) + j ≤ 134217728 then .ok (.int (i * 2 ^ j.toNat)) else .no
  | _, _ => .no
def shrD : D → D → R D
  | .int i, .int j => if 0 ≤ j then .ok (.int (i / 2 ^ j.toNat)) else .no
  | _, _ => .no
def powD : D → D → R D
  | .int i, .int j => if 0 ≤ j ∧ j ≤ 1000000 ∧ i.natAbs < 2 ^ 64 then .ok (.int (i ^ j.toNat)) else .no
  | _, _ => .no
def int2 (f : Int → Int → Int) : D → D → R D
  | .int i, .int j => .ok (.int (f i j))
  | _, _ => .no
def binD : BOp → D → D → R D
  | .add => addD
  | .sub => int2 (· - ·)
  | .mul => mulD
  | .fdiv => fdivD
  | .mod => modD
  | .shl => shlD
  | .shr => shrD
  | .pow => powD
  | .and => int2 Builtin.bitAnd
  | .or => int2 Builtin.bitOr
  | .xor => int2 Builtin.bitXor
def negD : D → R D
  | .int i => .ok (.int (-i))
  | _ => .no
def cmpI (p : Int → Int → Bool) : D → D → R Bool
  | .int i, .int j => .ok (p i j)
  | _, _ => .no
def D.isStr : D → Bool
  | .str _ => true
  | _ => false
def D.isDic : D → Bool
  | .dic => true
  | _ => false
def eqD (x y : D) : R Bool := if x.plain 60 && y.plain 60 then .ok (D.eqv x y) else .no
/-- ==, an empty dict against a text, too -/
def eqE (x y : D) : R Bool := if x.plain 60 && y.plain 60 then .ok (D.eqv x y) else if (x.isDic && y.isStr) || (x.isStr && y.isDic) then .ok false else .no
def isD : D → D → R Bool
  | .non, .non => .ok true
  | _, .non => .ok false
  | .bl a, .bl b => .ok (a == b)
  | _, _ => .no
def inD (x : D) : D → R Bool
  | .lst ys => if x.plain 60 && plains 59 ys then .ok (ys.any fun y => D.eqv y x) else if x.isDic && ys.all D.isStr then .ok false else .no
  | .tup ys => if x.plain 0 && plains 0 ys then .ok (ys.any fun y => D.eqv y x) else .no
  | .str l => match x with
    | .str [c] => .ok (decide (c ∈ l))
    | _ => .no
  | _ => .no
def notR (r : R Bool) : R Bool := r.bind fun b => .ok (!b)
def cmpD : COp → D → D → R Bool
  | .eq, x, y => eqE x y
  | .ne, x, y => notR (eqD x y)
  | .lt, x, y => cmpI (fun i j => decide (i < j)) x y
  | .le, x, y => cmpI (fun i j => decide (i ≤ j)) x y
  | .gt, x, y => cmpI (fun i j => decide (j < i)) x y
  | .ge, x, y => cmpI (fun i j => decide (j ≤ i)) x y
  | .is, x, y => isD x y
  | .isn, x, y => notR (isD x y)
  | .in_, x, y => inD x y
  | .nin, x, y => notR (inD x y)

/-- a place in a sequence of n, counted from the end below nought -/
def place (n : Nat) (i : Int) : Option Nat :=
  if 0 ≤ i then (if i < n then some i.toNat else none) else if -(n : Int) ≤ i then some (i + n).toNat else none
def ixD : D → D → R D
  | .lst xs, .int i => match (place xs.length i).bind (xs[·]?) with
    | some d => .ok d
    | none => .no
  | .tup xs, .int i => match (place xs.length i).bind (xs[·]?) with
    | some d => .ok d
    | none => .no
  | .str l, .int i => if l.length ≤ line then (match (place l.length i).bind (l[·]?) with
    | some c => .ok (.str [c])
    | none => .no) else .no
  | _, _ => .no
/-- a bound of a slice -/
def bnd (n d : Nat) : Option Int → Nat
  | none => d
  | some i => if i < 0 then (i + (n : Int)).toNat else min i.toNat n
def cutL {α : Type} (xs : List α) (lo hi : Option Int) : List α := (xs.drop (bnd xs.length 0 lo)).take (bnd xs.length xs.length hi - bnd xs.length 0 lo)
def slcD (x : D) (lo hi : Option Int) : R D := match x with
  | .lst xs => .ok (.lst (cutL xs lo hi))
  | .str l => if l.length ≤ line then .ok (.str (cutL l lo hi)) else .no
  | _ => .no
def asInts : List D → Option (List Int)
  | [] => some []
  | .int i :: r => (asInts r).map (i :: ·)
  | _ :: _ => none
def isI : D → Cl → R Bool
  | .non, .exc _ _ => .ok false
  | .non, .valueError => .ok false
  | .exc c, .exc _ d => .ok (c == d)
  | .exc _, .valueError => .ok true
  | .int _, .int => .ok true
  | .bl _, .int => .ok true
  | .non, .int => .ok false
  | .str _, .int => .ok false
  | .tup _, .int => .ok false
  | .lst _, .int => .ok false
  | .dic, .int => .ok false
  | .int _, .bool => .ok false
  | .bl _, .bool => .ok true
  | .non, .bool => .ok false
  | .str _, .bool => .ok false
  | .tup _, .bool => .ok false
  | .lst _, .bool => .ok false
  | .dic, .bool => .ok false
  | .int _, .str => .ok false
  | .bl _, .str => .ok false
  | .non, .str => .ok false
  | .str _, .str => .ok true
  | .tup _, .str => .ok false
  | .lst _, .str => .ok false
  | .dic, .str => .ok false
  | .int _, .tuple => .ok false
  | .bl _, .tuple => .ok false
  | .non, .tuple => .ok false
  | .str _, .tuple => .ok false
  | .tup _, .tuple => .ok true
  | .lst _, .tuple => .ok false
  | .int _, .list => .ok false
  | .bl _, .list => .ok false
  | .non, .list => .ok false
  | .str _, .list => .ok false
  | .tup _, .list => .ok false
  | .lst _, .list => .ok true
  | .obj c, .obj _ d => .ok (c == d)
  | .obj _, .way _ => .ok true
  | _, _ => .no
def toS (l : List Nat) : Str := ⟨l.toArray⟩
def ofS (x : Str) : D := .str x.cps.toList
/-- the best of some whole numbers -/
def bestL (f : Int → Int → Int) (xs : List D) : R D := match asInts xs with
  | some (n :: ns) => .ok (.int (ns.foldl f n))
  | _ => .no
def f1D : F1 → D → R D
  | .len, .lst xs => .ok (.int xs.length)
  | .len, .tup xs => .ok (.int xs.length)
  | .len, .str l => if l.length ≤ line then .ok (.int l.length) else .no
  | .abs, .int i => .ok (.int i.natAbs)
  | .int, .int i => .ok (.int i)
  | .int, .bl b => .ok (.int (if b then 1 else 0))
  | .int, .str l => if l.length ≤ 640 then (match PySem.intText? (toS l) with | some n => .ok (.int n) | none => .no) else if l.length ≤ 4300 ∧ l.all (fun c => decide (48 ≤ c) && decide (c ≤ 57)) = true then .ok (.int (NumText.digitsVal l : Nat)) else .no
  | .list, .lst xs => .ok (.lst xs)
  | .list, .tup xs => .ok (.lst xs)
  | .sum, .lst xs => match asInts xs with
    | some ns => .ok (.int ns.sum)
    | none => .no
  | .max, .lst xs => bestL max xs
  | .max, .tup xs => bestL max xs
  | .min, .lst xs => bestL min xs
  | .min, .tup xs => bestL min xs
  | .str, .int i => if i.natAbs.log2 < 12900 then .ok (ofS (toString i)) else .no
  | .sorted, .lst xs => match asInts xs with
    | some ns => .ok (.lst ((ns.mergeSort fun a b => decide (a ≤ b)).map .int))
    | none => .no
  | _, _ => .no
def f2D : F2 → D → D → R D
  | .max, .int i, .int j => .ok (.int (max i j))
  | .min, .int i, .int j => .ok (.int (min i j))
  | .divmod, .int i, .int j => if 0 < j ∧ Builtin.divisionGoesByPylong i j = false then .ok (.tup [.int (i / j), .int (i % j)]) else if j < 0 ∧ Builtin.divisionGoesByPylong i j = false then .ok (.tup [.int (i.fdiv j), .int (i.fmod j)]) else .no
  | _, _, _ => .no
def m0D : M0 → D → R D
  | .bits, .int i => .ok (.int (bits i))
  | .upper, .str l => if l.all (· < 128) = true ∧ l.length ≤ 5000000 then .ok (.str (l.map PyProof.Rows.up1)) else .no
  | _, _ => .no
/-- the class of an object -/
def objD : D → R Nat
  | .obj c => .ok c
  | _ => .no
def strD : D → R Unit
  | .str _ => .ok ()
  | _ => .no
def asStrs : List D → Option (List Str)
  | [] => some []
  | .str l :: r => (asStrs r).map (toS l :: ·)
  | _ :: _ => none
def tmD : TM → D → D → R D
  | .startswith, .str a, .str b => .ok (.bl (Txt.startswith (toS a) (toS b)))
  | .zfill, .str a, .int i => if PadOk i = true then .ok (ofS (Txt.zfill (toS a) i)) else .no
  | .rstrip, .str a, .str b => if a.length ≤ line then .ok (ofS (Txt.rstripChars (toS a) (toS b))) else .no
  | .partition, .str a, .str b => if b.length ≠ 0 ∧ a.length ≤ line then .ok (.tup [ofS (Txt.partition (toS a) (toS b)).1, ofS (Txt.partition (toS a) (toS b)).2.1, ofS (Txt.partition (toS a) (toS b)).2.2]) else .no
  | .split, .str a, .str b => if b.length ≠ 0 ∧ a.length + 2 ≤ line then .ok (.lst ((Txt.split (toS a) (toS b)).map ofS)) else .no
  | .index, .str a, .str b => match Builtin.Str.occurrences (toS a) (toS b) 0 a.length 1 with
    | i :: _ => .ok (.int (i : Nat))
    | [] => .no
  | .join, .str a, .lst xs => match asStrs xs with
    | some ys => if (ys.map (·.length)).sum + ys.length * a.length ≤ 16777216 then .ok (ofS (Txt.join (toS a) ys)) else .no
    | none => .no
  | _, _, _ => .no
/-- what a source of a loop yields -/
def itemsD : D → R (List D)
  | .lst xs => .ok xs
  | .tup xs => .ok xs
  | .str l => .ok (l.map fun c => .str [c])
  | _ => .no
def small (i : Int) : Bool := decide (-(4611686018427387904) ≤ i ∧ i < 4611686018427387904)
def rngL (lo : Int) (n : Nat) (c : Int) : List D := (List.range n).map fun (k : Nat) => .int (lo + (k : Int) * c)
def rng2D : D → D → R (List D)
  | .int i, .int j => if small i && small j then .ok (rngL i (j - i).toNat 1) else .no
  | _, _ => .no
def rng1D : D → R (List D)
  | .int j => if small j then .ok (rngL 0 j.toNat 1) else .no
  | _ => .no
/-- a range by steps of c from 1 on -/
def rng3D : D → D → D → R (List D)
  | .int i, .int j, .int c => if small i && small j && decide (0 < c ∧ c < 1000000000) then .ok (rngL i (if i < j then (j - i - 1) / c + 1 else 0).toNat c) else .no
  | _, _, _ => .no
def boolD : D → R Bool
  | .bl b => .ok b
  | _ => .no

/-! ### the evaluator -/
def getS (ρ : Env) (i : Nat) : R D := match ρ[i]? with
  | some (.dat d) => .ok d
  | _ => .no
def pick (g : D → R Bool) (f : D → R D) : List D → R (List D)
  | [] => .ok []
  | x :: xs => match g x with
    | .ok true => (match f x with
      | .ok y => (pick g f xs).bind fun ys => .ok (y :: ys)
      | _ => .no)
    | .ok false => pick g f xs
    | _ => .no
def zipD : D → D → R (List D)
  | .lst xs, .lst ys => if xs.length = ys.length then .ok ((xs.zip ys).map fun p => .tup [p.1, p.2]) else .no
  | _, _ => .no
def intD : D → R Int
  | .int i => .ok i
  | _ => .no

mutual
def evE : E → Env → R D
  | .var i, ρ => getS ρ i
  | .int i, _ => .ok (.int i)
  | .bl b, _ => .ok (.bl b)
  | .non, _ => .ok .non
  | .dic, _ => .ok .dic
  | .str l, _ => .ok (.str l)
  | .glo _ d, _ => .ok d
  | .bin o a b, ρ => (evE a ρ).bind fun x => (evE b ρ).bind fun y => binD o x y
  | .neg a, ρ => (evE a ρ).bind negD
  | .cmp o a b, ρ => (evE a ρ).bind fun x => (evE b ρ).bind fun y => (cmpD o x y).bind fun b => .ok (.bl b)
  | .chn o p a b c, ρ => (evE a ρ).bind fun x => (evE b ρ).bind fun y => (cmpD o x y).bind fun t =>
      if t = true then (evE c ρ).bind fun z => (cmpD p y z).bind fun b => .ok (.bl b) else .ok (.bl false)
  | .chn3 o p q a b c d, ρ => (evE a ρ).bind fun x => (evE b ρ).bind fun y => (cmpD o x y).bind fun t =>
      if t = true then (evE c ρ).bind fun z => (cmpD p y z).bind fun t => if t = true then (evE d ρ).bind fun v => (cmpD q z v).bind fun b => .ok (.bl b) else .ok (.bl false) else .ok (.bl false)
  | .and a b, ρ => (evE a ρ).bind fun x => (boolD x).bind fun t => if t = true then (evE b ρ).bind fun y => (boolD y).bind fun u => .ok (.bl u) else .ok (.bl false)
  | .or a b, ρ => (evE a ρ).bind fun x => (boolD x).bind fun t => if t = true then .ok (.bl true) else (evE b ρ).bind fun y => (boolD y).bind fun u => .ok (.bl u)
  | .not a, ρ => (evE a ρ).bind fun x => (boolD x).bind fun t => .ok (.bl (!t))
  | .ite c a b, ρ => (evE c ρ).bind fun x => (boolD x).bind fun t => if t = true then evE a ρ else evE b ρ
  | .tup es, ρ => (evEs es ρ).bind fun xs => .ok (.tup xs)
  | .lst es, ρ => (evEs es ρ).bind fun xs => .ok (.lst xs)
  | .ix a b, ρ => (evE a ρ).bind fun x => (evE b ρ).bind fun y => ixD x y
  | .slcL a lo, ρ => (evE a ρ).bind fun x => (evE lo ρ).bind fun l => (intD l).bind fun i => slcD x (some i) none
  | .slcH a hi, ρ => (evE a ρ).bind fun x => (evE hi ρ).bind fun h => (intD h).bind fun j => slcD x none (some j)
  | .slc a lo hi, ρ => (evE a ρ).bind fun x => (evE lo ρ).bind fun l => (intD l).bind fun i => (evE hi ρ).bind fun h => (intD h).bind fun j => slcD x (some i) (some j)
  | .call _ f es df, ρ => (evEs es ρ).bind fun xs => f (xs ++ df)
  | .f1 f a, ρ => (evE a ρ).bind fun x => f1D f x
  | .f2 f a b, ρ => (evE a ρ).bind fun x => (evE b ρ).bind fun y => f2D f x y
  | .m0 m a, ρ => (evE a ρ).bind fun x => m0D m x
  | .tm m a b, ρ => (evE a ρ).bind fun x => (strD x).bind fun _ => (evE b ρ).bind fun y => tmD m x y
  | .isi a c, ρ => (evE a ρ).bind fun x => (isI x c).bind fun b => .ok (.bl b)
  | .lcP i j el src, ρ => (evSrc src ρ).bind fun xs => (pick (fun _ => .ok true) (fun x => match x with
      | .tup [d, e] => evE el ((ρ.set i (.dat d)).set j (.dat e))
      | _ => .no) xs).bind fun ys => if xs.length < line then .ok (.lst ys) else .no
  | .lc i el src, ρ => (evSrc src ρ).bind fun xs => (pick (fun _ => .ok true) (fun x => evE el (ρ.set i (.dat x))) xs).bind fun ys => if xs.length < line then .ok (.lst ys) else .no
  | .lcf i el src cond, ρ => (evSrc src ρ).bind fun xs =>
      (pick (fun x => (evE cond (ρ.set i (.dat x))).bind boolD) (fun x => evE el (ρ.set i (.dat x))) xs).bind fun ys => if xs.length < line then .ok (.lst ys) else .no
  | .mk _ c, _ => .ok (.obj c)
  | .meth _ tbl a es, ρ => (evE a ρ).bind fun x => (objD x).bind fun c => (evEs es ρ).bind fun xs => tbl c (.obj c :: xs)
  | .oix i e, ρ => match ρ[i]? with
    | some (.own xs) => (evE e ρ).bind fun y => ixD (.lst xs) y
    | _ => .no
  | .onz i, ρ => match ρ[i]? with
    | some (.own xs) => if plains 59 xs then .ok (.bl (!xs.isEmpty)) else .no
    | _ => .no
  | .olen i, ρ => match ρ[i]? with
    | some (.own xs) => .ok (.int xs.length)
    | _ => .no
def evEs : Es → Env → R (List D)
  | .nil, _ => .ok []
  | .cons e es, ρ => (evE e ρ).bind fun x => (evEs es ρ).bind fun xs => .ok (x :: xs)
def evSrc : Src → Env → R (List D)
  | .e a, ρ => (evE a ρ).bind itemsD
  | .rng1 a, ρ => (evE a ρ).bind rng1D
  | .rng2 a b, ρ => (evE a ρ).bind fun x => (evE b ρ).bind fun y => rng2D x y
  | .rng3 a b c, ρ => (evE a ρ).bind fun x => (evE b ρ).bind fun y => (evE c ρ).bind fun z => rng3D x y z
  | .zip a b, ρ => (evE a ρ).bind fun x => (evE b ρ).bind fun y => zipD x y
end
def evT (e : E) (ρ : Env) : R Bool := (evE e ρ).bind boolD

inductive Out where
  | nxt (ρ : Env) | ret (d : D) | ex (c : Nat) (ρ : Env) | no

def thenO (o : Out) (f : Env → Out) : Out := match o with
  | .nxt ρ => f ρ
  | o => o
@[simp] theorem thenO_nxt (ρ : Env) (f : Env → Out) : thenO (.nxt ρ) f = f ρ := rfl
@[simp] theorem thenO_ret (d : D) (f : Env → Out) : thenO (.ret d) f = .ret d := rfl
@[simp] theorem thenO_ex (c : Nat) (ρ : Env) (f : Env → Out) : thenO (.ex c ρ) f = .ex c ρ := rfl
@[simp] theorem thenO_no (f : Env → Out) : thenO .no f = .no := rfl
/-- an expression's end in a statement -/
def withR {α : Type} (r : R α) (ρ : Env) (f : α → Out) : Out := match r with
  | .ok a => f a
  | .ex c => .ex c ρ
  | .no => .no
@[simp] theorem withR_ok {α : Type} (a : α) (ρ : Env) (f : α → Out) : withR (.ok a) ρ f = f a := rfl
@[simp] theorem withR_ex {α : Type} (c : Nat) (ρ : Env) (f : α → Out) : withR (.ex c : R α) ρ f = .ex c ρ := rfl
@[simp] theorem withR_no {α : Type} (ρ : Env) (f : α → Out) : withR (.no : R α) ρ f = .no := rfl
def forGo (step : D → Env → Out) : List D → Env → Out
  | [], ρ => .nxt ρ
  | x :: xs, ρ => thenO (step x ρ) (forGo step xs)
def whGo (test : Env → R Bool) (step : Env → Out) : Nat → Env → Out
  | 0, _ => .no
  | n + 1, ρ => withR (test ρ) ρ fun b => if b = true then thenO (step ρ) (whGo test step n) else .nxt ρ
def setAll : List Nat → List D → Env → Option Env
  | [], [], ρ => some ρ
  | i :: is, d :: ds, ρ => setAll is ds (ρ.set i (.dat d))
  | _, _, _ => none
def stepT (is : List Nat) (f : Env → Out) (x : D) (ρ : Env) : Out := match x with
  | .tup ds => (match setAll is ds ρ with
    | some ρ' => f ρ'
    | none => .no)
  | _ => .no
def fuel : Nat := 1000000000000
/-- a list that was just made -/
def fresh : E → Bool
  | .lst _ => true
  | .f1 .list _ => true
  | _ => false

mutual
def evS : S → Env → Out
  | .asg i e, ρ => withR (evE e ρ) ρ fun d => .nxt (ρ.set i (.dat d))
  | .asgN i e, ρ => withR (evE e ρ) ρ fun d => match d with
    | .lst xs => if fresh e then .nxt (ρ.set i (.own xs)) else .no
    | _ => .no
  | .asgT is e, ρ => withR (evE e ρ) ρ fun d => match d with
    | .tup ds => (match setAll is ds ρ with
      | some ρ' => .nxt ρ'
      | none => .no)
    | _ => .no
  | .frz i, ρ => match ρ[i]? with
    | some (.own xs) => .nxt (ρ.set i (.dat (.lst xs)))
    | some (.dat _) => .nxt ρ
    | _ => .no
  | .app i e, ρ => match ρ[i]? with
    | some (.own xs) => withR (evE e ρ) ρ fun d => if xs.length < line then .nxt (ρ.set i (.own (xs ++ [d]))) else .no
    | _ => .no
  | .sti i e1 e2, ρ => match ρ[i]? with
    | some (.own xs) => withR (evE e2 ρ) ρ fun d => withR (evE e1 ρ) ρ fun k => match k with
      | .int z => (match place xs.length z with
        | some j => .nxt (ρ.set i (.own (xs.set j d)))
        | none => .no)
      | _ => .no
    | _ => .no
  | .ins i e1 e2, ρ => withR (evE e1 ρ) ρ fun k => withR (evE e2 ρ) ρ fun d => match ρ[i]?, k with
    | some (.own xs), .int z => if 0 ≤ z ∧ z ≤ xs.length ∧ xs.length < line then .nxt (ρ.set i (.own (xs.take z.toNat ++ d :: xs.drop z.toNat))) else .no
    | _, _ => .no
  | .ifs c a b, ρ => withR (evT c ρ) ρ fun t => if t = true then evSs a ρ else evSs b ρ
  | .fors i src b, ρ => withR (evSrc src ρ) ρ fun xs => forGo (fun x ρ' => evSs b (ρ'.set i (.dat x))) xs ρ
  | .forT is src b, ρ => withR (evSrc src ρ) ρ fun xs => forGo (stepT is (fun ρ' => evSs b ρ')) xs ρ
  | .whl c b, ρ => whGo (fun ρ' => evT c ρ') (fun ρ' => evSs b ρ') fuel ρ
  | .ret e, ρ => withR (evE e ρ) ρ fun d => .ret d
  | .rse _ c, ρ => .ex c ρ
  | .drp e, ρ => withR (evE e ρ) ρ fun _ => .nxt ρ
  | .pas, ρ => .nxt ρ
  | .tryx b _ i j, ρ => match evSs b ρ with
    | .ex c ρ' => .nxt ((ρ'.set j (.dat (.exc c))).set i .un)
    | o => o
  | .tryk b _ i j c1 c2 c3, ρ => match evSs b ρ with
    | .ex c ρ' => match isI (.exc c) c1, isI (.exc c) c2, isI (.exc c) c3 with
      | .ok t1, .ok t2, .ok t3 => .nxt ((ρ'.set j (.dat (.tup [.bl t1, .bl t2, .bl t3]))).set i .un)
      | _, _, _ => .no
    | o => o
def evSs : Ss → Env → Out
  | .nil, ρ => .nxt ρ
  | .cons s r, ρ => thenO (evS s ρ) fun ρ' => evSs r ρ'
end

/-- a def: n names, np of them parameters -/
def run (n np : Nat) (b : Ss) (args : List D) : R D :=
  if args.length = np then match evSs b (args.map .dat ++ List.replicate (n - np) .un) with
    | .nxt _ => .ok .non
    | .ret d => .ok d
    | .ex c _ => .ex c
    | .no => .no
  else .no
end MP

set_option Elab.async false
set_option linter.all false
set_option maxRecDepth 100000
set_option maxHeartbeats 4000000
/-! MPB: data in the heap, and what a reading of an expression asks. -/
namespace MP
open PySem L2
open PyProof.Rows hiding St
set_option autoImplicit false

/-- where the program's classes stand -/
structure Tab where
  K : PySem.W.Frag
  exc : Nat → Addr
  obj : Nat → Addr
  exs : List Nat
  objs : List Nat
  flt : Addr

def Ex (H H' : Hp) : Prop := ∀ a o, H a = some o → H' a = some o
theorem Ex.refl (H : Hp) : Ex H H := fun _ _ h => h
theorem Ex.trans {H H1 H2 : Hp} (a : Ex H H1) (b : Ex H1 H2) : Ex H H2 := fun x o h => b x o (a x o h)
theorem Ex.new {H : Hp} {p : Addr} {o : HO} (h : H p = none) : Ex H (upd H p o) := fun a u e => by
  rw [upd_ne (ne_of_none e h)]
  exact e
/-- the heap without the addresses of O -/
def hide (O : List Addr) (H : Hp) : Hp := fun b => if b ∈ O then none else H b
theorem hide_out {O : List Addr} {H : Hp} {b : Addr} (h : b ∉ O) : hide O H b = H b := if_neg h
theorem hide_ex {O : List Addr} {H : Hp} : Ex (hide O H) H := fun a o e => by
  unfold hide at e
  split at e
  · cases e
  · exact e
theorem hide_mono {O : List Addr} {H H' : Hp} (e : Ex H H') : Ex (hide O H) (hide O H') := fun a o q => by
  unfold hide at q ⊢
  split at q
  · cases q
  · rename_i h
    rw [if_neg h]
    exact e a o q
theorem hide_sub {O O' : List Addr} {H : Hp} (s : ∀ a ∈ O, a ∈ O') : Ex (hide O' H) (hide O H) := fun a o q => by
  unfold hide at q ⊢
  split at q
  · cases q
  · rename_i h
    rw [if_neg fun z => h (s a z)]
    exact q
theorem hide_upd {O : List Addr} {H : Hp} {a : Addr} {o : HO} (h : a ∈ O) : hide O (upd H a o) = hide O H := by
  funext b
  unfold hide
  split
  · rfl
  · rename_i hb
    exact upd_ne fun z => hb (z ▸ h)
theorem ex_sql {K : PySem.W.Frag} {H H' : Hp} {a : Addr} {xs : List V} (e : Ex H H') (h : SqL K H a xs) : SqL K H' a xs := by
  rcases h with (h | ⟨o, h⟩) | h
  · exact .inl (.inl (e _ _ h))
  · exact .inl (.inr ⟨o, e _ _ h⟩)
  · exact .inr h
theorem ex_sqt {K : PySem.W.Frag} {H H' : Hp} {a : Addr} {xs : List V} (e : Ex H H') (h : SqT K H a xs) : SqT K H' a xs := by
  rcases h with (h | ⟨o, h⟩) | h
  · exact .inl (.inl (e _ _ h))
  · exact .inl (.inr ⟨o, e _ _ h⟩)
  · exact .inr h

/-- an exception of the class cls that was caught, at a -/
def ExH (cls : Value) (a : Addr) : HO := .ext fun h => ∃ (oe : Obj) (vs : Array Value), h.get? a = some oe ∧ Zc cls none oe ∧ oe.data = .fields vs
theorem exH_ok {P : Program} {w : World} {H : Hp} {h : Heap} {a : Addr} {cls : Value} {oe : Obj} {vs : Array Value} (e : h.get? a = some oe) (z : Zc cls none oe) (d : oe.data = .fields vs) : ObjOk P w H h a (ExH cls a) :=
  ⟨⟨oe, vs, e, z, d⟩, ⟨oe, e⟩, fun _ _ ⟨o, v, q, r⟩ k => ⟨o, v, k o q, r⟩⟩
mutual
/-- the value v bears the data d -/
inductive DV (T : Tab) (H : Hp) : D → V → Prop where
  | non : DV T H .non .non
  | bl (b : Bool) : DV T H (.bl b) (.bl b)
  | int (i : Int) : DV T H (.int i) (.int i)
  | str (x : Str) : DV T H (.str x.cps.toList) (.str x)
  | tup {xs : List D} {a : Addr} {vs : List V} (h : SqT T.K H a vs) (r : DVs T H xs vs) : DV T H (.tup xs) (.ref a)
  | lst {xs : List D} {a : Addr} {vs : List V} (h : SqL T.K H a vs) (r : DVs T H xs vs) : DV T H (.lst xs) (.ref a)
  | dic {a : Addr} (h : H a = some (.dK [])) : DV T H .dic (.ref a)
  | exc {c : Nat} {a : Addr} (hc : c ∈ T.exs) (h : H a = some (ExH (.ref (T.exc c)) a)) : DV T H (.exc c) (.ref a)
  | obj {c : Nat} {a dx : Addr} (hc : c ∈ T.objs) (h : H a = some (.ins (T.obj c) dx [])) : DV T H (.obj c) (.ref a)
inductive DVs (T : Tab) (H : Hp) : List D → List V → Prop where
  | nil : DVs T H [] []
  | cons {d : D} {v : V} {ds : List D} {vs : List V} (h : DV T H d v) (r : DVs T H ds vs) : DVs T H (d :: ds) (v :: vs)
end
section
variable {T : Tab} {H H' : Hp}
mutual
theorem DV.mono (e : Ex H H') : ∀ {d : D} {v : V}, DV T H d v → DV T H' d v
  | _, _, .non => .non
  | _, _, .bl b => .bl b
  | _, _, .int i => .int i
  | _, _, .str x => .str x
  | _, _, .tup h r => .tup (ex_sqt e h) (DVs.mono e r)
  | _, _, .lst h r => .lst (ex_sql e h) (DVs.mono e r)
  | _, _, .dic h => .dic (e _ _ h)
  | _, _, .exc hc h => .exc hc (e _ _ h)
  | _, _, .obj hc h => .obj hc (e _ _ h)
theorem DVs.mono (e : Ex H H') : ∀ {ds : List D} {vs : List V}, DVs T H ds vs → DVs T H' ds vs
  | _, _, .nil => .nil
  | _, _, .cons h r => .cons (DV.mono e h) (DVs.mono e r)
end
theorem DVs.length : ∀ {ds : List D} {vs : List V}, DVs T H ds vs → ds.length = vs.length
  | _, _, .nil => rfl
  | _, _, .cons _ r => congrArg (· + 1) (DVs.length r)
theorem DVs.get : ∀ {ds : List D} {vs : List V} {i : Nat} {d : D}, DVs T H ds vs → ds[i]? = some d → ∃ v, vs[i]? = some v ∧ DV T H d v
  | _, _, _, _, .nil, e => by simp at e
  | _, _, 0, _, .cons h _, e => by simp at e; subst e; exact ⟨_, rfl, h⟩
  | _, _, i + 1, d, .cons _ r, e => by
    obtain ⟨v, h1, h2⟩ := DVs.get (i := i) (d := d) r (by simpa using e)
    exact ⟨v, by simpa using h1, h2⟩
theorem DVs.getV : ∀ {ds : List D} {vs : List V} {i : Nat} {v : V}, DVs T H ds vs → vs[i]? = some v → ∃ d, ds[i]? = some d ∧ DV T H d v
  | _, _, _, _, .nil, e => by simp at e
  | _, _, 0, _, .cons h _, e => by simp at e; subst e; exact ⟨_, rfl, h⟩
  | _, _, i + 1, d, .cons _ r, e => by
    obtain ⟨v, h1, h2⟩ := DVs.getV (i := i) (v := d) r (by simpa using e)
    exact ⟨v, by simpa using h1, h2⟩
theorem DVs.append : ∀ {ds es : List D} {vs ws : List V}, DVs T H ds vs → DVs T H es ws → DVs T H (ds ++ es) (vs ++ ws)
  | _, _, _, _, .nil, s => s
  | _, _, _, _, .cons h r, s => .cons h (DVs.append r s)
theorem DVs.drop : ∀ {ds : List D} {vs : List V} (n : Nat), DVs T H ds vs → DVs T H (ds.drop n) (vs.drop n)
  | _, _, 0, r => r
  | _, _, _ + 1, .nil => .nil
  | _, _, n + 1, .cons _ r => DVs.drop n r
theorem DVs.take : ∀ {ds : List D} {vs : List V} (n : Nat), DVs T H ds vs → DVs T H (ds.take n) (vs.take n)
  | _, _, 0, _ => .nil
  | _, _, _ + 1, .nil => .nil
  | _, _, n + 1, .cons h r => .cons h (DVs.take n r)
theorem DVs.set {d : D} {v : V} (h : DV T H d v) : ∀ {ds : List D} {vs : List V} (i : Nat), DVs T H ds vs → DVs T H (ds.set i d) (vs.set i v)
  | _, _, _, .nil => .nil
  | _, _, 0, .cons _ r => .cons h r
  | _, _, i + 1, .cons q r => .cons q (DVs.set h i r)
end

/-! ### data as the library's data -/
mutual
def D.py : D → PyData
  | .non => .none
  | .bl b => .bool b
  | .int i => .int i
  | .str l => .str ⟨l.toArray⟩
  | .tup xs => .tuple (pys xs)
  | .lst xs => .list (pys xs)
  | _ => .none
def pys : List D → List PyData
  | [] => []
  | x :: xs => D.py x :: pys xs
end
mutual
theorem dp_of {T : Tab} {H : Hp} : ∀ {n : Nat} {d : D} {v : V}, DV T H d v → D.plain n d = true → Dp T.K H v d.py
  | _, _, _, .non, _ => .non
  | _, _, _, .bl b, _ => .bl b
  | _, _, _, .int i, _ => .int i
  | _, _, _, .str x, _ => by
    have e : (⟨x.cps.toList.toArray⟩ : Str) = x := by simp
    simp only [D.py, e]
    exact .str x
  | 0, _, _, .tup h r, p => by simp [D.plain] at p
  | n + 1, _, _, .tup h r, p => by
    simp only [D.plain] at p
    exact .tup h (dps_of r p)
  | 0, _, _, .lst h r, p => by simp [D.plain] at p
  | n + 1, _, _, .lst h r, p => by
    simp only [D.plain] at p
    exact .lst h (dps_of r p)
  | n, _, _, .dic h, p => by simp [D.plain] at p
  | n, _, _, .exc hc h, p => by simp [D.plain] at p
  | n, _, _, .obj hc h, p => by simp [D.plain] at p
theorem dps_of {T : Tab} {H : Hp} : ∀ {n : Nat} {ds : List D} {vs : List V}, DVs T H ds vs → plains n ds = true → DpAll T.K H vs (pys ds)
  | _, _, _, .nil, _ => .nil
  | _, _, _, .cons h r, p => by
    simp only [plains, Bool.and_eq_true] at p
    exact .cons (dp_of h p.1) (dps_of r p.2)
end
mutual
theorem lay_of : ∀ {n : Nat} (d : D), D.plain n d = true → (d.py).canLay0 = true ∧ (d.py).depth ≤ n
  | _, .non, _ => ⟨rfl, Nat.zero_le _⟩
  | _, .bl b, _ => ⟨rfl, Nat.zero_le _⟩
  | _, .int i, _ => ⟨rfl, Nat.zero_le _⟩
  | _, .str l, p => by
    simp only [D.plain] at p
    refine ⟨?_, Nat.zero_le _⟩
    simp only [D.py, PyData.canLay0, PyData.strOk]
    simpa using p
  | 0, .tup xs, p => by simp [D.plain] at p
  | n + 1, .tup xs, p => by
    simp only [D.plain] at p
    obtain ⟨h1, h2⟩ := lays_of xs p
    simp only [D.py, PyData.canLay0, PyData.depth]
    exact ⟨h1, by omega⟩
  | 0, .lst xs, p => by simp [D.plain] at p
  | n + 1, .lst xs, p => by
    simp only [D.plain] at p
    obtain ⟨h1, h2⟩ := lays_of xs p
    simp only [D.py, PyData.canLay0, PyData.depth]
    exact ⟨h1, by omega⟩
  | n, .dic, p => by simp [D.plain] at p
  | n, .exc c, p => by simp [D.plain] at p
  | n, .obj c, p => by simp [D.plain] at p
theorem lays_of : ∀ {n : Nat} (ds : List D), plains n ds = true → PyData.canLayAll0 (pys ds) = true ∧ PyData.depthAll (pys ds) ≤ n
  | _, [], _ => ⟨rfl, Nat.zero_le _⟩
  | n, x :: xs, p => by
    simp only [plains, Bool.and_eq_true] at p
    obtain ⟨a1, a2⟩ := lay_of x p.1
    obtain ⟨b1, b2⟩ := lays_of xs p.2
    simp only [pys, PyData.canLayAll0, PyData.depthAll, a1, b1, Bool.and_self, true_and]
    omega
end
theorem shaped_of {d : D} (p : D.plain 60 d = true) : SeqAt.shaped d.py = true := by
  obtain ⟨h1, h2⟩ := lay_of d p
  unfold SeqAt.shaped
  rw [h1, Bool.true_and]
  exact decide_eq_true (by omega)
mutual
theorem eqv_py : ∀ (n m : Nat) (d e : D), D.plain n d = true → D.plain m e = true → PyData.eqv d.py e.py = D.eqv d e
  | n, m, .non, e, _, q => by cases e <;> first | (simp [D.plain] at q; done) | simp [D.py, PyData.eqv, D.eqv]
  | n, m, .bl b, e, _, q => by cases e <;> first | (simp [D.plain] at q; done) | simp [D.py, PyData.eqv, D.eqv]
  | n, m, .int i, e, _, q => by cases e <;> first | (simp [D.plain] at q; done) | simp [D.py, PyData.eqv, D.eqv]
  | n, m, .str l, e, _, q => by
    cases e <;> first | (simp [D.plain] at q; done) | (simp [D.py, PyData.eqv, D.eqv]; done) | skip
    rename_i l'
    simp only [D.py, PyData.eqv, D.eqv]
    by_cases z : l = l'
    · subst z; simp
    · have z2 : ¬ (⟨l.toArray⟩ : Str) = ⟨l'.toArray⟩ := fun q => z (by simpa using q)
      rw [beq_eq_false_iff_ne.mpr z2, beq_eq_false_iff_ne.mpr z]
  | 0, m, .tup xs, e, p, q => by simp [D.plain] at p
  | n + 1, m, .tup xs, e, p, q => by
    cases e with
    | tup ys =>
      cases m with
      | zero => simp [D.plain] at q
      | succ m =>
        simp only [D.plain] at p q
        simp only [D.py, PyData.eqv, D.eqv]
        exact eqvs_py n m xs ys p q
    | _ => first | (simp [D.plain] at q; done) | simp [D.py, PyData.eqv, D.eqv]
  | 0, m, .lst xs, e, p, q => by simp [D.plain] at p
  | n + 1, m, .lst xs, e, p, q => by
    cases e with
    | lst ys =>
      cases m with
      | zero => simp [D.plain] at q
      | succ m =>
        simp only [D.plain] at p q
        simp only [D.py, PyData.eqv, D.eqv]
        exact eqvs_py n m xs ys p q
    | _ => first | (simp [D.plain] at q; done) | simp [D.py, PyData.eqv, D.eqv]
  | n, m, .dic, e, p, q => by simp [D.plain] at p
  | n, m, .exc c, e, p, q => by simp [D.plain] at p
  | n, m, .obj c, e, p, q => by simp [D.plain] at p
theorem eqvs_py : ∀ (n m : Nat) (ds es : List D), plains n ds = true → plains m es = true → PyData.eqvAll (pys ds) (pys es) = eqvs ds es
  | n, m, [], [], _, _ => rfl
  | n, m, [], y :: ys, _, _ => by simp [pys, PyData.eqvAll, eqvs]
  | n, m, x :: xs, [], _, _ => by simp [pys, PyData.eqvAll, eqvs]
  | n, m, x :: xs, y :: ys, p, q => by
    simp only [plains, Bool.and_eq_true] at p q
    simp only [pys, PyData.eqvAll, eqvs]
    rw [eqv_py n m x y p.1 q.1, eqvs_py n m xs ys p.2 q.2]
end
theorem any_py : ∀ (n m : Nat) (ds : List D) (x : D), plains n ds = true → D.plain m x = true → ((pys ds).any fun z => PyData.eqv z x.py) = ds.any fun y => D.eqv y x
  | n, m, [], x, _, _ => rfl
  | n, m, y :: ys, x, p, q => by
    simp only [plains, Bool.and_eq_true] at p
    simp only [pys, List.any_cons]
    rw [eqv_py n m y x p.1 q, any_py n m ys x p.2 q]

/-! ### the environment in the frame -/
def SlotOk (T : Tab) (O : List Addr) (H : Hp) (s : Slot) (o : Option (Option V)) : Prop := match s with
  | .un => True
  | .dat d => ∃ v, o = some (some v) ∧ DV T (hide O H) d v
  | .own xs => ∃ a vs, o = some (some (.ref a)) ∧ a ∈ O ∧ H a = some (.lst vs) ∧ DVs T (hide O H) xs vs
structure Rl (T : Tab) (O : List Addr) (σ : St) (ρ : Env) (H : Hp) : Prop where
  live : ∀ a ∈ O, H a ≠ none
  len : σ.length = ρ.length
  at_ : ∀ (i : Nat) (s : Slot), ρ[i]? = some s → SlotOk T O H s σ[i]?
  sep : ∀ (i j : Nat) (xs ys : List D) (a : Addr), ρ[i]? = some (.own xs) → ρ[j]? = some (.own ys) → σ[i]? = some (some (.ref a)) → σ[j]? = some (some (.ref a)) → i = j
theorem live_mono {O : List Addr} {H H' : Hp} (e : Ex H H') (l : ∀ a ∈ O, H a ≠ none) : ∀ a ∈ O, H' a ≠ none := fun a ha z => by
  cases q : H a with
  | none => exact l a ha q
  | some o => rw [e a o q] at z; cases z
theorem live_new {O : List Addr} {H : Hp} (l : ∀ a ∈ O, H a ≠ none) {p : Addr} (h : H p = none) : p ∉ O := fun z => l p z h
theorem SlotOk.mono {T : Tab} {O : List Addr} {H H' : Hp} (e : Ex H H') {s : Slot} {o : Option (Option V)} (h : SlotOk T O H s o) : SlotOk T O H' s o := by
  cases s with
  | un => trivial
  | dat d => obtain ⟨v, h1, h2⟩ := h; exact ⟨v, h1, h2.mono (hide_mono e)⟩
  | own xs => obtain ⟨a, vs, h1, h2, h3, h4⟩ := h; exact ⟨a, vs, h1, h2, e _ _ h3, h4.mono (hide_mono e)⟩
theorem Rl.mono {T : Tab} {O : List Addr} {σ : St} {ρ : Env} {H H' : Hp} (e : Ex H H') (h : Rl T O σ ρ H) : Rl T O σ ρ H' :=
  ⟨live_mono e h.live, h.len, fun i s q => (h.at_ i s q).mono e, h.sep⟩
/-- a slot is given data -/
theorem Rl.setd {T : Tab} {O : List Addr} {σ : St} {ρ : Env} {H : Hp} (h : Rl T O σ ρ H) {d : D} {v : V} (dv : DV T (hide O H) d v) (i : Nat) : Rl T O (σ.set i (some v)) (ρ.set i (.dat d)) H := by
  refine ⟨h.live, by rw [List.length_set, List.length_set]; exact h.len, fun j s q => ?_, fun j k xs ys a h1 h2 h3 h4 => ?_⟩
  · by_cases e : i = j
    · subst e
      have hl : i < ρ.length := by
        have := (List.getElem?_eq_some_iff.mp q).1
        rwa [List.length_set] at this
      rw [List.getElem?_set_self hl] at q
      cases q
      exact ⟨v, by rw [List.getElem?_set_self (by rw [h.len]; exact hl)], dv⟩
    · rw [List.getElem?_set_ne e] at q ⊢
      exact h.at_ j s q
  · have nj : i ≠ j := fun e => by
      subst e
      by_cases hl : i < ρ.length
      · rw [List.getElem?_set_self hl] at h1; cases h1
      · rw [List.getElem?_eq_none (by simpa using hl)] at h1; cases h1
    have nk : i ≠ k := fun e => by
      subst e
      by_cases hl : i < ρ.length
      · rw [List.getElem?_set_self hl] at h2; cases h2
      · rw [List.getElem?_eq_none (by simpa using hl)] at h2; cases h2
    rw [List.getElem?_set_ne nj] at h1 h3
    rw [List.getElem?_set_ne nk] at h2 h4
    exact h.sep j k xs ys a h1 h2 h3 h4
/-- a slot is forgotten -/
theorem Rl.setn {T : Tab} {O : List Addr} {σ : St} {ρ : Env} {H : Hp} (h : Rl T O σ ρ H) (i : Nat) (x : Option V) : Rl T O (σ.set i x) (ρ.set i .un) H := by
  refine ⟨h.live, by rw [List.length_set, List.length_set]; exact h.len, fun j s q => ?_, fun j k xs ys a h1 h2 h3 h4 => ?_⟩
  · by_cases e : i = j
    · subst e
      have hl : i < ρ.length := by
        have := (List.getElem?_eq_some_iff.mp q).1
        rwa [List.length_set] at this
      rw [List.getElem?_set_self hl] at q
      cases q
      trivial
    · rw [List.getElem?_set_ne e] at q ⊢
      exact h.at_ j s q
  · have nj : i ≠ j := fun e => by
      subst e
      by_cases hl : i < ρ.length
      · rw [List.getElem?_set_self hl] at h1; cases h1
      · rw [List.getElem?_eq_none (by simpa using hl)] at h1; cases h1
    have nk : i ≠ k := fun e => by
      subst e
      by_cases hl : i < ρ.length
      · rw [List.getElem?_set_self hl] at h2; cases h2
      · rw [List.getElem?_eq_none (by simpa using hl)] at h2; cases h2
    rw [List.getElem?_set_ne nj] at h1 h3
    rw [List.getElem?_set_ne nk] at h2 h4
    exact h.sep j k xs ys a h1 h2 h3 h4
theorem Rl.get {T : Tab} {O : List Addr} {σ : St} {ρ : Env} {H : Hp} (h : Rl T O σ ρ H) {i : Nat} {d : D} (e : getS ρ i = .ok d) : ∃ v, σ[i]? = some (some v) ∧ DV T (hide O H) d v := by
  unfold getS at e
  split at e
  · rename_i d' q
    cases e
    exact h.at_ i _ q
  · cases e

/-! ### what is wanted of an expression's end -/
section
variable {T : Tab} {W : WX} {O : List Addr} {σ : St} {ρ : Env} {H H1 : Hp}
def PoE (T : Tab) (W : WX) (O : List Addr) (σ : St) (H : Hp) (Q : VK) : R D → Prop
  | .ok d => ∀ v H', Ex H H' → DV T (hide O H') d v → Q v H'
  | .ex c => ∀ H', Ex H H' → c ∈ T.exs → W (.ref (T.exc c)) none σ H'
  | .no => False
def PoA (T : Tab) (W : WX) (O : List Addr) (σ : St) (H : Hp) (Q : List V → Hp → Prop) : R (List D) → Prop
  | .ok d => ∀ v H', Ex H H' → DVs T (hide O H') d v → Q v H'
  | .ex c => ∀ H', Ex H H' → c ∈ T.exs → W (.ref (T.exc c)) none σ H'
  | .no => False
def PoT (T : Tab) (W : WX) (σ : St) (H : Hp) (Q : Bool → Hp → Prop) : R Bool → Prop
  | .ok b => ∀ H', Ex H H' → Q b H'
  | .ex c => ∀ H', Ex H H' → c ∈ T.exs → W (.ref (T.exc c)) none σ H'
  | .no => False
theorem PoE.mono {Q : VK} {r : R D} (e : Ex H H1) (p : PoE T W O σ H Q r) : PoE T W O σ H1 Q r := by
  cases r with
  | ok d => exact fun v H' e' dv => p v H' (e.trans e') dv
  | ex c => exact fun H' e' => p H' (e.trans e')
  | no => exact p
theorem PoA.mono {Q : List V → Hp → Prop} {r : R (List D)} (e : Ex H H1) (p : PoA T W O σ H Q r) : PoA T W O σ H1 Q r := by
  cases r with
  | ok d => exact fun v H' e' dv => p v H' (e.trans e') dv
  | ex c => exact fun H' e' => p H' (e.trans e')
  | no => exact p
theorem PoT.mono {Q : Bool → Hp → Prop} {r : R Bool} (e : Ex H H1) (p : PoT T W σ H Q r) : PoT T W σ H1 Q r := by
  cases r with
  | ok d => exact fun H' e' => p H' (e.trans e')
  | ex c => exact fun H' e' => p H' (e.trans e')
  | no => exact p
def tE (T : Tab) (W : WX) (m : E) : TE := fun σ H Q => ∃ O ρ, Rl T O σ ρ H ∧ PoE T W O σ H Q (evE m ρ)
def tEs (T : Tab) (W : WX) (m : Es) : TA := fun σ H Q => ∃ O ρ, Rl T O σ ρ H ∧ PoA T W O σ H Q (evEs m ρ)
def tT (T : Tab) (W : WX) (m : E) : TT := fun σ H Q => ∃ O ρ, Rl T O σ ρ H ∧ PoT T W σ H Q (evT m ρ)
/-- what is wanted, in general: the rest of a reckoning -/
structure Want (T : Tab) (W : WX) (O : List Addr) (σ : St) (H : Hp) {β : Type} (P : Hp → R β → Prop) : Prop where
  mono : ∀ {H1 r}, Ex H H1 → P H r → P H1 r
  ex : ∀ c, P H (.ex c) → ∀ H', Ex H H' → c ∈ T.exs → W (.ref (T.exc c)) none σ H'
  no : ¬ P H .no
theorem wantE {Q : VK} : Want T W O σ H fun H r => PoE T W O σ H Q r := ⟨PoE.mono, fun _ p => p, fun p => p⟩
theorem wantA {Q : List V → Hp → Prop} : Want T W O σ H fun H r => PoA T W O σ H Q r := ⟨PoA.mono, fun _ p => p, fun p => p⟩
theorem wantT {Q : Bool → Hp → Prop} : Want T W O σ H fun H r => PoT T W σ H Q r := ⟨PoT.mono, fun _ p => p, fun p => p⟩
/-- an expression ahead of the rest -/
theorem tE_bind {β : Type} {P : Hp → R β → Prop} {m : E} {f : D → R β} {Kn : VK} (w : Want T W O σ H P) (h : Rl T O σ ρ H) (p : P H ((evE m ρ).bind f)) (k : ∀ d v H1, Ex H H1 → DV T (hide O H1) d v → P H1 (f d) → Kn v H1) : tE T W m σ H Kn := by
  refine ⟨O, ρ, h, ?_⟩
  cases e : evE m ρ with
  | ok d =>
    rw [e] at p
    exact fun v H' e' dv => k d v H' e' dv (w.mono e' p)
  | ex c =>
    rw [e] at p
    exact w.ex c p
  | no =>
    rw [e] at p
    exact absurd p w.no
theorem tEs_bind {β : Type} {P : Hp → R β → Prop} {m : Es} {f : List D → R β} {Kn : List V → Hp → Prop} (w : Want T W O σ H P) (h : Rl T O σ ρ H) (p : P H ((evEs m ρ).bind f)) (k : ∀ d v H1, Ex H H1 → DVs T (hide O H1) d v → P H1 (f d) → Kn v H1) : tEs T W m σ H Kn := by
  refine ⟨O, ρ, h, ?_⟩
  cases e : evEs m ρ with
  | ok d =>
    rw [e] at p
    exact fun v H' e' dv => k d v H' e' dv (w.mono e' p)
  | ex c =>
    rw [e] at p
    exact w.ex c p
  | no =>
    rw [e] at p
    exact absurd p w.no
theorem tT_bind {β : Type} {P : Hp → R β → Prop} {m : E} {f : Bool → R β} {Kn : Bool → Hp → Prop} (w : Want T W O σ H P) (h : Rl T O σ ρ H) (p : P H ((evT m ρ).bind f)) (k : ∀ b H1, Ex H H1 → P H1 (f b) → Kn b H1) : tT T W m σ H Kn := by
  refine ⟨O, ρ, h, ?_⟩
  cases e : evT m ρ with
  | ok d =>
    rw [e] at p
    exact fun H' e' => k d H' e' (w.mono e' p)
  | ex c =>
    rw [e] at p
    exact w.ex c p
  | no =>
    rw [e] at p
    exact absurd p w.no
end
theorem pe_weak {X : Cx} {e : Expr} {t t' : TE} (h : PE X e t) (w : ∀ σ H Q, t' σ H Q → t σ H Q) : PE X e t' := ⟨fun pins s σ H Q I q => h.run pins s σ H Q I (w σ H Q q)⟩
theorem pt_weak {X : Cx} {e : Expr} {t t' : TT} (h : PT X e t) (w : ∀ σ H Q, t' σ H Q → t σ H Q) : PT X e t' := ⟨fun pins s σ H Q I q => h.run pins s σ H Q I (w σ H Q q)⟩
theorem pw_weak {X : Cx} {e : Expr} {t t' : TT} (h : PW X e t) (w : ∀ σ H Q, t' σ H Q → t σ H Q) : PW X e t' := ⟨fun wh pins s σ H Q I q => h.run wh pins s σ H Q I (w σ H Q q)⟩
theorem pa_weak {X : Cx} {e : List Expr} {t t' : TA} (h : PA X e t) (w : ∀ σ H Q, t' σ H Q → t σ H Q) : PA X e t' := ⟨fun pos pins s σ H Q I q => h.run pos pins s σ H Q I (w σ H Q q)⟩
end MP

set_option Elab.async false
set_option linter.all false
set_option maxRecDepth 100000
set_option maxHeartbeats 4000000
set_option autoImplicit false
/-! MPC: each operation of the language against the layer's rules. -/
namespace PySem.SeqAt
open Sem (wp)
open Builtin
open AutoSeq1 (wpAny_loadPart')
open MeetsSeq
theorem dict_eq_declines_str (l : Addr) (es : Array DictEntry) (n : Nat) (dd : Option Addr) (sl : Array (Option Value)) (b : Str) (u : Tok) :
    Meets (Builtin.«dict.__eq__» ⟨[.ref l, .str b u], []⟩) (fun _ R s => s.heap.get? l = some { cls := .type "dict", dict := dd, data := .dict es n, slots := sl } ∧ R (.ok (.ret .notImplemented)) s) :=
  .of_wp fun prog w A R s h => by obtain ⟨hp, g, d, tk, os⟩ := s; obtain ⟨hl, h⟩ := h; have f1 := F.sub_str_dict; wp_walk using wpAny_loadPart' hl; exact ⟨_, rfl, h⟩
theorem str_eq_declines_dict (b : Str) (u : Tok) (l : Addr) (es : Array DictEntry) (n : Nat) (dd : Option Addr) (sl : Array (Option Value)) :
    Meets (Builtin.«str.__eq__» ⟨[.str b u, .ref l], []⟩) (fun _ R s => s.heap.get? l = some { cls := .type "dict", dict := dd, data := .dict es n, slots := sl } ∧ R (.ok (.ret .notImplemented)) s) :=
  .of_wp fun prog w A R s h => by obtain ⟨hp, g, d, tk, os⟩ := s; obtain ⟨hl, h⟩ := h; wp_walk using wpAny_loadPart' hl, wpAny_load hl; exact ⟨_, rfl, h⟩
section
variable {A : Around} {s : Shared}
theorem RcAt.dict_str {l : Addr} {o : Obj} {es : Array DictEntry} {n : Nat} (b : Str) (u : Tok) (ho : s.heap.get? l = some o) (hc : o.cls = .type "dict") (hd : o.data = .dict es n) (hu : A.units < cLine) : RcAt A s (.ref l) (.str b u) false := fun prog w E Q h => by
  obtain ⟨cls, dd, data, sl⟩ := o
  simp only at hc hd
  subst hc hd
  exact rc_eq_decline_or (k := false) ⟨_, ho, rfl⟩ (typeIs_str s b u) (by decide) F.sub_str_dict F.slot_dict_eq F.slot_str_eq_refl
    (fun _ hq => call_meets F.slot_dict_eq ⟨_, ho, rfl⟩ F.entry_dict_eq (F.args_dict_eq_2 _ _) (dict_eq_declines_str l es n dd sl b u) ⟨ho, hq⟩)
    (fun _ hq => call_meets F.slot_str_eq_refl (typeIs_str s b u) F.entry_str_eq (F.args_str_eq_2 _ _) (str_eq_declines_dict b u l es n dd sl) ⟨ho, hq⟩)
    (fun _ hq => wpAny_of_eq (rfl : isSame (.ref l) (.str b u) = pure false) hq) (.inr hu) h
theorem RcAt.str_dict {l : Addr} {o : Obj} {es : Array DictEntry} {n : Nat} (b : Str) (u : Tok) (ho : s.heap.get? l = some o) (hc : o.cls = .type "dict") (hd : o.data = .dict es n) (hu : A.units < cLine) : RcAt A s (.str b u) (.ref l) false := fun prog w E Q h => by
  obtain ⟨cls, dd, data, sl⟩ := o
  simp only at hc hd
  subst hc hd
  exact rc_eq_decline_or (k := false) (typeIs_str s b u) ⟨_, ho, rfl⟩ (by decide) F.sub_dict_str F.slot_str_eq F.slot_dict_eq_refl
    (fun _ hq => call_meets F.slot_str_eq (typeIs_str s b u) F.entry_str_eq (F.args_str_eq_2 _ _) (str_eq_declines_dict b u l es n dd sl) ⟨ho, hq⟩)
    (fun _ hq => call_meets F.slot_dict_eq_refl ⟨_, ho, rfl⟩ F.entry_dict_eq (F.args_dict_eq_2 _ _) (dict_eq_declines_str l es n dd sl b u) ⟨ho, hq⟩)
    (fun _ hq => wpAny_of_eq (rfl : isSame (.str b u) (.ref l) = pure false) hq) (.inr hu) h
theorem EqAt.str_dict {l : Addr} {o : Obj} {es : Array DictEntry} {n : Nat} (b : Str) (u : Tok) (ho : s.heap.get? l = some o) (hc : o.cls = .type "dict") (hd : o.data = .dict es n) (hu : A.units < cLine) : EqAt A s (.str b u) (.ref l) false := fun prog w E Q h => by
  unfold eqBool
  refine wpAny_holding ?_
  refine wpAny_ite_split (fun hab => absurd (eq_of_beq hab) nofun) (fun _ => ?_)
  exact wpAny_bind (RcAt.str_dict b u ho hc hd hu prog w E _ (wpAny_truthy_bool h))
end
end PySem.SeqAt
/-! int of a long text of figures, str of a long number, a text times a number -/
namespace MP.LI
open PySem PySem.NumText
theorem none_key {K : PySem.W.Frag} {h : Heap} {a : Addr} {m : Str → Option Value} {n : Str} (kin : K.In h) (g : h.Ns a m) (e : PySem.W.nsIn K a n = some none) : m n = none := by
  obtain ⟨o, es, ep, at_, data, _, find⟩ := g
  rw [← find n]
  simp only [PySem.W.nsIn] at e
  split at e
  · rename_i look
    have same := kin _ _ look
    rw [at_] at same
    cases same
    cases data
    split at e
    · cases e
    · rename_i nf
      simp only [nsFind, findBy]
      rw [← Array.find?_toList, nf]
      rfl
  · cases e
theorem limit_of {K : PySem.W.Frag} {h : Heap} (kin : K.In h) (nl : h.NoLimit) (e : PySem.W.nsIn K cStatics "sys.int_max_str_digits" = some none) : h.NoDigits := by
  obtain ⟨mc, g, _⟩ := nl
  exact ⟨mc, g, none_key kin g e⟩
theorem take_figs : ∀ {l : List Nat}, AllDigits l → l.takeWhile (· != 0) = l
  | [], _ => rfl
  | c :: r, h => by
    have hc := h c (List.mem_cons_self ..)
    have hr := take_figs (l := r) fun d hd => h d (List.mem_cons_of_mem _ hd)
    rw [List.takeWhile_cons, if_pos (by simp; omega), hr]
theorem text_figs {x : Str} (h : AllDigits x.cps.toList) : numTextOf x = x.cps.toList := by
  show (if _ then _ else _) = _
  rw [if_pos]
  rw [← Array.all_toList]
  exact List.all_eq_true.mpr fun c hc => by have := h c hc; exact decide_eq_true (by omega)
theorem seen_figs {x : Str} (h : AllDigits x.cps.toList) : numSeenOf x = x.cps.toList := by
  show (numTextOf x).takeWhile (· != 0) = _
  rw [text_figs h, take_figs h]
theorem wp_long {M : Model} {A : Around} {E : Value → Shared → Prop} {s : Shared} {Q : Value → Shared → Prop} {v : Value} {text : List Nat} {n : Int}
    (long : ¬ (text.takeWhile (· != 0)).length ≤ 640) (nd : s.heap.NoDigits) (hr : (int_private% "readNumeral") 4300 10 (text.takeWhile (· != 0)) = (int_private% "Numeral.value") n)
    (whole : ((text.takeWhile (· != 0)).length == text.length) = true) (h : Q (.int n s.toks) { s with toks := s.toks + 1 }) :
    wpAny M A ((int_private% "intFromText") v text 10) Q E s := by
  obtain ⟨hp, g, d, tk, os⟩ := s
  obtain ⟨mc, hns, nokey⟩ := nd
  repeat (any_goals (first | assumption | (with_reducible refine wpAny_nsGet hns ?_; rw [nokey]) | (with_reducible refine wpAny_ite_false (decide_eq_false long) ?_) | (with_reducible refine wpAny_ite_true (decide_eq_true whole) ?_) | wp_step))
  all_goals (try rw [hr])
  all_goals (try dsimp only)
  repeat (any_goals (first | assumption | (with_reducible refine wpAny_ite_true (decide_eq_true whole) ?_) | wp_step))
structure Kept (p : Prop) : Prop where
  out : p
set_option maxHeartbeats 4000000 in
theorem meets_long {x : Str} {u : Tok} {n : Int} (figs : AllDigits x.cps.toList) (len1 : 640 < x.length) (len2 : x.length ≤ 4300) (hn : intText? x = some n) :
    Meets (Builtin.«int.__new__» ⟨[.type "int", .str x u], []⟩) (fun _ R s => s.heap.NoDigits ∧ R (.ok (.ret (.int n s.toks))) { s with toks := s.toks + 1 }) := by
  rintro prog w A R ⟨hp, g, d, tk, os⟩ ⟨nd, h⟩
  have f1 := F.conv_sub_int
  have f2 := F.madeHere_int
  have f3 := PySem.W.KIN.str_int
  have f4 := PySem.W.KIN.str_idx
  have f5 := PySem.W.KIN.str_trunc
  have f6 : typeOf (.str x u) = pure (.type "str") := rfl
  have ln : x.cps.toList.length = x.length := Array.length_toList
  have long : ¬ (numSeenOf x).length ≤ 640 := by rw [seen_figs figs, ln]; omega
  have got : (int_private% "readNumeral") 4300 10 (numSeenOf x) = (int_private% "Numeral.value") n ∧ ((numSeenOf x).length == (numTextOf x).length) = true := by
    rcases read4300 x (by rw [sizeLine_eq]; omega) with ⟨m, h1, h2, h3⟩ | ⟨h1, _⟩
    · rw [hn] at h1
      cases h1
      exact ⟨h3, h2⟩
    · rw [hn] at h1
      cases h1
  have kept := Kept.mk (And.intro nd (And.intro long got))
  clear nd long got hn len1 len2 ln figs
  refine wpAny_mono (Q := fun fin s' => fin = .done (.ret (.int n tk)) ∧ s' = ⟨hp, g, d, tk + 1, os⟩) (E := fun _ _ => False) ?_ (fun fin s' q => by obtain ⟨rfl, rfl⟩ := q; exact h) (fun _ _ q => q.elim)
  clear h
  repeat (any_goals (first
    | assumption
    | ((with_reducible show wpAny _ _ ((int_private% "intFromText") _ _ _) _ _ _); refine wp_long kept.out.2.1 kept.out.1 kept.out.2.2.1 kept.out.2.2.2 ?_)
    | wp_step))
  all_goals first | exact ⟨rfl, rfl⟩ | skip
theorem call_long {prog : Program} {w : World} {A : Around} {E : Value → Shared → Prop} {s : Shared} {Q : Value → Shared → Prop} {x : Str} {t : Tok} {n : Int} (figs : AllDigits x.cps.toList) (len1 : 640 < x.length) (len2 : x.length ≤ 4300) (hn : intText? x = some n) (nd : s.heap.NoDigits)
    (h : Q (.int n s.toks) { s with toks := s.toks + 1 }) : wpAny (model prog w) A (call (.type "int") [.str x t]) Q E s :=
  call_int_1 (meets_long figs len1 len2 hn) ⟨nd, rfl, h⟩
end MP.LI
namespace MP
open PySem L2
section
variable {X : Cx}
theorem call_int_long (hd : PySem.W.nsIn X.K cStatics "sys.int_max_str_digits" = some none) : CallR X (.type "int") (fun xs H Q => ∃ (a : Str) (n : Int), xs = [.str a] ∧ NumText.AllDigits a.cps.toList ∧ 640 < a.length ∧ a.length ≤ 4300 ∧ PySem.intText? a = some n ∧ Q (.int n) H) := by
  intro pins s σ H xs us Q I rs h
  obtain ⟨a, n, rfl, figs, l1, l2, hn, q⟩ := h
  cases rs with
  | cons r1 rs =>
    cases rs
    obtain ⟨t, rfl⟩ := r1
    exact LI.call_long figs l1 l2 hn (LI.limit_of I.kIn I.nolimit hd) ⟨.int n, H, I.tok _, ⟨_, rfl⟩, q⟩
theorem call_str_long (hc : X.calm = true) (hd : PySem.W.nsIn X.K cStatics "sys.int_max_str_digits" = some none) : CallR X (.type "str") (fun xs H Q => ∃ i : Int, xs = [.int i] ∧ i.natAbs.log2 < 12900 ∧ Q (.str (toString i)) H) := by
  intro pins s σ H xs us Q I rs h
  obtain ⟨i, rfl, hz, q⟩ := h
  obtain ⟨u, rfl, t, rfl⟩ := vals1 rs
  have lt : i.natAbs < 10 ^ 4300 := Nat.lt_of_lt_of_le (PyProof.Rows.lt_of_log2 hz) PyProof.Rows.pow_lo
  refine PyProof.Rows.str_of_int_or (I.ok.hd hc) (LI.limit_of I.kIn I.nolimit hd) (fun _ => ⟨.str _, H, I.tok _, ⟨_, rfl⟩, q⟩) (fun ge => absurd lt (Nat.not_lt.mpr ge))
theorem fold_times (a : Array Nat) : ∀ (m : Nat) (acc : Array Nat), ((List.replicate m a).foldl (· ++ ·) acc).toList = acc.toList ++ (List.replicate m a.toList).flatten
  | 0, acc => by simp
  | m + 1, acc => by
    rw [List.replicate_succ, List.foldl_cons, fold_times a m (acc ++ a), List.replicate_succ, List.flatten_cons, Array.toList_append, List.append_assoc]
theorem op_repS : OpR X (binaryOp .Mult) (fun x y H Q => ∃ (a : Str) (k : Int), x = .str a ∧ y = .int k ∧ 0 ≤ k ∧ k ≤ 1000000 ∧ a.length * k.toNat ≤ sizeLine ∧ Q (.str ⟨(List.replicate k.toNat a.cps.toList).flatten.toArray⟩) H) := by
  intro pins s σ H x y v u Q I rx ry h
  obtain ⟨a, k, rfl, rfl, k0, k1, hz, q⟩ := h
  obtain ⟨t, rfl⟩ := rx
  obtain ⟨t2, rfl⟩ := ry
  have e63 : (2 : Int) ^ 63 = 9223372036854775808 := by decide
  have el : a.cps.toList.length = a.length := Array.length_toList
  rw [sizeLine_eq] at hz
  refine P.mul_str ?_ ?_ ?_ ?_
  · rw [e63, decide_eq_false (by omega), decide_eq_false (by omega)]; rfl
  · intro k2 _ h3
    rw [e63] at h3
    have h4 : (a.length : Int) * k ≤ 16777216 := by
      have : ((a.length * k.toNat : Nat) : Int) = (a.length : Int) * k := by rw [Int.natCast_mul, Int.toNat_of_nonneg k0]
      omega
    have h5 : (9223372036854775808 - 1 : Int) / k + 1 ≤ (a.length : Int) := by omega
    have h6 := Int.mul_le_mul_of_nonneg_right h5 k0
    have h7 := Int.lt_ediv_add_one_mul_self (9223372036854775808 - 1 : Int) (show 0 < k by omega)
    omega
  · intro _ _
    exact decide_eq_false (by rw [sizeLine_eq]; omega)
  · by_cases k2 : k < 1
    · rw [if_pos k2]
      obtain rfl : k = 0 := by omega
      exact ⟨by rw [sizeLine_eq]; decide, .str _, H, I.tok _, ⟨_, rfl⟩, q⟩
    · rw [if_neg k2]
      by_cases c : (k == 1 || a.length == 0) = true
      · rw [if_pos c]
        have e : (⟨(List.replicate k.toNat a.cps.toList).flatten.toArray⟩ : Str) = a := by
          rw [Bool.or_eq_true, beq_iff_eq, beq_iff_eq] at c
          rcases c with rfl | c
          · rw [show Int.toNat 1 = 1 from rfl, List.replicate_succ, List.flatten_cons, List.replicate_zero, List.flatten_nil, List.append_nil]
          · have e0 : a.cps.toList = [] := List.eq_nil_of_length_eq_zero (by rw [el, c])
            have e1 : (List.replicate k.toNat ([] : List Nat)).flatten = [] := by simp
            rw [e0, e1, ← e0]
        rw [e] at q
        exact ⟨.str a, H, I, ⟨_, rfl⟩, q⟩
      · rw [if_neg c]
        have e : (List.replicate k.toNat a.cps).foldl (fun x1 x2 => x1 ++ x2) #[] = (List.replicate k.toNat a.cps.toList).flatten.toArray := by
          have := fold_times a.cps k.toNat #[]
          rw [show (#[] : Array Nat).toList = [] from rfl, List.nil_append] at this
          rw [← this, Array.toArray_toList]
        rw [e]
        refine ⟨?_, .str _, H, I.tok _, ⟨_, rfl⟩, q⟩
        show (List.replicate k.toNat a.cps.toList).flatten.toArray.size ≤ _
        rw [List.size_toArray, List.length_flatten, List.map_replicate, List.sum_replicate_nat, el, sizeLine_eq, Nat.mul_comm]
        omega
end
end MP

namespace MP
open PySem L2
open PyProof.Rows hiding St

structure Cxt (X : Cx) (T : Tab) : Prop where
  hK : X.K = T.K
  calm : X.calm = true
  units : X.A.units + 65 < cLine
  exT : ∀ c ∈ T.exs, ExcC X.K (T.exc c)
  exI : ∀ c ∈ T.exs, ∀ d ∈ T.exs, PySem.W.kitOne X.K (.ref (T.exc c)) (.ref (T.exc d)) = some (c == d)
  exV : ∀ c ∈ T.exs, PySem.W.kitOne X.K (.ref (T.exc c)) (.type "ValueError") = some true
  exN : ∀ c ∈ T.exs, PySem.W.kitOne X.K (.type "NoneType") (.ref (T.exc c)) = some false
  exF : ∀ c ∈ T.exs, PySem.W.exmOne X.K (.ref (T.exc c)) (.ref T.flt) = some true
  exM : ∀ c ∈ T.exs, PySem.W.excIn X.K (T.exc c) [.type "ValueError", .type "Exception", .type "BaseException", .type "object"] "ValueError.__new__" = true ∧ PySem.W.keepIn X.K (.ref (T.exc c)) = true ∧ PySem.W.typeIn X.K (.ref (T.exc c)) = some (.type "type")
  dig : PySem.W.nsIn X.K cStatics "sys.int_max_str_digits" = some none

/-- what is wanted of a value by an operation that raises nothing -/
def PoV (T : Tab) (O : List Addr) (H : Hp) (Q : VK) : R D → Prop
  | .ok d => ∀ v H', Ex H H' → DV T (hide O H') d v → Q v H'
  | _ => False
def PoB (H : Hp) (Q : Bool → Prop) : R Bool → Prop
  | .ok b => Q b
  | _ => False
def rB (T : Tab) (g : D → D → R D) : R2 := fun x y H Q => ∃ O dx dy, (∀ a ∈ O, H a ≠ none) ∧ DV T (hide O H) dx x ∧ DV T (hide O H) dy y ∧ PoV T O H Q (g dx dy)
def rC (T : Tab) (g : D → D → R Bool) : R2 := fun x y H Q => ∃ O dx dy, (∀ a ∈ O, H a ≠ none) ∧ DV T (hide O H) dx x ∧ DV T (hide O H) dy y ∧ PoB H (fun b => Q (.bl b) H) (g dx dy)
def rF (T : Tab) (g : D → R D) : V → Hp → VK → Prop := fun x H Q => ∃ O dx, (∀ a ∈ O, H a ≠ none) ∧ DV T (hide O H) dx x ∧ PoV T O H Q (g dx)
theorem strlen (x : Str) : x.cps.toList.length = x.length := Array.length_toList
theorem line_eq : line = sizeLine := sizeLine_eq.symm
section
variable {T : Tab} {X : Cx}

theorem PoV.int {O : List Addr} {H : Hp} {Q : VK} {i : Int} (p : PoV T O H Q (.ok (.int i))) : Q (.int i) H := p _ H (Ex.refl H) (.int i)
theorem PoV.bl {O : List Addr} {H : Hp} {Q : VK} {i : Bool} (p : PoV T O H Q (.ok (.bl i))) : Q (.bl i) H := p _ H (Ex.refl H) (.bl i)
theorem PoV.str {O : List Addr} {H : Hp} {Q : VK} {l : List Nat} {x : Str} (p : PoV T O H Q (.ok (.str l))) (e : x.cps.toList = l) : Q (.str x) H := by
  subst e
  exact p _ H (Ex.refl H) (.str x)
/-- a new list -/
theorem PoV.lst {O : List Addr} {H : Hp} {Q : VK} {ds : List D} {vs : List V} {a : Addr} (l : ∀ a ∈ O, H a ≠ none) (p : PoV T O H Q (.ok (.lst ds))) (r : DVs T (hide O H) ds vs) (n : H a = none) : Q (.ref a) (upd H a (.lst vs)) :=
  p _ _ (Ex.new n) (.lst (SqL.of (by rw [hide_out (live_new l n)]; exact upd_same)) (r.mono (hide_mono (Ex.new n))))
theorem PoV.tup {O : List Addr} {H : Hp} {Q : VK} {ds : List D} {vs : List V} {a : Addr} (l : ∀ a ∈ O, H a ≠ none) (p : PoV T O H Q (.ok (.tup ds))) (r : DVs T (hide O H) ds vs) (n : H a = none) : Q (.ref a) (upd H a (.tup vs)) :=
  p _ _ (Ex.new n) (.tup (SqT.of (by rw [hide_out (live_new l n)]; exact upd_same)) (r.mono (hide_mono (Ex.new n))))

/-! ### arithmetic -/
theorem op_catL : OpR X (binaryOp .Add) (fun x y H Q => ∃ l b xs zs, x = .ref l ∧ y = .ref b ∧ SqL X.K H l xs ∧ SqL X.K H b zs ∧ xs.length + zs.length ≤ sizeLine ∧ ∀ p, H p = none → Q (.ref p) (upd H p (.lst (xs ++ zs)))) := by
  intro pins s σ H x y v u Q I rx ry h
  obtain ⟨l, b, xs, zs, rfl, rfl, hH, hB, hz, q⟩ := h
  cases rx
  cases ry
  obtain ⟨its, r, ⟨⟨oc, od, dt, sl⟩, n, e, hc, hd, hdt⟩, _⟩ := I.list hH
  obtain ⟨its2, r2, ⟨⟨oc2, od2, dt2, sl2⟩, n2, e2, hc2, hd2, hdt2⟩, _⟩ := I.list hB
  simp only at hc hd hdt hc2 hd2 hdt2
  subst hc hd hdt hc2 hd2 hdt2
  have h1 := r.length
  have h2 := r2.length
  have ea : its.toArray ++ its2.toArray = (its ++ its2).toArray := by simp
  refine concat_meets ⟨_, e, rfl⟩ ⟨_, e2, rfl⟩ noFill_list_add seq_list_add PySem.F.slot_list_add PySem.F.entry_list_add (PySem.F.args_list_add_2 _ _) (list_addW l b its.toArray its2.toArray n n2 none none sl sl2 (by simp; omega)) ⟨e, e2, ?_⟩
  rw [ea]
  exact ⟨.ref _, _, I.lnew (t' := s.toks) (r.append r2) (by rw [List.length_append]; omega), rfl, q _ I.fresh⟩
theorem o_add (C : Cxt X T) : OpR X (binaryOp .Add) (rB T addD) := by
  rintro pins s σ H x y v u Q I rx ry ⟨O, dx, dy, l, hx, hy, p⟩
  cases hx with
  | int i => cases hy with
    | int j => exact op_add pins s σ H _ _ v u Q I rx ry ⟨i, j, rfl, rfl, p.int⟩
    | _ => exact False.elim p
  | str a => cases hy with
    | str b =>
      simp only [addD] at p
      split at p
      · rename_i h
        rw [strlen, strlen, line_eq] at h
        refine op_add_str pins s σ H _ _ v u Q I rx ry ⟨a, b, rfl, rfl, h, p.str ?_⟩
        show (a.cps ++ b.cps).toList = _
        simp
      · exact False.elim p
    | _ => exact False.elim p
  | lst h r => cases hy with
    | lst h2 r2 =>
      simp only [addD] at p
      split at p
      · rename_i hl
        rw [r.length, r2.length, line_eq] at hl
        exact op_catL pins s σ H _ _ v u Q I rx ry ⟨_, _, _, _, rfl, rfl, by rw [C.hK]; exact ex_sql hide_ex h, by rw [C.hK]; exact ex_sql hide_ex h2, hl, fun a n => p.lst l (r.append r2) n⟩
      · exact False.elim p
    | _ => exact False.elim p
  | tup h r => cases hy with
    | tup h2 r2 =>
      simp only [addD] at p
      split at p
      · rename_i hl
        rw [r.length, r2.length, line_eq] at hl
        refine op_catT pins s σ H _ _ v u Q I rx ry ⟨_, _, _, _, rfl, rfl, by rw [C.hK]; exact ex_sqt hide_ex h, by rw [C.hK]; exact ex_sqt hide_ex h2, ?_, hl.2.2, ?_, fun _ a n => p.tup l (r.append r2) n⟩
        · intro z
          rw [z] at hl
          exact absurd hl.1 (by decide)
        · intro z
          rw [z] at hl
          exact absurd hl.2.1 (by decide)
      · exact False.elim p
    | _ => exact False.elim p
  | _ => cases hy <;> exact False.elim p
theorem o_int2 {op : Operator} {f : Int → Int → Int} (h : OpR X (binaryOp op) (rI0 fun i j => .int (f i j))) : OpR X (binaryOp op) (rB T (int2 f)) := by
  rintro pins s σ H x y v u Q I rx ry ⟨O, dx, dy, l, hx, hy, p⟩
  cases hx with
  | int i => cases hy with
    | int j => exact h pins s σ H _ _ v u Q I rx ry ⟨i, j, rfl, rfl, p.int⟩
    | _ => exact False.elim p
  | _ => cases hy <;> exact False.elim p
theorem DVs.rep {T : Tab} {H : Hp} {ds : List D} {vs : List V} (r : DVs T H ds vs) : ∀ k : Nat, DVs T H (List.replicate k ds).flatten (List.replicate k vs).flatten
  | 0 => .nil
  | k + 1 => by
    rw [List.replicate_succ, List.flatten_cons, List.replicate_succ, List.flatten_cons]
    exact r.append (DVs.rep r k)
theorem op_repL : OpR X (binaryOp .Mult) (fun x y H Q => ∃ l k xs, x = .ref l ∧ y = .int k ∧ SqL X.K H l xs ∧ -(2 ^ 63) ≤ k ∧ k < 2 ^ 63 ∧ xs.length * k.toNat ≤ sizeLine ∧ ∀ p, H p = none → Q (.ref p) (upd H p (.lst (List.replicate k.toNat xs).flatten))) := by
  intro pins s σ H x y v u Q I rx ry h
  obtain ⟨l, k, xs, rfl, rfl, hH, h1, h2, hz, q⟩ := h
  cases rx
  obtain ⟨t, rfl⟩ := ry
  obtain ⟨its, r, ⟨⟨oc, od, dt, sl⟩, n, e, hc, hd, hdt⟩, _⟩ := I.list hH
  simp only at hc hd hdt
  subst hc hd hdt
  have hl := r.length
  have hlen : its.toArray.size * k.toNat ≤ sizeLine := by rw [List.size_toArray, ← hl]; exact hz
  have hcap : ¬ its.toArray.size * k.toNat > (2 ^ 63 - 1) / 8 := by
    have : (sizeLine : Nat) ≤ (2 ^ 63 - 1) / 8 := by decide
    omega
  have hfit : ¬ (!Builtin.List.listFitsIndex k) = true := by
    rw [fitsIndex_both h1 h2]
    exact Bool.false_ne_true
  have hlong : ¬ Builtin.List.listTooLong (its.toArray.size * k.toNat) = true := by
    rw [notLongL hlen]
    exact Bool.false_ne_true
  have hnew : List.foldl (fun x1 x2 => x1 ++ x2) #[] (List.replicate (if its.toArray.isEmpty = true then 0 else k.toNat) its.toArray) = (List.replicate k.toNat its).flatten.toArray := by
    have f0 : ∀ m : Nat, List.foldl (fun x1 x2 => x1 ++ x2) #[] (List.replicate m its.toArray) = (List.replicate m its).flatten.toArray := fun m => by
      have := foldl_rep its m []
      rw [List.nil_append] at this
      exact this
    rw [f0]
    cases its with
    | nil => simp
    | cons a r' => rw [if_neg (by simp)]
  refine wpAny_binaryOp_repeat_ref (T := "list") (U := "int") (by decide) ⟨_, e, rfl⟩ (fun s' => typeIs_int s' k t) noFill_list_mul F.fills_int_mul F.slot_int_rmul repeat_list F.slot_int_index.lookup
    (call_meets F.slot_int_rmul (typeIs_int s k t) F.entry_int_rmul (F.args_int_rmul_2 _ _) (lm_int_rmul_list_any k t l its.toArray n none sl)
      ⟨e, rfl, ⟨_, e, rfl⟩, call_meets F.slot_list_mul ⟨_, e, rfl⟩ F.entry_list_mul (F.args_list_mul_2 _ _) (lm_list_mul_any l its.toArray n none sl k t hfit hcap hlong) ⟨e, ?_⟩⟩)
  rw [hnew]
  exact ⟨.ref _, _, I.lnew (t' := s.toks) (r.rep k.toNat) (by rw [PyProof.Rows.lm_len_rep_flat, Nat.mul_comm]; exact hz), rfl, q _ I.fresh⟩
theorem o_mul (C : Cxt X T) : OpR X (binaryOp .Mult) (rB T mulD) := by
  rintro pins s σ H x y v u Q I rx ry ⟨O, dx, dy, l, hx, hy, p⟩
  cases hx with
  | int i => cases hy with
    | int j =>
      simp only [mulD] at p
      split at p
      · rename_i h
        refine op_mulX pins s σ H _ _ v u Q I rx ry ⟨i, j, rfl, rfl, ?_, p.int⟩
        show (Builtin.Int.intBits i : Int) + (Builtin.Int.intBits j : Int) ≤ 134217728
        unfold bits at h
        omega
      · exact False.elim p
    | _ => exact False.elim p
  | lst h r => cases hy with
    | int k =>
      simp only [mulD] at p
      split at p
      · rename_i hk
        have e63 : (2 : Int) ^ 63 = 9223372036854775808 := by decide
        refine op_repL pins s σ H _ _ v u Q I rx ry ⟨_, k, _, rfl, rfl, by rw [C.hK]; exact ex_sql hide_ex h, by rw [e63]; omega, by rw [e63]; omega, by rw [← r.length]; have := hk.2.2; rw [line_eq] at this; exact this, fun a n => p.lst l (r.rep _) n⟩
      · exact False.elim p
    | _ => exact False.elim p
  | str z => cases hy with
    | int k =>
      simp only [mulD] at p
      split at p
      · rename_i hk
        refine op_repS pins s σ H _ _ v u Q I rx ry ⟨z, k, rfl, rfl, hk.1, hk.2.1, by have := hk.2.2; rw [strlen, line_eq] at this; exact this, p.str rfl⟩
      · exact False.elim p
    | _ => exact False.elim p
  | _ => cases hy <;> exact False.elim p
theorem op_fdivP : OpR X (binaryOp .FloorDiv) (rI CDivP fun i j => .int (i / j)) := opI fun i j _ _ _ _ _ hc q =>
  floordiv_int (by have := hc.1; omega) (by rw [Int.fdiv_eq_ediv_of_nonneg i (by have := hc.1; omega)]; exact q) (.inl hc.2)
theorem o_fdiv : OpR X (binaryOp .FloorDiv) (rB T fdivD) := by
  rintro pins s σ H x y v u Q I rx ry ⟨O, dx, dy, l, hx, hy, p⟩
  cases hx with
  | int i => cases hy with
    | int j =>
      simp only [fdivD] at p
      split at p
      · rename_i h
        exact op_fdivP pins s σ H _ _ v u Q I rx ry ⟨i, j, rfl, rfl, h, p.int⟩
      · exact False.elim p
    | _ => exact False.elim p
  | _ => cases hy <;> exact False.elim p
theorem o_mod : OpR X (binaryOp .Mod) (rB T modD) := by
  rintro pins s σ H x y v u Q I rx ry ⟨O, dx, dy, l, hx, hy, p⟩
  cases hx with
  | int i => cases hy with
    | int j =>
      simp only [modD] at p
      split at p
      · rename_i h
        exact op_mod pins s σ H _ _ v u Q I rx ry ⟨i, j, rfl, rfl, h, p.int⟩
      · exact False.elim p
    | _ => exact False.elim p
  | _ => cases hy <;> exact False.elim p
theorem o_shl : OpR X (binaryOp .LShift) (rB T shlD) := by
  rintro pins s σ H x y v u Q I rx ry ⟨O, dx, dy, l, hx, hy, p⟩
  cases hx with
  | int i => cases hy with
    | int j =>
      simp only [shlD] at p
      split at p
      · rename_i h
        refine op_shlW pins s σ H _ _ v u Q I rx ry ⟨i, j, rfl, rfl, ⟨h.1, ?_⟩, p.int⟩
        have e : (2 : Int) ^ 27 = 134217728 := by decide
        rw [e]
        exact h.2
      · exact False.elim p
    | _ => exact False.elim p
  | _ => cases hy <;> exact False.elim p
theorem o_shr : OpR X (binaryOp .RShift) (rB T shrD) := by
  rintro pins s σ H x y v u Q I rx ry ⟨O, dx, dy, l, hx, hy, p⟩
  cases hx with
  | int i => cases hy with
    | int j =>
      simp only [shrD] at p
      split at p
      · rename_i h
        exact op_shr pins s σ H _ _ v u Q I rx ry ⟨i, j, rfl, rfl, h, p.int⟩
      · exact False.elim p
    | _ => exact False.elim p
  | _ => cases hy <;> exact False.elim p
theorem o_pow : OpR X (binaryOp .Pow) (rB T powD) := by
  rintro pins s σ H x y v u Q I rx ry ⟨O, dx, dy, l, hx, hy, p⟩
  cases hx with
  | int i => cases hy with
    | int j =>
      simp only [powD] at p
      split at p
      · rename_i h
        exact op_pow pins s σ H _ _ v u Q I rx ry ⟨i, j, rfl, rfl, h, p.int⟩
      · exact False.elim p
    | _ => exact False.elim p
  | _ => cases hy <;> exact False.elim p
def opB : BOp → Operator
  | .add => .Add
  | .sub => .Sub
  | .mul => .Mult
  | .fdiv => .FloorDiv
  | .mod => .Mod
  | .shl => .LShift
  | .shr => .RShift
  | .pow => .Pow
  | .and => .BitAnd
  | .or => .BitOr
  | .xor => .BitXor
theorem o_bin (C : Cxt X T) : ∀ o : BOp, OpR X (binaryOp (opB o)) (rB T (binD o))
  | .add => o_add C
  | .sub => o_int2 op_sub
  | .mul => o_mul C
  | .fdiv => o_fdiv
  | .mod => o_mod
  | .shl => o_shl
  | .shr => o_shr
  | .pow => o_pow
  | .and => o_int2 op_and
  | .or => o_int2 op_or
  | .xor => o_int2 op_xor
theorem o_neg : UnR X (unaryOp .USub) (rF T negD) := by
  rintro pins s σ H x v Q I rx ⟨O, dx, l, hx, p⟩
  cases hx with
  | int i => exact un_neg pins s σ H _ v Q I rx ⟨i, rfl, p.int⟩
  | _ => exact False.elim p

/-! ### comparisons -/
theorem o_cmpI {op : CmpOp} {f : Int → Int → Bool} (h : OpR X (compareOp op) (rI0 fun i j => .bl (f i j))) : OpR X (compareOp op) (rC T (cmpI f)) := by
  rintro pins s σ H x y v u Q I rx ry ⟨O, dx, dy, l, hx, hy, p⟩
  cases hx with
  | int i => cases hy with
    | int j => exact h pins s σ H _ _ v u Q I rx ry ⟨i, j, rfl, rfl, p⟩
    | _ => exact False.elim p
  | _ => cases hy <;> exact False.elim p
theorem PoB.not {H : Hp} {Q : Bool → Prop} {r : R Bool} (p : PoB H Q (notR r)) : PoB H (fun b => Q (!b)) r := by
  cases r with
  | ok b => exact p
  | ex c => exact p
  | no => exact p
theorem dp_h {d : D} {v : V} {O : List Addr} {H : Hp} (h : DV T (hide O H) d v) (p : D.plain 60 d = true) : Dp T.K H v d.py := dp_of (h.mono hide_ex) p
theorem dic_there {pins : List (Addr × Obj)} {σ : L2.St} {H : Hp} {s : Shared} (I : Inv X pins σ H s) {a : Addr} (h : H a = some (.dK [])) : ∃ o es n, s.heap.get? a = some o ∧ o.cls = .type "dict" ∧ o.data = .dict es n := by
  obtain ⟨_, _, vs, _, o, es, ep, h1, h2, h3, _⟩ := (show ObjOk X.prog X.w H s.heap a (.dK []) from I.hok a _ h)
  exact ⟨o, es, ep, h1, h2.1, h3⟩
theorem dic_cases {x y : D} (h : ((x.isDic && y.isStr) || (x.isStr && y.isDic)) = true) : (x = .dic ∧ ∃ z, y = .str z) ∨ ((∃ z, x = .str z) ∧ y = .dic) := by
  cases x <;> cases y <;> simp [D.isDic, D.isStr] at h ⊢
theorem rc_dicstr {pins : List (Addr × Obj)} {σ : L2.St} {H : Hp} {s : Shared} (I : Inv X pins σ H s) (hu : X.A.units < cLine) {O : List Addr} {dx dy : D} {x y : V} {v u : Value} (rx : RelV x v) (ry : RelV y u) (hx : DV T (hide O H) dx x) (hy : DV T (hide O H) dy y)
    (h : ((dx.isDic && dy.isStr) || (dx.isStr && dy.isDic)) = true) : PySem.SeqAt.RcAt X.A s v u false := by
  rcases dic_cases h with ⟨rfl, z, rfl⟩ | ⟨⟨z, rfl⟩, rfl⟩
  · cases hx with
    | dic ha =>
      cases hy with
      | str z =>
        obtain ⟨t, rfl⟩ := ry
        cases rx
        obtain ⟨o, es, n, h1, h2, h3⟩ := dic_there I (hide_ex _ _ ha)
        exact PySem.SeqAt.RcAt.dict_str z t h1 h2 h3 hu
  · cases hy with
    | dic ha =>
      cases hx with
      | str z =>
        obtain ⟨t, rfl⟩ := rx
        cases ry
        obtain ⟨o, es, n, h1, h2, h3⟩ := dic_there I (hide_ex _ _ ha)
        exact PySem.SeqAt.RcAt.str_dict z t h1 h2 h3 hu
theorem dic_in {pins : List (Addr × Obj)} {σ : L2.St} {H : Hp} {s : Shared} (I : Inv X pins σ H s) (hu : X.A.units + 65 < cLine) {O : List Addr} {dx : D} {ys : List D} {x : V} {a : Addr} {vs : List V} {v : Value} (hK : X.K = T.K) (rx : RelV x v) (hx : DV T (hide O H) dx x) (hl : SqL T.K (hide O H) a vs) (r : DVs T (hide O H) ys vs) (h1 : dx.isDic = true) (h2 : ys.all D.isStr = true) :
    ∃ items, s.heap.IsList a items ∧ ∀ y, y ∈ items → PySem.SeqAt.EqAt X.A.in1 s y v false := by
  obtain ⟨its, rv, p, _⟩ := I.list (show SqL X.K H a vs by rw [hK]; exact ex_sql hide_ex hl)
  refine ⟨its.toArray, p.isList, fun y hy => ?_⟩
  cases dx with
  | dic =>
    cases hx with
    | dic ha =>
      cases rx
      obtain ⟨o, es, n, k1, k2, k3⟩ := dic_there I (hide_ex _ _ ha)
      have hy : y ∈ its := by simpa using hy
      obtain ⟨i, hi, rfl⟩ := List.mem_iff_getElem.mp hy
      have hvl : i < vs.length := by rw [rv.length]; exact hi
      obtain ⟨w, hw⟩ : ∃ w, vs[i]? = some w := ⟨_, List.getElem?_eq_getElem hvl⟩
      obtain ⟨q, hq, rw⟩ := rv.get hw
      rw [List.getElem?_eq_getElem hi] at hq
      cases hq
      obtain ⟨d, hd, dw⟩ := r.getV hw
      have hs := List.all_eq_true.mp h2 d (List.mem_of_getElem? hd)
      cases d with
      | str z =>
        cases dw with
        | str z =>
          obtain ⟨t, e⟩ := (show ∃ t, its[i] = Value.str z t from rw)
          rw [e]
          exact PySem.SeqAt.EqAt.str_dict z t k1 k2 k3 (by show X.A.units + 1 < cLine; omega)
      | _ => cases hs
  | _ => cases h1
theorem o_eq (C : Cxt X T) : OpR X (compareOp .Eq) (rC T eqE) := by
  rintro pins s σ H x y v u Q I rx ry ⟨O, dx, dy, l, hx, hy, p⟩
  unfold eqE at p
  split at p
  · rename_i h
    rw [Bool.and_eq_true] at h
    refine op_eqD (by have := C.units; omega) pins s σ H _ _ v u Q I rx ry ⟨dx.py, dy.py, ?_, ?_, shaped_of h.1, shaped_of h.2, ?_⟩
    · rw [C.hK]; exact dp_h hx h.1
    · rw [C.hK]; exact dp_h hy h.2
    · rw [eqv_py 60 60 dx dy h.1 h.2]; exact p
  · split at p
    · rename_i h
      exact rc_dicstr I (by have := C.units; omega) rx ry hx hy h _ _ _ _ ⟨.bl false, H, I, rfl, p⟩
    · exact False.elim p
theorem o_ne (C : Cxt X T) : OpR X (compareOp .NotEq) (rC T fun x y => notR (eqD x y)) := by
  rintro pins s σ H x y v u Q I rx ry ⟨O, dx, dy, l, hx, hy, p⟩
  have p := PoB.not p
  unfold eqD at p
  split at p
  · rename_i h
    rw [Bool.and_eq_true] at h
    refine op_neD (by have := C.units; omega) pins s σ H _ _ v u Q I rx ry ⟨dx.py, dy.py, ?_, ?_, shaped_of h.1, shaped_of h.2, ?_⟩
    · rw [C.hK]; exact dp_h hx h.1
    · rw [C.hK]; exact dp_h hy h.2
    · rw [eqv_py 60 60 dx dy h.1 h.2]; exact p
  · exact False.elim p
theorem dec_beq (a b : Bool) : decide (a = b) = (a == b) := by cases a <;> cases b <;> rfl
theorem o_is : OpR X (compareOp .Is) (rC T isD) := by
  rintro pins s σ H x y v u Q I rx ry ⟨O, dx, dy, l, hx, hy, p⟩
  cases hy with
  | non => cases hx <;> exact op_isN pins s σ H _ _ v u Q I rx ry ⟨rfl, p⟩
  | bl b => cases hx with
    | bl a => exact op_isBl pins s σ H _ _ v u Q I rx ry ⟨a, b, rfl, rfl, by rw [dec_beq]; exact p⟩
    | _ => exact False.elim p
  | _ => cases hx <;> exact False.elim p
theorem o_isn : OpR X (compareOp .IsNot) (rC T fun x y => notR (isD x y)) := by
  rintro pins s σ H x y v u Q I rx ry ⟨O, dx, dy, l, hx, hy, p⟩
  cases hy with
  | non => cases hx <;> exact op_notN pins s σ H _ _ v u Q I rx ry ⟨rfl, p⟩
  | bl b => cases hx with
    | bl a => exact op_notBl pins s σ H _ _ v u Q I rx ry ⟨a, b, rfl, rfl, by rw [dec_beq]; exact p⟩
    | _ => exact False.elim p
  | _ => cases hx <;> exact False.elim p
theorem shaped_l {ys : List D} (h : plains 59 ys = true) : SeqAt.shaped (.list (pys ys)) = true := by
  have := shaped_of (d := .lst ys) (by simp only [D.plain]; exact h)
  simpa only [D.py] using this
theorem str1 {z : Str} {c : Nat} (h : z.cps.toList = [c]) : z = ⟨#[c]⟩ := by
  obtain ⟨a⟩ := z
  have : a = #[c] := by
    apply Array.ext'
    exact h
  rw [this]
theorem flat_of {H : Hp} {d : D} {v : V} (h : DV T H d v) (p : D.plain 0 d = true) : flatV v = true := by
  cases h <;> first | rfl | (simp [D.plain] at p)
theorem flats_of {H : Hp} : ∀ {ds : List D} {vs : List V}, DVs T H ds vs → plains 0 ds = true → vs.all flatV = true
  | _, _, .nil, _ => rfl
  | _, _, .cons h r, p => by
    simp only [plains, Bool.and_eq_true] at p
    rw [List.all_cons, flat_of h p.1, flats_of r p.2]
    rfl
theorem eqV_of {H : Hp} {d e : D} {v w : V} (h : DV T H d v) (k : DV T H e w) (p : D.plain 0 d = true) (q : D.plain 0 e = true) : eqV v w = D.eqv d e := by
  cases h <;> first | (simp [D.plain] at p; done) | (cases k <;> first | (simp [D.plain] at q; done) | (simp [eqV, D.eqv]; done) | skip)
  rename_i x y
  simp only [eqV, D.eqv]
  by_cases z : x = y
  · subst z; simp
  · have z2 : ¬ x.cps.toList = y.cps.toList := fun q => z (by obtain ⟨a⟩ := x; obtain ⟨b⟩ := y; simp at q; rw [q])
    rw [beq_eq_false_iff_ne.mpr z2, beq_eq_false_iff_ne.mpr z]
theorem inV_of {H : Hp} {d : D} {w : V} (k : DV T H d w) (q : D.plain 0 d = true) : ∀ {ds : List D} {vs : List V}, DVs T H ds vs → plains 0 ds = true → inV w vs = ds.any fun y => D.eqv y d
  | _, _, .nil, _ => rfl
  | _, _, .cons h r, p => by
    simp only [plains, Bool.and_eq_true] at p
    have ih := inV_of k q r p.2
    unfold inV at ih ⊢
    rw [List.any_cons, List.any_cons, eqV_of h k p.1 q, ih]
theorem o_in (C : Cxt X T) : OpR X (compareOp .In) (rC T inD) := by
  rintro pins s σ H x y v u Q I rx ry ⟨O, dx, dy, l, hx, hy, p⟩
  cases hy with
  | @lst ys a vs h r =>
    simp only [inD] at p
    split at p
    · rename_i hp
      rw [Bool.and_eq_true] at hp
      refine op_inD C.units pins s σ H _ _ v u Q I rx ry ⟨dx.py, pys ys, ?_, ?_, shaped_of hp.1, shaped_l hp.2, ?_⟩
      · rw [C.hK]; exact dp_h hx hp.1
      · rw [C.hK]; exact .lst (ex_sql hide_ex h) (dps_of (r.mono hide_ex) hp.2)
      · rw [any_py 59 60 ys dx hp.2 hp.1]; exact p
    · split at p
      · rename_i hp
        rw [Bool.and_eq_true] at hp
        obtain ⟨items, g1, g2⟩ := dic_in I C.units C.hK rx hx h r hp.1 hp.2
        cases ry
        refine PySem.SeqAt.in_listAt (fun _ => false) g1 g2 ?_
        rw [show items.any (fun _ => false) = false by simp]
        exact ⟨.bl _, H, I, rfl, p⟩
      · exact False.elim p
  | str z => cases hx with
    | str w =>
      simp only [inD] at p
      split at p
      · rename_i c e
        have e := str1 (D.str.inj e)
        exact op_in_sign pins s σ H _ _ v u Q I rx ry ⟨c, z, by rw [e], rfl, p⟩
      · exact False.elim p
    | _ => exact False.elim p
  | @tup ys a vs h r =>
    simp only [inD] at p
    split at p
    · rename_i hp
      rw [Bool.and_eq_true] at hp
      refine op_in_seq pins s σ H _ _ v u Q I rx ry ⟨a, vs, rfl, .inr (by rw [C.hK]; exact ex_sqt hide_ex h), flat_of hx hp.1, flats_of r hp.2, ?_⟩
      rw [inV_of hx hp.1 r hp.2]
      exact p
    · exact False.elim p
  | _ => cases hx <;> exact False.elim p
theorem o_nin (C : Cxt X T) : OpR X (compareOp .NotIn) (rC T fun x y => notR (inD x y)) := by
  rintro pins s σ H x y v u Q I rx ry ⟨O, dx, dy, l, hx, hy, p⟩
  have p := PoB.not p
  cases hy with
  | @lst ys a vs h r =>
    simp only [inD] at p
    split at p
    · rename_i hp
      rw [Bool.and_eq_true] at hp
      refine op_notInD C.units pins s σ H _ _ v u Q I rx ry ⟨dx.py, pys ys, ?_, ?_, shaped_of hp.1, shaped_l hp.2, ?_⟩
      · rw [C.hK]; exact dp_h hx hp.1
      · rw [C.hK]; exact .lst (ex_sql hide_ex h) (dps_of (r.mono hide_ex) hp.2)
      · rw [any_py 59 60 ys dx hp.2 hp.1]; exact p
    · split at p
      · rename_i hp
        rw [Bool.and_eq_true] at hp
        obtain ⟨items, g1, g2⟩ := dic_in I C.units C.hK rx hx h r hp.1 hp.2
        cases ry
        refine PySem.SeqAt.notIn_listAt (fun _ => false) g1 g2 ?_
        rw [show items.any (fun _ => false) = false by simp]
        exact ⟨.bl _, H, I, rfl, p⟩
      · exact False.elim p
  | str z => cases hx with
    | str w =>
      simp only [inD] at p
      split at p
      · rename_i c e
        have e := str1 (D.str.inj e)
        exact op_notIn_sign pins s σ H _ _ v u Q I rx ry ⟨c, z, by rw [e], rfl, p⟩
      · exact False.elim p
    | _ => exact False.elim p
  | @tup ys a vs h r =>
    simp only [inD] at p
    split at p
    · rename_i hp
      rw [Bool.and_eq_true] at hp
      refine op_notIn_seq pins s σ H _ _ v u Q I rx ry ⟨a, vs, rfl, .inr (by rw [C.hK]; exact ex_sqt hide_ex h), flat_of hx hp.1, flats_of r hp.2, ?_⟩
      rw [inV_of hx hp.1 r hp.2]
      exact p
    · exact False.elim p
  | _ => cases hx <;> exact False.elim p
def opC : COp → CmpOp
  | .eq => .Eq
  | .ne => .NotEq
  | .lt => .Lt
  | .le => .LtE
  | .gt => .Gt
  | .ge => .GtE
  | .is => .Is
  | .isn => .IsNot
  | .in_ => .In
  | .nin => .NotIn
theorem o_cmp (C : Cxt X T) : ∀ o : COp, OpR X (compareOp (opC o)) (rC T (cmpD o))
  | .eq => o_eq C
  | .ne => o_ne C
  | .lt => o_cmpI op_lt
  | .le => o_cmpI op_le
  | .gt => o_cmpI op_gt
  | .ge => o_cmpI op_ge
  | .is => o_is
  | .isn => o_isn
  | .in_ => o_in C
  | .nin => o_nin C

/-! ### places, slices -/
theorem place_ix (n : Nat) (i : Int) : place n i = ixN n i := rfl
theorem o_ix (C : Cxt X T) : IxR X (rB T ixD) := by
  rintro e1 e2 pins s σ H x y v u Q I rx ry ⟨O, dx, dy, l, hx, hy, p⟩ hs
  cases hy with
  | int i => cases hx with
    | @lst xs a vs h r =>
      simp only [ixD] at p
      split at p
      · rename_i d e
        rw [place_ix, Option.bind_eq_some_iff] at e
        obtain ⟨j, e1, e2⟩ := e
        obtain ⟨w, hw, dw⟩ := r.get e2
        refine ix_list _ _ pins s σ H _ _ v u Q I rx ry ⟨a, vs, i, w, rfl, rfl, by rw [C.hK]; exact ex_sql hide_ex h, ?_, p _ H (Ex.refl H) dw⟩ hs
        unfold atI
        rw [← r.length, e1]
        exact hw
      · exact False.elim p
    | @tup xs a vs h r =>
      simp only [ixD] at p
      split at p
      · rename_i d e
        rw [place_ix, Option.bind_eq_some_iff] at e
        obtain ⟨j, e1, e2⟩ := e
        obtain ⟨w, hw, dw⟩ := r.get e2
        refine ix_tup _ _ pins s σ H _ _ v u Q I rx ry ⟨a, vs, i, w, rfl, rfl, by rw [C.hK]; exact ex_sqt hide_ex h, ?_, p _ H (Ex.refl H) dw⟩ hs
        unfold atI
        rw [← r.length, e1]
        exact hw
      · exact False.elim p
    | str z =>
      simp only [ixD] at p
      split at p
      · rename_i hl
        split at p
        · rename_i c e
          rw [place_ix, Option.bind_eq_some_iff] at e
          obtain ⟨j, e1, e2⟩ := e
          refine ix_str _ _ pins s σ H _ _ v u Q I rx ry ⟨z, i, c, rfl, rfl, by rw [← line_eq, ← strlen]; exact hl, ?_, p.str rfl⟩ hs
          unfold atI
          rw [e1]
          exact e2
        · exact False.elim p
      · exact False.elim p
    | _ => exact False.elim p
  | _ => cases hx <;> exact False.elim p
def rS (T : Tab) : V → Option Int → Option Int → Hp → VK → Prop := fun x lo hi H Q => ∃ O dx, (∀ a ∈ O, H a ≠ none) ∧ DV T (hide O H) dx x ∧ PoV T O H Q (slcD dx lo hi)
theorem cut_V {α : Type} (xs : List α) (lo hi : Option Int) : cutL xs lo hi = (xs.drop (HT.sIx xs.length 0 lo)).take (HT.sIx xs.length xs.length hi - HT.sIx xs.length 0 lo) := by
  have e : ∀ (n d : Nat) (o : Option Int), bnd n d o = HT.sIx n d o := fun n d o => by cases o <;> rfl
  unfold cutL
  rw [e, e]
theorem o_slc (C : Cxt X T) : SlR X (rS T) := by
  rintro pins s σ H x v vl vu lo hi sl Q I rx hs pl pu ⟨O, dx, l, hx, p⟩
  cases hx with
  | @lst xs a vs h r =>
    refine sl_list pins s σ H _ v vl vu lo hi sl Q I rx hs pl pu ⟨a, vs, rfl, by rw [C.hK]; exact ex_sql hide_ex h, fun b n => ?_⟩
    refine PoV.lst (T := T) (O := O) l p ?_ n
    rw [cut_V, r.length]
    exact (r.drop _).take _
  | str z =>
    simp only [slcD] at p
    split at p
    · rename_i hl
      refine sl_str pins s σ H _ v vl vu lo hi sl Q I rx hs pl pu ⟨z, rfl, by rw [← line_eq, ← strlen]; exact hl, p.str ?_⟩
      rw [cut_V, strlen]
      rfl
    · exact False.elim p
  | _ => exact False.elim p

/-! ### built-ins -/
def nmF1 : F1 → String
  | .len => "len"
  | .abs => "abs"
  | .int => "int"
  | .str => "str"
  | .list => "list"
  | .sorted => "sorted"
  | .sum => "sum"
  | .max => "max"
  | .min => "min"
  | .rev => "reversed"
def rL1 (T : Tab) (g : D → R D) : List V → Hp → VK → Prop := fun xs H Q => ∃ x, xs = [x] ∧ rF T g x H Q
def rL2 (T : Tab) (g : D → D → R D) : List V → Hp → VK → Prop := fun xs H Q => ∃ x y, xs = [x, y] ∧ rB T g x y H Q
theorem b_len (C : Cxt X T) : CallR X (.builtin "len") (rL1 T (f1D .len)) := by
  rintro pins s σ H xs us Q I r ⟨x, rfl, O, dx, l, hx, p⟩
  cases hx with
  | @lst ds a vs h q => exact call_len_seq pins s σ H _ us Q I r ⟨a, vs, rfl, .inl (by rw [C.hK]; exact ex_sql hide_ex h), by rw [← q.length]; exact p.int⟩
  | @tup ds a vs h q => exact call_len_seq pins s σ H _ us Q I r ⟨a, vs, rfl, .inr (by rw [C.hK]; exact ex_sqt hide_ex h), by rw [← q.length]; exact p.int⟩
  | str z =>
    simp only [f1D] at p
    split at p
    · rename_i hl
      exact call_len_str pins s σ H _ us Q I r ⟨z, rfl, by rw [← line_eq, ← strlen]; exact hl, by rw [← strlen]; exact p.int⟩
    · exact False.elim p
  | _ => exact False.elim p
theorem b_abs : CallR X (.builtin "abs") (rL1 T (f1D .abs)) := by
  rintro pins s σ H xs us Q I r ⟨x, rfl, O, dx, l, hx, p⟩
  cases hx with
  | int i =>
    have e : (if i < 0 then -i else i) = ((i.natAbs : Nat) : Int) := by split <;> omega
    exact call_abs pins s σ H _ us Q I r ⟨i, rfl, by rw [e]; exact p.int⟩
  | _ => exact False.elim p
theorem b_int (C : Cxt X T) : CallR X (.type "int") (rL1 T (f1D .int)) := by
  rintro pins s σ H xs us Q I r ⟨x, rfl, O, dx, l, hx, p⟩
  cases hx with
  | int i => exact call_int1 pins s σ H _ us Q I r (.inl ⟨i, rfl, p.int⟩)
  | bl b => exact call_int1 pins s σ H _ us Q I r (.inr ⟨b, rfl, p.int⟩)
  | str z =>
    simp only [f1D] at p
    split at p
    · rename_i h
      rw [strlen] at h
      split at p
      · rename_i n e
        rw [show toS z.cps.toList = z by unfold toS; simp] at e
        exact call_int_str pins s σ H _ us Q I r ⟨z, n, rfl, e, h, p.int⟩
      · exact False.elim p
    · rename_i hs
      split at p
      · rename_i h
        have figs : NumText.AllDigits z.cps.toList := fun c hc => by
          have := List.all_eq_true.mp h.2 c hc
          simp only [Bool.and_eq_true, decide_eq_true_eq] at this
          exact this
        have ne : z.cps.toList ≠ [] := fun e => hs (by rw [e]; decide)
        rw [strlen] at hs h
        exact call_int_long C.dig pins s σ H _ us Q I r ⟨z, _, rfl, figs, by omega, h.1, intText_digits figs ne h.1, p.int⟩
      · exact False.elim p
  | _ => exact False.elim p
theorem b_list (C : Cxt X T) : CallR X (.type "list") (rL1 T (f1D .list)) := by
  rintro pins s σ H xs us Q I r ⟨x, rfl, O, dx, l, hx, p⟩
  cases hx with
  | @lst ds a vs h q => exact call_list_of pins s σ H _ us Q I r ⟨a, vs, rfl, .inl (by rw [C.hK]; exact ex_sql hide_ex h), fun b n => p.lst l q n⟩
  | @tup ds a vs h q => exact call_list_of pins s σ H _ us Q I r ⟨a, vs, rfl, .inr (by rw [C.hK]; exact ex_sqt hide_ex h), fun b n => p.lst l q n⟩
  | _ => exact False.elim p
theorem ints_of {H : Hp} : ∀ {ds : List D} {vs : List V} {ns : List Int}, DVs T H ds vs → asInts ds = some ns → vs = ns.map V.int
  | _, _, _, .nil, e => by cases e; rfl
  | _, _, ns, .cons h r, e => by
    cases h with
    | int i =>
      simp only [asInts, Option.map_eq_some_iff] at e
      obtain ⟨ms, e1, rfl⟩ := e
      rw [ints_of r e1]
      rfl
    | _ => simp [asInts] at e
theorem b_sum (C : Cxt X T) : CallR X (.builtin "sum") (rL1 T (f1D .sum)) := by
  rintro pins s σ H xs us Q I r ⟨x, rfl, O, dx, l, hx, p⟩
  cases hx with
  | @lst ds a vs h q =>
    simp only [f1D] at p
    split at p
    · rename_i ns e
      have e2 := ints_of q e
      subst e2
      exact cr_sum C.calm pins s σ H _ us Q I r ⟨a, ns, rfl, by rw [C.hK]; exact ex_sql hide_ex h, p.int⟩
    · exact False.elim p
  | _ => exact False.elim p
theorem foldl_max : ∀ (ns : List Int) (n : Int), (ns.foldl max n = n ∨ ns.foldl max n ∈ ns) ∧ n ≤ ns.foldl max n ∧ ∀ y ∈ ns, y ≤ ns.foldl max n
  | [], n => ⟨.inl rfl, Int.le_refl _, fun _ h => nomatch h⟩
  | m :: ns, n => by
    obtain ⟨h1, h2, h3⟩ := foldl_max ns (max n m)
    rw [List.foldl_cons]
    refine ⟨?_, by omega, fun y hy => ?_⟩
    · rcases h1 with h1 | h1
      · by_cases c : n ≤ m
        · right; rw [h1]; rw [show max n m = m by omega]; exact List.mem_cons_self
        · left; rw [h1]; omega
      · exact .inr (List.mem_cons_of_mem _ h1)
    · rcases List.mem_cons.mp hy with rfl | hy
      · omega
      · exact h3 y hy
theorem foldl_min : ∀ (ns : List Int) (n : Int), (ns.foldl min n = n ∨ ns.foldl min n ∈ ns) ∧ ns.foldl min n ≤ n ∧ ∀ y ∈ ns, ns.foldl min n ≤ y
  | [], n => ⟨.inl rfl, Int.le_refl _, fun _ h => nomatch h⟩
  | m :: ns, n => by
    obtain ⟨h1, h2, h3⟩ := foldl_min ns (min n m)
    rw [List.foldl_cons]
    refine ⟨?_, by omega, fun y hy => ?_⟩
    · rcases h1 with h1 | h1
      · by_cases c : m ≤ n
        · right; rw [h1]; rw [show min n m = m by omega]; exact List.mem_cons_self
        · left; rw [h1]; omega
      · exact .inr (List.mem_cons_of_mem _ h1)
    · rcases List.mem_cons.mp hy with rfl | hy
      · omega
      · exact h3 y hy
theorem is_max {ns : List Int} {n m : Int} (h : m ∈ n :: ns) (g : ∀ y, y ∈ n :: ns → y ≤ m) : m = ns.foldl max n := by
  obtain ⟨h1, h2, h3⟩ := foldl_max ns n
  have q : ns.foldl max n ∈ n :: ns := by
    rcases h1 with q | q
    · rw [q]; exact List.mem_cons_self
    · exact List.mem_cons_of_mem _ q
  have r1 := g _ q
  rcases List.mem_cons.mp h with rfl | h
  · omega
  · have := h3 m h; omega
theorem is_min {ns : List Int} {n m : Int} (h : m ∈ n :: ns) (g : ∀ y, y ∈ n :: ns → m ≤ y) : m = ns.foldl min n := by
  obtain ⟨h1, h2, h3⟩ := foldl_min ns n
  have q : ns.foldl min n ∈ n :: ns := by
    rcases h1 with q | q
    · rw [q]; exact List.mem_cons_self
    · exact List.mem_cons_of_mem _ q
  have r1 := g _ q
  rcases List.mem_cons.mp h with rfl | h
  · omega
  · have := h3 m h; omega
section
variable {prog : Program} {w : World} {A : Around} {E : Value → Shared → Prop} {s : Shared} {l : Addr}
theorem old_keptT {it : Obj} {h' : Heap} (hk : ∀ b o, b ∉ [s.heap.objs.size] → (s.heap.push it).get? b = some o → h'.get? b = some o) :
    ∀ b o, s.heap.get? b = some o → h'.get? b = some o := fun b o e => by
  refine hk b o (fun hm => ?_) (Heap.get?_push_of_some _ e)
  rcases List.mem_cons.mp hm with e1 | hm
  · exact absurd (e1 ▸ Heap.lt_size e) (Nat.lt_irrefl _)
  · cases hm
theorem max_rawT {its : List Value} {ns : List Int} {Q : Value → Shared → Prop} (hh : A.handled = none) (hl : s.heap.IsTuple l its.toArray) (hi : IntsAre its ns) (hne : 0 < ns.length)
    (h : ∀ h' tk M t', (∀ b o, s.heap.get? b = some o → h'.get? b = some o) → M ∈ ns → (∀ a, a ∈ ns → a ≤ M) → Q (.int M t') { s with heap := h', toks := tk }) : wpAny (model prog w) A (call (.builtin "max") [.ref l]) Q E s := by
  obtain ⟨xs, e⟩ := hi.allInts.items
  have hn : numsOf (intItems xs).toList = ns := by rw [← e]; exact hi.numsOf
  rw [nums_intItems] at hn
  subst hn
  rw [e] at hl
  have hsz : 0 < xs.size := by simpa using hne
  have hlt : l < s.heap.objs.size := by obtain ⟨_, e, _⟩ := hl; exact Heap.lt_size e
  refine call_max_walk (wpAny_pyIter_tuple hl ?_)
  refine ⟨_, _, _, _, _, _, _, rfl, Walks.tuple (A := A.in1) hh _ l (Nat.ne_of_lt hlt) (intItems xs), ⟨⟨_, Heap.get?_push_size _ rfl, rfl, rfl⟩, hl.push _⟩, fun c hc => ?_, by simpa [intItems] using hsz, CmpOf.ints_gt (numAt xs) (fun _ _ => intItems_at), fun v h' tk hP hk => ?_⟩
  · show c < (s.heap.push _).objs.size
    rw [Heap.size_push]
    rcases List.mem_cons.mp hc with rfl | hc
    · exact Nat.lt_succ_self _
    · rcases List.mem_cons.mp hc with rfl | hc
      · exact Nat.lt_succ_of_lt hlt
      · cases hc
  · have hP : (intItems xs)[argBest (fun i j => decide (numAt xs i > numAt xs j)) (xs.size - 1)]? = some v := by simpa [intItems] using hP
    obtain ⟨t, rfl⟩ := intItems_at hP
    obtain ⟨h1, h2⟩ := argBest_gt (numAt xs) (xs.size - 1)
    refine h h' tk _ t (old_keptT hk) ?_ fun a ha => ?_
    · rw [numAt_eq]; exact PySem.getD_mem (by rw [List.length_map, Array.length_toList]; omega)
    · obtain ⟨j, hj, rfl⟩ := mem_getD ha
      rw [List.length_map, Array.length_toList] at hj
      rw [← numAt_eq]; exact h2 j (by omega)
theorem min_rawT {its : List Value} {ns : List Int} {Q : Value → Shared → Prop} (hh : A.handled = none) (hl : s.heap.IsTuple l its.toArray) (hi : IntsAre its ns) (hne : 0 < ns.length)
    (h : ∀ h' tk M t', (∀ b o, s.heap.get? b = some o → h'.get? b = some o) → M ∈ ns → (∀ a, a ∈ ns → M ≤ a) → Q (.int M t') { s with heap := h', toks := tk }) : wpAny (model prog w) A (call (.builtin "min") [.ref l]) Q E s := by
  obtain ⟨xs, e⟩ := hi.allInts.items
  have hn : numsOf (intItems xs).toList = ns := by rw [← e]; exact hi.numsOf
  rw [nums_intItems] at hn
  subst hn
  rw [e] at hl
  have hsz : 0 < xs.size := by simpa using hne
  have hlt : l < s.heap.objs.size := by obtain ⟨_, e, _⟩ := hl; exact Heap.lt_size e
  refine call_min_walk (wpAny_pyIter_tuple hl ?_)
  refine ⟨_, _, _, _, _, _, _, rfl, Walks.tuple (A := A.in1) hh _ l (Nat.ne_of_lt hlt) (intItems xs), ⟨⟨_, Heap.get?_push_size _ rfl, rfl, rfl⟩, hl.push _⟩, fun c hc => ?_, by simpa [intItems] using hsz, CmpOf.ints_lt (numAt xs) (fun _ _ => intItems_at), fun v h' tk hP hk => ?_⟩
  · show c < (s.heap.push _).objs.size
    rw [Heap.size_push]
    rcases List.mem_cons.mp hc with rfl | hc
    · exact Nat.lt_succ_self _
    · rcases List.mem_cons.mp hc with rfl | hc
      · exact Nat.lt_succ_of_lt hlt
      · cases hc
  · have hP : (intItems xs)[argBest (fun i j => decide (numAt xs i < numAt xs j)) (xs.size - 1)]? = some v := by simpa [intItems] using hP
    obtain ⟨t, rfl⟩ := intItems_at hP
    obtain ⟨h1, h2⟩ := argBest_lt (numAt xs) (xs.size - 1)
    refine h h' tk _ t (old_keptT hk) ?_ fun a ha => ?_
    · rw [numAt_eq]; exact PySem.getD_mem (by rw [List.length_map, Array.length_toList]; omega)
    · obtain ⟨j, hj, rfl⟩ := mem_getD ha
      rw [List.length_map, Array.length_toList] at hj
      rw [← numAt_eq]; exact h2 j (by omega)
end
theorem cr_maxT (hc : X.calm = true) : CallR X (.builtin "max") (fun vs H Q => ∃ (a : Addr) (ns : List Int), vs = [V.ref a] ∧ SqT X.K H a (ns.map V.int) ∧ 0 < ns.length ∧ ∀ m, m ∈ ns → (∀ y, y ∈ ns → y ≤ m) → Q (.int m) H) := by
  intro pins s σ H vs us Q I r h
  obtain ⟨a, ns, rfl, hs, hne, q⟩ := h
  obtain ⟨its, rv, hl, _⟩ := I.tuple hs
  rw [Vals.ref1 r]
  exact max_rawT (I.ok.hd hc) hl rv.ints hne fun h' tk m t' hk h1 h2 => ⟨.int _, H, I.kept hk, ⟨_, rfl⟩, q m h1 h2⟩
theorem cr_minT (hc : X.calm = true) : CallR X (.builtin "min") (fun vs H Q => ∃ (a : Addr) (ns : List Int), vs = [V.ref a] ∧ SqT X.K H a (ns.map V.int) ∧ 0 < ns.length ∧ ∀ m, m ∈ ns → (∀ y, y ∈ ns → m ≤ y) → Q (.int m) H) := by
  intro pins s σ H vs us Q I r h
  obtain ⟨a, ns, rfl, hs, hne, q⟩ := h
  obtain ⟨its, rv, hl, _⟩ := I.tuple hs
  rw [Vals.ref1 r]
  exact min_rawT (I.ok.hd hc) hl rv.ints hne fun h' tk m t' hk h1 h2 => ⟨.int _, H, I.kept hk, ⟨_, rfl⟩, q m h1 h2⟩
theorem b_max (C : Cxt X T) : CallR X (.builtin "max") (rL1 T (f1D .max)) := by
  rintro pins s σ H xs us Q I r ⟨x, rfl, O, dx, l, hx, p⟩
  cases hx with
  | @lst ds a vs h q =>
    simp only [f1D, bestL] at p
    split at p
    · rename_i n ns e
      have e2 := ints_of q e
      subst e2
      exact cr_max C.calm pins s σ H _ us Q I r ⟨a, n :: ns, rfl, by rw [C.hK]; exact ex_sql hide_ex h, Nat.succ_pos _, fun m h1 h2 => by rw [is_max h1 h2]; exact p.int⟩
    · exact False.elim p
  | @tup ds a vs h q =>
    simp only [f1D, bestL] at p
    split at p
    · rename_i n ns e
      have e2 := ints_of q e
      subst e2
      exact cr_maxT C.calm pins s σ H _ us Q I r ⟨a, n :: ns, rfl, by rw [C.hK]; exact ex_sqt hide_ex h, Nat.succ_pos _, fun m h1 h2 => by rw [is_max h1 h2]; exact p.int⟩
    · exact False.elim p
  | _ => exact False.elim p
theorem b_min (C : Cxt X T) : CallR X (.builtin "min") (rL1 T (f1D .min)) := by
  rintro pins s σ H xs us Q I r ⟨x, rfl, O, dx, l, hx, p⟩
  cases hx with
  | @lst ds a vs h q =>
    simp only [f1D, bestL] at p
    split at p
    · rename_i n ns e
      have e2 := ints_of q e
      subst e2
      exact cr_min C.calm pins s σ H _ us Q I r ⟨a, n :: ns, rfl, by rw [C.hK]; exact ex_sql hide_ex h, Nat.succ_pos _, fun m h1 h2 => by rw [is_min h1 h2]; exact p.int⟩
    · exact False.elim p
  | @tup ds a vs h q =>
    simp only [f1D, bestL] at p
    split at p
    · rename_i n ns e
      have e2 := ints_of q e
      subst e2
      exact cr_minT C.calm pins s σ H _ us Q I r ⟨a, n :: ns, rfl, by rw [C.hK]; exact ex_sqt hide_ex h, Nat.succ_pos _, fun m h1 h2 => by rw [is_min h1 h2]; exact p.int⟩
    · exact False.elim p
  | _ => exact False.elim p
theorem b_str (C : Cxt X T) : CallR X (.type "str") (rL1 T (f1D .str)) := by
  rintro pins s σ H xs us Q I r ⟨x, rfl, O, dx, l, hx, p⟩
  cases hx with
  | int i =>
    simp only [f1D] at p
    split at p
    · rename_i h
      exact call_str_long C.calm C.dig pins s σ H _ us Q I r ⟨i, rfl, h, p.str rfl⟩
    · exact False.elim p
  | _ => exact False.elim p
theorem ints_V {H : Hp} : ∀ (ns : List Int), DVs T H (ns.map D.int) (ns.map V.int)
  | [] => .nil
  | n :: ns => .cons (.int n) (ints_V ns)
theorem sort_uniq {ns ms : List Int} (hp : ms.Perm ns) (hs : ms.Pairwise (· ≤ ·)) : ms = ns.mergeSort fun a b => decide (a ≤ b) := by
  have h1 : (ns.mergeSort fun a b => decide (a ≤ b)).Perm ns := List.mergeSort_perm _ _
  have h2 : (ns.mergeSort fun a b => decide (a ≤ b)).Pairwise (· ≤ ·) := by
    have := List.pairwise_mergeSort (le := fun (a b : Int) => decide (a ≤ b)) (fun a b c h g => by simp only [decide_eq_true_eq] at *; omega) (fun a b => by simp only [Bool.or_eq_true, decide_eq_true_eq]; omega) ns
    exact this.imp fun h => of_decide_eq_true h
  exact List.Perm.eq_of_pairwise (le := (· ≤ ·)) (fun a b _ _ h g => Int.le_antisymm h g) hs h2 (hp.trans h1.symm)
theorem b_sorted (C : Cxt X T) : CallR X (.builtin "sorted") (rL1 T (f1D .sorted)) := by
  rintro pins s σ H xs us Q I r ⟨x, rfl, O, dx, l, hx, p⟩
  cases hx with
  | @lst ds a vs h q =>
    simp only [f1D] at p
    split at p
    · rename_i ns e
      have e2 := ints_of q e
      subst e2
      exact cr_sortedI pins s σ H _ us Q I r ⟨a, ns, rfl, by rw [C.hK]; exact ex_sql hide_ex h, fun ns' b h1 h2 n => by
        rw [sort_uniq h1 h2]
        exact p.lst l (ints_V _) n⟩
    · exact False.elim p
  | _ => exact False.elim p
theorem call_divmodN : CallR X (.builtin "divmod") (fun xs H Q => ∃ i j, xs = [.int i, .int j] ∧ (j < 0 ∧ Builtin.divisionGoesByPylong i j = false) ∧ ∀ p, H p = none → Q (.ref p) (upd H p (.tup [.int (i.fdiv j), .int (i.fmod j)]))) := by
  intro pins s σ H xs us Q I r h
  obtain ⟨i, j, rfl, ⟨h1, h2⟩, q⟩ := h
  obtain ⟨u, w', rfl, ⟨t, rfl⟩, ⟨t', rfl⟩⟩ := vals2 r
  refine divmod_int (by omega) ?_ (.inl h2)
  have hn : H s.heap.objs.size = none := I.hok.fresh (Nat.le_refl _)
  refine ⟨.ref s.heap.objs.size, _, ?_, rfl, q _ hn⟩
  refine I.laid (fun b o e => Heap.get?_push_of_some _ e) (Nat.le_refl _) ⟨by simp only [List.length_cons, List.length_nil]; rw [sizeLine_eq]; decide, [.int (i.fdiv j) s.toks, .int (i.fmod j) (s.toks + 1)], .cons ⟨_, rfl⟩ (.cons ⟨_, rfl⟩ .nil), ?_⟩
  exact ⟨_, Heap.get?_push_size s.heap rfl, rfl, 0, rfl⟩
theorem b_max2 (C : Cxt X T) : CallR X (.builtin "max") (rL2 T (f2D .max)) := by
  rintro pins s σ H xs us Q I r ⟨x, y, rfl, O, dx, dy, l, hx, hy, p⟩
  cases hx with
  | int i => cases hy with
    | int j =>
      have e : (if j > i then j else i) = max i j := by split <;> omega
      exact call_max2 C.calm pins s σ H _ us Q I r ⟨i, j, rfl, by rw [e]; exact p.int⟩
    | _ => exact False.elim p
  | _ => cases hy <;> exact False.elim p
theorem b_min2 (C : Cxt X T) : CallR X (.builtin "min") (rL2 T (f2D .min)) := by
  rintro pins s σ H xs us Q I r ⟨x, y, rfl, O, dx, dy, l, hx, hy, p⟩
  cases hx with
  | int i => cases hy with
    | int j =>
      have e : (if j < i then j else i) = min i j := by split <;> omega
      exact call_min2 C.calm pins s σ H _ us Q I r ⟨i, j, rfl, by rw [e]; exact p.int⟩
    | _ => exact False.elim p
  | _ => cases hy <;> exact False.elim p
theorem b_divmod : CallR X (.builtin "divmod") (rL2 T (f2D .divmod)) := by
  rintro pins s σ H xs us Q I r ⟨x, y, rfl, O, dx, dy, l, hx, hy, p⟩
  cases hx with
  | int i => cases hy with
    | int j =>
      simp only [f2D] at p
      split at p
      · rename_i h
        exact call_divmodW pins s σ H _ us Q I r ⟨i, j, rfl, h, fun b n => p.tup l (.cons (.int _) (.cons (.int _) .nil)) n⟩
      · split at p
        · rename_i h
          exact call_divmodN pins s σ H _ us Q I r ⟨i, j, rfl, h, fun b n => p.tup l (.cons (.int _) (.cons (.int _) .nil)) n⟩
        · exact False.elim p
    | _ => exact False.elim p
  | _ => cases hy <;> exact False.elim p

/-! ### isinstance -/
def rI2 (T : Tab) (c : Cl) (cv : V) : List V → Hp → VK → Prop := fun xs H Q => ∃ x, xs = [x, cv] ∧ ∃ O dx, (∀ a ∈ O, H a ≠ none) ∧ DV T (hide O H) dx x ∧ PoB H (fun b => Q (.bl b) H) (isI dx c)
theorem tyx_sql {K : PySem.W.Frag} {H : Hp} {a : Addr} {xs : List V} (h : SqL K H a xs) : TyX K H (.ref a) (.type "list") := by
  rcases h with (h | ⟨o, h⟩) | ⟨o, its, n, h, hc, _⟩
  · exact .base (.lst h)
  · exact .base (.frz h)
  · exact .kList h hc
theorem tyx_sqt {K : PySem.W.Frag} {H : Hp} {a : Addr} {xs : List V} (h : SqT K H a xs) : TyX K H (.ref a) (.type "tuple") := by
  rcases h with (h | ⟨o, h⟩) | ⟨o, its, n, h, hc, _⟩
  · exact .base (.tup h)
  · exact .fTuple h
  · exact .kTuple h hc
def tyName : D → Option String
  | .non => some "NoneType"
  | .bl _ => some "bool"
  | .int _ => some "int"
  | .str _ => some "str"
  | .tup _ => some "tuple"
  | .lst _ => some "list"
  | .dic => some "dict"
  | _ => none
/-- what is asked of a class whose objects isinstance asks of -/
structure IsoC (K : PySem.W.Frag) (C : Addr) : Prop where
  cl : Cls K C
  ha : PySem.W.findIn K (.ref C) "__class__" = some (some (.builtin "object.__class__"))
  hn : PySem.W.specialIn K (.builtin "object.__class__") "__get__" = some (some (.builtin "getset_descriptor.__get__"))
  ht : PySem.W.takesIn K (.builtin "object.__class__") = some true
  hm : PySem.W.mroIn K C (.type "object") = some true
theorem b_isi (C : Cxt X T) {c : Cl} {cv : V} {cw : Value} (k : ClsV cv cw) (hb : ∀ (d : D) (t : String) (b : Bool), tyName d = some t → isI d c = .ok b → PySem.W.kitOne X.K (.type t) cw = some b)
    (hx : ∀ e ∈ T.exs, ∀ b : Bool, isI (.exc e) c = .ok b → PySem.W.kitOne X.K (.ref (T.exc e)) cw = some b) (ho : ∀ e ∈ T.objs, ∀ b : Bool, isI (.obj e) c = .ok b → IsoC X.K (T.obj e) ∧ PySem.W.kitOne X.K (.ref (T.obj e)) cw = some b) : CallR X (.builtin "isinstance") (rI2 T c cv) := by
  rintro pins s σ H xs us Q I r ⟨x, rfl, O, dx, l, hd, p⟩
  cases q : isI dx c with
  | ok b =>
    rw [q] at p
    have p : Q (.bl b) H := p
    cases hd with
    | non => exact call_isi pins s σ H _ us Q I r ⟨_, _, .type "NoneType", cw, b, rfl, k, .base .non, hb _ _ b rfl q, p⟩
    | bl y => exact call_isi pins s σ H _ us Q I r ⟨_, _, .type "bool", cw, b, rfl, k, .base (.bl y), hb _ _ b rfl q, p⟩
    | int y => exact call_isi pins s σ H _ us Q I r ⟨_, _, .type "int", cw, b, rfl, k, .base (.int y), hb _ _ b rfl q, p⟩
    | str y => exact call_isi pins s σ H _ us Q I r ⟨_, _, .type "str", cw, b, rfl, k, .base (.str y), hb _ _ b rfl q, p⟩
    | tup h _ => exact call_isi pins s σ H _ us Q I r ⟨_, _, .type "tuple", cw, b, rfl, k, tyx_sqt (by rw [C.hK]; exact ex_sqt hide_ex h), hb _ _ b rfl q, p⟩
    | lst h _ => exact call_isi pins s σ H _ us Q I r ⟨_, _, .type "list", cw, b, rfl, k, tyx_sql (by rw [C.hK]; exact ex_sql hide_ex h), hb _ _ b rfl q, p⟩
    | dic h => exact call_isi pins s σ H _ us Q I r ⟨_, _, .type "dict", cw, b, rfl, k, .base (.dK (hide_ex _ _ h)), hb _ _ b rfl q, p⟩
    | @exc e a hc h =>
      obtain ⟨u1, u2, rfl, r1, r2⟩ := vals2 r
      cases (show u1 = Value.ref a from r1)
      have e2 := k.eq r2
      subst e2
      obtain ⟨⟨oe, vs, hget, hz, hv⟩, _⟩ := I.hok a _ (hide_ex _ _ h)
      have J : PySem.W.InstAt s.heap a oe (T.exc e) none := by
        obtain ⟨oc, od, oda, osl⟩ := oe
        obtain ⟨h1, h2⟩ := hz
        dsimp only at h1 h2 hv
        subst h1 h2 hv
        exact ⟨hget, rfl, rfl, trivial⟩
      have X := C.exT e hc
      exact PySem.W.kia_one (PySem.W.handS_kitx_exc X.hg X.hk X.hs X.hd X.ha X.hn X.ht X.hm) I.kIn J (hx e hc b q) (fun z => nomatch z) fun tk => ⟨.bl b, H, I.kept (t' := tk) fun _ _ z => z, rfl, p⟩
    | @obj e a dx hc h =>
      obtain ⟨IC, kq⟩ := ho e hc b q
      exact call_isi pins s σ H _ us Q I r ⟨_, _, .ref (T.obj e), cw, b, rfl, k, .base (.ins (hide_ex _ _ h) IC.cl IC.ha IC.hn IC.ht IC.hm), kq, p⟩
  | ex c => rw [q] at p; exact False.elim p
  | no => rw [q] at p; exact False.elim p
/-- a built-in class -/
def tyCl : Cl → Option String
  | .int => some "int"
  | .bool => some "bool"
  | .str => some "str"
  | .tuple => some "tuple"
  | .list => some "list"
  | .valueError => some "ValueError"
  | _ => none
theorem b_isiT (C : Cxt X T) {c : Cl} {n : String} (hn : tyCl c = some n) : CallR X (.builtin "isinstance") (rI2 T c (.ty n)) := by
  refine b_isi C (.ty n) (fun d t b ht hi => ?_) (fun e he b hi => ?_) (fun e he b hi => ?_)
  · refine kit_ty ?_
    cases c <;> simp only [tyCl, Option.some.injEq, reduceCtorEq] at hn <;> subst hn <;> cases d <;> simp only [tyName, Option.some.injEq, reduceCtorEq] at ht <;> subst ht <;> simp only [isI, R.ok.injEq, reduceCtorEq] at hi <;> subst hi <;> decide +kernel
  · cases c <;> simp only [tyCl, Option.some.injEq, reduceCtorEq] at hn <;> simp only [isI, R.ok.injEq, reduceCtorEq] at hi
    subst hn hi
    exact C.exV e he
  · cases c <;> simp only [tyCl, Option.some.injEq, reduceCtorEq] at hn <;> simp only [isI, reduceCtorEq] at hi
theorem b_isiE (C : Cxt X T) {nm : String} {c : Nat} (hc : c ∈ T.exs) : CallR X (.builtin "isinstance") (rI2 T (.exc nm c) (.ref (T.exc c))) := by
  refine b_isi C (.own _) (fun d t b ht hi => ?_) (fun e he b hi => ?_) (fun e he b hi => ?_)
  · cases d <;> simp only [tyName, Option.some.injEq, reduceCtorEq] at ht <;> subst ht <;> simp only [isI, R.ok.injEq, reduceCtorEq] at hi
    subst hi
    exact C.exN c hc
  · simp only [isI, R.ok.injEq] at hi
    subst hi
    exact C.exI e he c hc
  · simp only [isI, reduceCtorEq] at hi
theorem b_isiO (C : Cxt X T) {nm : String} {c : Nat} (ho : ∀ e ∈ T.objs, IsoC X.K (T.obj e) ∧ PySem.W.kitOne X.K (.ref (T.obj e)) (.ref (T.obj c)) = some (e == c)) : CallR X (.builtin "isinstance") (rI2 T (.obj nm c) (.ref (T.obj c))) := by
  refine b_isi C (.own _) (fun d t b ht hi => ?_) (fun e he b hi => ?_) (fun e he b hi => ?_)
  · cases d <;> simp only [isI, reduceCtorEq] at hi <;> simp only [tyName, reduceCtorEq] at ht
  · simp only [isI, reduceCtorEq] at hi
  · simp only [isI, R.ok.injEq] at hi
    subst hi
    exact ho e he
theorem b_isiW (C : Cxt X T) {nm : String} {aw : Addr} (ho : ∀ e ∈ T.objs, IsoC X.K (T.obj e) ∧ PySem.W.kitOne X.K (.ref (T.obj e)) (.ref aw) = some true) : CallR X (.builtin "isinstance") (rI2 T (.way nm) (.ref aw)) := by
  refine b_isi C (.own _) (fun d t b ht hi => ?_) (fun e he b hi => ?_) (fun e he b hi => ?_)
  · cases d <;> simp only [isI, reduceCtorEq] at hi <;> simp only [tyName, reduceCtorEq] at ht
  · simp only [isI, reduceCtorEq] at hi
  · simp only [isI, R.ok.injEq] at hi
    subst hi
    exact ho e he
end
end MP

set_option Elab.async false
set_option linter.all false
set_option maxRecDepth 100000
set_option maxHeartbeats 8000000
set_option autoImplicit false
/-! MPD: the syntax held against the language; each expression comes to what the evaluator tells. -/
namespace MP
open PySem L2
open PyProof.Rows hiding St

/-! ### the look at the syntax -/
def vis (sc : Scope) (x : Str) : Bool := match sc.names.lookup x with
  | some .local => true
  | some .cell => true
  | some .free => true
  | _ => false
def isOwn (sc : Scope) (x : Str) : Bool := match sc.names.lookup x with
  | some .local => true
  | some .cell => true
  | _ => false
def isGl (sc : Scope) (x : Str) : Bool := match sc.names.lookup x with
  | some .globalImplicit => true
  | _ => false
def okName (x : Str) : Bool := !(x == ("__debug__" : Str)) && !(x == ("__classdict__" : Str)) && !(x == ("__name__" : Str))
def shp : Expr → Bool
  | .Starred _ _ => false
  | .Set _ _ _ => false
  | .Slice _ _ _ _ => false
  | _ => true
def noSuper : Expr → Bool
  | .Call _ [] _ _ => false
  | _ => true
/-- a call of a global name with arguments -/
def chkF (sc : Scope) (nm : String) (x : Str) : Bool := decide (x = Str.ofString nm) && isGl sc x && okName x
def nmCl : Cl → String
  | .int => "int"
  | .bool => "bool"
  | .str => "str"
  | .tuple => "tuple"
  | .list => "list"
  | .valueError => "ValueError"
  | .exc nm _ => nm
  | .flt nm => nm
  | .obj nm _ => nm
  | .way nm => nm
def f1ok : F1 → Bool
  | .len => true
  | .abs => true
  | .int => true
  | .list => true
  | .sum => true
  | .max => true
  | .min => true
  | .str => true
  | .sorted => true
  | _ => false
def nmF2 : F2 → String
  | .max => "max"
  | .min => "min"
  | .divmod => "divmod"
def clx : Cl → Bool
  | .exc _ _ => true
  | .valueError => true
  | _ => false
def clok : Cl → Bool
  | .flt _ => false
  | _ => true
def nmTM : TM → Str
  | .startswith => "startswith"
  | .zfill => "zfill"
  | .rstrip => "rstrip"
  | .partition => "partition"
  | .split => "split"
  | .join => "join"
  | .index => "index"
def lenEs : Es → Nat
  | .nil => 0
  | .cons _ r => lenEs r + 1
mutual
def chkE (N : List Str) (sc : Scope) : E → Expr → Bool
  | .var i, e => match e with
    | .Name x _ => decide (N[i]? = some x) && vis sc x && okName x
    | _ => false
  | .int i, e => match e with
    | .Constant (.int j) _ _ => decide (i = j)
    | _ => false
  | .bl b, e => match e with
    | .Constant (.bool c) _ _ => decide (b = c)
    | _ => false
  | .non, e => match e with
    | .Constant .none _ _ => true
    | _ => false
  | .dic, e => match e with
    | .Dict [] [] _ => true
    | _ => false
  | .str l, e => match e with
    | .Constant (.str x) _ _ => decide (x.cps.toList = l)
    | _ => false
  | .glo nm _, e => match e with
    | .Name x _ => chkF sc nm x
    | _ => false
  | .bin o a b, e => match e with
    | .BinOp l op r _ => decide (op = opB o) && chkE N sc a l && chkE N sc b r
    | _ => false
  | .neg a, e => match e with
    | .UnaryOp .USub l _ => chkE N sc a l
    | _ => false
  | .cmp o a b, e => match e with
    | .Compare l [op] [r] _ => decide (op = opC o) && chkE N sc a l && chkE N sc b r && shp r
    | _ => false
  | .chn o p a b c, e => match e with
    | .Compare l [op, op'] [r, r'] _ => decide (op = opC o) && decide (op' = opC p) && chkE N sc a l && chkE N sc b r && chkE N sc c r' && shp r'
    | _ => false
  | .chn3 o p q a b c d, e => match e with
    | .Compare l [op, op', op2] [r, r', r2] _ => decide (op = opC o) && decide (op' = opC p) && decide (op2 = opC q) && chkE N sc a l && chkE N sc b r && chkE N sc c r' && chkE N sc d r2 && shp r2
    | _ => false
  | .and a b, e => match e with
    | .BoolOp .And (x :: y :: []) _ => chkE N sc a x && chkE N sc b y
    | .BoolOp .And (x :: y :: z :: r) pos => chkE N sc a x && chkE N sc b (.BoolOp .And (y :: z :: r) pos)
    | _ => false
  | .or a b, e => match e with
    | .BoolOp .Or (x :: y :: []) _ => chkE N sc a x && chkE N sc b y
    | .BoolOp .Or (x :: y :: z :: r) pos => chkE N sc a x && chkE N sc b (.BoolOp .Or (y :: z :: r) pos)
    | _ => false
  | .not a, e => match e with
    | .UnaryOp .Not x _ => chkE N sc a x
    | _ => false
  | .tup es, e => match e with
    | .Tuple xs _ _ => chkEs N sc es xs && decide (lenEs es ≤ 1000)
    | _ => false
  | .lst es, e => match e with
    | .List xs _ => chkEs N sc es xs && decide (lenEs es ≤ 1000)
    | _ => false
  | .ix a b, e => match e with
    | .Subscript x y _ => chkE N sc a x && chkE N sc b y && shp y
    | _ => false
  | .slcL a lo, e => match e with
    | .Subscript x (.Slice (some l) none none _) _ => chkE N sc a x && chkE N sc lo l
    | _ => false
  | .slcH a hi, e => match e with
    | .Subscript x (.Slice none (some h) none _) _ => chkE N sc a x && chkE N sc hi h
    | _ => false
  | .slc a lo hi, e => match e with
    | .Subscript x (.Slice (some l) (some h) none _) _ => chkE N sc a x && chkE N sc lo l && chkE N sc hi h
    | _ => false
  | .call nm _ es _, e => match e with
    | .Call (.Name x _) (y :: ys) [] _ => chkF sc nm x && chkEs N sc es (y :: ys)
    | _ => false
  | .f1 f a, e => match e with
    | .Call (.Name x _) [y] [] _ => f1ok f && chkF sc (nmF1 f) x && chkE N sc a y && shp y
    | _ => false
  | .f2 f a b, e => match e with
    | .Call (.Name x _) [y, z] [] _ => chkF sc (nmF2 f) x && chkE N sc a y && chkE N sc b z && shp y && shp z
    | _ => false
  | .m0 m a, e => match e with
    | .Call (.Attribute x n apos) [] [] pos => (match m with
      | .bits => decide (n = ("bit_length" : Str))
      | .upper => decide (n = ("upper" : Str))) && chkE N sc a x && noSuper x && (apos.endLine == pos.line)
    | _ => false
  | .tm m a b, e => match e with
    | .Call (.Attribute x n apos) [y] [] pos => decide (n = nmTM m) && chkE N sc a x && chkE N sc b y && noSuper x && shp y && (apos.endLine == pos.line)
    | _ => false
  | .mk nm _, e => match e with
    | .Call (.Name x _) [] [] _ => chkF sc nm x
    | _ => false
  | .meth m _ a es, e => match e with
    | .Call (.Attribute x n apos) (y :: ys) [] pos => decide (n = Str.ofString m) && chkE N sc a x && noSuper x && chkEs N sc es (y :: ys) && (apos.endLine == pos.line) && decide ((y :: ys).length < 30)
    | _ => false
  | .isi a c, e => match e with
    | .Call (.Name x _) [y, .Name z _] [] _ => clok c && chkF sc "isinstance" x && chkF sc (nmCl c) z && chkE N sc a y && shp y
    | _ => false
  | .lcP i j el src, e => match e with
    | .ListComp elt [⟨.Tuple [.Name x _, .Name y _] _ _, iter, [], 0⟩] scope _ => decide (N[i]? = some x) && decide (N[j]? = some y) && decide (i ≠ j) && isOwn scope x && isOwn scope y && blkC N sc scope [(x, i), (y, j)] && chkE N (relS scope sc) el elt && chkSrcT N sc src iter && shp iter
    | _ => false
  | .lc i el src, e => match e with
    | .ListComp elt [⟨.Name y _, iter, [], 0⟩] scope _ => decide (N[i]? = some y) && isOwn scope y && blkC N sc scope [(y, i)] && chkE N (relS scope sc) el elt && chkSrc N sc src iter && shp iter
    | _ => false
  | .lcf i el src cond, e => match e with
    | .ListComp elt [⟨.Name y _, iter, [c], 0⟩] scope _ => decide (N[i]? = some y) && isOwn scope y && blkC N sc scope [(y, i)] && chkE N (relS scope sc) el elt && chkSrc N sc src iter && shp iter && chkE N (relS scope sc) cond c
    | _ => false
  | .oix i b, e => match e with
    | .Subscript (.Name x _) y _ => decide (N[i]? = some x) && vis sc x && okName x && chkE N sc b y && shp y
    | _ => false
  | .onz i, e => match e with
    | .Compare (.Name x _) [.NotEq] [.List [] _] _ => decide (N[i]? = some x) && vis sc x && okName x
    | _ => false
  | .olen i, e => match e with
    | .Call (.Name f _) [.Name x _] [] _ => chkF sc "len" f && decide (N[i]? = some x) && vis sc x && okName x
    | _ => false
  | _, _ => false
def chkEs (N : List Str) (sc : Scope) : Es → List Expr → Bool
  | .nil, es => match es with
    | [] => true
    | _ => false
  | .cons a r, es => match es with
    | x :: xs => chkE N sc a x && shp x && chkEs N sc r xs
    | _ => false
def chkSrcT (N : List Str) (sc : Scope) : Src → Expr → Bool
  | .zip a b, e => match e with
    | .Call (.Name x _) [y, z] [] _ => chkF sc "zip" x && chkE N sc a y && chkE N sc b z && shp y && shp z
    | _ => false
  | .e a, e => chkE N sc a e
  | .rng1 a, e => match e with
    | .Call (.Name x _) [y] [] _ => chkF sc "range" x && chkE N sc a y && shp y
    | _ => false
  | _, _ => false
def chkSrc (N : List Str) (sc : Scope) : Src → Expr → Bool
  | .e a, e => chkE N sc a e
  | .rng1 a, e => match e with
    | .Call (.Name x _) [y] [] _ => chkF sc "range" x && chkE N sc a y && shp y
    | _ => false
  | .rng2 a b, e => match e with
    | .Call (.Name x _) [y, z] [] _ => chkF sc "range" x && chkE N sc a y && chkE N sc b z && shp y && shp z
    | _ => false
  | .rng3 a b c, e => match e with
    | .Call (.Name x _) [y, z, w] [] _ => chkF sc "range" x && chkE N sc a y && chkE N sc b z && chkE N sc c w && shp y && shp z && shp w
    | _ => false
  | _, _ => false
end

/-! ### what a text leans on -/
inductive Need where
  | fn (nm : String) (f : List D → R D) (df : List D)
  | exc (nm : String) (c : Nat)
  | blt (nm : String)
  | glo (nm : String) (d : D)
  | flt (nm : String)
  | cls (nm : String) (c : Nat)
  | meth (m : String) (tbl : Nat → List D → R D)
  | iso (nm : String) (c : Nat)
  | isw (nm : String)
def clNeed (Φ : Need → Prop) : Cl → Prop
  | .exc nm d => Φ (.exc nm d)
  | .obj nm d => Φ (.iso nm d)
  | .way nm => Φ (.isw nm)
  | c => Φ (.blt (nmCl c))
mutual
def okE (Φ : Need → Prop) : E → Prop
  | .glo nm d => Φ (.glo nm d)
  | .bin _ a b => okE Φ a ∧ okE Φ b
  | .neg a => okE Φ a
  | .cmp _ a b => okE Φ a ∧ okE Φ b
  | .chn _ _ a b c => okE Φ a ∧ okE Φ b ∧ okE Φ c
  | .chn3 _ _ _ a b c d => okE Φ a ∧ okE Φ b ∧ okE Φ c ∧ okE Φ d
  | .and a b => okE Φ a ∧ okE Φ b
  | .or a b => okE Φ a ∧ okE Φ b
  | .not a => okE Φ a
  | .tup es => okEs Φ es
  | .lst es => okEs Φ es
  | .ix a b => okE Φ a ∧ okE Φ b
  | .slcL a b => okE Φ a ∧ okE Φ b
  | .slcH a b => okE Φ a ∧ okE Φ b
  | .slc a b c => okE Φ a ∧ okE Φ b ∧ okE Φ c
  | .call nm f es df => Φ (.fn nm f df) ∧ okEs Φ es
  | .f1 f a => Φ (.blt (nmF1 f)) ∧ okE Φ a
  | .f2 f a b => Φ (.blt (nmF2 f)) ∧ okE Φ a ∧ okE Φ b
  | .m0 _ a => okE Φ a
  | .tm _ a b => okE Φ a ∧ okE Φ b
  | .mk nm c => Φ (.cls nm c)
  | .meth m tbl a es => Φ (.meth m tbl) ∧ okE Φ a ∧ okEs Φ es
  | .isi a c => Φ (.blt "isinstance") ∧ clNeed Φ c ∧ okE Φ a
  | .lc _ el src => okE Φ el ∧ okSrc Φ src
  | .lcP _ _ el src => okE Φ el ∧ okSrc Φ src
  | .lcf _ el src c => okE Φ el ∧ okSrc Φ src ∧ okE Φ c
  | .oix _ b => okE Φ b
  | .olen _ => Φ (.blt "len")
  | _ => True
def okEs (Φ : Need → Prop) : Es → Prop
  | .nil => True
  | .cons a r => okE Φ a ∧ okEs Φ r
def okSrc (Φ : Need → Prop) : Src → Prop
  | .e a => okE Φ a
  | .rng1 a => Φ (.blt "range") ∧ okE Φ a
  | .rng2 a b => Φ (.blt "range") ∧ okE Φ a ∧ okE Φ b
  | .rng3 a b c => Φ (.blt "range") ∧ okE Φ a ∧ okE Φ b ∧ okE Φ c
  | .zip a b => Φ (.blt "zip") ∧ okE Φ a ∧ okE Φ b
end
/-- the promise of a def that comes to f -/
def spF (T : Tab) (f : List D → R D) : Sp := fun vs H Q E => ∃ O ds, (∀ a ∈ O, H a ≠ none) ∧ DVs T (hide O H) ds vs ∧ (match f ds with
  | .ok d => ∀ v H', Ex H H' → DV T (hide O H') d v → Q v H'
  | .ex c => ∀ H', Ex H H' → c ∈ T.exs → E (.ref (T.exc c)) none H'
  | .no => False)
/-- what a class without __init__ must have to be made -/
structure Mk0 (K : PySem.W.Frag) (C : Addr) : Prop where
  makes : PySem.W.makesIn K C = true
  init : PySem.W.findIn K (.ref C) "__init__" = some (some (.builtin "object.__init__"))
  top : PySem.W.mroIn K C (.type "object") = some true
  kp : PySem.W.keepIn K (.ref C) = true
def Holds (X : Cx) (T : Tab) : Need → Prop
  | .cls nm c => X.mg (Str.ofString nm) = some (.ref (T.obj c)) ∧ c ∈ T.objs ∧ Mk0 X.K (T.obj c)
  | .meth m tbl => ∀ c ∈ T.objs, ∃ k f fd ps, Room k X.A ∧ Cls X.K (T.obj c) ∧ Meth X.K (T.obj c) (Str.ofString m) f ∧ FnOk X.prog X.w X.K X.mg X.base (L2.CX X.prog X.w) k f fd ps (spF T (tbl c)) ∧ Binds X.K fd ps []
  | .fn nm f df => ∃ k fa fd ps dvs ds, Room k X.A ∧ X.mg (Str.ofString nm) = some (.ref fa) ∧ PySem.W.keepIn X.K (.ref fa) = true ∧ FnOk X.prog X.w X.K X.mg X.base (L2.CX X.prog X.w) k fa fd ps (spF T f) ∧ Binds X.K fd ps ds ∧ Vals dvs ds ∧ ∀ H, DVs T H df dvs
  | .exc nm c => X.mg (Str.ofString nm) = some (.ref (T.exc c)) ∧ c ∈ T.exs
  | .blt nm => X.mg (Str.ofString nm) = none
  | .flt nm => X.mg (Str.ofString nm) = some (.ref T.flt)
  | .iso nm c => X.mg (Str.ofString nm) = some (.ref (T.obj c)) ∧ ∀ e ∈ T.objs, IsoC X.K (T.obj e) ∧ PySem.W.kitOne X.K (.ref (T.obj e)) (.ref (T.obj c)) = some (e == c)
  | .isw nm => ∃ aw, X.mg (Str.ofString nm) = some (.ref aw) ∧ ∀ e ∈ T.objs, IsoC X.K (T.obj e) ∧ PySem.W.kitOne X.K (.ref (T.obj e)) (.ref aw) = some true
  | .glo nm d => ∃ v u, X.mg (Str.ofString nm) = some u ∧ RelV v u ∧ ∀ H, DV T H d v

/-! ### small facts of the syntax -/
section
variable {X : Cx} {sc : Scope}
theorem vis_ok {x : Str} (hs : X.env.scope = sc) (h : vis sc x = true) : Vis X.env.scope x := by
  rw [hs]
  unfold vis at h
  split at h
  · exact .inl (by assumption)
  · exact .inr (.inl (by assumption))
  · exact .inr (.inr (by assumption))
  · cases h
theorem gl_ok {x : Str} (hs : X.env.scope = sc) (h : isGl sc x = true) : Gl X x := by
  show X.env.scope.names.lookup x = some .globalImplicit
  rw [hs]
  unfold isGl at h
  split at h
  · assumption
  · cases h
theorem okName_1 {x : Str} (h : okName x = true) : (x == ("__debug__" : Str)) = false := by
  unfold okName at h
  simp only [Bool.and_eq_true, Bool.not_eq_true'] at h
  exact h.1.1
theorem okName_2 {x : Str} (h : okName x = true) : (x == ("__classdict__" : Str)) = false := by
  unfold okName at h
  simp only [Bool.and_eq_true, Bool.not_eq_true'] at h
  exact h.1.2
theorem okName_3 {x : Str} (h : okName x = true) : x ≠ ("__name__" : Str) := by
  unfold okName at h
  simp only [Bool.and_eq_true, Bool.not_eq_true'] at h
  exact fun z => by rw [z] at h; exact absurd h.2 (by simp)
structure FOk (X : Cx) (nm : String) (x : Str) : Prop where
  eq : x = Str.ofString nm
  gl : Gl X x
  n1 : (x == ("__debug__" : Str)) = false
  n3 : x ≠ ("__name__" : Str)
theorem chkF_ok {x : Str} {nm : String} (hs : X.env.scope = sc) (h : chkF sc nm x = true) : FOk X nm x := by
  unfold chkF at h
  simp only [Bool.and_eq_true, decide_eq_true_eq] at h
  exact ⟨h.1.1, gl_ok hs h.1.2, okName_1 h.2, okName_3 h.2⟩
theorem shp_star {e : Expr} {es : List Expr} {env : PySem.Env} (h : shp e = true) : starEach (e :: es) env = (false, eval e env) :: starEach es env := by
  cases e <;> first | rfl | (cases h)
theorem shp_mark {e : Expr} {op : CmpOp} (h : shp e = true) : behindInMarks op e = false := by
  cases e <;> first | rfl | (cases h)
theorem shp_ix {e : Expr} (h : shp e = true) : PlainIx e := by
  intro o i
  cases e <;> first | rfl | (cases h)
theorem shp_fold {e : Expr} {env : PySem.Env} (h : shp e = true) (x : Value) : foldedSetIterable e env x = pure x := by
  cases e <;> first | rfl | (cases h)
theorem super_ok {e : Expr} {n : Str} {env : PySem.Env} {w : Sem Value} (h : noSuper e = true) : attributeBase e n env w = w := by
  cases e with
  | Call f as ks p =>
    cases as with
    | nil => cases h
    | cons a as => cases f <;> rfl
  | _ => rfl
def allShp : List Expr → Bool
  | [] => true
  | e :: es => shp e && allShp es
theorem star_plain {pos : Pos} {env : PySem.Env} : ∀ {es : List Expr}, allShp es = true → (backTo pos (starEach es env)).any (·.1) = false := by
  intro es h
  have : ∀ {es : List Expr}, allShp es = true → ∀ p ∈ starEach es env, p.1 = false := by
    intro es
    induction es with
    | nil => intro _ p hp; cases hp
    | cons e es ih =>
      intro h p hp
      unfold allShp at h
      rw [Bool.and_eq_true] at h
      rw [shp_star h.1] at hp
      rcases List.mem_cons.mp hp with rfl | hp
      · rfl
      · exact ih h.2 p hp
  have k := this h
  unfold backTo
  rw [List.any_map, List.any_eq_false]
  intro p hp
  simp [k p hp]
end
end MP

set_option Elab.async false
set_option linter.all false
set_option maxRecDepth 100000
set_option maxHeartbeats 8000000
set_option autoImplicit false
/-! MPE: expressions come to what the evaluator tells. -/
namespace MP
open PySem L2
open PyProof.Rows hiding St

section
variable {X : Cx} {T : Tab} {W : WX} {O : List Addr} {σ : St} {ρ : Env} {H : Hp}
theorem PoE.v {Q : VK} {r : R D} (p : PoE T W O σ H Q r) (n : ∀ c, r ≠ .ex c) : PoV T O H Q r := by
  cases r with
  | ok d => exact p
  | ex c => exact absurd rfl (n c)
  | no => exact p
theorem PoE.b {Q : VK} {r : R Bool} (p : PoE T W O σ H Q (r.bind fun b => .ok (.bl b))) (n : ∀ c, r ≠ .ex c) : PoB H (fun b => Q (.bl b) H) r := by
  cases r with
  | ok d => exact p _ H (Ex.refl H) (.bl d)
  | ex c => exact absurd rfl (n c)
  | no => exact p
theorem PoT.b {Q : Bool → Hp → Prop} {r : R Bool} (p : PoT T W σ H Q r) (n : ∀ c, r ≠ .ex c) : PoB H (fun b => Q b H) r := by
  cases r with
  | ok d => exact p H (Ex.refl H)
  | ex c => exact absurd rfl (n c)
  | no => exact p
theorem PoB.imp {Q Q' : Bool → Prop} {r : R Bool} (p : PoB H Q r) (h : ∀ b, Q b → Q' b) : PoB H Q' r := by
  cases r with
  | ok b => exact h b p
  | ex c => exact p
  | no => exact p
/-! ### operations raise nothing -/
theorem binD_nex : ∀ (o : BOp) (x y : D) (c : Nat), binD o x y ≠ .ex c := by
  intro o x y c
  cases o <;> cases x <;> cases y <;> simp only [binD, addD, mulD, fdivD, modD, shlD, shrD, powD, int2, ne_eq, reduceCtorEq, not_false_eq_true] <;> (split <;> simp)
theorem negD_nex : ∀ (x : D) (c : Nat), negD x ≠ .ex c := by
  intro x c
  cases x <;> simp [negD]
theorem cmpI_nex (f : Int → Int → Bool) : ∀ (x y : D) (c : Nat), cmpI f x y ≠ .ex c := by
  intro x y c
  cases x <;> cases y <;> simp [cmpI]
theorem notR_nex {r : R Bool} (n : ∀ c, r ≠ .ex c) : ∀ c, notR r ≠ .ex c := by
  intro c
  cases r <;> simp [notR]
  rename_i c'
  exact absurd rfl (n c')
theorem eqD_nex (x y : D) (c : Nat) : eqD x y ≠ .ex c := by
  unfold eqD
  split <;> simp
theorem eqE_nex (x y : D) (c : Nat) : eqE x y ≠ .ex c := by
  unfold eqE
  split <;> (try split) <;> simp
theorem isD_nex (x y : D) (c : Nat) : isD x y ≠ .ex c := by
  cases x <;> cases y <;> simp [isD]
theorem ite_nex {p : Prop} [Decidable p] {α : Type} {x y : R α} {c : Nat} (hx : x ≠ .ex c) (hy : y ≠ .ex c) : (if p then x else y) ≠ .ex c := by
  by_cases h : p
  · rw [if_pos h]; exact hx
  · rw [if_neg h]; exact hy
theorem inD_nex (x y : D) (c : Nat) : inD x y ≠ .ex c := by
  cases y with
  | lst ys => exact ite_nex (by simp) (ite_nex (by simp) (by simp))
  | tup ys => exact ite_nex (by simp) (by simp)
  | str l =>
    simp only [inD]
    split <;> simp
  | _ => simp [inD]
theorem cmpD_nex : ∀ (o : COp) (x y : D) (c : Nat), cmpD o x y ≠ .ex c
  | .eq, x, y => eqE_nex x y
  | .ne, x, y => notR_nex (eqD_nex x y)
  | .lt, x, y => cmpI_nex _ x y
  | .le, x, y => cmpI_nex _ x y
  | .gt, x, y => cmpI_nex _ x y
  | .ge, x, y => cmpI_nex _ x y
  | .is, x, y => isD_nex x y
  | .isn, x, y => notR_nex (isD_nex x y)
  | .in_, x, y => inD_nex x y
  | .nin, x, y => notR_nex (inD_nex x y)
theorem ixD_nex (x y : D) (c : Nat) : ixD x y ≠ .ex c := by
  cases x <;> cases y <;> simp only [ixD, ne_eq, reduceCtorEq, not_false_eq_true] <;> (repeat' split) <;> simp
theorem slcD_nex (x : D) (lo hi : Option Int) (c : Nat) : slcD x lo hi ≠ .ex c := by
  cases x <;> simp only [slcD, ne_eq, reduceCtorEq, not_false_eq_true] <;> (split <;> simp)
theorem f1D_nex (f : F1) (x : D) (c : Nat) : f1D f x ≠ .ex c := by
  cases f <;> cases x <;> simp only [f1D, bestL, ne_eq, reduceCtorEq, not_false_eq_true] <;> (repeat' split) <;> simp [ofS]
theorem f2D_nex (f : F2) (x y : D) (c : Nat) : f2D f x y ≠ .ex c := by
  cases f <;> cases x <;> cases y <;> simp only [f2D, ne_eq, reduceCtorEq, not_false_eq_true] <;> (repeat' split) <;> simp
theorem tmD_nex (m : TM) (x y : D) (c : Nat) : tmD m x y ≠ .ex c := by
  cases m <;> cases x <;> cases y <;> simp only [tmD, ne_eq, reduceCtorEq, not_false_eq_true] <;> (repeat' split) <;> simp
theorem isI_nex (x : D) (k : Cl) (c : Nat) : isI x k ≠ .ex c := by
  cases x <;> cases k <;> simp [isI]
theorem pick_nex (g : D → R Bool) (f : D → R D) : ∀ (xs : List D) (c : Nat), pick g f xs ≠ .ex c
  | [], c => by simp [pick]
  | x :: xs, c => by
    have ih := pick_nex g f xs
    unfold pick
    split
    · split
      · cases e : pick g f xs with
        | ok y => simp
        | ex d => exact absurd e (ih d)
        | no => simp
      · simp
    · exact ih c
    · simp

/-- an expression's test, by its value -/
theorem pt_gen {e : Expr} {m : E} (h : PE X e (tE T W m)) (he : ∀ whole, isTrue e X.env whole = (do let v ← whole; standAt e.pos; holding [v] (truthy v))) : PT X e (tT T W m) := by
  refine pt_weak (pt_val h he) fun σ H Q ⟨O, ρ, hr, p⟩ => ?_
  refine tE_bind wantT hr (show PoT T W σ H Q ((evE m ρ).bind boolD) from p) fun d v H1 e1 dv p1 => ?_
  cases dv with
  | bl b => exact ⟨b, rfl, p1 H1 (Ex.refl H1)⟩
  | _ => exact False.elim p1

/-! ### sources -/
def Yl (T : Tab) (O : List Addr) (H0 : Hp) (J : It) (ds : List D) : Prop := ∀ (i : Nat) (O' : List Addr) (H : Hp), Ex (hide O H0) (hide O' H) → (∀ a ∈ O', H a ≠ none) →
  (∀ d, ds[i]? = some d → J.go i H ∧ ∀ x H', J.yld i H x H' → Ex H H' ∧ DV T (hide O' H') d x) ∧ (ds.length ≤ i → J.stop i H)
def tI (T : Tab) (W : WX) (m : Src) : TI := fun σ H R => ∃ O ρ, Rl T O σ ρ H ∧ (match evSrc m ρ with
  | .ok ds => ∀ J H', Ex H H' → Yl T O H' J ds → R J H'
  | .ex c => ∀ H', Ex H H' → c ∈ T.exs → W (.ref (T.exc c)) none σ H'
  | .no => False)
theorem pi_weak {tg it : Expr} {t t' : TI} (h : PI X tg it t) (w : ∀ σ H R, t' σ H R → t σ H R) : PI X tg it t' := ⟨fun pins s σ H R I q => h.run pins s σ H R I (w σ H R q)⟩
theorem yl_list (hK : X.K = T.K) {a : Addr} {vs : List V} {ds : List D} (h : SqL T.K (hide O H) a vs) (r : DVs T (hide O H) ds vs) : Yl T O H (Itl X.K a) ds := by
  intro i O' H1 e l
  refine ⟨fun d hd => ?_, fun hi => ⟨vs, by rw [hK]; exact ex_sql (e.trans hide_ex) h, by rw [← r.length]; exact hi⟩⟩
  obtain ⟨w, hw, dw⟩ := r.get hd
  refine ⟨⟨vs, w, by rw [hK]; exact ex_sql (e.trans hide_ex) h, hw⟩, fun x H' y => ?_⟩
  obtain ⟨rfl, y⟩ := y
  have z := y vs (by rw [hK]; exact ex_sql (e.trans hide_ex) h)
  rw [hw] at z
  cases z
  exact ⟨Ex.refl _, dw.mono e⟩
theorem yl_zip (hK : X.K = T.K) {a b : Addr} {vs ws : List V} {ds es : List D} (h : SqL T.K (hide O H) a vs) (r : DVs T (hide O H) ds vs) (h2 : SqL T.K (hide O H) b ws) (r2 : DVs T (hide O H) es ws) : Yl T O H (Itz X.K a b) ((ds.zip es).map fun p => .tup [p.1, p.2]) := by
  intro i O' H1 e l
  have q1 : SqL X.K H1 a vs := by rw [hK]; exact ex_sql (e.trans hide_ex) h
  have q2 : SqL X.K H1 b ws := by rw [hK]; exact ex_sql (e.trans hide_ex) h2
  refine ⟨fun d hd => ?_, fun hi => ⟨vs, ws, q1, q2, ?_⟩⟩
  · rw [List.getElem?_map] at hd
    cases hz : (ds.zip es)[i]? with
    | none => rw [hz] at hd; cases hd
    | some p =>
      rw [hz] at hd
      cases hd
      obtain ⟨k1, k2⟩ := List.getElem?_zip_eq_some.mp hz
      obtain ⟨x, hx, dx⟩ := r.get k1
      obtain ⟨y, hy, dy⟩ := r2.get k2
      refine ⟨⟨vs, ws, x, y, q1, q2, hx, hy⟩, fun v H' yl => ?_⟩
      obtain ⟨t, x', y', rfl, n, rfl, z1, z2⟩ := yl
      have w1 := z1 vs q1
      have w2 := z2 ws q2
      rw [hx] at w1
      rw [hy] at w2
      cases w1
      cases w2
      have m := e.trans (hide_mono (O := O') (Ex.new (o := .tup [x, y]) n))
      exact ⟨Ex.new n, .tup (SqT.of (by rw [hide_out (live_new l n)]; exact upd_same)) (.cons (dx.mono m) (.cons (dy.mono m) .nil))⟩
  · rw [List.length_map, List.length_zip] at hi
    rw [← r.length, ← r2.length]
    omega
theorem yl_tup (hK : X.K = T.K) {a : Addr} {vs : List V} {ds : List D} (h : SqT T.K (hide O H) a vs) (r : DVs T (hide O H) ds vs) : Yl T O H (Itt X.K a) ds := by
  intro i O' H1 e l
  refine ⟨fun d hd => ?_, fun hi => ⟨vs, by rw [hK]; exact ex_sqt (e.trans hide_ex) h, by rw [← r.length]; exact hi⟩⟩
  obtain ⟨w, hw, dw⟩ := r.get hd
  refine ⟨⟨vs, w, by rw [hK]; exact ex_sqt (e.trans hide_ex) h, hw⟩, fun x H' y => ?_⟩
  obtain ⟨rfl, y⟩ := y
  have z := y vs (by rw [hK]; exact ex_sqt (e.trans hide_ex) h)
  rw [hw] at z
  cases z
  exact ⟨Ex.refl _, dw.mono e⟩
theorem yl_str {x : Str} : Yl T O H (Its x) (x.cps.toList.map fun c => .str [c]) := by
  intro i O' H1 e l
  refine ⟨fun d hd => ?_, fun hi => by
    rw [List.length_map, Array.length_toList] at hi
    exact hi⟩
  rw [List.getElem?_map] at hd
  cases q : x.cps.toList[i]? with
  | none => rw [q] at hd; cases hd
  | some c =>
    rw [q] at hd
    have e1 : D.str [c] = d := Option.some.inj hd
    subst e1
    have hc : x.cps[i]? = some c := by simpa using q
    have hi : i < x.cps.size := by
      rw [Array.getElem?_eq_some_iff] at hc
      exact hc.1
    refine ⟨hi, fun v H' y => ?_⟩
    obtain ⟨rfl, c', e2, rfl⟩ := y
    rw [hc] at e2
    cases e2
    exact ⟨Ex.refl _, .str ⟨#[c]⟩⟩
theorem yl_rng {lo c : Int} {n : Nat} : Yl T O H (Itc lo c n) (rngL lo n c) := by
  intro i O' H1 e l
  unfold rngL
  refine ⟨fun d hd => ?_, fun hi => by
    rw [List.length_map, List.length_range] at hi
    exact hi⟩
  rw [List.getElem?_map] at hd
  by_cases hi : i < n
  · rw [List.getElem?_range hi] at hd
    have e1 := Option.some.inj hd
    subst e1
    refine ⟨hi, fun v H' y => ?_⟩
    obtain ⟨rfl, rfl⟩ := y
    exact ⟨Ex.refl _, .int _⟩
  · rw [List.getElem?_eq_none (by simpa using hi)] at hd
    cases hd
theorem yl_rng1 {lo : Int} {n : Nat} : Yl T O H (Itr lo n) (rngL lo n 1) := by
  intro i O' H1 e l
  obtain ⟨h1, h2⟩ := yl_rng (T := T) (O := O) (H := H) (lo := lo) (c := 1) (n := n) i O' H1 e l
  refine ⟨fun d hd => ⟨(h1 d hd).1, fun x H' y => (h1 d hd).2 x H' ?_⟩, h2⟩
  obtain ⟨y1, y2⟩ := y
  exact ⟨y1, by rw [y2, Int.mul_one]⟩
theorem pi_any {tg it : Expr} {m : E} (hK : X.K = T.K) (h : PE X it (tE T W m)) : PI X tg it (tI T W (.e m)) := by
  refine ⟨fun pins s σ H R I ⟨O, ρ, hr, p⟩ => ?_⟩
  have p : (match (evE m ρ).bind itemsD with
    | .ok ds => ∀ J H', Ex H H' → Yl T O H' J ds → R J H'
    | .ex c => ∀ H', Ex H H' → c ∈ T.exs → W (.ref (T.exc c)) none σ H'
    | .no => False) := p
  cases e : evE m ρ with
  | ok d =>
    rw [e] at p
    cases d with
    | lst ds =>
      refine (pi_list h).run pins s σ H R I ⟨O, ρ, hr, ?_⟩
      rw [e]
      intro v H' e' dv
      cases dv with
      | lst h r => exact ⟨_, rfl, ⟨_, by rw [hK]; exact ex_sql hide_ex h⟩, p _ _ e' (yl_list hK h r)⟩
    | tup ds =>
      refine (pi_tup h).run pins s σ H R I ⟨O, ρ, hr, ?_⟩
      rw [e]
      intro v H' e' dv
      cases dv with
      | tup h r => exact ⟨_, rfl, ⟨_, by rw [hK]; exact ex_sqt hide_ex h⟩, p _ _ e' (yl_tup hK h r)⟩
    | str l =>
      refine (pi_str h).run pins s σ H R I ⟨O, ρ, hr, ?_⟩
      rw [e]
      intro v H' e' dv
      cases dv with
      | str x => exact ⟨x, rfl, p _ _ e' yl_str⟩
    | _ => exact False.elim p
  | ex c =>
    rw [e] at p
    refine (pi_list h).run pins s σ H R I ⟨O, ρ, hr, ?_⟩
    rw [e]
    exact p
  | no =>
    rw [e] at p
    exact False.elim p
/-- a list of arguments, by the expressions -/
theorem pa1 {e : Expr} {t : TE} (h : PE X e t) (hs : shp e = true) : PA X [e] (tCons t tNil) := pa_cons h pa_nil (shp_star hs)
theorem pa2 {e e' : Expr} {t t' : TE} (h : PE X e t) (h' : PE X e' t') (hs : shp e = true) (hs' : shp e' = true) : PA X [e, e'] (tCons t (tCons t' tNil)) := pa_cons h (pa1 h' hs') (shp_star hs)
theorem pa3 {e e' e2 : Expr} {t t' t2 : TE} (h : PE X e t) (h' : PE X e' t') (h2 : PE X e2 t2) (hs : shp e = true) (hs' : shp e' = true) (hs2 : shp e2 = true) : PA X [e, e', e2] (tCons t (tCons t' (tCons t2 tNil))) := pa_cons h (pa2 h' h2 hs' hs2) (shp_star hs)
theorem small_ok {i : Int} (h : small i = true) : -(2 ^ 62) ≤ i ∧ i < 2 ^ 62 := by
  unfold small at h
  have h := of_decide_eq_true h
  have e : (2 : Int) ^ 62 = 4611686018427387904 := by decide
  rw [e]
  exact h
theorem rgc_ok {i j c : Int} (hi : small i = true) (hj : small j = true) (hc : 0 < c ∧ c < 1000000000) : RgC i j c (if i < j then (j - i - 1) / c + 1 else 0).toNat := by
  have h1 := of_decide_eq_true (show decide (-(4611686018427387904) ≤ i ∧ i < 4611686018427387904) = true from hi)
  have h2 := of_decide_eq_true (show decide (-(4611686018427387904) ≤ j ∧ j < 4611686018427387904) = true from hj)
  have e : Builtin.Range.rangeSize i j c = if i < j then (j - i - 1) / c + 1 else 0 := by
    unfold Builtin.Range.rangeSize
    rw [if_pos hc.1]
  have hn : 0 ≤ (if i < j then (j - i - 1) / c + 1 else 0) ∧ (if i < j then (j - i - 1) / c + 1 else 0) < 9223372036854775808 := by
    split
    · have a := Int.ediv_nonneg (show 0 ≤ j - i - 1 by omega) (show 0 ≤ c by omega)
      have b := Int.ediv_le_self c (show 0 ≤ j - i - 1 by omega)
      omega
    · omega
  refine ⟨by omega, by omega, ?_, ?_⟩
  · unfold Builtin.Range.small
    rw [e]
    have e63 : (2 : Int) ^ 63 = 9223372036854775808 := by decide
    simp only [Builtin.Range.rangeFitsLong, e63, Bool.and_eq_true, Bool.or_eq_true, decide_eq_true_eq, beq_iff_eq, if_pos hc.1]
    refine ⟨⟨⟨⟨⟨by omega, by omega⟩, by omega, by omega⟩, by omega, by omega⟩, by omega, by omega⟩, .inr ⟨by omega, by omega⟩⟩
  · rw [e]
    omega
end
end MP

set_option Elab.async false
set_option linter.all false
set_option maxRecDepth 100000
set_option maxHeartbeats 16000000
set_option autoImplicit false
/-! MPF: each expression that the look lets pass comes to what the evaluator tells. -/
namespace MP
open PySem L2
open PyProof.Rows hiding St

structure SndE (X : Cx) (T : Tab) (W : WX) (m : E) (e : Expr) : Prop where
  pe : PE X e (tE T W m)
  pt : PT X e (tT T W m)
  pw : ∀ op vs pos, e = .BoolOp op vs pos → PW X e (tT T W m)
/-- where an expression stands -/
structure At (X : Cx) (T : Tab) (W : WX) (N : List Str) (sc : Scope) : Prop where
  C : Cxt X T
  hN : X.N = N
  nd : N.Nodup
  hs : X.env.scope = sc
  tk : Takes X W

section
variable {T : Tab}
/-- in a comprehension's block -/
theorem At.blk {X : Cx} {W : WX} {N : List Str} {sc scope : Scope} (A : At X T W N sc) (s : Shared) (H : Hp) (C : Addr) (cl : List (Str × Addr)) (fp : List Addr) : At (X.blk s H scope (compEnvC scope cl C X.env) fp) T (fun _ _ _ _ => False) N (relS scope sc) :=
  ⟨⟨A.C.hK, A.C.calm, A.C.units, A.C.exT, A.C.exI, A.C.exV, A.C.exN, A.C.exF, A.C.exM, A.C.dig⟩, A.hN, A.nd, by rw [← A.hs]; rfl, takes0⟩
theorem snd_of {X : Cx} {W : WX} {m : E} {e : Expr} (h : PE X e (tE T W m)) (he : ∀ whole, isTrue e X.env whole = (do let v ← whole; standAt e.pos; holding [v] (truthy v))) (hb : ∀ op vs pos, e ≠ .BoolOp op vs pos) : SndE X T W m e :=
  ⟨h, pt_gen h he, fun op vs pos q => absurd q (hb op vs pos)⟩

/-! ### the cases -/
section
variable {X : Cx} {W : WX} {N : List Str} {sc : Scope}
theorem s_var {i : Nat} {x : Str} {pos : Pos} (A : At X T W N sc) (h1 : N[i]? = some x) (h2 : vis sc x = true) (h3 : okName x = true) : SndE X T W (.var i) (.Name x pos) := by
  refine snd_of (pe_weak (pe_var (i := i) (by rw [A.hN]; exact h1) (vis_ok A.hs h2) (okName_1 h3) (okName_2 h3)) fun σ H Q ⟨O, ρ, hr, p⟩ => ?_) (fun _ => rfl) (fun _ _ _ q => nomatch q)
  have p : PoE T W O σ H Q (getS ρ i) := p
  cases e : getS ρ i with
  | ok d =>
    rw [e] at p
    obtain ⟨v, h4, h5⟩ := hr.get e
    exact ⟨v, h4, p v H (Ex.refl H) h5⟩
  | ex c =>
    unfold getS at e
    split at e <;> cases e
  | no => rw [e] at p; exact False.elim p
theorem s_int {i : Int} {k : Nat} {pos : Pos} : SndE X T W (.int i) (.Constant (.int i) k pos) :=
  snd_of (pe_weak pe_int fun σ H Q ⟨O, ρ, hr, p⟩ => p _ H (Ex.refl H) (.int i)) (fun _ => rfl) (fun _ _ _ q => nomatch q)
theorem s_bl {i : Bool} {k : Nat} {pos : Pos} : SndE X T W (.bl i) (.Constant (.bool i) k pos) :=
  snd_of (pe_weak pe_bl fun σ H Q ⟨O, ρ, hr, p⟩ => p _ H (Ex.refl H) (.bl i)) (fun _ => rfl) (fun _ _ _ q => nomatch q)
theorem s_non {k : Nat} {pos : Pos} : SndE X T W .non (.Constant .none k pos) :=
  snd_of (pe_weak pe_non fun σ H Q ⟨O, ρ, hr, p⟩ => p _ H (Ex.refl H) .non) (fun _ => rfl) (fun _ _ _ q => nomatch q)
theorem s_str {l : List Nat} {x : Str} {k : Nat} {pos : Pos} (h : x.cps.toList = l) : SndE X T W (.str l) (.Constant (.str x) k pos) :=
  snd_of (pe_weak pe_str fun σ H Q ⟨O, ρ, hr, p⟩ => p _ H (Ex.refl H) (by rw [← h]; exact .str x)) (fun _ => rfl) (fun _ _ _ q => nomatch q)
theorem s_glo {nm : String} {d : D} {x : Str} {pos : Pos} (f : FOk X nm x) (h : Holds X T (.glo nm d)) : SndE X T W (.glo nm d) (.Name x pos) := by
  obtain ⟨v, u, h1, h2, h3⟩ := h
  obtain ⟨rfl, g, n1, n3⟩ := f
  exact snd_of (pe_weak (pe_glob g h1 h2 n1) fun σ H Q ⟨O, ρ, hr, p⟩ => p _ H (Ex.refl H) (h3 _)) (fun _ => rfl) (fun _ _ _ q => nomatch q)
theorem s_bin (A : At X T W N sc) {o : BOp} {a b : E} {l r : Expr} {pos : Pos} (ha : PE X l (tE T W a)) (hb : PE X r (tE T W b)) : SndE X T W (.bin o a b) (.BinOp l (opB o) r pos) := by
  refine snd_of (pe_weak (pe_op (o_bin A.C o) ha hb) fun σ H Q ⟨O, ρ, hr, p⟩ => ?_) (fun _ => rfl) (fun _ _ _ q => nomatch q)
  exact tE_bind wantE hr (show PoE T W O σ H Q ((evE a ρ).bind fun x => (evE b ρ).bind fun y => binD o x y) from p) fun dx x H1 e1 d1 p1 => tE_bind wantE (hr.mono e1) p1 fun dy y H2 e2 d2 p2 =>
    ⟨O, dx, dy, live_mono (e1.trans e2) hr.live, d1.mono (hide_mono e2), d2, p2.v (binD_nex o dx dy)⟩
theorem s_neg {a : E} {l : Expr} {pos : Pos} (ha : PE X l (tE T W a)) : SndE X T W (.neg a) (.UnaryOp .USub l pos) := by
  refine snd_of (pe_weak (pe_un (o_neg (T := T)) ha) fun σ H Q ⟨O, ρ, hr, p⟩ => ?_) (fun _ => rfl) (fun _ _ _ q => nomatch q)
  exact tE_bind wantE hr (show PoE T W O σ H Q ((evE a ρ).bind negD) from p) fun dx x H1 e1 d1 p1 => ⟨O, dx, live_mono e1 hr.live, d1, p1.v (negD_nex dx)⟩
theorem s_cmp (A : At X T W N sc) {o : COp} {a b : E} {l r : Expr} {pos : Pos} (ha : PE X l (tE T W a)) (hb : PE X r (tE T W b)) (hs : shp r = true) : SndE X T W (.cmp o a b) (.Compare l [opC o] [r] pos) := by
  refine ⟨pe_weak (pe_cmpR (o_cmp A.C o) ha hb (shp_mark hs)) fun σ H Q ⟨O, ρ, hr, p⟩ => ?_, pt_weak (pt_cmpR (o_cmp A.C o) ha hb (shp_mark hs)) fun σ H Q ⟨O, ρ, hr, p⟩ => ?_, fun _ _ _ q => nomatch q⟩
  · exact tE_bind wantE hr (show PoE T W O σ H Q ((evE a ρ).bind fun x => (evE b ρ).bind fun y => (cmpD o x y).bind fun b => .ok (.bl b)) from p) fun dx x H1 e1 d1 p1 => tE_bind wantE (hr.mono e1) p1 fun dy y H2 e2 d2 p2 =>
      ⟨O, dx, dy, live_mono (e1.trans e2) hr.live, d1.mono (hide_mono e2), d2, p2.b (cmpD_nex o dx dy)⟩
  · have p : PoT T W σ H Q ((evE a ρ).bind fun x => (evE b ρ).bind fun y => cmpD o x y) := by
      have p : PoT T W σ H Q (((evE a ρ).bind fun x => (evE b ρ).bind fun y => (cmpD o x y).bind fun b => .ok (.bl b)).bind boolD) := p
      cases ea : evE a ρ with
      | ok dx =>
        rw [ea] at p
        cases eb : evE b ρ with
        | ok dy =>
          rw [eb] at p
          show PoT T W σ H Q (cmpD o dx dy)
          cases ec : cmpD o dx dy with
          | ok k => simp only [R.bind_ok, ec, boolD] at p; exact p
          | ex k => simp only [R.bind_ok, R.bind_ex, ec] at p; exact p
          | no => simp only [R.bind_ok, R.bind_no, ec] at p; exact p
        | ex c => rw [eb] at p; exact p
        | no => rw [eb] at p; exact p
      | ex c => rw [ea] at p; exact p
      | no => rw [ea] at p; exact p
    exact tE_bind wantT hr p fun dx x H1 e1 d1 p1 => tE_bind wantT (hr.mono e1) p1 fun dy y H2 e2 d2 p2 =>
      ⟨O, dx, dy, live_mono (e1.trans e2) hr.live, d1.mono (hide_mono e2), d2, (p2.b (cmpD_nex o dx dy)).imp fun b q => ⟨b, rfl, q⟩⟩
theorem s_chn (A : At X T W N sc) {o o' : COp} {a b c : E} {l r r' : Expr} {pos : Pos} (ha : PE X l (tE T W a)) (hb : PE X r (tE T W b)) (hc : PE X r' (tE T W c)) (hs : shp r' = true) : SndE X T W (.chn o o' a b c) (.Compare l [opC o, opC o'] [r, r'] pos) := by
  have hm : lastMarks [opC o, opC o'] [r, r'] = false := shp_mark hs
  have key : ∀ {σ : L2.St} {H : Hp} {Q : VK}, tE T W (.chn o o' a b c) σ H Q → tChain (rC T (cmpD o)) (rC T (cmpD o')) (tE T W a) (tE T W b) (tE T W c) σ H Q := by
    intro σ H Q ⟨O, ρ, hr, p⟩
    exact tE_bind wantE hr (show PoE T W O σ H Q ((evE a ρ).bind fun x => (evE b ρ).bind fun y => (cmpD o x y).bind fun t => if t = true then (evE c ρ).bind fun z => (cmpD o' y z).bind fun b => .ok (.bl b) else .ok (.bl false)) from p) fun dx x H1 e1 d1 p1 => tE_bind wantE (hr.mono e1) p1 fun dy y H2 e2 d2 p2 => by
      refine ⟨O, dx, dy, live_mono (e1.trans e2) hr.live, d1.mono (hide_mono e2), d2, ?_⟩
      cases ec : cmpD o dx dy with
      | ok k =>
        refine ⟨k, rfl, ?_⟩
        rw [ec] at p2
        cases k with
        | true =>
          rw [if_pos rfl]
          exact tE_bind wantE (hr.mono (e1.trans e2)) p2 fun dz z H3 e3 d3 p3 => ⟨O, dy, dz, live_mono ((e1.trans e2).trans e3) hr.live, d2.mono (hide_mono e3), d3, p3.b (cmpD_nex o' dy dz)⟩
        | false =>
          rw [if_neg Bool.false_ne_true]
          exact p2 _ H2 (Ex.refl H2) (.bl false)
      | ex k => exact absurd ec (cmpD_nex o dx dy k)
      | no => rw [ec] at p2; exact p2
  refine ⟨pe_weak (pe_chain (o_cmp A.C o) (o_cmp A.C o') ha hb hc hm) fun σ H Q q => key q, pt_weak (pt_chain (o_cmp A.C o) (o_cmp A.C o') ha hb hc hm) fun σ H Q ⟨O, ρ, hr, p⟩ => ?_, fun _ _ _ q => nomatch q⟩
  refine key ⟨O, ρ, hr, ?_⟩
  have p : PoT T W σ H Q ((evE (.chn o o' a b c) ρ).bind boolD) := p
  cases e : evE (.chn o o' a b c) ρ with
  | ok d =>
    rw [e] at p
    intro v H' e' dv
    cases dv with
    | bl k => exact ⟨k, rfl, p H' e'⟩
    | _ => exact False.elim p
  | ex c => rw [e] at p; exact p
  | no => rw [e] at p; exact p
/-- a op1 b op2 c op3 d -/
def tChain3 (r r' r2 : R2) (ta tb tc td : TE) : TE := fun σ H Q => ta σ H fun x H1 => tb σ H1 fun y H2 => r x y H2 fun z H3 => ∃ k, z = .bl k ∧
  (if k = true then tc σ H3 fun v H4 => r' y v H4 fun z' H5 => ∃ k', z' = .bl k' ∧ (if k' = true then td σ H5 fun u H6 => r2 v u H6 Q else Q (.bl false) H5) else Q (.bl false) H3)
theorem pe_chain3 {op op' op2 : CmpOp} {r r' r2 : R2} {a b c d : Expr} {ta tb tc td : TE} {pos : Pos} (ho : OpR X (compareOp op) r) (ho' : OpR X (compareOp op') r') (ho2 : OpR X (compareOp op2) r2) (ha : PE X a ta) (hb : PE X b tb) (hc : PE X c tc) (hd : PE X d td)
    (hm : lastMarks [op, op', op2] [b, c, d] = false) : PE X (.Compare a [op, op', op2] [b, c, d] pos) (tChain3 r r' r2 ta tb tc td) := by
  refine ⟨fun pins s σ H Q I h => ?_⟩
  refine Compare_chain (thn (ha.run pins s σ H _ I h) fun v s1 ⟨x, H1, I1, r1, q1⟩ => chain_link (thn (hb.run pins s1 σ H1 _ I1 q1) fun u s2 ⟨y, H2, I2, r2', q2⟩ =>
    thn (ho pins s2 σ H2 x y v u _ I2 r1 r2' q2) fun d s3 ⟨z, H3, I3, r3, k, e, q3⟩ => ?_)) hm
  subst e
  cases r3
  refine wpAny_truthy_bool ?_
  cases k with
  | false => exact ite_ff ⟨.bl false, H3, I3, rfl, q3⟩
  | true =>
    refine ite_tt (chain_link (thn (hc.run pins s3 σ H3 _ I3 q3) fun w' s4 ⟨z', H4, I4, r4, q4⟩ => thn (ho' pins s4 σ H4 y z' u w' _ I4 r2' r4 q4) fun d s5 ⟨z2, H5, I5, r5, k', e', q5⟩ => ?_))
    subst e'
    cases r5
    refine wpAny_truthy_bool ?_
    cases k' with
    | false => exact ite_ff ⟨.bl false, H5, I5, rfl, q5⟩
    | true => exact ite_tt (chain_last (thn (hd.run pins s5 σ H5 _ I5 q5) fun w2 s6 ⟨z3, H6, I6, r6, q6⟩ => ho2 pins s6 σ H6 z' z3 w' w2 Q I6 r4 r6 q6))
theorem pt_chain3 {op op' op2 : CmpOp} {r r' r2 : R2} {a b c d : Expr} {ta tb tc td : TE} {pos : Pos} (ho : OpR X (compareOp op) r) (ho' : OpR X (compareOp op') r') (ho2 : OpR X (compareOp op2) r2) (ha : PE X a ta) (hb : PE X b tb) (hc : PE X c tc) (hd : PE X d td)
    (hm : lastMarks [op, op', op2] [b, c, d] = false) : PT X (.Compare a [op, op', op2] [b, c, d] pos) (tTest (tChain3 r r' r2 ta tb tc td)) := by
  refine ⟨fun pins s σ H Q I h => ?_⟩
  refine isTrue_chain (thn (ha.run pins s σ H _ I h) fun v s1 ⟨x, H1, I1, r1, q1⟩ => test_link (thn (hb.run pins s1 σ H1 _ I1 q1) fun u s2 ⟨y, H2, I2, r2', q2⟩ =>
    thn (ho pins s2 σ H2 x y v u _ I2 r1 r2' q2) fun d s3 ⟨z, H3, I3, r3, k, e, q3⟩ => ?_)) hm
  subst e
  cases r3
  refine wpAny_truthy_bool ?_
  cases k with
  | false =>
    obtain ⟨k', e', q'⟩ := q3
    cases e'
    exact ite_ff ⟨H3, I3, q'⟩
  | true =>
    refine ite_tt (test_link (thn (hc.run pins s3 σ H3 _ I3 q3) fun w' s4 ⟨z', H4, I4, r4, q4⟩ => thn (ho' pins s4 σ H4 y z' u w' _ I4 r2' r4 q4) fun d s5 ⟨z2, H5, I5, r5, k', e', q5⟩ => ?_))
    subst e'
    cases r5
    refine wpAny_truthy_bool ?_
    cases k' with
    | false =>
      obtain ⟨k2, e2, q'⟩ := q5
      cases e2
      exact ite_ff ⟨H5, I5, q'⟩
    | true =>
      refine ite_tt (test_last (thn (hd.run pins s5 σ H5 _ I5 q5) fun w2 s6 ⟨z3, H6, I6, r6, q6⟩ => thn (ho2 pins s6 σ H6 z' z3 w' w2 _ I6 r4 r6 q6) fun d s7 ⟨z4, H7, I7, r7, k3, e3, q7⟩ => ?_))
      subst e3
      cases r7
      exact wpAny_truthy_bool ⟨H7, I7, q7⟩
theorem s_chn3 (A : At X T W N sc) {o o' o2 : COp} {a b c d : E} {l r r' r2 : Expr} {pos : Pos} (ha : PE X l (tE T W a)) (hb : PE X r (tE T W b)) (hc : PE X r' (tE T W c)) (hd : PE X r2 (tE T W d)) (hs : shp r2 = true) : SndE X T W (.chn3 o o' o2 a b c d) (.Compare l [opC o, opC o', opC o2] [r, r', r2] pos) := by
  have hm : lastMarks [opC o, opC o', opC o2] [r, r', r2] = false := shp_mark hs
  have key : ∀ {σ : L2.St} {H : Hp} {Q : VK}, tE T W (.chn3 o o' o2 a b c d) σ H Q → tChain3 (rC T (cmpD o)) (rC T (cmpD o')) (rC T (cmpD o2)) (tE T W a) (tE T W b) (tE T W c) (tE T W d) σ H Q := by
    intro σ H Q ⟨O, ρ, hr, p⟩
    exact tE_bind wantE hr (show PoE T W O σ H Q ((evE a ρ).bind fun x => (evE b ρ).bind fun y => (cmpD o x y).bind fun t => if t = true then (evE c ρ).bind fun z => (cmpD o' y z).bind fun t => if t = true then (evE d ρ).bind fun v => (cmpD o2 z v).bind fun b => .ok (.bl b) else .ok (.bl false) else .ok (.bl false)) from p) fun dx x H1 e1 d1 p1 => tE_bind wantE (hr.mono e1) p1 fun dy y H2 e2 d2 p2 => by
      refine ⟨O, dx, dy, live_mono (e1.trans e2) hr.live, d1.mono (hide_mono e2), d2, ?_⟩
      cases ec : cmpD o dx dy with
      | ok k =>
        refine ⟨k, rfl, ?_⟩
        rw [ec] at p2
        cases k with
        | true =>
          rw [if_pos rfl]
          refine tE_bind wantE (hr.mono (e1.trans e2)) p2 fun dz z H3 e3 d3 p3 => ?_
          refine ⟨O, dy, dz, live_mono ((e1.trans e2).trans e3) hr.live, d2.mono (hide_mono e3), d3, ?_⟩
          cases ec2 : cmpD o' dy dz with
          | ok k' =>
            refine ⟨k', rfl, ?_⟩
            rw [ec2] at p3
            cases k' with
            | true =>
              rw [if_pos rfl]
              exact tE_bind wantE (hr.mono ((e1.trans e2).trans e3)) p3 fun dv v H4 e4 d4 p4 => ⟨O, dz, dv, live_mono (((e1.trans e2).trans e3).trans e4) hr.live, d3.mono (hide_mono e4), d4, p4.b (cmpD_nex o2 dz dv)⟩
            | false =>
              rw [if_neg Bool.false_ne_true]
              exact p3 _ H3 (Ex.refl H3) (.bl false)
          | ex k' => exact absurd ec2 (cmpD_nex o' dy dz k')
          | no => rw [ec2] at p3; exact p3
        | false =>
          rw [if_neg Bool.false_ne_true]
          exact p2 _ H2 (Ex.refl H2) (.bl false)
      | ex k => exact absurd ec (cmpD_nex o dx dy k)
      | no => rw [ec] at p2; exact p2
  refine ⟨pe_weak (pe_chain3 (o_cmp A.C o) (o_cmp A.C o') (o_cmp A.C o2) ha hb hc hd hm) fun σ H Q q => key q, pt_weak (pt_chain3 (o_cmp A.C o) (o_cmp A.C o') (o_cmp A.C o2) ha hb hc hd hm) fun σ H Q ⟨O, ρ, hr, p⟩ => ?_, fun _ _ _ q => nomatch q⟩
  refine key ⟨O, ρ, hr, ?_⟩
  have p : PoT T W σ H Q ((evE (.chn3 o o' o2 a b c d) ρ).bind boolD) := p
  cases e : evE (.chn3 o o' o2 a b c d) ρ with
  | ok d =>
    rw [e] at p
    intro v H' e' dv
    cases dv with
    | bl k => exact ⟨k, rfl, p H' e'⟩
    | _ => exact False.elim p
  | ex c => rw [e] at p; exact p
  | no => rw [e] at p; exact p
theorem evT_and (a b : E) (ρ : Env) : evT (.and a b) ρ = (evT a ρ).bind fun t => if t = true then evT b ρ else .ok false := by
  show ((evE a ρ).bind fun x => (boolD x).bind fun t => if t = true then (evE b ρ).bind fun y => (boolD y).bind fun u => .ok (.bl u) else .ok (.bl false)).bind boolD = ((evE a ρ).bind boolD).bind _
  cases evE a ρ with
  | ok x =>
    show ((boolD x).bind _).bind boolD = (boolD x).bind _
    cases boolD x with
    | ok t =>
      cases t with
      | true =>
        show ((evE b ρ).bind fun y => (boolD y).bind fun u => .ok (.bl u)).bind boolD = (evE b ρ).bind boolD
        cases evE b ρ with
        | ok y =>
          show ((boolD y).bind fun u => .ok (.bl u)).bind boolD = boolD y
          cases boolD y <;> rfl
        | ex c => rfl
        | no => rfl
      | false => rfl
    | ex c => rfl
    | no => rfl
  | ex c => rfl
  | no => rfl
theorem evT_or (a b : E) (ρ : Env) : evT (.or a b) ρ = (evT a ρ).bind fun t => if t = true then .ok true else evT b ρ := by
  show ((evE a ρ).bind fun x => (boolD x).bind fun t => if t = true then .ok (.bl true) else (evE b ρ).bind fun y => (boolD y).bind fun u => .ok (.bl u)).bind boolD = ((evE a ρ).bind boolD).bind _
  cases evE a ρ with
  | ok x =>
    show ((boolD x).bind _).bind boolD = (boolD x).bind _
    cases boolD x with
    | ok t =>
      cases t with
      | false =>
        show ((evE b ρ).bind fun y => (boolD y).bind fun u => .ok (.bl u)).bind boolD = (evE b ρ).bind boolD
        cases evE b ρ with
        | ok y =>
          show ((boolD y).bind fun u => .ok (.bl u)).bind boolD = boolD y
          cases boolD y <;> rfl
        | ex c => rfl
        | no => rfl
      | true => rfl
    | ex c => rfl
    | no => rfl
  | ex c => rfl
  | no => rfl
theorem evT_not (a : E) (ρ : Env) : evT (.not a) ρ = (evT a ρ).bind fun t => .ok (!t) := by
  show ((evE a ρ).bind fun x => (boolD x).bind fun t => .ok (.bl (!t))).bind boolD = ((evE a ρ).bind boolD).bind _
  cases evE a ρ with
  | ok x =>
    show ((boolD x).bind _).bind boolD = (boolD x).bind _
    cases boolD x <;> rfl
  | ex c => rfl
  | no => rfl
theorem w_and {a b : E} {σ : L2.St} {H : Hp} {Q : Bool → Hp → Prop} (h : tT T W (.and a b) σ H Q) : tAnd (tT T W a) (tT T W b) σ H Q := by
  obtain ⟨O, ρ, hr, p⟩ := h
  rw [evT_and] at p
  refine tT_bind wantT hr p fun t H1 e1 p1 => ?_
  cases t with
  | true => exact ⟨O, ρ, hr.mono e1, p1⟩
  | false => exact p1 H1 (Ex.refl H1)
theorem w_or {a b : E} {σ : L2.St} {H : Hp} {Q : Bool → Hp → Prop} (h : tT T W (.or a b) σ H Q) : tOr (tT T W a) (tT T W b) σ H Q := by
  obtain ⟨O, ρ, hr, p⟩ := h
  rw [evT_or] at p
  refine tT_bind wantT hr p fun t H1 e1 p1 => ?_
  cases t with
  | false => exact ⟨O, ρ, hr.mono e1, p1⟩
  | true => exact p1 H1 (Ex.refl H1)
theorem v_and {a b : E} {σ : L2.St} {H : Hp} {Q : VK} (h : tE T W (.and a b) σ H Q) : tAndV (tE T W a) (tE T W b) σ H Q := by
  obtain ⟨O, ρ, hr, p⟩ := h
  refine tE_bind wantE hr (show PoE T W O σ H Q ((evE a ρ).bind fun x => (boolD x).bind fun t => if t = true then (evE b ρ).bind fun y => (boolD y).bind fun u => .ok (.bl u) else .ok (.bl false)) from p) fun dx x H1 e1 d1 p1 => ?_
  cases d1 with
  | bl t =>
    refine ⟨t, rfl, ?_⟩
    cases t with
    | true =>
      rw [if_pos rfl]
      refine tE_bind wantE (hr.mono e1) p1 fun dy y H2 e2 d2 p2 => ?_
      cases d2 with
      | bl u => exact p2 _ H2 (Ex.refl H2) (.bl u)
      | _ => exact False.elim p2
    | false =>
      rw [if_neg Bool.false_ne_true]
      exact p1 _ H1 (Ex.refl H1) (.bl false)
  | _ => exact False.elim p1
theorem v_or {a b : E} {σ : L2.St} {H : Hp} {Q : VK} (h : tE T W (.or a b) σ H Q) : tOrV (tE T W a) (tE T W b) σ H Q := by
  obtain ⟨O, ρ, hr, p⟩ := h
  refine tE_bind wantE hr (show PoE T W O σ H Q ((evE a ρ).bind fun x => (boolD x).bind fun t => if t = true then .ok (.bl true) else (evE b ρ).bind fun y => (boolD y).bind fun u => .ok (.bl u)) from p) fun dx x H1 e1 d1 p1 => ?_
  cases d1 with
  | bl t =>
    refine ⟨t, rfl, ?_⟩
    cases t with
    | false =>
      rw [if_neg Bool.false_ne_true]
      refine tE_bind wantE (hr.mono e1) p1 fun dy y H2 e2 d2 p2 => ?_
      cases d2 with
      | bl u => exact p2 _ H2 (Ex.refl H2) (.bl u)
      | _ => exact False.elim p2
    | true =>
      rw [if_pos rfl]
      exact p1 _ H1 (Ex.refl H1) (.bl true)
  | _ => exact False.elim p1
theorem s_and2 {a b : E} {x y : Expr} {pos : Pos} (ha : SndE X T W a x) (hb : SndE X T W b y) : SndE X T W (.and a b) (.BoolOp .And [x, y] pos) :=
  have w : PW X (.BoolOp .And [x, y] pos) (tT T W (.and a b)) := pw_weak (pw_and ha.pt (pw_and1 hb.pt)) fun σ H Q q => w_and q
  ⟨pe_weak (pe_and ha.pe (pe_one hb.pe)) fun σ H Q q => v_and q, w.pt, fun _ _ _ _ => w⟩
theorem s_and3 {a b : E} {x y z : Expr} {r : List Expr} {pos : Pos} (ha : SndE X T W a x) (hb : SndE X T W b (.BoolOp .And (y :: z :: r) pos)) : SndE X T W (.and a b) (.BoolOp .And (x :: y :: z :: r) pos) :=
  have w : PW X (.BoolOp .And (x :: y :: z :: r) pos) (tT T W (.and a b)) := pw_weak (pw_and ha.pt (hb.pw _ _ _ rfl)) fun σ H Q q => w_and q
  ⟨pe_weak (pe_and ha.pe hb.pe) fun σ H Q q => v_and q, w.pt, fun _ _ _ _ => w⟩
theorem s_or2 {a b : E} {x y : Expr} {pos : Pos} (ha : SndE X T W a x) (hb : SndE X T W b y) : SndE X T W (.or a b) (.BoolOp .Or [x, y] pos) :=
  have w : PW X (.BoolOp .Or [x, y] pos) (tT T W (.or a b)) := pw_weak (pw_or ha.pt (pw_or1 hb.pt)) fun σ H Q q => w_or q
  ⟨pe_weak (pe_or ha.pe (pe_one hb.pe)) fun σ H Q q => v_or q, w.pt, fun _ _ _ _ => w⟩
theorem s_or3 {a b : E} {x y z : Expr} {r : List Expr} {pos : Pos} (ha : SndE X T W a x) (hb : SndE X T W b (.BoolOp .Or (y :: z :: r) pos)) : SndE X T W (.or a b) (.BoolOp .Or (x :: y :: z :: r) pos) :=
  have w : PW X (.BoolOp .Or (x :: y :: z :: r) pos) (tT T W (.or a b)) := pw_weak (pw_or ha.pt (hb.pw _ _ _ rfl)) fun σ H Q q => w_or q
  ⟨pe_weak (pe_or ha.pe hb.pe) fun σ H Q q => v_or q, w.pt, fun _ _ _ _ => w⟩
theorem s_not {a : E} {x : Expr} {pos : Pos} (ha : SndE X T W a x) : SndE X T W (.not a) (.UnaryOp .Not x pos) := by
  refine ⟨pe_weak (pe_not ha.pe) fun σ H Q ⟨O, ρ, hr, p⟩ => ?_, pt_weak (pt_not ha.pt) fun σ H Q ⟨O, ρ, hr, p⟩ => ?_, fun _ _ _ q => nomatch q⟩
  · refine tE_bind wantE hr (show PoE T W O σ H Q ((evE a ρ).bind fun x => (boolD x).bind fun t => .ok (.bl (!t))) from p) fun dx x H1 e1 d1 p1 => ?_
    cases d1 with
    | bl t => exact ⟨t, rfl, p1 _ H1 (Ex.refl H1) (.bl _)⟩
    | _ => exact False.elim p1
  · rw [evT_not] at p
    exact tT_bind wantT hr p fun t H1 e1 p1 => p1 H1 (Ex.refl H1)
theorem s_tup {es : Es} {xs : List Expr} {k : Nat} {pos : Pos} (h : PA X xs (tEs T W es)) (hl : ∀ ds ρ, evEs es ρ = .ok ds → ds.length ≤ sizeLine) : SndE X T W (.tup es) (.Tuple xs k pos) := by
  refine snd_of (pe_weak (pe_tup h) fun σ H Q ⟨O, ρ, hr, p⟩ => ?_) (fun _ => rfl) (fun _ _ _ q => nomatch q)
  refine ⟨O, ρ, hr, ?_⟩
  have p : PoE T W O σ H Q ((evEs es ρ).bind fun xs => .ok (.tup xs)) := p
  cases e : evEs es ρ with
  | ok ds =>
    rw [e] at p
    intro vs H' e' dv
    exact ⟨by rw [← dv.length]; exact hl ds ρ e, fun b n => PoV.tup (T := T) (O := O) (live_mono e' hr.live) (PoE.mono e' p) dv n⟩
  | ex c => rw [e] at p; exact p
  | no => rw [e] at p; exact p
theorem s_dic {pos : Pos} : SndE X T W .dic (.Dict [] [] pos) := by
  refine snd_of (pe_weak pe_dnewK fun σ H Q ⟨O, ρ, hr, p⟩ => ?_) (fun _ => rfl) (fun _ _ _ q => nomatch q)
  have p : ∀ v H', Ex H H' → DV T (hide O H') .dic v → Q v H' := p
  exact fun b n => p _ _ (Ex.new n) (.dic (by rw [hide_out (fun q => hr.live b q n)]; exact upd_same))
theorem s_lst {es : Es} {xs : List Expr} {pos : Pos} (h : PA X xs (tEs T W es)) (hl : ∀ ds ρ, evEs es ρ = .ok ds → ds.length ≤ sizeLine) : SndE X T W (.lst es) (.List xs pos) := by
  refine snd_of (pe_weak (pe_lst h) fun σ H Q ⟨O, ρ, hr, p⟩ => ?_) (fun _ => rfl) (fun _ _ _ q => nomatch q)
  refine ⟨O, ρ, hr, ?_⟩
  have p : PoE T W O σ H Q ((evEs es ρ).bind fun xs => .ok (.lst xs)) := p
  cases e : evEs es ρ with
  | ok ds =>
    rw [e] at p
    intro vs H' e' dv
    exact ⟨by rw [← dv.length]; exact hl ds ρ e, fun b n => PoV.lst (T := T) (O := O) (live_mono e' hr.live) (PoE.mono e' p) dv n⟩
  | ex c => rw [e] at p; exact p
  | no => rw [e] at p; exact p
theorem s_ix (A : At X T W N sc) {a b : E} {l r : Expr} {pos : Pos} (ha : PE X l (tE T W a)) (hb : PE X r (tE T W b)) (hs : shp r = true) : SndE X T W (.ix a b) (.Subscript l r pos) := by
  refine snd_of (pe_weak (pe_ix (o_ix A.C) ha hb (shp_ix hs)) fun σ H Q ⟨O, ρ, hr, p⟩ => ?_) (fun _ => rfl) (fun _ _ _ q => nomatch q)
  exact tE_bind wantE hr (show PoE T W O σ H Q ((evE a ρ).bind fun x => (evE b ρ).bind fun y => ixD x y) from p) fun dx x H1 e1 d1 p1 => tE_bind wantE (hr.mono e1) p1 fun dy y H2 e2 d2 p2 =>
    ⟨O, dx, dy, live_mono (e1.trans e2) hr.live, d1.mono (hide_mono e2), d2, p2.v (ixD_nex dx dy)⟩
theorem s_slcL (A : At X T W N sc) {a b : E} {l r : Expr} {pos p2 : Pos} (ha : PE X l (tE T W a)) (hb : PE X r (tE T W b)) : SndE X T W (.slcL a b) (.Subscript l (.Slice (some r) none none p2) pos) := by
  refine snd_of (pe_weak (pe_slice (o_slc A.C) ha (po_some hb) po_none) fun σ H Q ⟨O, ρ, hr, p⟩ => ?_) (fun _ => rfl) (fun _ _ _ q => nomatch q)
  refine tE_bind wantE hr (show PoE T W O σ H Q ((evE a ρ).bind fun x => (evE b ρ).bind fun l => (intD l).bind fun i => slcD x (some i) none) from p) fun dx x H1 e1 d1 p1 => tE_bind wantE (hr.mono e1) p1 fun dy y H2 e2 d2 p2 => ?_
  cases d2 with
  | int i => exact ⟨i, rfl, O, dx, live_mono (e1.trans e2) hr.live, d1.mono (hide_mono e2), p2.v (slcD_nex dx _ _)⟩
  | _ => exact False.elim p2
theorem s_slcH (A : At X T W N sc) {a b : E} {l r : Expr} {pos p2 : Pos} (ha : PE X l (tE T W a)) (hb : PE X r (tE T W b)) : SndE X T W (.slcH a b) (.Subscript l (.Slice none (some r) none p2) pos) := by
  refine snd_of (pe_weak (pe_slice (o_slc A.C) ha po_none (po_some hb)) fun σ H Q ⟨O, ρ, hr, p⟩ => ?_) (fun _ => rfl) (fun _ _ _ q => nomatch q)
  refine tE_bind wantE hr (show PoE T W O σ H Q ((evE a ρ).bind fun x => (evE b ρ).bind fun l => (intD l).bind fun i => slcD x none (some i)) from p) fun dx x H1 e1 d1 p1 => tE_bind wantE (hr.mono e1) p1 fun dy y H2 e2 d2 p2 => ?_
  cases d2 with
  | int i => exact ⟨i, rfl, O, dx, live_mono (e1.trans e2) hr.live, d1.mono (hide_mono e2), p2.v (slcD_nex dx _ _)⟩
  | _ => exact False.elim p2
theorem s_slc (A : At X T W N sc) {a b c : E} {l r r' : Expr} {pos p2 : Pos} (ha : PE X l (tE T W a)) (hb : PE X r (tE T W b)) (hc : PE X r' (tE T W c)) : SndE X T W (.slc a b c) (.Subscript l (.Slice (some r) (some r') none p2) pos) := by
  refine snd_of (pe_weak (pe_slice (o_slc A.C) ha (po_some hb) (po_some hc)) fun σ H Q ⟨O, ρ, hr, p⟩ => ?_) (fun _ => rfl) (fun _ _ _ q => nomatch q)
  refine tE_bind wantE hr (show PoE T W O σ H Q ((evE a ρ).bind fun x => (evE b ρ).bind fun l => (intD l).bind fun i => (evE c ρ).bind fun h => (intD h).bind fun j => slcD x (some i) (some j)) from p) fun dx x H1 e1 d1 p1 => tE_bind wantE (hr.mono e1) p1 fun dy y H2 e2 d2 p2 => ?_
  cases d2 with
  | int i =>
    refine ⟨i, rfl, ?_⟩
    refine tE_bind wantE (hr.mono (e1.trans e2)) p2 fun dz z H3 e3 d3 p3 => ?_
    cases d3 with
    | int j => exact ⟨j, rfl, O, dx, live_mono ((e1.trans e2).trans e3) hr.live, d1.mono (hide_mono (e2.trans e3)), p3.v (slcD_nex dx _ _)⟩
    | _ => exact False.elim p3
  | _ => exact False.elim p2
theorem s_call (A : At X T W N sc) {nm : String} {f : List D → R D} {es : Es} {df : List D} {x : Str} {y : Expr} {ys : List Expr} {px pos : Pos} (F : FOk X nm x) (h : Holds X T (.fn nm f df)) (ha : PA X (y :: ys) (tEs T W es)) (hy : allShp (y :: ys) = true) : SndE X T W (.call nm f es df) (.Call (.Name x px) (y :: ys) [] pos) := by
  obtain ⟨k, fa, fd, ps, dvs, ds, hr1, hm, hk, hF, hb, hv, hd⟩ := h
  obtain ⟨rfl, g, n1, n3⟩ := F
  have hy2 : shp y = true ∧ allShp ys = true := by
    simp only [allShp, Bool.and_eq_true] at hy
    exact hy
  refine snd_of (pe_weak (pe_callSD hF hr1 g hm hk hb hv (fun σ => passAt A.tk σ) ha n1 (shp_star hy2.1) (star_plain hy2.2)) fun σ H Q ⟨O, ρ, hr, p⟩ => ?_) (fun _ => rfl) (fun _ _ _ q => nomatch q)
  refine tEs_bind wantE hr (show PoE T W O σ H Q ((evEs es ρ).bind fun xs => f (xs ++ df)) from p) fun dx vs H1 e1 d1 p1 => ?_
  refine ⟨O, dx ++ df, live_mono e1 hr.live, d1.append (hd _), ?_⟩
  cases e : f (dx ++ df) with
  | ok d => rw [e] at p1; exact p1
  | ex c => rw [e] at p1; exact p1
  | no => rw [e] at p1; exact p1
theorem rl1_of (A : At X T W N sc) {a : E} {y : Expr} {g : D → R D} {x : Str} {px pos : Pos} {t' : E} (hp : PE X (.Call (.Name x px) [y] [] pos) (tCB (rL1 T g) (tCons (tE T W a) tNil))) (he : ∀ ρ, evE t' ρ = (evE a ρ).bind g) (hg : ∀ d c, g d ≠ .ex c) : SndE X T W t' (.Call (.Name x px) [y] [] pos) := by
  refine snd_of (pe_weak hp fun σ H Q ⟨O, ρ, hr, p⟩ => ?_) (fun _ => rfl) (fun _ _ _ q => nomatch q)
  rw [he] at p
  exact tE_bind wantE hr p fun dx x H1 e1 d1 p1 => ⟨x, rfl, O, dx, live_mono e1 hr.live, d1, p1.v (hg dx)⟩
theorem rl2_of (A : At X T W N sc) {a b : E} {y z : Expr} {g : D → D → R D} {x : Str} {px pos : Pos} {t' : E} (hp : PE X (.Call (.Name x px) [y, z] [] pos) (tCB (rL2 T g) (tCons (tE T W a) (tCons (tE T W b) tNil)))) (he : ∀ ρ, evE t' ρ = (evE a ρ).bind fun u => (evE b ρ).bind fun v => g u v) (hg : ∀ d e c, g d e ≠ .ex c) : SndE X T W t' (.Call (.Name x px) [y, z] [] pos) := by
  refine snd_of (pe_weak hp fun σ H Q ⟨O, ρ, hr, p⟩ => ?_) (fun _ => rfl) (fun _ _ _ q => nomatch q)
  rw [he] at p
  exact tE_bind wantE hr p fun dx x H1 e1 d1 p1 => tE_bind wantE (hr.mono e1) p1 fun dy y H2 e2 d2 p2 => ⟨x, y, rfl, O, dx, dy, live_mono (e1.trans e2) hr.live, d1.mono (hide_mono e2), d2, p2.v (hg dx dy)⟩
theorem s_f1 (A : At X T W N sc) {f : F1} {a : E} {x : Str} {y : Expr} {px pos : Pos} (hf : f1ok f = true) (F : FOk X (nmF1 f) x) (h : Holds X T (.blt (nmF1 f))) (ha : PE X y (tE T W a)) (hy : shp y = true) : SndE X T W (.f1 f a) (.Call (.Name x px) [y] [] pos) := by
  have pa := pa1 ha hy
  have st : starEach [y] X.env = (false, eval y X.env) :: starEach [] X.env := shp_star hy
  obtain ⟨rfl, g, n1, n3⟩ := F
  cases f with
  | len => exact rl1_of A (pe_callB (b_len A.C) g h boot_len pa n3 n1 st rfl) (fun _ => rfl) (f1D_nex _)
  | abs => exact rl1_of A (pe_callB b_abs g h (by decide +kernel) pa n3 n1 st rfl) (fun _ => rfl) (f1D_nex _)
  | int => exact rl1_of A (pe_callTy (b_int A.C) g h (by decide +kernel) pa n3 n1 st rfl) (fun _ => rfl) (f1D_nex _)
  | list => exact rl1_of A (pe_callTy (b_list A.C) g h (by decide +kernel) pa n3 n1 st rfl) (fun _ => rfl) (f1D_nex _)
  | sum => exact rl1_of A (pe_callB (b_sum A.C) g h (by decide +kernel) pa n3 n1 st rfl) (fun _ => rfl) (f1D_nex _)
  | max => exact rl1_of A (pe_callB (b_max A.C) g h (by decide +kernel) pa n3 n1 st rfl) (fun _ => rfl) (f1D_nex _)
  | min => exact rl1_of A (pe_callB (b_min A.C) g h (by decide +kernel) pa n3 n1 st rfl) (fun _ => rfl) (f1D_nex _)
  | sorted => exact rl1_of A (pe_callB (b_sorted A.C) g h (by decide +kernel) pa n3 n1 st rfl) (fun _ => rfl) (f1D_nex _)
  | str => exact rl1_of A (pe_callTy (b_str A.C) g h (by decide +kernel) pa n3 n1 st rfl) (fun _ => rfl) (f1D_nex _)
  | _ => cases hf
theorem s_f2 (A : At X T W N sc) {f : F2} {a b : E} {x : Str} {y z : Expr} {px pos : Pos} (F : FOk X (nmF2 f) x) (h : Holds X T (.blt (nmF2 f))) (ha : PE X y (tE T W a)) (hb : PE X z (tE T W b)) (hy : shp y = true) (hz : shp z = true) : SndE X T W (.f2 f a b) (.Call (.Name x px) [y, z] [] pos) := by
  have pa := pa2 ha hb hy hz
  have st : starEach [y, z] X.env = (false, eval y X.env) :: starEach [z] X.env := shp_star hy
  have pl : (backTo pos (starEach [z] X.env)).any (·.1) = false := star_plain (by simp [allShp, hz])
  obtain ⟨rfl, g, n1, n3⟩ := F
  cases f with
  | max => exact rl2_of A (pe_callB (b_max2 A.C) g h (by decide +kernel) pa n3 n1 st pl) (fun _ => rfl) (f2D_nex _)
  | min => exact rl2_of A (pe_callB (b_min2 A.C) g h (by decide +kernel) pa n3 n1 st pl) (fun _ => rfl) (f2D_nex _)
  | divmod => exact rl2_of A (pe_callB b_divmod g h (by decide +kernel) pa n3 n1 st pl) (fun _ => rfl) (f2D_nex _)
theorem s_bits {a : E} {y : Expr} {apos pos : Pos} (ha : PE X y (tE T W a)) (hy : noSuper y = true) (hl : (apos.endLine == pos.line) = true) : SndE X T W (.m0 .bits a) (.Call (.Attribute y "bit_length" apos) [] [] pos) := by
  refine snd_of (pe_weak (pe_bits ha (super_ok hy) hl) fun σ H Q ⟨O, ρ, hr, p⟩ => ?_) (fun _ => rfl) (fun _ _ _ q => nomatch q)
  refine tE_bind wantE hr (show PoE T W O σ H Q ((evE a ρ).bind fun x => m0D .bits x) from p) fun dx x H1 e1 d1 p1 => ?_
  cases d1 with
  | int i => exact ⟨i, rfl, p1 _ H1 (Ex.refl H1) (.int _)⟩
  | _ => exact False.elim p1
theorem s_upper {a : E} {y : Expr} {apos pos : Pos} (ha : PE X y (tE T W a)) (hy : noSuper y = true) (hl : (apos.endLine == pos.line) = true) : SndE X T W (.m0 .upper a) (.Call (.Attribute y "upper" apos) [] [] pos) := by
  refine snd_of (pe_weak (pe_upper ha (super_ok hy) hl) fun σ H Q ⟨O, ρ, hr, p⟩ => ?_) (fun _ => rfl) (fun _ _ _ q => nomatch q)
  refine tE_bind wantE hr (show PoE T W O σ H Q ((evE a ρ).bind fun x => m0D .upper x) from p) fun dx x H1 e1 d1 p1 => ?_
  cases d1 with
  | str x =>
    simp only [m0D] at p1
    split at p1
    · rename_i h
      have hA : ∀ c ∈ x.cps.toList, c < 128 := fun c hc => of_decide_eq_true (List.all_eq_true.mp h.1 c hc)
      refine ⟨⟨x, rfl⟩, x, rfl, rfl, by have := h.2; rw [strlen] at this; omega, ?_⟩
      rw [PyProof.Rows.upper_ascii hA]
      exact p1 _ H1 (Ex.refl H1) (by
        have e : x.cps.toList.map PyProof.Rows.up1 = (⟨x.cps.map PyProof.Rows.up1⟩ : Str).cps.toList := by simp
        rw [e]
        exact .str _)
    · exact False.elim p1
  | _ => exact False.elim p1
theorem s_isi (A : At X T W N sc) {a : E} {c : Cl} {x z : Str} {y : Expr} {px pz pos : Pos} (F : FOk X "isinstance" x) (G : FOk X (nmCl c) z) (h : Holds X T (.blt "isinstance")) (hc : clNeed (Holds X T) c) (ha : PE X y (tE T W a)) (hy : shp y = true) (hco : clok c = true) : SndE X T W (.isi a c) (.Call (.Name x px) [y, .Name z pz] [] pos) := by
  have st : starEach [y, .Name z pz] X.env = (false, eval y X.env) :: starEach [.Name z pz] X.env := shp_star hy
  obtain ⟨rfl, g, n1, n3⟩ := F
  obtain ⟨rfl, g2, m1, m3⟩ := G
  have key : ∀ cv : V, CallR X (.builtin "isinstance") (rI2 T c cv) → PE X (.Name (Str.ofString (nmCl c)) pz) (tC cv) → SndE X T W (.isi a c) (.Call (.Name (Str.ofString "isinstance") px) [y, .Name (Str.ofString (nmCl c)) pz] [] pos) := by
    intro cv hr0 hz
    refine snd_of (pe_weak (pe_callB hr0 g h (by decide +kernel) (pa_cons ha (pa_cons hz pa_nil) st) n3 n1 st rfl) fun σ H Q ⟨O, ρ, hr, p⟩ => ?_) (fun _ => rfl) (fun _ _ _ q => nomatch q)
    exact tE_bind wantE hr (show PoE T W O σ H Q ((evE a ρ).bind fun x => (isI x c).bind fun b => .ok (.bl b)) from p) fun dx x H1 e1 d1 p1 => ⟨x, rfl, O, dx, live_mono e1 hr.live, d1, p1.b (isI_nex dx c)⟩
  cases c with
  | exc nm d =>
    obtain ⟨h1, h2⟩ := hc
    exact key _ (b_isiE A.C h2) (pe_glob g2 h1 rfl m1)
  | obj nm d =>
    obtain ⟨h1, h2⟩ := hc
    exact key _ (b_isiO A.C h2) (pe_glob g2 h1 rfl m1)
  | way nm =>
    obtain ⟨aw, h1, h2⟩ := hc
    exact key _ (b_isiW A.C h2) (pe_glob g2 h1 rfl m1)
  | int => exact key _ (b_isiT A.C rfl) (pe_bltn g2 hc (by decide +kernel) rfl m3 m1)
  | bool => exact key _ (b_isiT A.C rfl) (pe_bltn g2 hc (by decide +kernel) rfl m3 m1)
  | str => exact key _ (b_isiT A.C rfl) (pe_bltn g2 hc (by decide +kernel) rfl m3 m1)
  | tuple => exact key _ (b_isiT A.C rfl) (pe_bltn g2 hc (by decide +kernel) rfl m3 m1)
  | list => exact key _ (b_isiT A.C rfl) (pe_bltn g2 hc (by decide +kernel) rfl m3 m1)
  | valueError => exact key _ (b_isiT A.C rfl) (pe_bltn g2 hc (by decide +kernel) rfl m3 m1)
  | flt nm => cases hco

/-! ### methods of texts -/
theorem toS_eq (x : Str) : toS x.cps.toList = x := by
  unfold toS
  simp
theorem strs_of {O : List Addr} {H : Hp} : ∀ {ds : List D} {vs : List V} {ys : List Str}, DVs T (hide O H) ds vs → asStrs ds = some ys → vs = ys.map V.str
  | _, _, _, .nil, e => by cases e; rfl
  | _, _, ys, .cons h r, e => by
    cases h with
    | str x =>
      simp only [asStrs, Option.map_eq_some_iff] at e
      obtain ⟨ms, e1, rfl⟩ := e
      rw [strs_of r e1, toS_eq]
      rfl
    | _ => simp [asStrs] at e
theorem dvs_strs {H : Hp} : ∀ (ys : List Str), DVs T H (ys.map ofS) (ys.map V.str)
  | [] => .nil
  | y :: r => .cons (.str y) (dvs_strs r)
theorem PoV.ofS {O : List Addr} {H : Hp} {Q : VK} {x : Str} (p : PoV T O H Q (.ok (ofS x))) : Q (.str x) H := p _ H (Ex.refl H) (.str x)
def idTM : TM → String
  | .startswith => "str.startswith"
  | .zfill => "str.zfill"
  | .rstrip => "str.rstrip"
  | .partition => "str.partition"
  | .split => "str.split"
  | .join => "str.join"
  | .index => "str.index"
def rTM (T : Tab) (m : TM) : V → List V → Hp → VK → Prop := fun x xs H Q => ∃ y, xs = [y] ∧ rB T (tmD m) x y H Q
theorem m_tm (A : At X T W N sc) : ∀ m : TM, MtR X (idTM m) (rTM T m) := by
  rintro m pins s σ H x xs v us Q I rx rs ⟨y, rfl, O, dx, dy, l, hx, hy, p⟩
  cases m with
  | startswith =>
    cases hx with
    | str a => cases hy with
      | str b =>
        have p : PoV T O H Q (.ok (.bl (Txt.startswith (toS a.cps.toList) (toS b.cps.toList)))) := p
        rw [toS_eq, toS_eq] at p
        exact mt_startswith pins s σ H _ _ v us Q I rx rs ⟨a, b, rfl, rfl, p.bl⟩
      | _ => exact False.elim p
    | _ => cases hy <;> exact False.elim p
  | zfill =>
    cases hx with
    | str a => cases hy with
      | int i =>
        have p : PoV T O H Q (if PadOk i = true then .ok (ofS (Txt.zfill (toS a.cps.toList) i)) else .no) := p
        rw [toS_eq] at p
        split at p
        · rename_i h
          exact mt_zfill pins s σ H _ _ v us Q I rx rs ⟨a, i, rfl, rfl, h, p.ofS⟩
        · exact False.elim p
      | _ => exact False.elim p
    | _ => cases hy <;> exact False.elim p
  | rstrip =>
    cases hx with
    | str a => cases hy with
      | str b =>
        have p : PoV T O H Q (if a.cps.toList.length ≤ line then .ok (ofS (Txt.rstripChars (toS a.cps.toList) (toS b.cps.toList))) else .no) := p
        rw [toS_eq, toS_eq, strlen, line_eq] at p
        split at p
        · rename_i h
          exact mt_rstripChars pins s σ H _ _ v us Q I rx rs ⟨a, b, rfl, rfl, h, p.ofS⟩
        · exact False.elim p
      | _ => exact False.elim p
    | _ => cases hy <;> exact False.elim p
  | partition =>
    cases hx with
    | str a => cases hy with
      | str b =>
        have p : PoV T O H Q (if b.cps.toList.length ≠ 0 ∧ a.cps.toList.length ≤ line then .ok (.tup [ofS (Txt.partition (toS a.cps.toList) (toS b.cps.toList)).1, ofS (Txt.partition (toS a.cps.toList) (toS b.cps.toList)).2.1, ofS (Txt.partition (toS a.cps.toList) (toS b.cps.toList)).2.2]) else .no) := p
        rw [toS_eq, toS_eq, strlen, strlen, line_eq] at p
        split at p
        · rename_i h
          exact mt_partition pins s σ H _ _ v us Q I rx rs ⟨a, b, rfl, rfl, by simpa using h.1, h.2, fun q n => p.tup l (.cons (.str _) (.cons (.str _) (.cons (.str _) .nil))) n⟩
        · exact False.elim p
      | _ => exact False.elim p
    | _ => cases hy <;> exact False.elim p
  | split =>
    cases hx with
    | str a => cases hy with
      | str b =>
        have p : PoV T O H Q (if b.cps.toList.length ≠ 0 ∧ a.cps.toList.length + 2 ≤ line then .ok (.lst ((Txt.split (toS a.cps.toList) (toS b.cps.toList)).map ofS)) else .no) := p
        rw [toS_eq, toS_eq, strlen, strlen, line_eq] at p
        split at p
        · rename_i h
          exact mt_split pins s σ H _ _ v us Q I rx rs ⟨a, b, rfl, rfl, by simpa using h.1, h.2, fun q n => p.lst l (dvs_strs _) n⟩
        · exact False.elim p
      | _ => exact False.elim p
    | _ => cases hy <;> exact False.elim p
  | join =>
    cases hx with
    | str a => cases hy with
      | @lst ds q vs h r =>
        have p : PoV T O H Q (match asStrs ds with
          | some ys => if (ys.map (·.length)).sum + ys.length * a.cps.toList.length ≤ 16777216 then .ok (ofS (Txt.join (toS a.cps.toList) ys)) else .no
          | none => .no) := p
        rw [toS_eq, strlen] at p
        split at p
        · rename_i ys e
          split at p
          · rename_i hz
            have e2 := strs_of r e
            subst e2
            exact mt_join pins s σ H _ _ v us Q I rx rs ⟨a, q, ys, rfl, rfl, .inl (by rw [A.C.hK]; exact ex_sql hide_ex h), hz, p.ofS⟩
          · exact False.elim p
        · exact False.elim p
      | _ => exact False.elim p
    | _ => cases hy <;> exact False.elim p
  | index =>
    cases hx with
    | str a => cases hy with
      | str b =>
        have p : PoV T O H Q (match Builtin.Str.occurrences (toS a.cps.toList) (toS b.cps.toList) 0 a.cps.toList.length 1 with
          | i :: _ => .ok (.int (i : Nat))
          | [] => .no) := p
        rw [toS_eq, toS_eq, strlen] at p
        split at p
        · rename_i i r e
          exact mt_sindex pins s σ H _ _ v us Q I rx rs ⟨a, b, i, r, rfl, rfl, e, p.int⟩
        · exact False.elim p
      | _ => exact False.elim p
    | _ => cases hy <;> exact False.elim p
theorem s_tm (A : At X T W N sc) {m : TM} {a b : E} {x y : Expr} {apos pos : Pos} (ha : PE X x (tE T W a)) (hb : PE X y (tE T W b)) (hx : noSuper x = true) (hy : shp y = true) (hl : (apos.endLine == pos.line) = true) : SndE X T W (.tm m a b) (.Call (.Attribute x (nmTM m) apos) [y] [] pos) := by
  have st : starEach [y] X.env = (false, eval y X.env) :: starEach [] X.env := shp_star hy
  have key : PE X (.Call (.Attribute x (nmTM m) apos) [y] [] pos) (tBM X.K "str" (rTM T m) (tE T W a) (tCons (tE T W b) tNil)) := by
    have hm := m_tm A m
    cases m with
    | startswith => exact pe_bm PySem.F.plainAttrs_str PySem.F.slot_str_startswith PySem.F.type_str_startswith hm ha (pa1 hb hy) (super_ok hx) (by rw [st]; rfl) hl st rfl
    | zfill => exact pe_bm PySem.F.plainAttrs_str PySem.F.slot_str_zfill PySem.F.type_str_zfill hm ha (pa1 hb hy) (super_ok hx) (by rw [st]; rfl) hl st rfl
    | rstrip => exact pe_bm PySem.F.plainAttrs_str PySem.F.slot_str_rstrip PySem.F.type_str_rstrip hm ha (pa1 hb hy) (super_ok hx) (by rw [st]; rfl) hl st rfl
    | partition => exact pe_bm PySem.F.plainAttrs_str PySem.F.slot_str_partition PySem.F.type_str_partition hm ha (pa1 hb hy) (super_ok hx) (by rw [st]; rfl) hl st rfl
    | split => exact pe_bm PySem.F.plainAttrs_str PySem.F.slot_str_split PySem.F.type_str_split hm ha (pa1 hb hy) (super_ok hx) (by rw [st]; rfl) hl st rfl
    | join => exact pe_bm PySem.F.plainAttrs_str PySem.F.slot_str_join PySem.F.type_str_join hm ha (pa1 hb hy) (super_ok hx) (by rw [st]; rfl) hl st rfl
    | index => exact pe_bm PySem.F.plainAttrs_str PySem.F.slot_str_index PySem.F.type_str_index hm ha (pa1 hb hy) (super_ok hx) (by rw [st]; rfl) hl st rfl
  refine snd_of (pe_weak key fun σ H Q ⟨O, ρ, hr, p⟩ => ?_) (fun _ => rfl) (fun _ _ _ q => nomatch q)
  refine tE_bind wantE hr (show PoE T W O σ H Q ((evE a ρ).bind fun x => (strD x).bind fun _ => (evE b ρ).bind fun y => tmD m x y) from p) fun dx x H1 e1 d1 p1 => ?_
  cases d1 with
  | str x => exact ⟨rfl, tE_bind wantE (hr.mono e1) (show PoE T W O σ H1 Q ((evE b ρ).bind fun y => tmD m _ y) from p1) fun dy y H2 e2 d2 p2 => ⟨y, rfl, O, _, dy, live_mono (e1.trans e2) hr.live, .str x, d2, p2.v (tmD_nex m _ dy)⟩⟩
  | _ => exact False.elim p1
/-! ### objects -/
theorem run_make0 {C : Addr} {pins : List (Addr × Obj)} {σ : L2.St} {H : Hp} {s : Shared} {Q : VK} (M : Mk0 X.K C) (I : Inv X pins σ H s)
    (h : ∀ x dx, H x = none → H dx = none → dx ≠ x → Q (.ref x) (upd (upd H dx (.own x)) x (.ins C dx []))) :
    wpAny (model X.prog X.w) X.A (call (.ref C) []) (EP X pins σ Q) X.xe s := by
  have I2 := Inv.made (C := C) I
  have hq := h (s.heap.objs.size + 1) s.heap.objs.size (I.hok.fresh (Nat.le_succ _)) (I.hok.fresh (Nat.le_refl _)) (Nat.ne_of_lt (Nat.lt_succ_self _))
  refine wpAny_call (make_map0 I.kIn M.makes M.init (fun self => PySem.W.Looks.of_pure (PySem.W.oi_bind self)) ?_)
  have ho : ((s.heap.push PySem.W.emptyDict).push (PySem.W.instObj C s.heap.objs.size)).get? (s.heap.objs.size + 1) = some (PySem.W.instObj C s.heap.objs.size) := by
    have := Heap.get?_push_size (s.heap.push PySem.W.emptyDict) (o := PySem.W.instObj C s.heap.objs.size) rfl
    rwa [Heap.size_push] at this
  have t1 : PySem.W.Looks (model X.prog X.w) ((s.heap.push PySem.W.emptyDict).push (PySem.W.instObj C s.heap.objs.size)) (typeOf (.ref (s.heap.objs.size + 1))) (.ref C) := NwA.type_at ho rfl
  have t2 : PySem.W.Looks (model X.prog X.w) ((s.heap.push PySem.W.emptyDict).push (PySem.W.instObj C s.heap.objs.size)) (isInstance (.ref (s.heap.objs.size + 1)) (.type "object")) true := t1.andThen (PySem.W.looks_mroIn I2.kIn M.top)
  refine codeAny_call_builtin PySem.W.oi_plain PySem.W.entry_oi (@PySem.W.check_slot (model X.prog X.w) _ _ _ "object.__init__" "object" "__init__" (.ref (s.heap.objs.size + 1)) [] [] _ PySem.W.oi_kind PySem.W.oi_split t2 (NwA.oi_args_any _ _ _) ?_)
  rw [PySem.W.oi_run]
  exact wpAny_pure ⟨rfl, ⟨V.ref (s.heap.objs.size + 1), _, I2, rfl, hq⟩⟩
def tMk0 (C : Addr) : TE := fun σ H Q => ∀ x dx, H x = none → H dx = none → dx ≠ x → Q (.ref x) (upd (upd H dx (.own x)) x (.ins C dx []))
theorem pe_mk0 {C : Addr} {x : Str} {p pos : Pos} (M : Mk0 X.K C) (hg : Gl X x) (hm : X.mg x = some (.ref C)) (hdb : (x == ("__debug__" : Str)) = false) : PE X (.Call (.Name x p) [] [] pos) (tMk0 C) := by
  refine ⟨fun pins s σ H Q I h => ?_⟩
  refine wpAny_Call_Name_kw (ld_glob I hg hm ?_ hdb)
  exact PySem.W.callWith_K0 I.kIn M.kp (run_make0 M I h)
theorem s_mk (A : At X T W N sc) {nm : String} {c : Nat} {x : Str} {px pos : Pos} (F : FOk X nm x) (h : Holds X T (.cls nm c)) : SndE X T W (.mk nm c) (.Call (.Name x px) [] [] pos) := by
  obtain ⟨h1, h2, h3⟩ := h
  obtain ⟨rfl, g, n1, n3⟩ := F
  refine snd_of (pe_weak (pe_mk0 h3 g h1 n1) fun σ H Q ⟨O, ρ, hr, p⟩ => ?_) (fun _ => rfl) (fun _ _ _ q => nomatch q)
  have p : ∀ v H', Ex H H' → DV T (hide O H') (.obj c) v → Q v H' := p
  intro y dx hy hd ne
  have e1 : Ex H (upd (upd H dx (.own y)) y (.ins (T.obj c) dx [])) := fun a o q => by
    rw [upd_ne (ne_of_none q hy), upd_ne (ne_of_none q hd)]
    exact q
  exact p _ _ e1 (.obj h2 (by rw [hide_out (fun q => hr.live y q hy)]; exact upd_same))
/-- o.m(e, ..), the method by the object's class -/
def tMethD (T : Tab) (ms : Nat → Sp) (E : L2.St → XK) (ta : TE) (t : TA) : TE := fun σ H Q => ta σ H fun x H1 => ∃ a c dx, x = .ref a ∧ c ∈ T.objs ∧ H1 a = some (.ins (T.obj c) dx []) ∧ t σ H1 fun vs H2 => ms c (x :: vs) H2 Q (E σ)
theorem meth_tree {o : Expr} {m : Str} {apos pos : Pos} {args : List Expr} {env : PySem.Env} (hb : attributeBase o m env (eval o env) = eval o env) (hf : methodCallForm (args.length + ([] : List Keyword).length) (backTo pos (starEach args env)) (backToKw pos (keywordEach [] env)) = true) (hl : (apos.endLine == pos.line) = true) :
    eval (.Call (.Attribute o m apos) args [] pos) env = (do
      let ov ← eval o env
      standAt apos.atName
      let (f, first) ← holding [ov] (getMethod ov m (do return (← importBound o env).getD true))
      callWith pos f first (backTo pos (starEach args env)) (backToKw pos (keywordEach [] env))) := by
  have hpos : methodCallPos true o env apos pos = pure pos := by unfold methodCallPos; simp [hl]
  rw [arm_eval_Call, hb]
  unfold methodCall
  rw [hf, hpos]
  simp only [pure_bind]
  rfl
theorem star_few {pos : Pos} {env : PySem.Env} {es : List Expr} (h : allShp es = true) (hl : es.length < 30) : methodCallForm (es.length + ([] : List Keyword).length) (backTo pos (starEach es env)) (backToKw pos (keywordEach [] env)) = true := by
  have k := star_plain (pos := pos) (env := env) h
  have k2 : (backTo pos (starEach es env)).all (!·.1) = true := by
    rw [List.all_eq_true]
    rw [List.any_eq_false] at k
    intro p hp
    have := k p hp
    simpa using this
  unfold methodCallForm
  rw [k2]
  have e : (backToKw pos (keywordEach [] env)) = [] := rfl
  rw [e]
  simp
  exact hl
theorem pe_methD {m : Str} {ms : Nat → Sp} {o e : Expr} {es : List Expr} {ta : TE} {t : TA} {apos pos : Pos} {E : L2.St → XK} (he : PE X o ta)
    (hm : ∀ c ∈ T.objs, ∃ k f fd ps, Room k X.A ∧ Cls X.K (T.obj c) ∧ Meth X.K (T.obj c) m f ∧ FnOk X.prog X.w X.K X.mg X.base (L2.CX X.prog X.w) k f fd ps (ms c) ∧ Binds X.K fd ps [])
    (hx : ∀ σ, PassesAt (L2.CX X.prog X.w) X σ (E σ)) (ha : PA X (e :: es) t) (hb : attributeBase o m X.env (eval o X.env) = eval o X.env) (hs : allShp (e :: es) = true) (hn : (e :: es).length < 30) (hl : (apos.endLine == pos.line) = true) :
    PE X (.Call (.Attribute o m apos) (e :: es) [] pos) (tMethD T ms E ta t) := by
  have hs2 : shp e = true ∧ allShp es = true := by
    simp only [allShp, Bool.and_eq_true] at hs
    exact hs
  refine ⟨fun pins s σ H Q I h => ?_⟩
  refine PySem.W.methodCall_KW (thn (he.run pins s σ H _ I h) fun u s1 ⟨x, H1, I1, rx, a, c, dx, ex, hc, ea, q⟩ => ?_) (meth_tree hb (star_few hs hn) hl)
  subst ex
  obtain rfl : u = Value.ref a := rx
  obtain ⟨k, f, fd, ps, hr, h1, h2, h3, h4⟩ := hm c hc
  refine getmeth_ok I1 ea h1 h2 rfl ?_
  refine PySem.W.callWith_K (first := [.ref a]) (h₀ := X.base) I.ok.mod.kin h2.kp (thn (ha.run pos pins s1 σ H1 _ I1 q) fun us s2 ⟨vs, H2, I2, r, q2⟩ => ⟨I2.kIn, ?_⟩) (shp_star hs2.1) (star_plain hs2.2)
  exact run_fnSD (dvs := []) (ds := []) (us := .ref a :: us) (vs := .ref a :: vs) (E := E) h3 hr h4 .nil (hx σ) I2 (.cons rfl r) (by rw [List.append_nil]; exact q2)
theorem s_meth (A : At X T W N sc) {m : String} {tbl : Nat → List D → R D} {a : E} {es : Es} {x y : Expr} {ys : List Expr} {apos pos : Pos} (h : Holds X T (.meth m tbl)) (ha : PE X x (tE T W a)) (hx : noSuper x = true) (hes : PA X (y :: ys) (tEs T W es)) (hy : allShp (y :: ys) = true) (hl : (apos.endLine == pos.line) = true) (hn : (y :: ys).length < 30) :
    SndE X T W (.meth m tbl a es) (.Call (.Attribute x (Str.ofString m) apos) (y :: ys) [] pos) := by
  refine snd_of (pe_weak (pe_methD (ms := fun c => spF T (tbl c)) ha h (fun σ => passAt A.tk σ) hes (super_ok hx) hy hn hl) fun σ H Q ⟨O, ρ, hr, p⟩ => ?_) (fun _ => rfl) (fun _ _ _ q => nomatch q)
  refine tE_bind wantE hr (show PoE T W O σ H Q ((evE a ρ).bind fun x => (objD x).bind fun c => (evEs es ρ).bind fun xs => tbl c (.obj c :: xs)) from p) fun dx v H1 e1 d1 p1 => ?_
  cases d1 with
  | @obj c b dx hc hb =>
    refine ⟨b, c, dx, rfl, hc, hide_ex _ _ hb, ?_⟩
    refine tEs_bind wantE (hr.mono e1) (show PoE T W O σ H1 Q ((evEs es ρ).bind fun xs => tbl c (.obj c :: xs)) from p1) fun ds vs H2 e2 d2 p2 => ?_
    refine ⟨O, .obj c :: ds, live_mono (e1.trans e2) hr.live, .cons (.obj hc (hide_mono e2 _ _ hb)) d2, ?_⟩
    cases e : tbl c (.obj c :: ds) with
    | ok d => rw [e] at p2; exact p2
    | ex c => rw [e] at p2; exact p2
    | no => rw [e] at p2; exact p2
  | _ => exact False.elim p1
/-! ### comprehensions -/
theorem wipe_set {σ : L2.St} {i : Nat} {x y : Option V} : (σ.set i x).set i y = σ.set i y := by
  rw [List.set_set]
theorem Rl.hideD {O : List Addr} {σ : L2.St} {ρ : Env} {H H' : Hp} {D0 : Addr} (h : Rl T O σ ρ H) (e : Ex H H') (n : H D0 = none) (l : H' D0 ≠ none) : Rl T (D0 :: O) σ ρ H' := by
  have hx : Ex (hide O H) (hide (D0 :: O) H') := fun a o q => by
    unfold hide at q ⊢
    split at q
    · cases q
    · rename_i ha
      have hne : a ≠ D0 := fun z => by rw [z, n] at q; cases q
      rw [if_neg (by simp only [List.mem_cons, not_or]; exact ⟨hne, ha⟩)]
      exact e a o q
  refine ⟨fun a ha => ?_, h.len, fun i s q => ?_, h.sep⟩
  · rcases List.mem_cons.mp ha with rfl | ha
    · exact l
    · exact live_mono e h.live a ha
  · have z := h.at_ i s q
    cases s with
    | un => trivial
    | dat d => obtain ⟨v, h1, h2⟩ := z; exact ⟨v, h1, h2.mono hx⟩
    | own xs => obtain ⟨a, vs, h1, h2, h3, h4⟩ := z; exact ⟨a, vs, h1, List.mem_cons_of_mem _ h2, e _ _ h3, h4.mono hx⟩
theorem pick_cons {g : D → R Bool} {f : D → R D} {x : D} {xs ys : List D} (h : pick g f (x :: xs) = .ok ys) : (g x = .ok false ∧ pick g f xs = .ok ys) ∨ ∃ y zs, g x = .ok true ∧ f x = .ok y ∧ pick g f xs = .ok zs ∧ ys = y :: zs := by
  unfold pick at h
  split at h
  · rename_i e
    split at h
    · rename_i y e2
      cases e3 : pick g f xs with
      | ok zs =>
        rw [e3] at h
        cases h
        exact .inr ⟨y, zs, e, e2, rfl, rfl⟩
      | ex c => rw [e3] at h; cases h
      | no => rw [e3] at h; cases h
    · cases h
  · rename_i e
    exact .inl ⟨e, h⟩
  · cases h
/-- the reading of a comprehension -/
theorem lc_read {i : Nat} {el : E} {src : Src} {g : D → R Bool} {tt : TT} {σ : L2.St} {H : Hp} {Q : VK} {O : List Addr} {ρ : Env} (hr : Rl T O σ ρ H) (hi : i < ρ.length)
    (p : PoE T W O σ H Q ((evSrc src ρ).bind fun xs => (pick g (fun x => evE el (ρ.set i (.dat x))) xs).bind fun ys => if xs.length < line then .ok (.lst ys) else .no))
    (ht : ∀ (O' : List Addr) (d : D) (v : V) (b : Bool) (H' : Hp) (K : Bool → Hp → Prop), Rl T O' (σ.set i (some v)) (ρ.set i (.dat d)) H' → g d = .ok b → (∀ H2, Ex H' H2 → K b H2) → tt (σ.set i (some v)) H' K) :
    tLc (tI T W src) (gName i) tt (tE T (fun _ _ _ _ => False) el) [i] σ H Q := by
  refine ⟨O, ρ, hr, ?_⟩
  cases es : evSrc src ρ with
  | ex c => rw [es] at p; exact p
  | no => rw [es] at p; exact p
  | ok ds =>
    rw [es] at p
    have p : PoE T W O σ H Q ((pick g (fun x => evE el (ρ.set i (.dat x))) ds).bind fun ys => if ds.length < line then .ok (.lst ys) else .no) := p
    cases ep : pick g (fun x => evE el (ρ.set i (.dat x))) ds with
    | ex c => exact absurd ep (pick_nex _ _ _ c)
    | no => rw [ep] at p; exact False.elim p
    | ok ys =>
      rw [ep] at p
      have p : PoE T W O σ H Q (if ds.length < line then .ok (.lst ys) else .no) := p
      by_cases hl : ds.length < line
      case neg => rw [if_neg hl] at p; exact False.elim p
      rw [if_pos hl] at p
      intro J H1 e1 Y D0 n0
      have n0' : H D0 = none := by
        cases q : H D0 with
        | none => rfl
        | some o => rw [e1 _ _ q] at n0; cases n0
      have w1 : wipe σ [i] = σ.set i none := rfl
      -- behind k turns
      refine ⟨fun k m H' => m = ds.length - k ∧ k ≤ ds.length ∧ Ex H1 H' ∧ ∃ (done rest : List D) (vs : List V), H' D0 = some (.lst vs) ∧ DVs T (hide (D0 :: O) H') done vs ∧ done.length ≤ k ∧ pick g (fun x => evE el (ρ.set i (.dat x))) (ds.drop k) = .ok rest ∧ done ++ rest = ys,
        ⟨_, rfl, Nat.zero_le _, Ex.new n0, [], ys, [], upd_same, .nil, Nat.zero_le _, ep, rfl⟩, ?_⟩
      rintro k m H' ⟨rfl, hk, eH, done, rest, vs, hD, hdv, hdl, hpk, hys⟩
      have hlive : ∀ a ∈ O, H' a ≠ none := live_mono (e1.trans eH) hr.live
      have nO : D0 ∉ O := live_new (live_mono e1 hr.live) n0
      have hx : Ex (hide O H1) (hide (D0 :: O) H') := fun a o q => by
        unfold hide at q ⊢
        split at q
        · cases q
        · rename_i ha
          have hne : a ≠ D0 := fun z => by rw [z, n0] at q; cases q
          rw [if_neg (by simp only [List.mem_cons, not_or]; exact ⟨hne, ha⟩)]
          exact eH a o q
      have hlive2 : ∀ a ∈ D0 :: O, H' a ≠ none := fun a ha => by
        rcases List.mem_cons.mp ha with rfl | ha
        · rw [hD]; simp
        · exact hlive a ha
      obtain ⟨Yi, Ye⟩ := Y k (D0 :: O) H' hx hlive2
      by_cases hlt : k < ds.length
      · obtain ⟨d, hd⟩ : ∃ d, ds[k]? = some d := ⟨ds[k], List.getElem?_eq_getElem hlt⟩
        have hdrop : ds.drop k = d :: ds.drop (k + 1) := by
          rw [List.drop_eq_getElem_cons hlt]
          have := List.getElem?_eq_getElem hlt
          rw [hd] at this
          rw [Option.some.inj this]
        obtain ⟨Yg, Yy⟩ := Yi d hd
        refine .inr ⟨Yg, fun H3 => ∃ m', m' < ds.length - k ∧ (m' = ds.length - (k + 1) ∧ k + 1 ≤ ds.length ∧ Ex H1 H3 ∧ ∃ (done rest : List D) (vs : List V), H3 D0 = some (.lst vs) ∧ DVs T (hide (D0 :: O) H3) done vs ∧ done.length ≤ k + 1 ∧ pick g (fun x => evE el (ρ.set i (.dat x))) (ds.drop (k + 1)) = .ok rest ∧ done ++ rest = ys), fun H3 q => q, fun x H2 y => ?_⟩
        obtain ⟨e2, dx⟩ := Yy x H2 y
        show (fun σ2 H2 => wipe σ2 [i] = wipe σ [i] ∧ _) ((wipe σ [i]).set i (some x)) H2
        rw [w1, wipe_set]
        have hR : Rl T (D0 :: O) (σ.set i (some x)) (ρ.set i (.dat d)) H2 := by
          have h0 : Rl T (D0 :: O) σ ρ H2 := hr.hideD ((e1.trans eH).trans e2) n0' (by rw [e2 _ _ hD]; simp)
          exact h0.setd dx i
        refine ⟨by show (σ.set i (some x)).set i none = σ.set i none; rw [wipe_set], ?_⟩
        rw [hdrop] at hpk
        have hD2 : H2 D0 = some (.lst vs) := e2 _ _ hD
        have fin0 : ∀ H3, Ex H2 H3 → pick g (fun x => evE el (ρ.set i (.dat x))) (ds.drop (k + 1)) = .ok rest → ∃ m', m' < ds.length - k ∧ (m' = ds.length - (k + 1) ∧ k + 1 ≤ ds.length ∧ Ex H1 H3 ∧ ∃ (done rest : List D) (vs : List V), H3 D0 = some (.lst vs) ∧ DVs T (hide (D0 :: O) H3) done vs ∧ done.length ≤ k + 1 ∧ pick g (fun x => evE el (ρ.set i (.dat x))) (ds.drop (k + 1)) = .ok rest ∧ done ++ rest = ys) := fun H3 e3 hp => by
          refine ⟨ds.length - (k + 1), by omega, rfl, hlt, (eH.trans e2).trans e3, done, rest, vs, e3 _ _ hD2, hdv.mono (hide_mono (e2.trans e3)), by omega, hp, hys⟩
        rcases pick_cons hpk with ⟨hg, hp⟩ | ⟨y0, zs, hg, hf, hp, hrest⟩
        · refine ht (D0 :: O) d x false H2 _ hR hg fun H3 e3 => ?_
          rw [if_neg Bool.false_ne_true]
          exact fin0 H3 e3 hp
        · refine ht (D0 :: O) d x true H2 _ hR hg fun H3 e3 => ?_
          rw [if_pos rfl]
          refine ⟨D0 :: O, ρ.set i (.dat d), hR.mono e3, ?_⟩
          rw [hf]
          intro v H4 e4 dv
          have hD4 : H4 D0 = some (.lst vs) := e4 _ _ (e3 _ _ hD2)
          refine ⟨vs, hD4, ?_, ?_⟩
          · rw [← hdv.length, ← line_eq]
            omega
          · refine ⟨ds.length - (k + 1), by omega, rfl, hlt, fun a o q => ?_, done ++ [y0], zs, vs ++ [v], upd_same, ?_, by rw [List.length_append, List.length_singleton]; omega, hp, by rw [List.append_assoc, List.singleton_append, ← hrest]; exact hys⟩
            · have hne : a ≠ D0 := fun z => by rw [z, n0] at q; cases q
              rw [upd_ne hne]
              exact e4 _ _ (e3 _ _ (e2 _ _ (eH a o q)))
            · rw [hide_upd List.mem_cons_self]
              exact (hdv.mono (hide_mono ((e2.trans e3).trans e4))).append (.cons dv .nil)
      · have hkl : k = ds.length := by omega
        refine .inl ⟨Ye (by omega), ?_⟩
        subst hkl
        rw [List.drop_length] at hpk
        cases hpk
        rw [List.append_nil] at hys
        subst hys
        refine p _ H' (e1.trans eH) (.lst (SqL.of (by rw [hide_out nO]; exact hD)) (hdv.mono (hide_sub fun a ha => List.mem_cons_of_mem _ ha)))
def prF (i j : Nat) (el : E) (ρ : Env) (x : D) : R D := match x with
  | .tup [d, e] => evE el ((ρ.set i (.dat d)).set j (.dat e))
  | _ => .no
/-- the reading of a comprehension over pairs -/
theorem lc_readP {i j : Nat} (hij : i ≠ j) {el : E} {src : Src} {σ : L2.St} {H : Hp} {Q : VK} {O : List Addr} {ρ : Env} (hr : Rl T O σ ρ H) (hi : i < ρ.length) (hK : X.K = T.K)
    (p : PoE T W O σ H Q ((evSrc src ρ).bind fun xs => (pick (fun _ => .ok true) (prF i j el ρ) xs).bind fun ys => if xs.length < line then .ok (.lst ys) else .no)) :
    tLc (tI T W src) (gTup X.K 2 (gCons (gName i) (gCons (gName j) gNil))) tYes (tE T (fun _ _ _ _ => False) el) [i, j] σ H Q := by
  refine ⟨O, ρ, hr, ?_⟩
  cases es : evSrc src ρ with
  | ex c => rw [es] at p; exact p
  | no => rw [es] at p; exact p
  | ok ds =>
    rw [es] at p
    have p : PoE T W O σ H Q ((pick (fun _ => .ok true) (prF i j el ρ) ds).bind fun ys => if ds.length < line then .ok (.lst ys) else .no) := p
    cases ep : pick (fun _ => .ok true) (prF i j el ρ) ds with
    | ex c => exact absurd ep (pick_nex _ _ _ c)
    | no => rw [ep] at p; exact False.elim p
    | ok ys =>
      rw [ep] at p
      have p : PoE T W O σ H Q (if ds.length < line then .ok (.lst ys) else .no) := p
      by_cases hl : ds.length < line
      case neg => rw [if_neg hl] at p; exact False.elim p
      rw [if_pos hl] at p
      intro J H1 e1 Y D0 n0
      have n0' : H D0 = none := by
        cases q : H D0 with
        | none => rfl
        | some o => rw [e1 _ _ q] at n0; cases n0
      -- behind k turns
      refine ⟨fun k m H' => m = ds.length - k ∧ k ≤ ds.length ∧ Ex H1 H' ∧ ∃ (done rest : List D) (vs : List V), H' D0 = some (.lst vs) ∧ DVs T (hide (D0 :: O) H') done vs ∧ done.length ≤ k ∧ pick (fun _ => .ok true) (prF i j el ρ) (ds.drop k) = .ok rest ∧ done ++ rest = ys,
        ⟨_, rfl, Nat.zero_le _, Ex.new n0, [], ys, [], upd_same, .nil, Nat.zero_le _, ep, rfl⟩, ?_⟩
      rintro k m H' ⟨rfl, hk, eH, done, rest, vs, hD, hdv, hdl, hpk, hys⟩
      have hlive : ∀ a ∈ O, H' a ≠ none := live_mono (e1.trans eH) hr.live
      have nO : D0 ∉ O := live_new (live_mono e1 hr.live) n0
      have hx : Ex (hide O H1) (hide (D0 :: O) H') := fun a o q => by
        unfold hide at q ⊢
        split at q
        · cases q
        · rename_i ha
          have hne : a ≠ D0 := fun z => by rw [z, n0] at q; cases q
          rw [if_neg (by simp only [List.mem_cons, not_or]; exact ⟨hne, ha⟩)]
          exact eH a o q
      have hlive2 : ∀ a ∈ D0 :: O, H' a ≠ none := fun a ha => by
        rcases List.mem_cons.mp ha with rfl | ha
        · rw [hD]; simp
        · exact hlive a ha
      obtain ⟨Yi, Ye⟩ := Y k (D0 :: O) H' hx hlive2
      by_cases hlt : k < ds.length
      · obtain ⟨d, hd⟩ : ∃ d, ds[k]? = some d := ⟨ds[k], List.getElem?_eq_getElem hlt⟩
        have hdrop : ds.drop k = d :: ds.drop (k + 1) := by
          rw [List.drop_eq_getElem_cons hlt]
          have := List.getElem?_eq_getElem hlt
          rw [hd] at this
          rw [Option.some.inj this]
        obtain ⟨Yg, Yy⟩ := Yi d hd
        refine .inr ⟨Yg, fun H3 => ∃ m', m' < ds.length - k ∧ (m' = ds.length - (k + 1) ∧ k + 1 ≤ ds.length ∧ Ex H1 H3 ∧ ∃ (done rest : List D) (vs : List V), H3 D0 = some (.lst vs) ∧ DVs T (hide (D0 :: O) H3) done vs ∧ done.length ≤ k + 1 ∧ pick (fun _ => .ok true) (prF i j el ρ) (ds.drop (k + 1)) = .ok rest ∧ done ++ rest = ys), fun H3 q => q, fun x H2 y => ?_⟩
        obtain ⟨e2, dx⟩ := Yy x H2 y
        rw [hdrop] at hpk
        have hD2 : H2 D0 = some (.lst vs) := e2 _ _ hD
        rcases pick_cons hpk with ⟨hg, hp⟩ | ⟨y0, zs, hg, hf, hp, hrest⟩
        · cases hg
        · unfold prF at hf
          split at hf
          case h_2 => cases hf
          rename_i d1 d2
          cases dx with
          | @tup _ a ws hq dws =>
          cases dws with
          | @cons _ v1 _ _ q1 dws =>
          cases dws with
          | @cons _ v2 _ _ q2 dws =>
          cases dws
          refine ⟨a, [v1, v2], rfl, by rw [hK]; exact ex_sqt hide_ex hq, rfl, ?_⟩
          refine ⟨v1, [v2], rfl, v2, [], rfl, rfl, ?_⟩
          have hw : ((wipe σ [i, j]).set i (some v1)).set j (some v2) = (σ.set i (some v1)).set j (some v2) := by
            show ((((σ.set j none).set i none).set i (some v1)).set j (some v2)) = _
            rw [List.set_set, List.set_comm _ _ hij, List.set_set, List.set_comm _ _ (Ne.symm hij)]
          rw [hw]
          refine ⟨by
            show (((σ.set i (some v1)).set j (some v2)).set j none).set i none = (σ.set j none).set i none
            rw [List.set_set, List.set_comm _ _ (Ne.symm hij), List.set_set, List.set_comm _ _ hij], ?_⟩
          have hR : Rl T (D0 :: O) ((σ.set i (some v1)).set j (some v2)) ((ρ.set i (.dat d1)).set j (.dat d2)) H2 := by
            have h0 : Rl T (D0 :: O) σ ρ H2 := hr.hideD ((e1.trans eH).trans e2) n0' (by rw [e2 _ _ hD]; simp)
            exact (h0.setd q1 i).setd q2 j
          refine ⟨D0 :: O, _, hR, ?_⟩
          rw [hf]
          intro v H4 e4 dv
          have hD4 : H4 D0 = some (.lst vs) := e4 _ _ hD2
          refine ⟨vs, hD4, ?_, ?_⟩
          · rw [← hdv.length, ← line_eq]
            omega
          · refine ⟨ds.length - (k + 1), by omega, rfl, hlt, fun a o q => ?_, done ++ [y0], zs, vs ++ [v], upd_same, ?_, by rw [List.length_append, List.length_singleton]; omega, hp, by rw [List.append_assoc, List.singleton_append, ← hrest]; exact hys⟩
            · have hne : a ≠ D0 := fun z => by rw [z, n0] at q; cases q
              rw [upd_ne hne]
              exact e4 _ _ (e2 _ _ (eH a o q))
            · rw [hide_upd List.mem_cons_self]
              exact (hdv.mono (hide_mono (e2.trans e4))).append (.cons dv .nil)
      · have hkl : k = ds.length := by omega
        refine .inl ⟨Ye (by omega), ?_⟩
        subst hkl
        rw [List.drop_length] at hpk
        cases hpk
        rw [List.append_nil] at hys
        subst hys
        refine p _ H' (e1.trans eH) (.lst (SqL.of (by rw [hide_out nO]; exact hD)) (hdv.mono (hide_sub fun a ha => List.mem_cons_of_mem _ ha)))
theorem own_name {x : Str} {i : Nat} {scope : Scope} {s : Shared} {H : Hp} {C : Addr} {cl : List (Str × Addr)} {fp : List Addr} {pos : Pos} (A : At X T W N sc) (h1 : N[i]? = some x) (h2 : isOwn scope x = true) : PG (X.blk s H scope (compEnvC scope cl C X.env) fp) (.Name x pos) (gName i) := by
  have hs : (X.blk s H scope (compEnvC scope cl C X.env) fp).env.scope = relS scope X.env.scope := rfl
  unfold isOwn at h2
  split at h2
  · rename_i e
    have k : (relS scope X.env.scope).names.lookup x = some .local := lookup_relS_keep (by simp) e
    refine pg_name (by rw [A.hN]; exact A.nd) (by rw [A.hN]; exact h1) (.inl ?_) (.inr ?_)
    · rw [hs]; exact k
    · rw [hs]; exact k
  · rename_i e
    have k : (relS scope X.env.scope).names.lookup x = some .cell := lookup_relS_keep (by simp) e
    refine pg_name (by rw [A.hN]; exact A.nd) (by rw [A.hN]; exact h1) (.inr ?_) (.inl ?_)
    · rw [hs]; exact k
    · show (scope.names.lookup x == some NameKind.cell) = true
      rw [e]
      rfl
  · cases h2
/-- σ has a place for each name -/
theorem in_len {i : Nat} {x : Str} {pins : List (Addr × Obj)} {σ : L2.St} {H : Hp} {s : Shared} {O : List Addr} {ρ : Env} (A : At X T W N sc) (I : Inv X pins σ H s) (hr : Rl T O σ ρ H) (h1 : N[i]? = some x) : i < ρ.length := by
  rw [← hr.len, I.len, A.hN]
  exact (List.getElem?_eq_some_iff.mp h1).1
theorem pe_weakI {e : Expr} {t t' : TE} (h : PE X e t) (w : ∀ pins s σ H Q, Inv X pins σ H s → t' σ H Q → t σ H Q) : PE X e t' := ⟨fun pins s σ H Q I q => h.run pins s σ H Q I (w pins s σ H Q I q)⟩
theorem s_lc (A : At X T W N sc) {i : Nat} {el : E} {src : Src} {x : Str} {elt iter : Expr} {scope : Scope} {px pos : Pos} (h1 : N[i]? = some x) (h2 : isOwn scope x = true) (h3 : blkC N sc scope [(x, i)] = true) (h4 : shp iter = true)
    (he : ∀ s H C cl fp, PE (X.blk s H scope (compEnvC scope cl C X.env) fp) elt (tE T (fun _ _ _ _ => False) el)) (hi : PI X (.Name x px) iter (tI T W src)) : SndE X T W (.lc i el src) (.ListComp elt [⟨.Name x px, iter, [], 0⟩] scope pos) := by
  refine snd_of (pe_weakI (pe_lc A.C.calm (by rw [A.hN]; exact A.nd) hi (by rw [A.hN, A.hs]; exact blkOk_by h3) (fun s H C cl fp => own_name A h1 h2) (fun _ _ _ _ _ => pts_nil) he (shp_fold h4)) fun pins s σ H Q I ⟨O, ρ, hr, p⟩ => ?_) (fun _ => rfl) (fun _ _ _ q => nomatch q)
  refine lc_read (g := fun _ => .ok true) hr (in_len A I hr h1) p fun O' d v b H' K _ hg k => ?_
  cases hg
  exact k H' (Ex.refl H')
theorem s_lcP (A : At X T W N sc) {i j : Nat} {el : E} {src : Src} {x y : Str} {elt iter : Expr} {scope : Scope} {px py p2 pos : Pos} {k0 : Nat} (h1 : N[i]? = some x) (g1 : N[j]? = some y) (hij : i ≠ j) (h2 : isOwn scope x = true) (g2 : isOwn scope y = true) (h3 : blkC N sc scope [(x, i), (y, j)] = true) (h4 : shp iter = true)
    (he : ∀ s H C cl fp, PE (X.blk s H scope (compEnvC scope cl C X.env) fp) elt (tE T (fun _ _ _ _ => False) el)) (hi : PI X (.Tuple [.Name x px, .Name y py] k0 p2) iter (tI T W src)) : SndE X T W (.lcP i j el src) (.ListComp elt [⟨.Tuple [.Name x px, .Name y py] k0 p2, iter, [], 0⟩] scope pos) := by
  refine snd_of (pe_weakI (pe_lc A.C.calm (by rw [A.hN]; exact A.nd) hi (by rw [A.hN, A.hs]; exact blkOk_by h3) (fun s H C cl fp => show PG (X.blk s H scope (compEnvC scope cl C X.env) fp) (.Tuple [.Name x px, .Name y py] k0 p2) (gTup X.K 2 (gCons (gName i) (gCons (gName j) gNil))) from pg_tup (X := X.blk s H scope (compEnvC scope cl C X.env) fp) A.C.calm (pgs_cons (own_name A h1 h2) (pgs_cons (own_name A g1 g2) pgs_nil))) (fun _ _ _ _ _ => pts_nil) he (shp_fold h4)) fun pins s σ H Q I ⟨O, ρ, hr, p⟩ => ?_) (fun _ => rfl) (fun _ _ _ q => nomatch q)
  exact lc_readP hij hr (in_len A I hr h1) A.C.hK p
theorem s_lcf (A : At X T W N sc) {i : Nat} {el cond : E} {src : Src} {x : Str} {elt iter c : Expr} {scope : Scope} {px pos : Pos} (h1 : N[i]? = some x) (h2 : isOwn scope x = true) (h3 : blkC N sc scope [(x, i)] = true) (h4 : shp iter = true)
    (he : ∀ s H C cl fp, PE (X.blk s H scope (compEnvC scope cl C X.env) fp) elt (tE T (fun _ _ _ _ => False) el)) (hc : ∀ s H C cl fp, PT (X.blk s H scope (compEnvC scope cl C X.env) fp) c (tT T (fun _ _ _ _ => False) cond)) (hi : PI X (.Name x px) iter (tI T W src)) : SndE X T W (.lcf i el src cond) (.ListComp elt [⟨.Name x px, iter, [c], 0⟩] scope pos) := by
  refine snd_of (pe_weakI (pe_lc A.C.calm (by rw [A.hN]; exact A.nd) hi (by rw [A.hN, A.hs]; exact blkOk_by h3) (fun s H C cl fp => own_name A h1 h2) (fun s H C cl fp => pts_one (hc s H C cl fp)) he (shp_fold h4)) fun pins s σ H Q I ⟨O, ρ, hr, p⟩ => ?_) (fun _ => rfl) (fun _ _ _ q => nomatch q)
  refine lc_read (g := fun x => (evE cond (ρ.set i (.dat x))).bind boolD) hr (in_len A I hr h1) p fun O' d v b H' K hR hg k => ?_
  refine ⟨O', ρ.set i (.dat d), hR, ?_⟩
  show PoT _ _ _ _ _ ((evE cond (ρ.set i (.dat d))).bind boolD)
  rw [hg]
  exact k

/-! ### a list of one's own, read -/
theorem s_oix (A : At X T W N sc) {i : Nat} {b : E} {x : Str} {y : Expr} {px pos : Pos} (h1 : N[i]? = some x) (h2 : vis sc x = true) (h3 : okName x = true) (hb : PE X y (tE T W b)) (hy : shp y = true) : SndE X T W (.oix i b) (.Subscript (.Name x px) y pos) := by
  refine snd_of (pe_weak (pe_ix ix_list (pe_var (i := i) (by rw [A.hN]; exact h1) (vis_ok A.hs h2) (okName_1 h3) (okName_2 h3)) hb (shp_ix hy)) fun σ H Q ⟨O, ρ, hr, p⟩ => ?_) (fun _ => rfl) (fun _ _ _ q => nomatch q)
  simp only [evE] at p
  split at p
  · rename_i xs e
    obtain ⟨a, vs, q1, q2, q3, q4⟩ := hr.at_ i _ e
    refine ⟨_, q1, ?_⟩
    refine tE_bind wantE hr p fun dy y H1 e1 d1 p1 => ?_
    cases d1 with
    | int j =>
      have p1 := p1.v (ixD_nex _ _)
      simp only [ixD] at p1
      split at p1
      · rename_i d e
        rw [place_ix, Option.bind_eq_some_iff] at e
        obtain ⟨k, k1, k2⟩ := e
        obtain ⟨w, hw, dw⟩ := q4.get k2
        refine ⟨a, vs, j, w, rfl, rfl, SqL.of (e1 _ _ q3), ?_, p1 _ H1 (Ex.refl H1) (dw.mono (hide_mono e1))⟩
        unfold atI
        rw [← q4.length, k1]
        exact hw
      · exact False.elim p1
    | _ => exact False.elim (p1.v (ixD_nex _ _))
  · exact False.elim p
theorem s_olen (A : At X T W N sc) {i : Nat} {x f : Str} {px pf pos : Pos} (F : FOk X "len" f) (hB : Holds X T (.blt "len")) (h1 : N[i]? = some x) (h2 : vis sc x = true) (h3 : okName x = true) : SndE X T W (.olen i) (.Call (.Name f pf) [.Name x px] [] pos) := by
  obtain ⟨rfl, g, n1, n3⟩ := F
  refine snd_of (pe_weak (pe_callB call_len_seq g hB boot_len (pa_cons (pe_var (i := i) (by rw [A.hN]; exact h1) (vis_ok A.hs h2) (okName_1 h3) (okName_2 h3)) pa_nil) n3 n1 rfl rfl) fun σ H Q ⟨O, ρ, hr, p⟩ => ?_) (fun _ => rfl) (fun _ _ _ q => nomatch q)
  simp only [evE] at p
  split at p
  · rename_i xs e
    obtain ⟨a, vs, q1, q2, q3, q4⟩ := hr.at_ i _ e
    exact ⟨_, q1, a, vs, rfl, .inl (SqL.of q3), by rw [← q4.length]; exact p _ H (Ex.refl H) (.int _)⟩
  · exact False.elim p
theorem s_onz (A : At X T W N sc) {i : Nat} {x : Str} {px pl pos : Pos} (h1 : N[i]? = some x) (h2 : vis sc x = true) (h3 : okName x = true) : SndE X T W (.onz i) (.Compare (.Name x px) [.NotEq] [.List [] pl] pos) := by
  have hu : X.A.units + 64 < cLine := by have := A.C.units; omega
  have key : ∀ {σ : L2.St} {H : Hp} {Q : VK}, tE T W (.onz i) σ H Q → tOp (rNeD X.K) (tVar i) (tLst tNil) σ H Q := by
    intro σ H Q ⟨O, ρ, hr, p⟩
    simp only [evE] at p
    split at p
    · rename_i xs e
      split at p
      · rename_i hp
        obtain ⟨a, vs, q1, q2, q3, q4⟩ := hr.at_ i _ e
        refine ⟨_, q1, Nat.zero_le _, fun b n => ⟨.list (pys xs), .list [], ?_, ?_, shaped_l hp, rfl, ?_⟩⟩
        · exact .lst (SqL.of (Ex.new n _ _ q3)) (by rw [A.C.hK]; exact dps_of (q4.mono (hide_ex.trans (Ex.new n))) hp)
        · exact .lst (SqL.of upd_same) .nil
        · have e2 : (!PyData.eqv (.list (pys xs)) (.list [])) = !xs.isEmpty := by
            cases xs <;> simp [pys, PyData.eqv, PyData.eqvAll]
          rw [e2]
          exact p _ _ (Ex.new n) (.bl _)
      · exact False.elim p
    · exact False.elim p
  refine ⟨pe_weak (pe_cmpR (op_neD hu) (pe_var (i := i) (by rw [A.hN]; exact h1) (vis_ok A.hs h2) (okName_1 h3) (okName_2 h3)) (pe_lst pa_nil) rfl) fun σ H Q q => key q,
    pt_weak (pt_cmpR (op_neD hu) (pe_var (i := i) (by rw [A.hN]; exact h1) (vis_ok A.hs h2) (okName_1 h3) (okName_2 h3)) (pe_lst pa_nil) rfl) fun σ H Q ⟨O, ρ, hr, p⟩ => ?_, fun _ _ _ q => nomatch q⟩
  refine key ⟨O, ρ, hr, ?_⟩
  have p : PoT T W σ H Q ((evE (.onz i) ρ).bind boolD) := p
  cases e : evE (.onz i) ρ with
  | ok d =>
    rw [e] at p
    intro v H' e' dv
    cases dv with
    | bl k => exact ⟨k, rfl, p H' e'⟩
    | _ => exact False.elim p
  | ex c => rw [e] at p; exact p
  | no => rw [e] at p; exact p
/-! ### ranges -/
theorem pi_r1 (A : At X T W N sc) {a : E} {x : Str} {y tg : Expr} {px pos : Pos} (F : FOk X "range" x) (h : Holds X T (.blt "range")) (ha : PE X y (tE T W a)) (hy : shp y = true) : PI X tg (.Call (.Name x px) [y] [] pos) (tI T W (.rng1 a)) := by
  obtain ⟨rfl, g, n1, n3⟩ := F
  refine pi_weak (pi_range1 g h (pa1 ha hy) (shp_star hy)) fun σ H Rk ⟨O, ρ, hr, p⟩ => ?_
  refine ⟨O, ρ, hr, ?_⟩
  simp only [evSrc] at p
  cases e : evE a ρ with
  | ok d =>
    rw [e] at p
    intro v H' e' dv
    cases dv with
    | int j =>
      simp only [R.bind_ok, rng1D] at p
      split at p
      · rename_i ds ed
        split at ed
        · rename_i hs
          cases ed
          exact ⟨j, rfl, (small_ok hs).1, (small_ok hs).2, p _ H' e' yl_rng1⟩
        · cases ed
      · rename_i ed
        split at ed <;> cases ed
      · exact False.elim p
    | _ => exact False.elim p
  | ex c => rw [e] at p; exact p
  | no => rw [e] at p; exact p
theorem pi_zp (A : At X T W N sc) {a b : E} {x : Str} {y z : Expr} {px pos tpos : Pos} {elts : List Expr} {kk : Nat} (F : FOk X "zip" x) (h : Holds X T (.blt "zip")) (ha : PE X y (tE T W a)) (hb : PE X z (tE T W b)) (hy : shp y = true) (hz : shp z = true) : PI X (.Tuple elts kk tpos) (.Call (.Name x px) [y, z] [] pos) (tI T W (.zip a b)) := by
  obtain ⟨rfl, g, n1, n3⟩ := F
  refine pi_weak (pi_zip g h (pa2 ha hb hy hz) (shp_star hy) (by rw [shp_star hz]; rfl)) fun σ H Rk ⟨O, ρ, hr, p⟩ => ?_
  refine ⟨O, ρ, hr, ?_⟩
  simp only [evSrc] at p
  cases e : evE a ρ with
  | ok d =>
    rw [e] at p
    intro v H' e' dv
    refine ⟨O, ρ, hr.mono e', ?_⟩
    simp only [R.bind_ok] at p
    cases e2 : evE b ρ with
    | ok d2 =>
      rw [e2] at p
      intro w H2 e3 dw
      cases dv with
      | lst h1 r1 => cases dw with
        | lst h2 r2 =>
          simp only [R.bind_ok, zipD] at p
          split at p
          · rename_i ed
            split at ed
            · cases ed
              exact ⟨_, _, _, _, rfl, by rw [A.C.hK]; exact ex_sql (hide_ex.trans e3) h1, by rw [A.C.hK]; exact ex_sql hide_ex h2, p _ _ (e'.trans e3) (yl_zip A.C.hK (ex_sql (hide_mono e3) h1) (r1.mono (hide_mono e3)) h2 r2)⟩
            · cases ed
          · rename_i ed
            split at ed <;> cases ed
          · exact False.elim p
        | _ => exact False.elim p
      | _ => exact False.elim p
    | ex c => rw [e2] at p; exact fun H1 e3 hc => p H1 (e'.trans e3) hc
    | no => rw [e2] at p; exact p
  | ex c => rw [e] at p; exact p
  | no => rw [e] at p; exact p
theorem pi_r2 (A : At X T W N sc) {a b : E} {x : Str} {y z tg : Expr} {px pos : Pos} (F : FOk X "range" x) (h : Holds X T (.blt "range")) (ha : PE X y (tE T W a)) (hb : PE X z (tE T W b)) (hy : shp y = true) (hz : shp z = true) : PI X tg (.Call (.Name x px) [y, z] [] pos) (tI T W (.rng2 a b)) := by
  obtain ⟨rfl, g, n1, n3⟩ := F
  refine pi_weak (pi_range2 g h (pa2 ha hb hy hz) (by rw [shp_star hy, shp_star hz]; rfl) (by rw [shp_star hz]; rfl)) fun σ H Rk ⟨O, ρ, hr, p⟩ => ?_
  refine ⟨O, ρ, hr, ?_⟩
  simp only [evSrc] at p
  cases e : evE a ρ with
  | ok d =>
    rw [e] at p
    intro v H' e' dv
    refine ⟨O, ρ, hr.mono e', ?_⟩
    simp only [R.bind_ok] at p
    cases e2 : evE b ρ with
    | ok d2 =>
      rw [e2] at p
      intro w H2 e3 dw
      cases dv with
      | int i => cases dw with
        | int j =>
          simp only [R.bind_ok, rng2D] at p
          split at p
          · rename_i ds ed
            split at ed
            · rename_i hs
              rw [Bool.and_eq_true] at hs
              cases ed
              exact ⟨i, j, rfl, ⟨(small_ok hs.1).1, (small_ok hs.1).2, (small_ok hs.2).1, (small_ok hs.2).2⟩, p _ H2 (e'.trans e3) yl_rng1⟩
            · cases ed
          · rename_i ed
            split at ed <;> cases ed
          · exact False.elim p
        | _ => exact False.elim p
      | _ => cases dw <;> exact False.elim p
    | ex c => rw [e2] at p; exact fun H2 e3 => p H2 (e'.trans e3)
    | no => rw [e2] at p; exact p
  | ex c => rw [e] at p; exact p
  | no => rw [e] at p; exact p
theorem pi_r3 (A : At X T W N sc) {a b c : E} {x : Str} {y z w tg : Expr} {px pos : Pos} (F : FOk X "range" x) (h : Holds X T (.blt "range")) (ha : PE X y (tE T W a)) (hb : PE X z (tE T W b)) (hc : PE X w (tE T W c)) (hy : shp y = true) (hz : shp z = true) (hw : shp w = true) :
    PI X tg (.Call (.Name x px) [y, z, w] [] pos) (tI T W (.rng3 a b c)) := by
  obtain ⟨rfl, g, n1, n3⟩ := F
  refine pi_weak (pi_range3 g h (pa3 ha hb hc hy hz hw) (shp_star hy) (star_plain (by simp [allShp, hz, hw]))) fun σ H Rk ⟨O, ρ, hr, p⟩ => ?_
  refine ⟨O, ρ, hr, ?_⟩
  simp only [evSrc] at p
  cases e : evE a ρ with
  | ok d =>
    rw [e] at p
    intro v H' e' dv
    refine ⟨O, ρ, hr.mono e', ?_⟩
    simp only [R.bind_ok] at p
    cases e2 : evE b ρ with
    | ok d2 =>
      rw [e2] at p
      intro w H2 e3 dw
      refine ⟨O, ρ, hr.mono (e'.trans e3), ?_⟩
      simp only [R.bind_ok] at p
      cases e4 : evE c ρ with
      | ok d3 =>
        rw [e4] at p
        intro u H3 e5 du
        cases dv with
        | int i => cases dw with
          | int j => cases du with
            | int k =>
              simp only [R.bind_ok, rng3D] at p
              split at p
              · rename_i ds ed
                split at ed
                · rename_i hs
                  rw [Bool.and_eq_true, Bool.and_eq_true, decide_eq_true_eq] at hs
                  cases ed
                  exact ⟨i, j, k, _, rfl, rgc_ok hs.1.1 hs.1.2 hs.2, p _ H3 ((e'.trans e3).trans e5) yl_rng⟩
                · cases ed
              · rename_i ed
                split at ed <;> cases ed
              · exact False.elim p
            | _ => exact False.elim p
          | _ => cases du <;> exact False.elim p
        | _ => cases dw <;> cases du <;> exact False.elim p
      | ex c => rw [e4] at p; exact fun H3 e5 => p H3 ((e'.trans e3).trans e5)
      | no => rw [e4] at p; exact p
    | ex c => rw [e2] at p; exact fun H2 e3 => p H2 (e'.trans e3)
    | no => rw [e2] at p; exact p
  | ex c => rw [e] at p; exact p
  | no => rw [e] at p; exact p
end
end
end MP

set_option Elab.async false
set_option linter.all false
set_option maxRecDepth 100000
set_option maxHeartbeats 16000000
set_option autoImplicit false
/-! MPG: expressions, put together. -/
namespace MP
open PySem L2
open PyProof.Rows hiding St

theorem evEs_len : ∀ (es : Es) (ρ : Env) (ds : List D), evEs es ρ = .ok ds → ds.length = lenEs es
  | .nil, ρ, ds, h => by
    simp only [evEs, R.ok.injEq] at h
    subst h
    rfl
  | .cons e r, ρ, ds, h => by
    simp only [evEs] at h
    cases h1 : evE e ρ with
    | ok x =>
      rw [h1] at h
      simp only [R.bind_ok] at h
      cases h2 : evEs r ρ with
      | ok xs =>
        rw [h2] at h
        simp only [R.bind_ok, R.ok.injEq] at h
        subst h
        rw [List.length_cons, evEs_len r ρ xs h2]
        rfl
      | ex c => rw [h2] at h; cases h
      | no => rw [h2] at h; cases h
    | ex c => rw [h1] at h; cases h
    | no => rw [h1] at h; cases h
theorem lenEs_ok {es : Es} (h : lenEs es ≤ 1000) : ∀ ds ρ, evEs es ρ = .ok ds → ds.length ≤ sizeLine := fun ds ρ e => by
  rw [evEs_len es ρ ds e]
  exact Nat.le_trans h (by rw [sizeLine_eq]; decide)
section
variable {T : Tab}
mutual
theorem soundE : ∀ (m : E) {X : Cx} {W : WX} {N : List Str} {sc : Scope} (e : Expr), At X T W N sc → chkE N sc m e = true → okE (Holds X T) m → SndE X T W m e
  | .var i, X, W, N, sc, e, A, h, o => by
    simp only [chkE] at h
    split at h
    · simp only [Bool.and_eq_true, decide_eq_true_eq] at h
      exact s_var A h.1.1 h.1.2 h.2
    · cases h
  | .int i, X, W, N, sc, e, A, h, o => by
    simp only [chkE] at h
    split at h
    · simp only [decide_eq_true_eq] at h
      subst h
      exact s_int
    · cases h
  | .bl i, X, W, N, sc, e, A, h, o => by
    simp only [chkE] at h
    split at h
    · simp only [decide_eq_true_eq] at h
      subst h
      exact s_bl
    · cases h
  | .non, X, W, N, sc, e, A, h, o => by
    simp only [chkE] at h
    split at h
    · exact s_non
    · cases h
  | .dic, X, W, N, sc, e, A, h, o => by
    simp only [chkE] at h
    split at h
    · exact s_dic
    · cases h
  | .str l, X, W, N, sc, e, A, h, o => by
    simp only [chkE] at h
    split at h
    · simp only [decide_eq_true_eq] at h
      exact s_str h
    · cases h
  | .glo nm d, X, W, N, sc, e, A, h, o => by
    simp only [chkE] at h
    split at h
    · exact s_glo (chkF_ok A.hs h) o
    · cases h
  | .bin op a b, X, W, N, sc, e, A, h, o => by
    simp only [chkE] at h
    split at h
    · simp only [Bool.and_eq_true, decide_eq_true_eq] at h
      obtain ⟨⟨rfl, h1⟩, h2⟩ := h
      exact s_bin A (soundE a _ A h1 o.1).pe (soundE b _ A h2 o.2).pe
    · cases h
  | .neg a, X, W, N, sc, e, A, h, o => by
    simp only [chkE] at h
    split at h
    · exact s_neg (soundE a _ A h o).pe
    · cases h
  | .cmp op a b, X, W, N, sc, e, A, h, o => by
    simp only [chkE] at h
    split at h
    · simp only [Bool.and_eq_true, decide_eq_true_eq] at h
      obtain ⟨⟨⟨rfl, h1⟩, h2⟩, h3⟩ := h
      exact s_cmp A (soundE a _ A h1 o.1).pe (soundE b _ A h2 o.2).pe h3
    · cases h
  | .chn op op' a b c, X, W, N, sc, e, A, h, o => by
    simp only [chkE] at h
    split at h
    · simp only [Bool.and_eq_true, decide_eq_true_eq] at h
      obtain ⟨⟨⟨⟨⟨rfl, rfl⟩, h1⟩, h2⟩, h3⟩, h4⟩ := h
      exact s_chn A (soundE a _ A h1 o.1).pe (soundE b _ A h2 o.2.1).pe (soundE c _ A h3 o.2.2).pe h4
    · cases h
  | .chn3 op op' op2 a b c d, X, W, N, sc, e, A, h, o => by
    simp only [chkE] at h
    split at h
    · simp only [Bool.and_eq_true, decide_eq_true_eq] at h
      obtain ⟨⟨⟨⟨⟨⟨⟨rfl, rfl⟩, rfl⟩, h1⟩, h2⟩, h3⟩, h4⟩, h5⟩ := h
      exact s_chn3 A (soundE a _ A h1 o.1).pe (soundE b _ A h2 o.2.1).pe (soundE c _ A h3 o.2.2.1).pe (soundE d _ A h4 o.2.2.2).pe h5
    · cases h
  | .and a b, X, W, N, sc, e, A, h, o => by
    simp only [chkE] at h
    split at h
    · simp only [Bool.and_eq_true] at h
      exact s_and2 (soundE a _ A h.1 o.1) (soundE b _ A h.2 o.2)
    · simp only [Bool.and_eq_true] at h
      exact s_and3 (soundE a _ A h.1 o.1) (soundE b _ A h.2 o.2)
    · cases h
  | .or a b, X, W, N, sc, e, A, h, o => by
    simp only [chkE] at h
    split at h
    · simp only [Bool.and_eq_true] at h
      exact s_or2 (soundE a _ A h.1 o.1) (soundE b _ A h.2 o.2)
    · simp only [Bool.and_eq_true] at h
      exact s_or3 (soundE a _ A h.1 o.1) (soundE b _ A h.2 o.2)
    · cases h
  | .not a, X, W, N, sc, e, A, h, o => by
    simp only [chkE] at h
    split at h
    · exact s_not (soundE a _ A h o)
    · cases h
  | .ite c a b, X, W, N, sc, e, A, h, o => by simp [chkE] at h
  | .tup es, X, W, N, sc, e, A, h, o => by
    simp only [chkE] at h
    split at h
    · simp only [Bool.and_eq_true, decide_eq_true_eq] at h
      exact s_tup (soundEs es _ A h.1 o).1 (lenEs_ok h.2)
    · cases h
  | .lst es, X, W, N, sc, e, A, h, o => by
    simp only [chkE] at h
    split at h
    · simp only [Bool.and_eq_true, decide_eq_true_eq] at h
      exact s_lst (soundEs es _ A h.1 o).1 (lenEs_ok h.2)
    · cases h
  | .ix a b, X, W, N, sc, e, A, h, o => by
    simp only [chkE] at h
    split at h
    · simp only [Bool.and_eq_true] at h
      exact s_ix A (soundE a _ A h.1.1 o.1).pe (soundE b _ A h.1.2 o.2).pe h.2
    · cases h
  | .slcL a b, X, W, N, sc, e, A, h, o => by
    simp only [chkE] at h
    split at h
    · simp only [Bool.and_eq_true] at h
      exact s_slcL A (soundE a _ A h.1 o.1).pe (soundE b _ A h.2 o.2).pe
    · cases h
  | .slcH a b, X, W, N, sc, e, A, h, o => by
    simp only [chkE] at h
    split at h
    · simp only [Bool.and_eq_true] at h
      exact s_slcH A (soundE a _ A h.1 o.1).pe (soundE b _ A h.2 o.2).pe
    · cases h
  | .slc a b c, X, W, N, sc, e, A, h, o => by
    simp only [chkE] at h
    split at h
    · simp only [Bool.and_eq_true] at h
      exact s_slc A (soundE a _ A h.1.1 o.1).pe (soundE b _ A h.1.2 o.2.1).pe (soundE c _ A h.2 o.2.2).pe
    · cases h
  | .call nm f es df, X, W, N, sc, e, A, h, o => by
    simp only [chkE] at h
    split at h
    · simp only [Bool.and_eq_true] at h
      have k := soundEs es _ A h.2 o.2
      exact s_call A (chkF_ok A.hs h.1) o.1 k.1 k.2
    · cases h
  | .f1 f a, X, W, N, sc, e, A, h, o => by
    simp only [chkE] at h
    split at h
    · simp only [Bool.and_eq_true] at h
      exact s_f1 A h.1.1.1 (chkF_ok A.hs h.1.1.2) o.1 (soundE a _ A h.1.2 o.2).pe h.2
    · cases h
  | .f2 f a b, X, W, N, sc, e, A, h, o => by
    simp only [chkE] at h
    split at h
    · simp only [Bool.and_eq_true] at h
      exact s_f2 A (chkF_ok A.hs h.1.1.1.1) o.1 (soundE a _ A h.1.1.1.2 o.2.1).pe (soundE b _ A h.1.1.2 o.2.2).pe h.1.2 h.2
    · cases h
  | .m0 m a, X, W, N, sc, e, A, h, o => by
    simp only [chkE] at h
    split at h
    · simp only [Bool.and_eq_true] at h
      cases m with
      | bits =>
        simp only [decide_eq_true_eq] at h
        obtain ⟨⟨⟨rfl, h1⟩, h2⟩, h3⟩ := h
        exact s_bits (soundE a _ A h1 o).pe h2 h3
      | upper =>
        simp only [decide_eq_true_eq] at h
        obtain ⟨⟨⟨rfl, h1⟩, h2⟩, h3⟩ := h
        exact s_upper (soundE a _ A h1 o).pe h2 h3
    · cases h
  | .tm m a b, X, W, N, sc, e, A, h, o => by
    simp only [chkE] at h
    split at h
    · simp only [Bool.and_eq_true, decide_eq_true_eq] at h
      obtain ⟨⟨⟨⟨⟨rfl, h1⟩, h2⟩, h3⟩, h4⟩, h5⟩ := h
      exact s_tm A (soundE a _ A h1 o.1).pe (soundE b _ A h2 o.2).pe h3 h4 h5
    · cases h
  | .isi a c, X, W, N, sc, e, A, h, o => by
    simp only [chkE] at h
    split at h
    · simp only [Bool.and_eq_true] at h
      exact s_isi A (chkF_ok A.hs h.1.1.1.2) (chkF_ok A.hs h.1.1.2) o.1 o.2.1 (soundE a _ A h.1.2 o.2.2).pe h.2 h.1.1.1.1
    · cases h
  | .lc i el src, X, W, N, sc, e, A, h, o => by
    simp only [chkE] at h
    split at h
    · simp only [Bool.and_eq_true, decide_eq_true_eq] at h
      obtain ⟨⟨⟨⟨⟨h1, h2⟩, h3⟩, h4⟩, h5⟩, h6⟩ := h
      exact s_lc A h1 h2 h3 h6 (fun s H C cl fp => (soundE el _ (A.blk s H C cl fp) h4 o.1).pe) (soundSrc src _ _ A h5 h6 o.2)
    · cases h
  | .lcP i j el src, X, W, N, sc, e, A, h, o => by
    simp only [chkE] at h
    split at h
    · simp only [Bool.and_eq_true, decide_eq_true_eq] at h
      obtain ⟨⟨⟨⟨⟨⟨⟨⟨h1, g1⟩, hij⟩, h2⟩, g2⟩, h3⟩, h4⟩, h5⟩, h6⟩ := h
      exact s_lcP A h1 g1 hij h2 g2 h3 h6 (fun s H C cl fp => (soundE el _ (A.blk s H C cl fp) h4 o.1).pe) (soundSrcT src _ A h5 h6 o.2)
    · cases h
  | .lcf i el src c, X, W, N, sc, e, A, h, o => by
    simp only [chkE] at h
    split at h
    · simp only [Bool.and_eq_true, decide_eq_true_eq] at h
      obtain ⟨⟨⟨⟨⟨⟨h1, h2⟩, h3⟩, h4⟩, h5⟩, h6⟩, h7⟩ := h
      exact s_lcf A h1 h2 h3 h6 (fun s H C cl fp => (soundE el _ (A.blk s H C cl fp) h4 o.1).pe) (fun s H C cl fp => (soundE c _ (A.blk s H C cl fp) h7 o.2.2).pt) (soundSrc src _ _ A h5 h6 o.2.1)
    · cases h
  | .mk nm c, X, W, N, sc, e, A, h, o => by
    simp only [chkE] at h
    split at h
    · exact s_mk A (chkF_ok A.hs h) o
    · cases h
  | .meth m tbl a es, X, W, N, sc, e, A, h, o => by
    simp only [chkE] at h
    split at h
    · simp only [Bool.and_eq_true, decide_eq_true_eq] at h
      obtain ⟨⟨⟨⟨⟨rfl, h1⟩, h2⟩, h3⟩, h4⟩, h5⟩ := h
      have k := soundEs es _ A h3 o.2.2
      exact s_meth A o.1 (soundE a _ A h1 o.2.1).pe h2 k.1 k.2 h4 h5
    · cases h
  | .oix i b, X, W, N, sc, e, A, h, o => by
    simp only [chkE] at h
    split at h
    · simp only [Bool.and_eq_true, decide_eq_true_eq] at h
      exact s_oix A h.1.1.1.1 h.1.1.1.2 h.1.1.2 (soundE b _ A h.1.2 o).pe h.2
    · cases h
  | .onz i, X, W, N, sc, e, A, h, o => by
    simp only [chkE] at h
    split at h
    · simp only [Bool.and_eq_true, decide_eq_true_eq] at h
      exact s_onz A h.1.1 h.1.2 h.2
    · cases h
  | .olen i, X, W, N, sc, e, A, h, o => by
    simp only [chkE] at h
    split at h
    · simp only [Bool.and_eq_true, decide_eq_true_eq] at h
      exact s_olen A (chkF_ok A.hs h.1.1.1) o h.1.1.2 h.1.2 h.2
    · cases h
theorem soundEs : ∀ (m : Es) {X : Cx} {W : WX} {N : List Str} {sc : Scope} (es : List Expr), At X T W N sc → chkEs N sc m es = true → okEs (Holds X T) m → PA X es (tEs T W m) ∧ allShp es = true
  | .nil, X, W, N, sc, es, A, h, o => by
    simp only [chkEs] at h
    split at h
    · exact ⟨pa_weak pa_nil fun σ H Q ⟨O, ρ, hr, p⟩ => p _ H (Ex.refl H) .nil, rfl⟩
    · cases h
  | .cons a r, X, W, N, sc, es, A, h, o => by
    simp only [chkEs] at h
    split at h
    · simp only [Bool.and_eq_true] at h
      obtain ⟨k1, k2⟩ := soundEs r _ A h.2 o.2
      refine ⟨pa_weak (pa_cons (soundE a _ A h.1.1 o.1).pe k1 (shp_star h.1.2)) fun σ H Q ⟨O, ρ, hr, p⟩ => ?_, by simp only [allShp, h.1.2, k2, Bool.and_self]⟩
      exact tE_bind wantA hr (show PoA T W O σ H Q ((evE a ρ).bind fun x => (evEs r ρ).bind fun xs => .ok (x :: xs)) from p) fun dx x H1 e1 d1 p1 => tEs_bind wantA (hr.mono e1) p1 fun dy y H2 e2 d2 p2 =>
        p2 _ H2 (Ex.refl H2) (.cons (d1.mono (hide_mono e2)) d2)
    · cases h
theorem soundSrcT : ∀ (m : Src) {X : Cx} {W : WX} {N : List Str} {sc : Scope} {elts : List Expr} {kk : Nat} {tpos : Pos} (e : Expr), At X T W N sc → chkSrcT N sc m e = true → shp e = true → okSrc (Holds X T) m → PI X (.Tuple elts kk tpos) e (tI T W m)
  | .e a, X, W, N, sc, _, _, _, e, A, h, hs, o => by
    simp only [chkSrcT] at h
    exact pi_any A.C.hK (soundE a _ A h o).pe
  | .rng1 a, X, W, N, sc, _, _, _, e, A, h, hs, o => by
    simp only [chkSrcT] at h
    split at h
    · simp only [Bool.and_eq_true] at h
      exact pi_r1 A (chkF_ok A.hs h.1.1) o.1 (soundE a _ A h.1.2 o.2).pe h.2
    · cases h
  | .zip a b, X, W, N, sc, _, _, _, e, A, h, hs, o => by
    simp only [chkSrcT] at h
    split at h
    · simp only [Bool.and_eq_true] at h
      exact pi_zp A (chkF_ok A.hs h.1.1.1.1) o.1 (soundE a _ A h.1.1.1.2 o.2.1).pe (soundE b _ A h.1.1.2 o.2.2).pe h.1.2 h.2
    · cases h
  | .rng2 a b, X, W, N, sc, _, _, _, e, A, h, hs, o => by simp [chkSrcT] at h
  | .rng3 a b c, X, W, N, sc, _, _, _, e, A, h, hs, o => by simp [chkSrcT] at h
theorem soundSrc : ∀ (m : Src) {X : Cx} {W : WX} {N : List Str} {sc : Scope} (tg e : Expr), At X T W N sc → chkSrc N sc m e = true → shp e = true → okSrc (Holds X T) m → PI X tg e (tI T W m)
  | .e a, X, W, N, sc, tg, e, A, h, hs, o => by
    simp only [chkSrc] at h
    exact pi_any A.C.hK (soundE a _ A h o).pe
  | .rng1 a, X, W, N, sc, tg, e, A, h, hs, o => by
    simp only [chkSrc] at h
    split at h
    · simp only [Bool.and_eq_true] at h
      exact pi_r1 A (chkF_ok A.hs h.1.1) o.1 (soundE a _ A h.1.2 o.2).pe h.2
    · cases h
  | .rng2 a b, X, W, N, sc, tg, e, A, h, hs, o => by
    simp only [chkSrc] at h
    split at h
    · simp only [Bool.and_eq_true] at h
      exact pi_r2 A (chkF_ok A.hs h.1.1.1.1) o.1 (soundE a _ A h.1.1.1.2 o.2.1).pe (soundE b _ A h.1.1.2 o.2.2).pe h.1.2 h.2
    · cases h
  | .rng3 a b c, X, W, N, sc, tg, e, A, h, hs, o => by
    simp only [chkSrc] at h
    split at h
    · simp only [Bool.and_eq_true] at h
      exact pi_r3 A (chkF_ok A.hs h.1.1.1.1.1.1) o.1 (soundE a _ A h.1.1.1.1.1.2 o.2.1).pe (soundE b _ A h.1.1.1.1.2 o.2.2.1).pe (soundE c _ A h.1.1.1.2 o.2.2.2).pe h.1.1.2 h.1.2 h.2
    · cases h
  | .zip a b, X, W, N, sc, tg, e, A, h, hs, o => by simp [chkSrc] at h
end
end
end MP

set_option Elab.async false
set_option linter.all false
set_option maxRecDepth 100000
set_option maxHeartbeats 16000000
set_option autoImplicit false
/-! MPX: try: body, except C as n: y = n; the exception is kept as a value. -/
namespace MP
open PySem L2
open PyProof.Rows hiding St

section
variable {X : Cx} {pins : List (Addr × Obj)} {σ : L2.St} {H : Hp} {s : Shared} {a : Addr} {oe : Obj}
/-- an object that stands, pinned and not tracked, is tracked from now on -/
theorem Inv.track {u : HO} (I : Inv X ((a, oe) :: pins) σ H s) (hex : X.ex = []) (h0 : X.s_0.heap.get? a = none) (hp : ∀ p ∈ X.pn ++ pins, p.1 ≠ a) (ok : ObjOk X.prog X.w (upd H a u) s.heap a u) : Inv X pins σ (upd H a u) s := by
  obtain ⟨g1, g2, g3, g4, g5⟩ := I.pin (a, oe) (List.mem_append_right _ List.mem_cons_self)
  have nt : ∀ b o, H b = some o → b ≠ a := fun b o e => ne_of_none e g2
  have B := I.base
  refine ⟨I.ok, I.os, I.bare, ⟨B.keep, B.slot, fun b o e n hx => ?_, B.there, fun b xs e => ?_, fun b o v e => ?_, fun b ps e => ?_⟩, I.loc, I.cell, ?_, fun x c e => ?_, fun p hm => ?_, I.hok.laidN (fun _ _ z => z) g2 ok, I.len⟩
  · have hb : b ≠ a := fun z => by rw [z, h0] at e; cases e
    rw [upd_ne hb]
    exact B.free b o e n hx
  · have q := B.tups b xs e
    rw [upd_ne (nt _ _ q)]
    exact q
  · have q := B.frzs b o v e
    rw [upd_ne (nt _ _ q)]
    exact q
  · obtain ⟨more, q⟩ := B.tbls b ps e
    exact ⟨more, by rw [upd_ne (nt _ _ q)]; exact q⟩
  · rw [upd_ne (Ne.symm g3)]
    exact I.free
  · obtain ⟨v, o, ho, hd⟩ := I.cell x c e
    have hc : c ≠ a := fun z => by
      rw [z, g1] at ho
      cases ho
      exact g5 v hd
    rw [upd_ne hc]
    exact I.freeC x c e
  · have hm2 : p ∈ X.pn ++ ((a, oe) :: pins) := by
      rcases List.mem_append.mp hm with q | q
      · exact List.mem_append_left _ q
      · exact List.mem_append_right _ (List.mem_cons_of_mem _ q)
    obtain ⟨k1, k2, k3, k4, k5⟩ := I.pin p hm2
    refine ⟨k1, ?_, k3, k4, k5⟩
    rw [upd_ne (hp p hm)]
    exact k2
end

def wHold (T : Tab) (i j : Nat) (D : Ends) : WX := fun cls d σ H => ∃ c ∈ T.exs, cls = .ref (T.exc c) ∧ d = none ∧ ∀ a, H a = none → D.nx (((σ.set i (some (.ref a))).set j (some (.ref a))).set i none) (upd H a (ExH cls a))
section
variable {X : Cx} {T : Tab} {x n y : Str} {i j : Nat} {body : List Stmt} {np yp np2 ap pos pos' : Pos} {tb : WX → TS}
theorem ps_try_hold (C : Cxt X T) (hs : X.stack = X.env :: X.outer) (hf : X.env.frame = some X.env.locals) (hex : X.ex = []) (hN : X.N.Nodup) (hi : X.N[i]? = some n) (hln : X.env.kindOf n = some .local) (hj : X.N[j]? = some y) (hlj : Loc X.env.scope y) (hfn : ∀ z, X.fn z = true) (hn1 : okName n = true) (hc : Names X x (.ref T.flt))
    (hb : ∀ (W : WX) (pn : List (Addr × Obj)) (xe : Value → Shared → Prop), Takes (X.tr pn xe) W → PassesOwn (model X.prog X.w) X.A X.env xe → PSs (X.tr pn xe) body (tb W)) :
    PS X (.Try body [.ExceptHandler (some (.Name x np)) (some n) [.Assign [.Name y yp] (.Name n np2) ap] pos'] [] [] pos) (fun D σ H => tb (wHold T i j D) D σ H) := by
  refine ⟨fun pins s0 σ0 H0 D I hyp => ?_⟩
  have okX := I.ok
  have frE : X.A.frames = some (X.env :: X.outer) := by rw [okX.frames, hs]
  have locN : Loc X.env.scope n := .inl hln
  refine wpAny_Try_except ?_
  have run := (hb (wHold T i j D) (X.pn ++ pins) (fun e z1 => wpAny (model X.prog X.w) X.A (noteFrame e X.env) (fun _ z2 => wpAny (model X.prog X.w) X.A (setFlight e none) (fun _ z3 =>
    wpAny (model X.prog X.w) X.A (handleBy e X.env [.ExceptHandler (some (.Name x np)) (some n) [.Assign [.Name y yp] (.Name n np2) ap] pos']) (SP X pins D) X.xe z3) X.xe z2) X.xe z1) (fun u t' air => ?_) PassesOwn.looking).run [] s0 σ0 H0 D (I.toTry _) hyp
  · refine wpAny_mono run (fun f t1 ends => ?_) (fun e t1 he => he)
    cases f with
    | next =>
      obtain ⟨σ1, H1, J1, q⟩ := ends
      exact wpAny_execs_nil ⟨σ1, H1, J1.ofTry okX, q⟩
    | brk =>
      obtain ⟨σ1, H1, J1, q⟩ := ends
      exact ⟨σ1, H1, J1.ofTry okX, q⟩
    | cont =>
      obtain ⟨σ1, H1, J1, q⟩ := ends
      exact ⟨σ1, H1, J1.ofTry okX, q⟩
    | ret u =>
      obtain ⟨v, σ1, H1, J1, r, q⟩ := ends
      exact ⟨v, σ1, H1, J1.ofTry okX, r, q⟩
  · obtain ⟨a, B, sI, pins', σ1, H1, cls, d, rfl, Jt, nb, up, sky, na, os, ag, c, hcm, rfl, rfl, hk⟩ := air
    have J : Inv X pins σ1 H1 sI := Jt.ofTry okX
    have skyE : Sky B (X.env :: X.outer) a (Zc (.ref (T.exc c)) none) X.env.locals t'.heap := by rw [← hs]; exact sky
    show wpAny (model X.prog X.w) X.A (noteFrame (.ref a) X.env) _ _ _
    refine Sky.land Zc.steady frE hf skyE fun g3 fz3 up3 => ?_
    have J3 : Inv X pins σ1 H1 { t' with heap := g3 } := J.landed nb fz3.1 (up.trans up3) os ag
    obtain ⟨o3, w3, ho3, hz3, hd3⟩ := fz3.there
    have nfr : a ∉ frs (X.env :: X.outer) := fun hm => by
      obtain ⟨_, o', e', hnf⟩ := fz3.2.2.1.mem hm
      rw [ho3] at e'
      cases e'
      exact hnf _ hd3
    have nL : a ≠ X.env.locals := fun z => nfr (List.mem_filterMap.mpr ⟨X.env, List.mem_cons_self, by rw [hf, z]⟩)
    have nF : a ∉ X.fs := fun hm => by
      obtain ⟨e, he, q⟩ := List.mem_filterMap.mp hm
      exact nfr (List.mem_filterMap.mpr ⟨e, List.mem_cons_of_mem _ he, q⟩)
    have Ba : B.get? a = none := by
      obtain ⟨_, q, _⟩ := id fz3
      exact q
    have S3 := J3.suite ho3 hd3 na nL nF
    refine wpAny_handleBy_cons (codeAny_handlers_test ?_) (by intro q; cases q)
    have tyA : PySem.W.Looks (model X.prog X.w) g3 (typeOf (.ref a)) (.ref (T.exc c)) := fun A Q E s k q => wpAny_typeOf_ref (k _ _ ho3) (by rw [hz3.1]; exact q)
    have mt := PySem.W.exm_one (M := model X.prog X.w) (J3.kIn) tyA (C.exF c hcm)
    have ask : ∀ {Q : Value → Shared → Prop} {E : Value → Shared → Prop}, Q (.ref T.flt) { t' with heap := g3 } → wpAny (model X.prog X.w) (X.A.mark (some (.ref a))) (eval (.Name x np) X.env) Q E { t' with heap := g3 } := fun {Q E} q => by
      obtain ⟨hg, hdb, hm | ⟨hm, hv, hnn⟩⟩ := hc
      · exact ld_glob (X := X.suite a ((a, o3) :: (X.pn ++ pins))) S3 hg hm q hdb
      · exact ld_blt (X := X.suite a ((a, o3) :: (X.pn ++ pins))) S3 hg hm hv q hnn hdb
    refine ask (mt.here ?_)
    refine codeAny_handlers_suite_as ?_
    refine HandSPX.lands_againZ fz3 fun g4 fz4 up4 => ?_
    have J4 : Inv X pins σ1 H1 { t' with heap := g4 } := J.landed nb fz4.1 ((up.trans up3).trans up4) os ag
    obtain ⟨o4, w4, ho4, hz4, hd4⟩ := fz4.there
    have S4 := J4.suite ho4 hd4 na nL nF
    refine store_ok (X := X.suite a ((a, o4) :: (X.pn ++ pins))) (v := .ref a) S4 hN hi locN rfl (fun t5 S5 => ?_) (.inr hln)
    -- the suite: y = n
    have suite : PSs (X.suite a ((a, o4) :: (X.pn ++ pins))) [.Assign [.Name y yp] (.Name n np2) ap] (tAsg (tVar i) (gName j)) :=
      pss_one (ps_set (X := X.suite a ((a, o4) :: (X.pn ++ pins))) hN hj hlj (pe_var (X := X.suite a ((a, o4) :: (X.pn ++ pins))) hi (.inl hln) (okName_1 hn1) (okName_2 hn1)) rfl (.inl (hfn y)))
    have σl : i < σ1.length := by
      rw [J.len]
      exact (List.getElem?_eq_some_iff.mp hi).1
    refine wpAny_mono (suite.run [] t5 _ H1 { nx := fun σ6 H6 => σ6 = (σ1.set i (some (.ref a))).set j (some (.ref a)) ∧ H6 = H1, rt := fun _ _ => False } S5 ⟨.ref a, List.getElem?_set_self σl, rfl, rfl⟩) (fun f t6 ends => ?_) (fun _ _ z => False.elim z)
    cases f with
    | next =>
      obtain ⟨σ6, H6, S6, rfl, rfl⟩ := ends
      have J6 : Inv X ((a, o4) :: pins) ((σ1.set i (some (.ref a))).set j (some (.ref a))) H6 t6 := by
        refine (S6.unsuite (pins := pins) okX).pins_of fun p hm => ?_
        rcases List.mem_cons.mp hm with rfl | hm
        · exact S6.pin (a, o4) (List.mem_append_left _ List.mem_cons_self)
        · exact S6.pin p (List.mem_append_left _ (List.mem_cons_of_mem _ (List.mem_append_right _ hm)))
      refine gone_ok J6 hN hi hln fun t7 J7 => ?_
      have here := (J7.pin (a, o4) (List.mem_append_right _ List.mem_cons_self)).1
      refine ⟨_, _, Inv.track (u := ExH (.ref (T.exc c)) a) J7 hex ?_ ?_ (exH_ok here hz4 hd4), hk a na⟩
      · cases q : X.s_0.heap.get? a with
        | none => rfl
        | some o =>
          obtain ⟨o', e'⟩ := J.base.there a o q (by rw [hex]; simp)
          have z := nb a o' e' (by rw [hs]; exact nfr)
          rw [Ba] at z
          cases z
      · intro p hm z
        obtain ⟨e1, e2, e3, e4, _⟩ := J.pin p hm
        have q := nb p.1 p.2 e1 fun hm => by
          rw [hs] at hm
          rw [z] at hm
          exact nfr hm
        rw [z, Ba] at q
        cases q
    | brk =>
      obtain ⟨_, _, _, q⟩ := ends
      exact False.elim q
    | cont =>
      obtain ⟨_, _, _, q⟩ := ends
      exact False.elim q
    | ret u =>
      obtain ⟨_, _, _, _, _, q⟩ := ends
      exact False.elim q
end
section
variable {X : Cx} {T : Tab}
theorem pe_isK (C : Cxt X T) {e : Nat} (he : e ∈ T.exs) {a : Addr} {oe : Obj} {pn : List (Addr × Obj)} (hz : Zc (.ref (T.exc e)) none oe) (hf : ∃ vs, oe.data = .fields vs) {cl : Cl} {x z n : Str} {i : Nat} {px np pz pos : Pos} (hi : X.N[i]? = some n) (vn : Vis X.env.scope n)
    (o1 : (n == ("__debug__" : Str)) = false) (o2 : (n == ("__classdict__" : Str)) = false) (F : FOk X "isinstance" x) (h : Holds X T (.blt "isinstance")) (G : FOk X (nmCl cl) z) (hc : clNeed (Holds X T) cl) (hx : clx cl = true) :
    PE (X.suite a ((a, oe) :: pn)) (.Call (.Name x px) [.Name n np, .Name z pz] [] pos) (fun σ H Q => σ[i]? = some (some (.ref a)) ∧ ∃ b, isI (.exc e) cl = .ok b ∧ Q (.bl b) H) := by
  obtain ⟨rfl, g, n1, n3⟩ := F
  obtain ⟨rfl, g2, m1, m3⟩ := G
  have key : ∀ (cv : V) (cw : Value), ClsV cv cw → (∀ b, isI (.exc e) cl = .ok b → PySem.W.kitOne X.K (.ref (T.exc e)) cw = some b) → PE (X.suite a ((a, oe) :: pn)) (.Name (Str.ofString (nmCl cl)) pz) (tC cv) →
      PE (X.suite a ((a, oe) :: pn)) (.Call (.Name (Str.ofString "isinstance") px) [.Name n np, .Name (Str.ofString (nmCl cl)) pz] [] pos) (fun σ H Q => σ[i]? = some (some (.ref a)) ∧ ∃ b, isI (.exc e) cl = .ok b ∧ Q (.bl b) H) := by
    intro cv cw k hk hz'
    refine pe_weak (pe_callB (X := X.suite a ((a, oe) :: pn)) (call_isE (X := X) (C.exT e he) hz hf) g h (by decide +kernel) (pa_cons (pe_var (X := X.suite a ((a, oe) :: pn)) hi vn o1 o2) (pa_cons hz' pa_nil)) n3 n1) fun σ H Q ⟨h1, b, h2, q⟩ => ?_
    exact ⟨_, h1, cv, cw, b, rfl, fun u r => k.eq r, hk b h2, q⟩
  cases cl with
  | exc nm d =>
    obtain ⟨h1, h2⟩ := hc
    exact key _ _ (.own _) (fun b hb => by simp only [isI, R.ok.injEq] at hb; subst hb; exact C.exI e he d h2) (pe_glob (X := X.suite a ((a, oe) :: pn)) g2 h1 rfl m1)
  | valueError => exact key _ _ (.ty _) (fun b hb => by simp only [isI, R.ok.injEq] at hb; subst hb; exact C.exV e he) (pe_bltn (X := X.suite a ((a, oe) :: pn)) g2 hc (by decide +kernel) rfl m3 m1)
  | _ => cases hx
def tsK (T : Tab) (i j : Nat) (c1 c2 c3 : Cl) (a : Addr) (cls : Value) (d : Option Addr) : TS := fun D σ H => ∃ e ∈ T.exs, cls = .ref (T.exc e) ∧ d = none ∧ (∃ σ1, σ = List.set σ1 i (some (.ref a))) ∧ ∃ t1 t2 t3, isI (.exc e) c1 = .ok t1 ∧ isI (.exc e) c2 = .ok t2 ∧ isI (.exc e) c3 = .ok t3 ∧ ∀ p, H p = none → D.nx (σ.set j (some (.ref p))) (upd H p (.tup [.bl t1, .bl t2, .bl t3]))
theorem ps_try_kinds {x y n x1 x2 x3 z1 z2 z3 : Str} {i j k : Nat} {c1 c2 c3 : Cl} {body : List Stmt} {np yp ap pos pos' tp q1 q2 q3 m1 m2 m3 r1 r2 r3 s1 s2 s3 : Pos} {tb : WX → TS} (C : Cxt X T) (hs : X.stack = X.env :: X.outer) (hf : X.env.frame = some X.env.locals) (hN : X.N.Nodup) (hi : X.N[i]? = some n) (hln : X.env.kindOf n = some .local) (hj : X.N[j]? = some y) (hlj : Loc X.env.scope y) (hfn : ∀ z, X.fn z = true) (hn : okName n = true) (hc : Names X x (.ref T.flt))
    (h : Holds X T (.blt "isinstance")) (F1 : FOk X "isinstance" x1) (F2 : FOk X "isinstance" x2) (F3 : FOk X "isinstance" x3) (G1 : FOk X (nmCl c1) z1) (G2 : FOk X (nmCl c2) z2) (G3 : FOk X (nmCl c3) z3) (k1 : clNeed (Holds X T) c1) (k2 : clNeed (Holds X T) c2) (k3 : clNeed (Holds X T) c3) (l1 : clx c1 = true) (l2 : clx c2 = true) (l3 : clx c3 = true)
    (hb : ∀ (W : WX) (pn : List (Addr × Obj)) (xe : Value → Shared → Prop), Takes (X.tr pn xe) W → PassesOwn (model X.prog X.w) X.A X.env xe → PSs (X.tr pn xe) body (tb W)) :
    PS X (.Try body [.ExceptHandler (some (.Name x np)) (some n) [.Assign [.Name y yp] (.Tuple [.Call (.Name x1 q1) [.Name n m1, .Name z1 r1] [] s1, .Call (.Name x2 q2) [.Name n m2, .Name z2 r2] [] s2, .Call (.Name x3 q3) [.Name n m3, .Name z3 r3] [] s3] k tp) ap] pos'] [] [] pos) (fun D σ H => tb (wAs X.K (.ref T.flt) i (tsK T i j c1 c2 c3) (fun _ _ _ _ => False) D) D σ H) := by
  refine ps_try_as hs hf hN hi hln hc (fun u s' ⟨a, B, sI, pins, σ, H, cls, d, e, I, nb, up, sky, na, os, ag, w⟩ => w.elim) hb fun a oe cls d pn hz hv => ⟨fun pins s σ H D I ⟨e, he, ec, ed, ⟨σ1, eσ⟩, t1, t2, t3, i1, i2, i3, q⟩ => ?_⟩
  subst ec ed
  have len : i < σ1.length := by
    have l := I.len
    rw [eσ, List.length_set] at l
    rw [l]
    exact (List.getElem?_eq_some_iff.mp hi).1
  have gi : σ[i]? = some (some (.ref a)) := by rw [eσ]; exact List.getElem?_set_self len
  have P := fun {x z : Str} {cl : Cl} {px np pz pos : Pos} (F : FOk X "isinstance" x) (G : FOk X (nmCl cl) z) (k : clNeed (Holds X T) cl) (l : clx cl = true) => pe_isK (a := a) (px := px) (np := np) (pz := pz) (pos := pos) (pn := pn) C he hz hv hi (.inl hln) (okName_1 hn) (okName_2 hn) F h G k l
  refine (pss_one (ps_set (X := X.suite a ((a, oe) :: pn)) hN hj hlj (pe_tup (pa_cons (P F1 G1 k1 l1) (pa_cons (P F2 G2 k2 l2) (pa_cons (P F3 G3 k3 l3) pa_nil)))) rfl (.inl (hfn y)))).run pins s σ H D I ?_
  exact ⟨gi, t1, i1, gi, t2, i2, gi, t3, i3, (by decide : (3 : Nat) ≤ sizeLine), fun p np => q p np⟩
end
end MP

set_option Elab.async false
set_option linter.all false
set_option maxRecDepth 100000
set_option maxHeartbeats 16000000
set_option autoImplicit false
/-! MPH: statements and defs come to what the evaluator tells. -/
namespace MP
open PySem L2
open PyProof.Rows hiding St

/-! ### the look -/
def noComp : Expr → Bool
  | .ListComp _ _ _ _ => false
  | .SetComp _ _ _ _ => false
  | .DictComp _ _ _ _ _ => false
  | _ => true
def noTup : Expr → Bool
  | .Tuple _ _ _ => false
  | _ => true
/-- does the list go to its name within the comprehension -/
def swapB (sc : Scope) (x : Str) (px : Pos) : Expr → Bool
  | .ListComp _ _ s p => decide (sc.kind = .function) && decide (sc.names.lookup x = some .local) && (px.line == p.line) && !(s.names.any fun (n, k) => n == x && (k == .local || k == .cell))
  | _ => false
def chkNames (N : List Str) (sc : Scope) : List Nat → List Expr → Bool
  | [], [] => true
  | i :: is, .Name x _ :: es => decide (N[i]? = some x) && isOwn sc x && chkNames N sc is es
  | _, _ => false
def chkN (N : List Str) (sc : Scope) (i : Nat) (x : Str) : Bool := decide (N[i]? = some x) && isOwn sc x && okName x
/-- a, b = u, v: plain names on both sides -/
def chkPar (N : List Str) (sc : Scope) (is : List Nat) (e : E) (ts : List Expr) (v : Expr) : Bool :=
  match is, e, ts, v with
  | [i, j], .tup (.cons a (.cons b .nil)), [.Name x px, .Name y py], .Tuple [.Name u pu, .Name w pw] _ _ =>
    decide (N[i]? = some x) && decide (N[j]? = some y) && decide (i ≠ j) && decide (x ≠ y) && decide (sc.names.lookup x = some .local) && decide (sc.names.lookup y = some .local) && decide (px.line = py.line) && decide (u ≠ ("__debug__" : Str)) && chkE N sc a (.Name u pu) && chkE N sc b (.Name w pw)
  | _, _, _, _ => false
mutual
def chkS (N : List Str) (sc : Scope) : S → Stmt → Bool
  | .asg i e, st => match st with
    | .Assign [.Name x _] v _ => chkN N sc i x && chkE N sc e v
    | _ => false
  | .asgN i e, st => match st with
    | .Assign [.Name x _] v _ => chkN N sc i x && chkE N sc e v && noComp v
    | _ => false
  | .asgT is e, st => match st with
    | .Assign [.Tuple ts _ _] v _ => (chkNames N sc is ts && chkE N sc e v && noComp v && noTup v) || chkPar N sc is e ts v
    | _ => false
  | .app i e, st => match st with
    | .Expr (.Call (.Attribute (.Name x _) n apos) [y] [] pos) _ => decide (n = ("append" : Str)) && chkN N sc i x && chkE N sc e y && shp y && (apos.endLine == pos.line)
    | _ => false
  | .sti i e1 e2, st => match st with
    | .Assign [.Subscript (.Name x _) y _] v _ => chkN N sc i x && chkE N sc e1 y && chkE N sc e2 v && noComp v && shp y
    | _ => false
  | .ifs c a b, st => match st with
    | .If t x y _ => chkE N sc c t && chkSs N sc a x && chkSs N sc b y
    | _ => false
  | .fors i src b, st => match st with
    | .For (.Name x _) it body [] _ => chkN N sc i x && chkSrc N sc src it && shp it && chkSs N sc b body
    | _ => false
  | .forT is src b, st => match st with
    | .For (.Tuple ts _ _) it body [] _ => chkNames N sc is ts && chkSrcT N sc src it && shp it && chkSs N sc b body
    | _ => false
  | .whl c b, st => match st with
    | .While t body [] _ => chkE N sc c t && chkSs N sc b body
    | _ => false
  | .ret e, st => match st with
    | .Return (some v) _ => chkE N sc e v
    | _ => false
  | .rse nm _, st => match st with
    | .Raise (some (.Call (.Name x _) [.Constant (.str _) _ _] [] _)) none _ => chkF sc nm x
    | _ => false
  | .drp e, st => match st with
    | .Expr v _ => chkE N sc e v && noComp v
    | _ => false
  | .pas, st => match st with
    | .Pass _ => true
    | _ => false
  | .tryx b nm i j, st => match st with
    | .Try body [.ExceptHandler (some (.Name x _)) (some n) [.Assign [.Name y _] (.Name n2 _) _] _] [] [] _ =>
      chkSs N sc b body && chkF sc nm x && decide (n2 = n) && decide (N[i]? = some n) && decide (sc.names.lookup n = some .local) && okName n && chkN N sc j y
    | _ => false
  | .tryk b nm i j c1 c2 c3, st => match st with
    | .Try body [.ExceptHandler (some (.Name x _)) (some n) [.Assign [.Name y _] (.Tuple [.Call (.Name x1 _) [.Name n1 _, .Name z1 _] [] _, .Call (.Name x2 _) [.Name n2 _, .Name z2 _] [] _, .Call (.Name x3 _) [.Name n3 _, .Name z3 _] [] _] _ _) _] _] [] [] _ =>
      chkSs N sc b body && chkF sc nm x && decide (n1 = n) && decide (n2 = n) && decide (n3 = n) && decide (N[i]? = some n) && decide (sc.names.lookup n = some .local) && okName n && chkN N sc j y && chkF sc "isinstance" x1 && chkF sc "isinstance" x2 && chkF sc "isinstance" x3 && chkF sc (nmCl c1) z1 && chkF sc (nmCl c2) z2 && chkF sc (nmCl c3) z3 && clx c1 && clx c2 && clx c3
    | _ => false
  | _, _ => false
def chkSs (N : List Str) (sc : Scope) : Ss → List Stmt → Bool
  | .nil, sts => match sts with
    | [] => true
    | _ => false
  | .cons (.frz _) r, sts => chkSs N sc r sts
  | .cons s r, sts => match sts with
    | st :: sts => chkS N sc s st && chkSs N sc r sts
    | [] => false
end
mutual
def okS (Φ : Need → Prop) : S → Prop
  | .asg _ e => okE Φ e
  | .asgN _ e => okE Φ e
  | .asgT _ e => okE Φ e
  | .app _ e => okE Φ e
  | .sti _ e1 e2 => okE Φ e1 ∧ okE Φ e2
  | .ins _ e1 e2 => okE Φ e1 ∧ okE Φ e2
  | .ifs c a b => okE Φ c ∧ okSs Φ a ∧ okSs Φ b
  | .fors _ src b => okSrc Φ src ∧ okSs Φ b
  | .forT _ src b => okSrc Φ src ∧ okSs Φ b
  | .whl c b => okE Φ c ∧ okSs Φ b
  | .ret e => okE Φ e
  | .rse nm c => Φ (.exc nm c)
  | .drp e => okE Φ e
  | .tryx b nm _ _ => okSs Φ b ∧ Φ (.flt nm)
  | .tryk b nm _ _ c1 c2 c3 => okSs Φ b ∧ Φ (.flt nm) ∧ Φ (.blt "isinstance") ∧ clNeed Φ c1 ∧ clNeed Φ c2 ∧ clNeed Φ c3
  | _ => True
def okSs (Φ : Need → Prop) : Ss → Prop
  | .nil => True
  | .cons s r => okS Φ s ∧ okSs Φ r
end

/-! ### what holds in a def's body -/
structure Act where
  H0 : Hp
  O0 : List Addr
  lv : List (List Addr × Hp)
structure Rb (B : Act) (T : Tab) (O : List Addr) (σ : L2.St) (ρ : Env) (H : Hp) : Prop where
  rl : Rl T O σ ρ H
  ex : Ex B.H0 H
  sub : ∀ a ∈ B.O0, a ∈ O
  l0 : ∀ a ∈ B.O0, B.H0 a ≠ none
  fresh : ∀ (i : Nat) (xs : List D) (a : Addr), ρ[i]? = some (.own xs) → σ[i]? = some (some (.ref a)) → B.H0 a = none
  lv : ∀ p ∈ B.lv, Ex (hide p.1 p.2) (hide O H)
def RlS (B : Act) (T : Tab) (σ : L2.St) (ρ : Env) (H : Hp) : Prop := ∃ O, Rb B T O σ ρ H
section
variable {B : Act} {T : Tab} {W : WX} {O : List Addr} {σ : L2.St} {ρ : Env} {H H1 : Hp} {De : Ends}
theorem Rb.mono (e : Ex H H1) (r : Rb B T O σ ρ H) : Rb B T O σ ρ H1 := ⟨r.rl.mono e, r.ex.trans e, r.sub, r.l0, r.fresh, fun p hp => (r.lv p hp).trans (hide_mono e)⟩
theorem RlS.mono (e : Ex H H1) (r : RlS B T σ ρ H) : RlS B T σ ρ H1 := let ⟨O, r⟩ := r; ⟨O, r.mono e⟩
theorem own_set {i j : Nat} {d : D} {xs : List D} (h : (ρ.set i (.dat d))[j]? = some (.own xs)) : i ≠ j ∧ ρ[j]? = some (.own xs) := by
  by_cases e : i = j
  · subst e
    by_cases hl : i < ρ.length
    · rw [List.getElem?_set_self hl] at h; cases h
    · rw [List.getElem?_eq_none (by simpa using hl)] at h; cases h
  · rw [List.getElem?_set_ne e] at h
    exact ⟨e, h⟩
theorem own_setn {i j : Nat} {xs : List D} (h : (ρ.set i .un)[j]? = some (.own xs)) : i ≠ j ∧ ρ[j]? = some (.own xs) := by
  by_cases e : i = j
  · subst e
    by_cases hl : i < ρ.length
    · rw [List.getElem?_set_self hl] at h; cases h
    · rw [List.getElem?_eq_none (by simpa using hl)] at h; cases h
  · rw [List.getElem?_set_ne e] at h
    exact ⟨e, h⟩
theorem Rb.setd (r : Rb B T O σ ρ H) {d : D} {v : V} (dv : DV T (hide O H) d v) (i : Nat) : Rb B T O (σ.set i (some v)) (ρ.set i (.dat d)) H := by
  refine ⟨r.rl.setd dv i, r.ex, r.sub, r.l0, fun j xs a h1 h2 => ?_, r.lv⟩
  obtain ⟨ne, h1⟩ := own_set h1
  rw [List.getElem?_set_ne ne] at h2
  exact r.fresh j xs a h1 h2
theorem Rb.setn (r : Rb B T O σ ρ H) (i : Nat) (x : Option V) : Rb B T O (σ.set i x) (ρ.set i .un) H := by
  refine ⟨r.rl.setn i x, r.ex, r.sub, r.l0, fun j xs a h1 h2 => ?_, r.lv⟩
  obtain ⟨ne, h1⟩ := own_setn h1
  rw [List.getElem?_set_ne ne] at h2
  exact r.fresh j xs a h1 h2
/-- an address that is new to H is new to what stood before -/
theorem Rb.new0 (r : Rb B T O σ ρ H) {a : Addr} (n : H a = none) : B.H0 a = none := by
  cases q : B.H0 a with
  | none => rfl
  | some o => rw [r.ex a o q] at n; cases n

def PoS (B : Act) (T : Tab) (W : WX) (De : Ends) : Out → Prop
  | .nxt ρ' => ∀ σ' H', RlS B T σ' ρ' H' → De.nx σ' H'
  | .ret d => ∀ v H', Ex B.H0 H' → DV T (hide B.O0 H') d v → De.rt v H'
  | .ex c ρ' => ∀ σ' H', RlS B T σ' ρ' H' → c ∈ T.exs → W (.ref (T.exc c)) none σ' H'
  | .no => False
def tS (T : Tab) (W : WX) (m : S) : TS := fun D σ H => ∃ B ρ, RlS B T σ ρ H ∧ PoS B T W D (evS m ρ)
def tSs (T : Tab) (W : WX) (m : Ss) : TS := fun D σ H => ∃ B ρ, RlS B T σ ρ H ∧ PoS B T W D (evSs m ρ)
/-- an expression in a statement -/
theorem tE_st {m : E} {f : D → Out} {Kn : VK} (r : Rb B T O σ ρ H) (p : PoS B T W De (withR (evE m ρ) ρ f)) (k : ∀ d v H1, Ex H H1 → DV T (hide O H1) d v → PoS B T W De (f d) → Kn v H1) : tE T W m σ H Kn := by
  refine ⟨O, ρ, r.rl, ?_⟩
  cases e : evE m ρ with
  | ok d =>
    rw [e] at p
    exact fun v H' e' dv => k d v H' e' dv p
  | ex c =>
    rw [e] at p
    exact fun H' e' => p σ H' ⟨O, r.mono e'⟩
  | no =>
    rw [e] at p
    exact False.elim p
theorem tT_st {m : E} {f : Bool → Out} {Kn : Bool → Hp → Prop} (r : Rb B T O σ ρ H) (p : PoS B T W De (withR (evT m ρ) ρ f)) (k : ∀ b H1, Ex H H1 → PoS B T W De (f b) → Kn b H1) : tT T W m σ H Kn := by
  refine ⟨O, ρ, r.rl, ?_⟩
  cases e : evT m ρ with
  | ok d =>
    rw [e] at p
    exact fun H' e' => k d H' e' p
  | ex c =>
    rw [e] at p
    exact fun H' e' => p σ H' ⟨O, r.mono e'⟩
  | no =>
    rw [e] at p
    exact False.elim p
theorem tI_st {m : Src} {f : List D → Out} {Kn : It → Hp → Prop} (r : Rb B T O σ ρ H) (p : PoS B T W De (withR (evSrc m ρ) ρ f)) (k : ∀ ds J H1, Ex H H1 → Yl T O H1 J ds → PoS B T W De (f ds) → Kn J H1) : tI T W m σ H Kn := by
  refine ⟨O, ρ, r.rl, ?_⟩
  cases e : evSrc m ρ with
  | ok d =>
    rw [e] at p
    exact fun J H' e' y => k d J H' e' y p
  | ex c =>
    rw [e] at p
    exact fun H' e' => p σ H' ⟨O, r.mono e'⟩
  | no =>
    rw [e] at p
    exact False.elim p
end
theorem ps_weak {X : Cx} {e : Stmt} {t t' : TS} (h : PS X e t) (w : ∀ D σ H, t' D σ H → t D σ H) : PS X e t' := ⟨fun pins s σ H D I q => h.run pins s σ H D I (w D σ H q)⟩
theorem ps_weakI {X : Cx} {e : Stmt} {t t' : TS} (h : PS X e t) (w : ∀ pins s D σ H, Inv X pins σ H s → t' D σ H → t D σ H) : PS X e t' := ⟨fun pins s σ H D I q => h.run pins s σ H D I (w pins s D σ H I q)⟩
theorem pss_weak {X : Cx} {e : List Stmt} {t t' : TS} (h : PSs X e t) (w : ∀ D σ H, t' D σ H → t D σ H) : PSs X e t' := ⟨fun pins s σ H D I q => h.run pins s σ H D I (w D σ H q)⟩
/-- where a statement stands -/
structure AtS (X : Cx) (T : Tab) (W : WX) (N : List Str) (sc : Scope) : Prop where
  A : At X T W N sc
  fn : ∀ x, X.fn x = true
  pass : PassesOwn (model X.prog X.w) X.A X.env X.xe
  stk : X.stack = X.env :: X.outer
  fr : X.env.frame = some X.env.locals
  ex : X.ex = []
  kind : sc.kind = .function
section
variable {X : Cx} {T : Tab} {W : WX} {N : List Str} {sc : Scope}
structure NOk (X : Cx) (i : Nat) (x : Str) : Prop where
  ix : X.N[i]? = some x
  loc : Loc X.env.scope x
  n1 : (x == ("__debug__" : Str)) = false
  n2 : (x == ("__classdict__" : Str)) = false
theorem loc_ok {x : Str} (hs : X.env.scope = sc) (h : isOwn sc x = true) : Loc X.env.scope x := by
  rw [hs]
  unfold isOwn at h
  split at h
  · exact .inl (by assumption)
  · exact .inr (by assumption)
  · cases h
theorem chkN_ok {i : Nat} {x : Str} (A : AtS X T W N sc) (h : chkN N sc i x = true) : NOk X i x := by
  unfold chkN at h
  simp only [Bool.and_eq_true, decide_eq_true_eq] at h
  exact ⟨by rw [A.A.hN]; exact h.1.1, loc_ok A.A.hs h.1.2, okName_1 h.2, okName_2 h.2⟩
theorem nd_ok (A : AtS X T W N sc) : X.N.Nodup := by rw [A.A.hN]; exact A.A.nd
theorem Loc.vis {sc : Scope} {x : Str} (h : Loc sc x) : Vis sc x := by
  rcases h with h | h
  · exact .inl h
  · exact .inr (.inl h)
theorem swap_none {v : Expr} {t : Option Expr} {l : Nat} {env : PySem.Env} (h : noComp v = true) : swapsWith v t l env = pure false := by
  cases v <;> first | rfl | (cases h)
theorem swap_lc {elt : Expr} {gs : List Comprehension} {scope : Scope} {p px : Pos} {x : Str} {l : Nat} {env : PySem.Env} (hs : env.scope = sc) (h : swapB sc x px (.ListComp elt gs scope p) = false) (hk : sc.kind = .function) : swapsWith (.ListComp elt gs scope p) (some (.Name x px)) l env = pure false := by
  have e : (env.blockKind == ScopeKind.function && env.kindOf x == some NameKind.local && px.line == p.line && !(scope.names.any fun (n, k) => n == x && (k == NameKind.local || k == NameKind.cell))) = false := by
    have hb : env.blockKind = .function := by unfold PySem.Env.blockKind; rw [hs, hk]; rfl
    have h2 : (decide (sc.kind = .function) && decide (sc.names.lookup x = some .local) && (px.line == p.line) && !(scope.names.any fun (n, k) => n == x && (k == NameKind.local || k == NameKind.cell))) = false := h
    rw [hk] at h2
    have k2 : env.kindOf x = sc.names.lookup x := by rw [← hs]; rfl
    rw [hb, k2]
    rw [show (ScopeKind.function == ScopeKind.function) = true from rfl, Bool.true_and]
    rw [show decide (ScopeKind.function = ScopeKind.function) = true from rfl, Bool.true_and] at h2
    rw [show (sc.names.lookup x == some NameKind.local) = decide (sc.names.lookup x = some NameKind.local) from by
      by_cases q : sc.names.lookup x = some NameKind.local
      · rw [q]; rfl
      · rw [decide_eq_false q]; exact beq_eq_false_iff_ne.mpr q]
    exact h2
  unfold swapsWith
  dsimp only [Expr.pos]
  rw [e]
theorem a_asg (A : AtS X T W N sc) {i : Nat} {e : E} {x : Str} {v : Expr} {px pos : Pos} (n : NOk X i x) (h : PE X v (tE T W e)) (hsw : swapsWith v (some (.Name x px)) pos.line X.env = pure false) : PS X (.Assign [.Name x px] v pos) (tS T W (.asg i e)) := by
  refine ps_weak (ps_set (i := i) (nd_ok A) n.ix n.loc h hsw (.inl (A.fn x))) fun D σ H ⟨B, ρ, ⟨O, r⟩, p⟩ => ?_
  simp only [evS] at p
  exact tE_st r p fun d w H1 e1 dv p1 => p1 _ _ ⟨O, (r.mono e1).setd dv i⟩
theorem a_asgL (A : AtS X T W N sc) {i j : Nat} {el : E} {src : Src} {x y : Str} {elt iter : Expr} {scope : Scope} {px py pos p2 : Pos} (n : NOk X i x) (h1 : N[j]? = some y) (h2 : isOwn scope y = true) (h3 : blkC N sc scope [(y, j)] = true) (h4 : shp iter = true)
    (he : ∀ s H C cl fp, PE (X.blk s H scope (compEnvC scope cl C X.env) fp) elt (tE T (fun _ _ _ _ => False) el)) (hi : PI X (.Name y py) iter (tI T W src)) (hsw : swapB sc x px (.ListComp elt [⟨.Name y py, iter, [], 0⟩] scope p2) = true) :
    PS X (.Assign [.Name x px] (.ListComp elt [⟨.Name y py, iter, [], 0⟩] scope p2) pos) (tS T W (.asg i (.lc j el src))) := by
  have hw : (decide (sc.kind = .function) && decide (sc.names.lookup x = some .local) && (px.line == p2.line) && !(scope.names.any fun (n, k) => n == x && (k == NameKind.local || k == NameKind.cell))) = true := hsw
  simp only [Bool.and_eq_true, decide_eq_true_eq, Bool.not_eq_true'] at hw
  obtain ⟨⟨⟨w1, w2⟩, w3⟩, w4⟩ := hw
  have w2' : X.env.scope.names.lookup x = some .local := by rw [A.A.hs]; exact w2
  refine ps_weakI (ps_setLc (i := i) A.A.C.calm (nd_ok A) n.ix w2' (sw_true (by rw [A.A.hs]; exact w1) w2' w3 w4) hi (by rw [A.A.hN, A.A.hs]; exact blkOk_by h3) (fun s H C cl fp => own_name A.A h1 h2) (fun _ _ _ _ _ => pts_nil) he (shp_fold h4)) fun pins s D σ H I ⟨B, ρ, ⟨O, r⟩, p⟩ => ?_
  simp only [evS] at p
  have q : tE T W (.lc j el src) σ H fun v H1 => gName i v σ H1 D.nx := tE_st r p fun d w H1 e1 dv p1 => p1 _ _ ⟨O, (r.mono e1).setd dv i⟩
  obtain ⟨O', ρ', hr, q⟩ := q
  refine lc_read (g := fun _ => .ok true) hr (in_len A.A I hr h1) q fun O' d v b H' K _ hg k => ?_
  cases hg
  exact k H' (Ex.refl H')
theorem a_asgP (A : AtS X T W N sc) {i j k : Nat} {el : E} {src : Src} {x y z : Str} {elt iter : Expr} {scope : Scope} {px py pz pt pos p2 : Pos} {k0 : Nat} (n : NOk X i x) (h1 : N[j]? = some y) (g1 : N[k]? = some z) (hjk : j ≠ k) (h2 : isOwn scope y = true) (g2 : isOwn scope z = true) (h3 : blkC N sc scope [(y, j), (z, k)] = true) (h4 : shp iter = true)
    (he : ∀ s H C cl fp, PE (X.blk s H scope (compEnvC scope cl C X.env) fp) elt (tE T (fun _ _ _ _ => False) el)) (hi : PI X (.Tuple [.Name y py, .Name z pz] k0 pt) iter (tI T W src)) (hsw : swapB sc x px (.ListComp elt [⟨.Tuple [.Name y py, .Name z pz] k0 pt, iter, [], 0⟩] scope p2) = true) :
    PS X (.Assign [.Name x px] (.ListComp elt [⟨.Tuple [.Name y py, .Name z pz] k0 pt, iter, [], 0⟩] scope p2) pos) (tS T W (.asg i (.lcP j k el src))) := by
  have hw : (decide (sc.kind = .function) && decide (sc.names.lookup x = some .local) && (px.line == p2.line) && !(scope.names.any fun (n, k) => n == x && (k == NameKind.local || k == NameKind.cell))) = true := hsw
  simp only [Bool.and_eq_true, decide_eq_true_eq, Bool.not_eq_true'] at hw
  obtain ⟨⟨⟨w1, w2⟩, w3⟩, w4⟩ := hw
  have w2' : X.env.scope.names.lookup x = some .local := by rw [A.A.hs]; exact w2
  refine ps_weakI (ps_setLc (i := i) A.A.C.calm (nd_ok A) n.ix w2' (sw_true (by rw [A.A.hs]; exact w1) w2' w3 w4) hi (by rw [A.A.hN, A.A.hs]; exact blkOk_by h3) (fun s H C cl fp => show PG (X.blk s H scope (compEnvC scope cl C X.env) fp) (.Tuple [.Name y py, .Name z pz] k0 pt) (gTup X.K 2 (gCons (gName j) (gCons (gName k) gNil))) from pg_tup (X := X.blk s H scope (compEnvC scope cl C X.env) fp) A.A.C.calm (pgs_cons (own_name A.A h1 h2) (pgs_cons (own_name A.A g1 g2) pgs_nil))) (fun _ _ _ _ _ => pts_nil) he (shp_fold h4)) fun pins s D σ H I ⟨B, ρ, ⟨O, r⟩, p⟩ => ?_
  simp only [evS] at p
  have q : tE T W (.lcP j k el src) σ H fun v H1 => gName i v σ H1 D.nx := tE_st r p fun d w H1 e1 dv p1 => p1 _ _ ⟨O, (r.mono e1).setd dv i⟩
  obtain ⟨O', ρ', hr, q⟩ := q
  exact lc_readP hjk hr (in_len A.A I hr h1) A.A.C.hK q
theorem a_asgF (A : AtS X T W N sc) {i j : Nat} {el cond : E} {src : Src} {x y : Str} {elt iter c : Expr} {scope : Scope} {px py pos p2 : Pos} (n : NOk X i x) (h1 : N[j]? = some y) (h2 : isOwn scope y = true) (h3 : blkC N sc scope [(y, j)] = true) (h4 : shp iter = true)
    (he : ∀ s H C cl fp, PE (X.blk s H scope (compEnvC scope cl C X.env) fp) elt (tE T (fun _ _ _ _ => False) el)) (hc : ∀ s H C cl fp, PT (X.blk s H scope (compEnvC scope cl C X.env) fp) c (tT T (fun _ _ _ _ => False) cond)) (hi : PI X (.Name y py) iter (tI T W src)) (hsw : swapB sc x px (.ListComp elt [⟨.Name y py, iter, [c], 0⟩] scope p2) = true) :
    PS X (.Assign [.Name x px] (.ListComp elt [⟨.Name y py, iter, [c], 0⟩] scope p2) pos) (tS T W (.asg i (.lcf j el src cond))) := by
  have hw : (decide (sc.kind = .function) && decide (sc.names.lookup x = some .local) && (px.line == p2.line) && !(scope.names.any fun (n, k) => n == x && (k == NameKind.local || k == NameKind.cell))) = true := hsw
  simp only [Bool.and_eq_true, decide_eq_true_eq, Bool.not_eq_true'] at hw
  obtain ⟨⟨⟨w1, w2⟩, w3⟩, w4⟩ := hw
  have w2' : X.env.scope.names.lookup x = some .local := by rw [A.A.hs]; exact w2
  refine ps_weakI (ps_setLc (i := i) A.A.C.calm (nd_ok A) n.ix w2' (sw_true (by rw [A.A.hs]; exact w1) w2' w3 w4) hi (by rw [A.A.hN, A.A.hs]; exact blkOk_by h3) (fun s H C cl fp => own_name A.A h1 h2) (fun s H C cl fp => pts_one (hc s H C cl fp)) he (shp_fold h4)) fun pins s D σ H I ⟨B, ρ, ⟨O, r⟩, p⟩ => ?_
  simp only [evS] at p
  have q : tE T W (.lcf j el src cond) σ H fun v H1 => gName i v σ H1 D.nx := tE_st r p fun d w H1 e1 dv p1 => p1 _ _ ⟨O, (r.mono e1).setd dv i⟩
  obtain ⟨O', ρ', hr, q⟩ := q
  refine lc_read (g := fun x => (evE cond (ρ'.set j (.dat x))).bind boolD) hr (in_len A.A I hr h1) q fun O' d v b H' K hR hg k => ?_
  refine ⟨O', ρ'.set j (.dat d), hR, ?_⟩
  show PoT _ _ _ _ _ ((evE cond (ρ'.set j (.dat d))).bind boolD)
  rw [hg]
  exact k
theorem a_ret {e : E} {v : Expr} {pos : Pos} (h : PE X v (tE T W e)) : PS X (.Return (some v) pos) (tS T W (.ret e)) := by
  refine ps_weak (ps_ret h) fun D σ H ⟨B, ρ, ⟨O, r⟩, p⟩ => ?_
  simp only [evS] at p
  exact tE_st r p fun d w H1 e1 dv p1 => p1 w H1 (r.ex.trans e1) (dv.mono (hide_sub r.sub))
theorem a_drp {e : E} {v : Expr} {pos : Pos} (h : PE X v (tE T W e)) (hn : noComp v = true) : PS X (.Expr v pos) (tS T W (.drp e)) := by
  refine ps_weak (ps_expr h (swap_none hn)) fun D σ H ⟨B, ρ, ⟨O, r⟩, p⟩ => ?_
  simp only [evS] at p
  exact tE_st r p fun d w H1 e1 dv p1 => p1 _ _ ⟨O, r.mono e1⟩
theorem a_pas {pos : Pos} : PS X (.Pass pos) (tS T W .pas) := ps_weak ps_pass fun D σ H ⟨B, ρ, r, p⟩ => p _ _ r
theorem a_if {c : E} {a b : Ss} {t : Expr} {x y : List Stmt} {pos : Pos} (hc : PT X t (tT T W c)) (ha : PSs X x (tSs T W a)) (hb : PSs X y (tSs T W b)) : PS X (.If t x y pos) (tS T W (.ifs c a b)) := by
  refine ps_weak (ps_if hc ha hb) fun D σ H ⟨B, ρ, ⟨O, r⟩, p⟩ => ?_
  simp only [evS] at p
  refine tT_st r p fun b H1 e1 p1 => ?_
  cases b with
  | true => exact ⟨B, ρ, ⟨O, r.mono e1⟩, p1⟩
  | false => exact ⟨B, ρ, ⟨O, r.mono e1⟩, p1⟩
theorem a_rse (A : AtS X T W N sc) {nm : String} {c : Nat} {x m : Str} {k : Nat} {p1 p2 p3 pos : Pos} (F : FOk X nm x) (h : Holds X T (.exc nm c)) : PS X (.Raise (some (.Call (.Name x p1) [.Constant (.str m) k p2] [] p3)) none pos) (tS T W (.rse nm c)) := by
  obtain ⟨rfl, g, n1, n3⟩ := F
  obtain ⟨h1, h2⟩ := h
  obtain ⟨m1, m2, m3⟩ := A.A.C.exM c h2
  refine ps_weak (ps_raise A.A.C.calm A.A.tk (pmk_own PySem.F.excBase_ValueError m1 h1 m2 (raises_own (A.A.C.exT c h2).hs m3) g n1)) fun D σ H ⟨B, ρ, r, p⟩ => ?_
  exact p _ _ r h2
/-! ### loops -/
theorem a_for (A : AtS X T W N sc) {i : Nat} {src : Src} {b : Ss} {x : Str} {it : Expr} {body : List Stmt} {px pos : Pos} (n : NOk X i x) (hi : PI X (.Name x px) it (tI T W src)) (hs : shp it = true) (hb : PSs X body (tSs T W b)) : PS X (.For (.Name x px) it body [] pos) (tS T W (.fors i src b)) := by
  refine ps_weak (ps_for A.pass A.A.C.calm hi (pg_name (i := i) (nd_ok A) n.ix n.loc (.inl (A.fn x))) hb (shp_fold hs)) fun D σ H ⟨B, ρ, ⟨O, r⟩, p⟩ => ?_
  simp only [evS] at p
  refine tI_st r p fun ds J H1 e1 Y p1 => ?_
  have r1 := r.mono e1
  let B1 : Act := ⟨B.H0, B.O0, (O, H1) :: B.lv⟩
  have down : ∀ {σ' ρ' H'}, RlS B1 T σ' ρ' H' → RlS B T σ' ρ' H' := fun ⟨O', q⟩ => ⟨O', q.rl, q.ex, q.sub, q.l0, q.fresh, fun p hp => q.lv p (List.mem_cons_of_mem _ hp)⟩
  have up : RlS B1 T σ ρ H1 := ⟨O, r1.rl, r1.ex, r1.sub, r1.l0, r1.fresh, fun p hp => by
    rcases List.mem_cons.mp hp with rfl | hp
    · exact Ex.refl _
    · exact r1.lv p hp⟩
  refine ⟨fun k m σ' H' => m = ds.length - k ∧ k ≤ ds.length ∧ ∃ ρ', RlS B1 T σ' ρ' H' ∧ PoS B T W D (forGo (fun x ρ' => evSs b (ρ'.set i (.dat x))) (ds.drop k) ρ'), ⟨_, rfl, Nat.zero_le _, ρ, up, p1⟩, ?_⟩
  rintro k m σ' H' ⟨rfl, hk, ρ', ⟨O', r'⟩, p'⟩
  obtain ⟨Yi, Ye⟩ := Y k O' H' (r'.lv (O, H1) List.mem_cons_self) r'.rl.live
  by_cases hlt : k < ds.length
  · have hd : ds[k]? = some ds[k] := List.getElem?_eq_getElem hlt
    obtain ⟨Yg, Yy⟩ := Yi _ hd
    rw [List.drop_eq_getElem_cons hlt] at p'
    refine .inr ⟨Yg, fun σ2 H2 => ∃ ρ2, RlS B1 T σ2 ρ2 H2 ∧ PoS B T W D (forGo (fun x ρ' => evSs b (ρ'.set i (.dat x))) (ds.drop (k + 1)) ρ2), fun σ2 H2 q => ⟨ds.length - (k + 1), by omega, rfl, hlt, q⟩, fun v H2 y => ?_⟩
    obtain ⟨e2, dv⟩ := Yy v H2 y
    refine ⟨B1, ρ'.set i (.dat ds[k]), ⟨O', (r'.mono e2).setd dv i⟩, ?_⟩
    have p' : PoS B T W D (thenO (evSs b (ρ'.set i (.dat ds[k]))) (forGo (fun x ρ' => evSs b (ρ'.set i (.dat x))) (ds.drop (k + 1)))) := p'
    cases ev : evSs b (ρ'.set i (.dat ds[k])) with
    | nxt ρ2 =>
      rw [ev] at p'
      exact fun σ3 H3 r3 => ⟨ρ2, r3, p'⟩
    | ret d => rw [ev] at p'; exact p'
    | ex c ρ2 => rw [ev] at p'; exact fun σ3 H3 r3 => p' σ3 H3 (down r3)
    | no => rw [ev] at p'; exact p'
  · have hkl : k = ds.length := by omega
    subst hkl
    rw [List.drop_length] at p'
    exact .inl ⟨Ye (Nat.le_refl _), p' _ _ (down ⟨O', r'⟩)⟩
theorem a_whl (A : AtS X T W N sc) {c : E} {b : Ss} {t : Expr} {body : List Stmt} {pos : Pos} (hc : PT X t (tT T W c)) (hb : PSs X body (tSs T W b)) : PS X (.While t body [] pos) (tS T W (.whl c b)) := by
  refine ps_weak (ps_while A.pass hc hb) fun D σ H ⟨B, ρ, r, p⟩ => ?_
  refine ⟨fun m σ' H' => ∃ ρ', RlS B T σ' ρ' H' ∧ PoS B T W D (whGo (fun ρ' => evT c ρ') (fun ρ' => evSs b ρ') m ρ'), ⟨fuel, ρ, r, p⟩, ?_⟩
  rintro m σ' H' ⟨ρ', ⟨O', r'⟩, p'⟩
  cases m with
  | zero => exact False.elim p'
  | succ m =>
    refine tT_st r' (show PoS B T W D (withR (evT c ρ') ρ' fun b' => if b' = true then thenO (evSs b ρ') (whGo (fun ρ' => evT c ρ') (fun ρ' => evSs b ρ') m) else .nxt ρ') from p') fun k H1 e1 p1 => ?_
    cases k with
    | false =>
      rw [if_neg Bool.false_ne_true]
      exact p1 _ _ ⟨O', r'.mono e1⟩
    | true =>
      rw [if_pos rfl]
      refine ⟨fun σ2 H2 => ∃ ρ2, RlS B T σ2 ρ2 H2 ∧ PoS B T W D (whGo (fun ρ' => evT c ρ') (fun ρ' => evSs b ρ') m ρ2), fun σ2 H2 q => ⟨m, Nat.lt_succ_self m, q⟩, B, ρ', ⟨O', r'.mono e1⟩, ?_⟩
      have p1 : PoS B T W D (thenO (evSs b ρ') (whGo (fun ρ' => evT c ρ') (fun ρ' => evSs b ρ') m)) := p1
      cases ev : evSs b ρ' with
      | nxt ρ2 =>
        rw [ev] at p1
        exact fun σ3 H3 r3 => ⟨ρ2, r3, p1⟩
      | ret d => rw [ev] at p1; exact p1
      | ex c ρ2 => rw [ev] at p1; exact p1
      | no => rw [ev] at p1; exact p1
end
end MP

set_option Elab.async false
set_option linter.all false
set_option maxRecDepth 100000
set_option maxHeartbeats 16000000
set_option autoImplicit false
/-! MPI: lists of one's own, tuples taken apart, caught exceptions; statements put together; a def's promise. -/
namespace MP
open PySem L2
open PyProof.Rows hiding St

section
variable {X : Cx} {T : Tab} {W : WX} {N : List Str} {sc : Scope} {B : Act} {O : List Addr} {σ : L2.St} {ρ : Env} {H H1 : Hp}
/-- a list that was just made becomes the slot's own -/
theorem Rb.take (r : Rb B T O σ ρ H) {xs : List D} {vs : List V} {a : Addr} (n : H a = none) (e : Ex H H1) (h : H1 a = some (.lst vs)) (dv : DVs T (hide O H) xs vs) (i : Nat) : Rb B T (a :: O) (σ.set i (some (.ref a))) (ρ.set i (.own xs)) H1 := by
  have hx : Ex (hide O H) (hide (a :: O) H1) := fun b o q => by
    unfold hide at q ⊢
    split at q
    · cases q
    · rename_i hb
      have hne : b ≠ a := fun z => by rw [z, n] at q; cases q
      rw [if_neg (by simp only [List.mem_cons, not_or]; exact ⟨hne, hb⟩)]
      exact e b o q
  have oldOwn : ∀ {j : Nat} {ys : List D} {b : Addr}, i ≠ j → (ρ.set i (.own xs))[j]? = some (.own ys) → (σ.set i (some (.ref a)))[j]? = some (some (.ref b)) → ρ[j]? = some (.own ys) ∧ σ[j]? = some (some (.ref b)) ∧ b ≠ a := fun {j ys b} ne h1 h2 => by
    rw [List.getElem?_set_ne ne] at h1 h2
    obtain ⟨b', ws, k1, k2, k3, k4⟩ := r.rl.at_ j _ h1
    rw [k1] at h2
    cases h2
    exact ⟨h1, k1, fun z => by rw [z, n] at k3; cases k3⟩
  have selfOwn : ∀ {ys : List D} {b : Addr}, (ρ.set i (.own xs))[i]? = some (.own ys) → (σ.set i (some (.ref a)))[i]? = some (some (.ref b)) → b = a := fun {ys b} h1 h2 => by
    have hl : i < σ.length := by
      have := (List.getElem?_eq_some_iff.mp h2).1
      rwa [List.length_set] at this
    rw [List.getElem?_set_self hl] at h2
    cases h2
    rfl
  refine ⟨⟨fun b hb => ?_, by rw [List.length_set, List.length_set]; exact r.rl.len, fun j s q => ?_, fun j k ys zs b h1 h2 h3 h4 => ?_⟩, r.ex.trans e, fun b hb => List.mem_cons_of_mem _ (r.sub b hb), r.l0, fun j ys b h1 h2 => ?_, fun p hp => (r.lv p hp).trans hx⟩
  · rcases List.mem_cons.mp hb with rfl | hb
    · rw [h]; simp
    · exact live_mono e r.rl.live b hb
  · by_cases ei : i = j
    · subst ei
      have hl : i < ρ.length := by
        have := (List.getElem?_eq_some_iff.mp q).1
        rwa [List.length_set] at this
      rw [List.getElem?_set_self hl] at q
      cases q
      exact ⟨a, vs, by rw [List.getElem?_set_self (by rw [r.rl.len]; exact hl)], List.mem_cons_self, h, dv.mono hx⟩
    · rw [List.getElem?_set_ne ei] at q ⊢
      have z := r.rl.at_ j s q
      cases s with
      | un => trivial
      | dat d => obtain ⟨v, h1, h2⟩ := z; exact ⟨v, h1, h2.mono hx⟩
      | own ys => obtain ⟨b, ws, h1, h2, h3, h4⟩ := z; exact ⟨b, ws, h1, List.mem_cons_of_mem _ h2, e _ _ h3, h4.mono hx⟩
  · by_cases ej : i = j
    · subst ej
      have z := selfOwn h1 h3
      subst z
      by_cases ek : i = k
      · exact ek
      · exact absurd rfl (oldOwn ek h2 h4).2.2
    · by_cases ek : i = k
      · subst ek
        have z := selfOwn h2 h4
        subst z
        exact absurd rfl (oldOwn ej h1 h3).2.2
      · obtain ⟨a1, a2, _⟩ := oldOwn ej h1 h3
        obtain ⟨b1, b2, _⟩ := oldOwn ek h2 h4
        exact r.rl.sep j k ys zs b a1 b1 a2 b2
  · by_cases ej : i = j
    · subst ej
      have z := selfOwn h1 h2
      subst z
      exact r.new0 n
    · obtain ⟨a1, a2, _⟩ := oldOwn ej h1 h2
      exact r.fresh j ys b a1 a2
/-- the slot's own list is changed -/
theorem Rb.change (r : Rb B T O σ ρ H) {i : Nat} {xs ys : List D} {vs ws : List V} {a : Addr} (h1 : ρ[i]? = some (.own xs)) (h2 : σ[i]? = some (some (.ref a))) (h3 : H a = some (.lst vs)) (ha : a ∈ O) (dv : DVs T (hide O H) ys ws) : Rb B T O σ (ρ.set i (.own ys)) (upd H a (.lst ws)) := by
  have hi : i < ρ.length := (List.getElem?_eq_some_iff.mp h1).1
  have hh : hide O (upd H a (.lst ws)) = hide O H := hide_upd ha
  have f0 := r.fresh i xs a h1 h2
  have old : ∀ {j : Nat} {zs : List D}, (ρ.set i (.own ys))[j]? = some (.own zs) → ∃ zs', ρ[j]? = some (.own zs') := fun {j zs} q => by
    by_cases ei : i = j
    · subst ei; exact ⟨xs, h1⟩
    · rw [List.getElem?_set_ne ei] at q; exact ⟨zs, q⟩
  refine ⟨⟨fun b hb => ?_, by rw [List.length_set]; exact r.rl.len, fun j s q => ?_, fun j k us zs b k1 k2 k3 k4 => ?_⟩, fun b o e => ?_, r.sub, r.l0, fun j zs b k1 k2 => ?_, fun p hp => by rw [hh]; exact r.lv p hp⟩
  · by_cases e : b = a
    · rw [e, upd_same]; simp
    · rw [upd_ne e]; exact r.rl.live b hb
  · by_cases ei : i = j
    · subst ei
      rw [List.getElem?_set_self hi] at q
      cases q
      exact ⟨a, ws, h2, ha, upd_same, by rw [hh]; exact dv⟩
    · rw [List.getElem?_set_ne ei] at q
      have z := r.rl.at_ j s q
      cases s with
      | un => trivial
      | dat d => obtain ⟨v, k1, k2⟩ := z; exact ⟨v, k1, by rw [hh]; exact k2⟩
      | own us =>
        obtain ⟨b, ts, k1, k2, k3, k4⟩ := z
        have ne : b ≠ a := fun z => by
          subst z
          exact ei (r.rl.sep i j xs us b h1 q h2 k1)
        exact ⟨b, ts, k1, k2, by rw [upd_ne ne]; exact k3, by rw [hh]; exact k4⟩
  · obtain ⟨us', e1⟩ := old k1
    obtain ⟨zs', e2⟩ := old k2
    exact r.rl.sep j k us' zs' b e1 e2 k3 k4
  · rw [upd_ne (fun z => by rw [z, f0] at e; cases e)]
    exact r.ex b o e
  · obtain ⟨zs', e1⟩ := old k1
    exact r.fresh j zs' b e1 k2
/-- .. and becomes data -/
theorem Rb.freeze (r : Rb B T O σ ρ H) {i : Nat} {xs : List D} (h1 : ρ[i]? = some (.own xs)) : ∃ O', Rb B T O' σ (ρ.set i (.dat (.lst xs))) H := by
  have hi : i < ρ.length := (List.getElem?_eq_some_iff.mp h1).1
  obtain ⟨a, vs, k1, k2, k3, k4⟩ := r.rl.at_ i _ h1
  have hx : Ex (hide O H) (hide (O.filter fun b => decide (b ≠ a)) H) := hide_sub fun b hb => (List.mem_filter.mp hb).1
  have f0 := r.fresh i xs a h1 k1
  refine ⟨O.filter fun b => decide (b ≠ a), ⟨⟨fun b hb => r.rl.live b (List.mem_filter.mp hb).1, by rw [List.length_set]; exact r.rl.len, fun j s q => ?_, fun j k us zs b q1 q2 q3 q4 => ?_⟩, r.ex, fun b hb => ?_, r.l0, fun j zs b q1 q2 => ?_, fun p hp => (r.lv p hp).trans hx⟩⟩
  · by_cases ei : i = j
    · subst ei
      rw [List.getElem?_set_self hi] at q
      cases q
      refine ⟨.ref a, k1, .lst (SqL.of ?_) (k4.mono hx)⟩
      rw [hide_out (by simp)]
      exact k3
    · rw [List.getElem?_set_ne ei] at q
      have z := r.rl.at_ j s q
      cases s with
      | un => trivial
      | dat d => obtain ⟨v, m1, m2⟩ := z; exact ⟨v, m1, m2.mono hx⟩
      | own us =>
        obtain ⟨b, ts, m1, m2, m3, m4⟩ := z
        have ne : b ≠ a := fun z => by
          subst z
          exact ei (r.rl.sep i j xs us b h1 q k1 m1)
        exact ⟨b, ts, m1, List.mem_filter.mpr ⟨m2, by simpa using ne⟩, m3, m4.mono hx⟩
  · obtain ⟨_, q1⟩ := own_set q1
    obtain ⟨_, q2⟩ := own_set q2
    exact r.rl.sep j k us zs b q1 q2 q3 q4
  · refine List.mem_filter.mpr ⟨r.sub b hb, ?_⟩
    have ne : b ≠ a := fun z => by
      rw [z] at hb
      exact r.l0 a hb f0
    simpa using ne
  · obtain ⟨_, q1⟩ := own_set q1
    exact r.fresh j zs b q1 q2

theorem a_frz {i : Nat} {r : Ss} {sts : List Stmt} (h : PSs X sts (tSs T W r)) : PSs X sts (tSs T W (.cons (.frz i) r)) := by
  refine pss_weak h fun D σ H ⟨B, ρ, ⟨O, rb⟩, p⟩ => ?_
  simp only [evSs, evS] at p
  split at p
  · rename_i xs e
    obtain ⟨O', rb'⟩ := rb.freeze e
    exact ⟨B, _, ⟨O', rb'⟩, p⟩
  · exact ⟨B, ρ, ⟨O, rb⟩, p⟩
  · exact False.elim p
theorem a_app (A : AtS X T W N sc) {i : Nat} {e : E} {x : Str} {y : Expr} {px apos pos p2 : Pos} (n : NOk X i x) (h : PE X y (tE T W e)) (hy : shp y = true) (hl : (apos.endLine == pos.line) = true) : PS X (.Expr (.Call (.Attribute (.Name x px) "append" apos) [y] [] pos) p2) (tS T W (.app i e)) := by
  have st : starEach [y] X.env = (false, eval y X.env) :: starEach [] X.env := shp_star hy
  refine ps_weak (ps_expr (pe_bm PySem.F.plainAttrs_list PySem.F.slot_list_append PySem.F.type_list_append mt_append (pe_var (i := i) n.ix (Loc.vis n.loc) n.n1 n.n2) (pa1 h hy) rfl (by rw [st]; rfl) hl st rfl) rfl) fun D σ H ⟨B, ρ, ⟨O, r⟩, p⟩ => ?_
  simp only [evS] at p
  split at p
  · rename_i xs q
    obtain ⟨a, vs, k1, k2, k3, k4⟩ := r.rl.at_ i _ q
    refine ⟨.ref a, k1, .inl ⟨rfl, _, SqL.of k3⟩, ?_⟩
    refine tE_st r p fun d w H1 e1 dv p1 => ?_
    by_cases hz : xs.length < line
    · rw [if_pos hz] at p1
      refine ⟨a, vs, w, rfl, rfl, e1 _ _ k3, by rw [← k4.length, ← line_eq]; exact hz, ?_⟩
      exact p1 _ _ ⟨O, (r.mono e1).change q k1 (e1 _ _ k3) k2 ((k4.mono (hide_mono e1)).append (.cons dv .nil))⟩
    · rw [if_neg hz] at p1
      exact False.elim p1
  · exact False.elim p
theorem swap_sole {t v : Expr} {l : Nat} {env : PySem.Env} (h : noComp v = true) : swapsWithSole [t] v l env = pure false := swap_none h
theorem a_sti (A : AtS X T W N sc) {i : Nat} {e1 e2 : E} {x : Str} {y v : Expr} {px pos p2 : Pos} (n : NOk X i x) (h1 : PE X y (tE T W e1)) (h2 : PE X v (tE T W e2)) (hv : noComp v = true) (hy : shp y = true) : PS X (.Assign [.Subscript (.Name x px) y p2] v pos) (tS T W (.sti i e1 e2)) := by
  have hw : swappedStores [.Subscript (.Name x px) y p2] v X.env = pure none := by cases v <;> rfl
  refine ps_weak (ps_asg h2 (pg_sub (pe_var (i := i) n.ix (Loc.vis n.loc) n.n1 n.n2) h1 set_list (by intro _; cases y <;> first | rfl | (cases hy))) (swap_sole hv) hw rfl) fun D σ H ⟨B, ρ, ⟨O, r⟩, p⟩ => ?_
  simp only [evS] at p
  split at p
  · rename_i xs q
    refine tE_st r p fun d w H1 f1 dv p1 => ?_
    have r1 := r.mono f1
    obtain ⟨a, vs, k1, k2, k3, k4⟩ := r1.rl.at_ i _ q
    refine ⟨.ref a, k1, ?_⟩
    refine tE_st r1 p1 fun k u H2 f2 du p2 => ?_
    cases du with
    | int z =>
      simp only at p2
      split at p2
      · rename_i j hj
        refine ⟨a, vs, z, j, rfl, rfl, f2 _ _ k3, by rw [← k4.length]; exact hj, ?_⟩
        exact p2 _ _ ⟨O, (r1.mono f2).change q k1 (f2 _ _ k3) k2 (DVs.set (dv.mono (hide_mono f2)) j (k4.mono (hide_mono f2)))⟩
      · exact False.elim p2
    | _ => exact False.elim p2
  · exact False.elim p
def tN (T : Tab) (W : WX) (m : E) : TE := fun σ H Q => ∃ O ρ, Rl T O σ ρ H ∧ (match evE m ρ with
  | .ok (.lst xs) => ∀ a vs H0, Ex H H0 → H0 a = none → DVs T (hide O H0) xs vs → Q (.ref a) (upd H0 a (.lst vs))
  | .ok _ => False
  | .ex c => ∀ H', Ex H H' → c ∈ T.exs → W (.ref (T.exc c)) none σ H'
  | .no => False)
theorem n_lst {es : Es} {xs : List Expr} {pos : Pos} (h : PA X xs (tEs T W es)) (hl : ∀ ds ρ, evEs es ρ = .ok ds → ds.length ≤ sizeLine) : PE X (.List xs pos) (tN T W (.lst es)) := by
  refine pe_weak (pe_lst h) fun σ H Q ⟨O, ρ, hr, p⟩ => ?_
  refine ⟨O, ρ, hr, ?_⟩
  simp only [evE] at p
  cases e : evEs es ρ with
  | ok ds =>
    rw [e] at p
    intro vs H' e' dv
    exact ⟨by rw [← dv.length]; exact hl ds ρ e, fun b n => p b vs H' e' n dv⟩
  | ex c => rw [e] at p; exact p
  | no => rw [e] at p; exact p
theorem n_list (A : At X T W N sc) {a : E} {x : Str} {y : Expr} {px pos : Pos} (F : FOk X "list" x) (h : Holds X T (.blt "list")) (ha : PE X y (tE T W a)) (hy : shp y = true) : PE X (.Call (.Name x px) [y] [] pos) (tN T W (.f1 .list a)) := by
  obtain ⟨rfl, g, n1, n3⟩ := F
  refine pe_weak (pe_callTy call_list_of g h (by decide +kernel) (pa1 ha hy) n3 n1 (shp_star hy) rfl) fun σ H Q ⟨O, ρ, hr, p⟩ => ?_
  refine ⟨O, ρ, hr, ?_⟩
  simp only [evE] at p
  cases e : evE a ρ with
  | ok d =>
    rw [e] at p
    intro v H' e' dv
    cases dv with
    | lst q r => exact ⟨_, _, rfl, .inl (by rw [A.C.hK]; exact ex_sql hide_ex q), fun l hl => p l _ H' e' hl r⟩
    | tup q r => exact ⟨_, _, rfl, .inr (by rw [A.C.hK]; exact ex_sqt hide_ex q), fun l hl => p l _ H' e' hl r⟩
    | _ => exact False.elim p
  | ex c => rw [e] at p; exact p
  | no => rw [e] at p; exact p
theorem a_asgN (A : AtS X T W N sc) {i : Nat} {e : E} {x : Str} {v : Expr} {px pos : Pos} (n : NOk X i x) (h : fresh e = true → PE X v (tN T W e)) (h0 : PE X v (tE T W e)) (hv : noComp v = true) : PS X (.Assign [.Name x px] v pos) (tS T W (.asgN i e)) := by
  by_cases hf : fresh e = true
  · refine ps_weak (ps_set (i := i) (nd_ok A) n.ix n.loc (h hf) (swap_none hv) (.inl (A.fn x))) fun D σ H ⟨B, ρ, ⟨O, r⟩, p⟩ => ?_
    simp only [evS, hf, if_true] at p
    refine ⟨O, ρ, r.rl, ?_⟩
    cases q : evE e ρ with
    | ok d =>
      rw [q] at p
      cases d with
      | lst xs =>
        intro a vs H0 e0 na dv
        exact p _ _ ⟨_, (r.mono e0).take na (Ex.new na) upd_same dv i⟩
      | _ => exact False.elim p
    | ex c => rw [q] at p; exact fun H' e' => p _ _ ⟨O, r.mono e'⟩
    | no => rw [q] at p; exact False.elim p
  · refine ps_weak (ps_set (i := i) (nd_ok A) n.ix n.loc h0 (swap_none hv) (.inl (A.fn x))) fun D σ H ⟨B, ρ, ⟨O, r⟩, p⟩ => ?_
    simp only [evS, hf] at p
    refine tE_st r p fun d w H1 e1 dv p1 => ?_
    cases d <;> exact False.elim p1
/-! ### tuples taken apart -/
def gNs : List Nat → TGs
  | [] => gNil
  | i :: is => gCons (gName i) (gNs is)
theorem pgs_names (A : AtS X T W N sc) : ∀ {is : List Nat} {ts : List Expr}, chkNames N sc is ts = true → PGs X ts (gNs is) ∧ (assignEach ts X.env).length = is.length ∧ (assignEach ts X.env).findIdx? (·.1) = none
  | [], [], _ => ⟨pgs_nil, rfl, rfl⟩
  | [], t :: ts, h => by simp [chkNames] at h
  | i :: is, [], h => by simp [chkNames] at h
  | i :: is, t :: ts, h => by
    cases t with
    | Name x px =>
      simp only [chkNames, Bool.and_eq_true, decide_eq_true_eq] at h
      obtain ⟨h1, h2, h3⟩ := pgs_names A h.2
      refine ⟨pgs_cons (pg_name (i := i) (nd_ok A) (by rw [A.A.hN]; exact h.1.1) (loc_ok A.A.hs h.1.2) (.inl (A.fn x))) h1 rfl, ?_, ?_⟩
      · show (assignEach ts X.env).length + 1 = is.length + 1
        rw [h2]
      · show ((false, assign (.Name x px) X.env) :: assignEach ts X.env).findIdx? (·.1) = none
        rw [List.findIdx?_cons, h3]
        rfl
    | _ => simp [chkNames] at h
theorem gNs_read : ∀ {is : List Nat} {ds : List D} {vs : List V} {σ : L2.St} {ρ ρ' : Env} {H : Hp} {Q : L2.St → Hp → Prop}, Rb B T O σ ρ H → DVs T (hide O H) ds vs → setAll is ds ρ = some ρ' → (∀ σ', Rb B T O σ' ρ' H → Q σ' H) → gNs is vs σ H Q
  | [], ds, vs, σ, ρ, ρ', H, Q, r, dv, h, k => by
    cases dv with
    | nil =>
      simp only [setAll, Option.some.injEq] at h
      subst h
      exact ⟨rfl, k σ r⟩
    | cons _ _ => simp [setAll] at h
  | i :: is, ds, vs, σ, ρ, ρ', H, Q, r, dv, h, k => by
    cases dv with
    | nil => simp [setAll] at h
    | cons d1 d2 =>
      simp only [setAll] at h
      exact ⟨_, _, rfl, gNs_read (r.setd d1 i) d2 h k⟩
theorem setAll_len : ∀ {is : List Nat} {ds : List D} {ρ ρ' : Env}, setAll is ds ρ = some ρ' → ds.length = is.length
  | [], [], _, _, _ => rfl
  | [], _ :: _, _, _, h => by simp [setAll] at h
  | _ :: _, [], _, _, h => by simp [setAll] at h
  | i :: is, d :: ds, ρ, ρ', h => by
    simp only [setAll] at h
    rw [List.length_cons, List.length_cons, setAll_len h]
theorem par_hw {x y u w : Str} {px py pu pw pt pt2 : Pos} {kt k2} {env : PySem.Env} (hk : env.scope.kind = .function) (hx : env.scope.names.lookup x = some .local) (hy : env.scope.names.lookup y = some .local) (hxy : x ≠ y) (hl : px.line = py.line) (hu : u ≠ ("__debug__" : Str)) :
    swappedStores [.Tuple [.Name x px, .Name y py] kt pt] (.Tuple [.Name u pu, .Name w pw] k2 pt2) env = pure (some [x, y]) := by
  have e1 : env.kindOf x = some .local := hx
  have e2 : env.kindOf y = some .local := hy
  have e3 : env.blockKind = .function := by
    unfold PySem.Env.blockKind
    rw [hk]
    rfl
  have e4 : (y == x) = false := by simpa using Ne.symm hxy
  unfold swappedStores
  simp [e1, e2, e3, e4, hl, foldedForSure, constantsAlone, List.eraseDups_cons, Expr.pos]
  exact fun z => absurd z hu
theorem a_par (A : AtS X T W N sc) {i j : Nat} {es : Es} {x y u w : Str} {px py pu pw pt pt2 pos : Pos} {kt k2} (hi : N[i]? = some x) (hj : N[j]? = some y) (hij : i ≠ j) (hxy : x ≠ y) (hx : sc.names.lookup x = some .local) (hy : sc.names.lookup y = some .local) (hl : px.line = py.line) (hu : u ≠ ("__debug__" : Str)) (ha : PA X [.Name u pu, .Name w pw] (tEs T W es)) :
    PS X (.Assign [.Tuple [.Name x px, .Name y py] kt pt] (.Tuple [.Name u pu, .Name w pw] k2 pt2) pos) (tS T W (.asgT [i, j] (.tup es))) := by
  refine ps_weak (ps_par A.A.C.calm (nd_ok A) (by rw [A.A.hN]; exact hi) (by rw [A.A.hN]; exact hj) hij (by rw [A.A.hs]; exact hx) (by rw [A.A.hs]; exact hy) ha (par_hw (by rw [A.A.hs]; exact A.kind) (by rw [A.A.hs]; exact hx) (by rw [A.A.hs]; exact hy) hxy hl hu)) fun D σ H ⟨B, ρ, ⟨O, r⟩, p⟩ => ?_
  refine ⟨O, ρ, r.rl, ?_⟩
  simp only [evS, evE] at p
  cases e : evEs es ρ with
  | ok ds =>
    rw [e] at p
    intro vs H1 e1 dv
    have p : PoS B T W D (match setAll [i, j] ds ρ with | some ρ' => .nxt ρ' | none => .no) := p
    split at p
    · rename_i ρ' hs
      obtain ⟨v, ws, rfl, w2, ws2, rfl, rfl, q⟩ := gNs_read (Q := D.nx) (r.mono e1) dv hs fun σ' r' => p _ _ ⟨O, r'⟩
      exact ⟨v, w2, rfl, q⟩
    · exact False.elim p
  | ex c =>
    rw [e] at p
    exact fun H' e' => p σ H' ⟨O, r.mono e'⟩
  | no =>
    rw [e] at p
    exact p
theorem a_asgT (A : AtS X T W N sc) {is : List Nat} {e : E} {ts : List Expr} {v : Expr} {k : Nat} {p2 pos : Pos} (hn : chkNames N sc is ts = true) (h : PE X v (tE T W e)) (hv : noComp v = true) (ht : noTup v = true) : PS X (.Assign [.Tuple ts k p2] v pos) (tS T W (.asgT is e)) := by
  obtain ⟨g1, g2, g3⟩ := pgs_names A hn
  have hw : swappedStores [.Tuple ts k p2] v X.env = pure none := by cases v <;> first | rfl | (cases ht)
  refine ps_weak (ps_asg h (pg_tup A.A.C.calm g1 g2 g3) (swap_sole hv) hw rfl) fun D σ H ⟨B, ρ, ⟨O, r⟩, p⟩ => ?_
  simp only [evS] at p
  refine tE_st r p fun d w H1 e1 dv p1 => ?_
  cases dv with
  | tup q dvs =>
    simp only at p1
    split at p1
    · rename_i ρ' hs
      refine ⟨_, _, rfl, by rw [A.A.C.hK]; exact ex_sqt hide_ex q, by rw [← dvs.length]; exact setAll_len hs, ?_⟩
      exact gNs_read (r.mono e1) dvs hs fun σ' r' => p1 _ _ ⟨O, r'⟩
    · exact False.elim p1
  | _ => exact False.elim p1
theorem a_forT (A : AtS X T W N sc) {is : List Nat} {src : Src} {b : Ss} {ts : List Expr} {it : Expr} {body : List Stmt} {k0 : Nat} {p2 pos : Pos} (hn : chkNames N sc is ts = true) (hi : PI X (.Tuple ts k0 p2) it (tI T W src)) (hs : shp it = true) (hb : PSs X body (tSs T W b)) : PS X (.For (.Tuple ts k0 p2) it body [] pos) (tS T W (.forT is src b)) := by
  obtain ⟨g1, g2, g3⟩ := pgs_names A hn
  refine ps_weak (ps_for A.pass A.A.C.calm hi (pg_tup A.A.C.calm g1 g2 g3) hb (shp_fold hs)) fun De σ H ⟨B, ρ, ⟨O, r⟩, p⟩ => ?_
  simp only [evS] at p
  refine tI_st r p fun ds J H1 e1 Y p1 => ?_
  have r1 := r.mono e1
  let B1 : Act := ⟨B.H0, B.O0, (O, H1) :: B.lv⟩
  have down : ∀ {σ' ρ' H'}, RlS B1 T σ' ρ' H' → RlS B T σ' ρ' H' := fun ⟨O', q⟩ => ⟨O', q.rl, q.ex, q.sub, q.l0, q.fresh, fun p hp => q.lv p (List.mem_cons_of_mem _ hp)⟩
  have up : RlS B1 T σ ρ H1 := ⟨O, r1.rl, r1.ex, r1.sub, r1.l0, r1.fresh, fun p hp => by
    rcases List.mem_cons.mp hp with rfl | hp
    · exact Ex.refl _
    · exact r1.lv p hp⟩
  refine ⟨fun k m σ' H' => m = ds.length - k ∧ k ≤ ds.length ∧ ∃ ρ', RlS B1 T σ' ρ' H' ∧ PoS B T W De (forGo (stepT is fun ρ' => evSs b ρ') (ds.drop k) ρ'), ⟨_, rfl, Nat.zero_le _, ρ, up, p1⟩, ?_⟩
  rintro k m σ' H' ⟨rfl, hk, ρ', ⟨O', r'⟩, p'⟩
  obtain ⟨Yi, Ye⟩ := Y k O' H' (r'.lv (O, H1) List.mem_cons_self) r'.rl.live
  by_cases hlt : k < ds.length
  · have hd : ds[k]? = some ds[k] := List.getElem?_eq_getElem hlt
    obtain ⟨Yg, Yy⟩ := Yi _ hd
    rw [List.drop_eq_getElem_cons hlt] at p'
    refine .inr ⟨Yg, fun σ2 H2 => ∃ ρ2, RlS B1 T σ2 ρ2 H2 ∧ PoS B T W De (forGo (stepT is fun ρ' => evSs b ρ') (ds.drop (k + 1)) ρ2), fun σ2 H2 q => ⟨ds.length - (k + 1), by omega, rfl, hlt, q⟩, fun v H2 y => ?_⟩
    obtain ⟨e2, dv⟩ := Yy v H2 y
    have p' : PoS B T W De (thenO (stepT is (fun ρ' => evSs b ρ') ds[k] ρ') (forGo (stepT is fun ρ' => evSs b ρ') (ds.drop (k + 1)))) := p'
    generalize ds[k] = dk at dv p'
    cases dv with
    | tup q dvs =>
      have p' : PoS B T W De (thenO (match setAll is _ ρ' with
        | some ρ2 => evSs b ρ2
        | none => .no) (forGo (stepT is fun ρ' => evSs b ρ') (ds.drop (k + 1)))) := p'
      split at p'
      · rename_i ρ2 hsa
        refine ⟨_, _, rfl, by rw [A.A.C.hK]; exact ex_sqt hide_ex q, by rw [← dvs.length]; exact setAll_len hsa, ?_⟩
        refine gNs_read (r'.mono e2) dvs hsa fun σ2 r2 => ?_
        refine ⟨B1, ρ2, ⟨O', r2⟩, ?_⟩
        cases ev : evSs b ρ2 with
        | nxt ρ3 =>
          rw [ev] at p'
          exact fun σ3 H3 r3 => ⟨ρ3, r3, p'⟩
        | ret d => rw [ev] at p'; exact p'
        | ex c ρ3 => rw [ev] at p'; exact fun σ3 H3 r3 => p' σ3 H3 (down r3)
        | no => rw [ev] at p'; exact p'
      · exact False.elim p'
    | _ => exact False.elim p'
  · have hkl : k = ds.length := by omega
    subst hkl
    rw [List.drop_length] at p'
    exact .inl ⟨Ye (Nat.le_refl _), p' _ _ (down ⟨O', r'⟩)⟩
/-! ### try -/
theorem AtS.tr (A : AtS X T W N sc) {pn : List (Addr × Obj)} {xe : Value → Shared → Prop} {W' : WX} (tk : Takes (X.tr pn xe) W') (hp : PassesOwn (model X.prog X.w) X.A X.env xe) : AtS (X.tr pn xe) T W' N sc :=
  ⟨⟨⟨A.A.C.hK, A.A.C.calm, A.A.C.units, A.A.C.exT, A.A.C.exI, A.A.C.exV, A.A.C.exN, A.A.C.exF, A.A.C.exM, A.A.C.dig⟩, A.A.hN, A.A.nd, A.A.hs, tk⟩, A.fn, hp, A.stk, A.fr, A.ex, A.kind⟩
theorem a_try (A : AtS X T W N sc) {b : Ss} {nm : String} {i j : Nat} {x n y : Str} {body : List Stmt} {np yp np2 ap pos pos' : Pos} (F : FOk X nm x) (h : Holds X T (.flt nm)) (hi : N[i]? = some n) (hln : sc.names.lookup n = some .local) (hn : okName n = true) (hy : NOk X j y)
    (hb : ∀ (W' : WX) (pn : List (Addr × Obj)) (xe : Value → Shared → Prop), AtS (X.tr pn xe) T W' N sc → PSs (X.tr pn xe) body (tSs T W' b)) :
    PS X (.Try body [.ExceptHandler (some (.Name x np)) (some n) [.Assign [.Name y yp] (.Name n np2) ap] pos'] [] [] pos) (tS T W (.tryx b nm i j)) := by
  obtain ⟨rfl, g, n1, n3⟩ := F
  have hln' : X.env.kindOf n = some .local := by
    show X.env.scope.names.lookup n = some .local
    rw [A.A.hs]
    exact hln
  refine ps_weak (ps_try_hold (T := T) (i := i) (j := j) (tb := fun W' => tSs T W' b) A.A.C A.stk A.fr A.ex (nd_ok A) (by rw [A.A.hN]; exact hi) hln' hy.ix hy.loc A.fn hn ⟨g, n1, .inl h⟩ (fun W' pn xe tk hp => hb W' pn xe (A.tr tk hp))) fun D σ H ⟨B, ρ, r, p⟩ => ?_
  simp only [evS] at p
  refine ⟨B, ρ, r, ?_⟩
  cases ev : evSs b ρ with
  | nxt ρ' => rw [ev] at p; exact p
  | ret d => rw [ev] at p; exact p
  | no => rw [ev] at p; exact p
  | ex c ρ' =>
    rw [ev] at p
    intro σ' H' ⟨O', r'⟩ hc
    refine ⟨c, hc, rfl, rfl, fun a na => p _ _ ⟨O', ?_⟩⟩
    have r2 := r'.mono (Ex.new (o := ExH (.ref (T.exc c)) a) na)
    have nO := live_new r'.rl.live na
    have dv : DV T (hide O' (upd H' a (ExH (.ref (T.exc c)) a))) (.exc c) (.ref a) := .exc hc (by rw [hide_out nO]; exact upd_same)
    by_cases hij : i = j
    · subst hij
      have e1 : ((σ'.set i (some (.ref a))).set i (some (.ref a))).set i none = σ'.set i none := by simp
      have e2 : (ρ'.set i (.dat (.exc c))).set i .un = ρ'.set i .un := by simp
      rw [e1, e2]
      exact r2.setn i none
    · have e1 : ((σ'.set i (some (.ref a))).set j (some (.ref a))).set i none = (σ'.set j (some (.ref a))).set i none := by
        rw [List.set_comm _ _ hij, List.set_set]
      rw [e1]
      exact (r2.setd dv j).setn i none
theorem a_tryk (A : AtS X T W N sc) {b : Ss} {nm : String} {i j k : Nat} {c1 c2 c3 : Cl} {x n y x1 x2 x3 z1 z2 z3 : Str} {body : List Stmt} {np yp ap pos pos' tp q1 q2 q3 m1 m2 m3 r1 r2 r3 s1 s2 s3 : Pos} (F : FOk X nm x) (h : Holds X T (.flt nm)) (hi : N[i]? = some n) (hln : sc.names.lookup n = some .local) (hn : okName n = true) (hy : NOk X j y)
    (hI : Holds X T (.blt "isinstance")) (F1 : FOk X "isinstance" x1) (F2 : FOk X "isinstance" x2) (F3 : FOk X "isinstance" x3) (G1 : FOk X (nmCl c1) z1) (G2 : FOk X (nmCl c2) z2) (G3 : FOk X (nmCl c3) z3) (k1 : clNeed (Holds X T) c1) (k2 : clNeed (Holds X T) c2) (k3 : clNeed (Holds X T) c3) (l1 : clx c1 = true) (l2 : clx c2 = true) (l3 : clx c3 = true)
    (hb : ∀ (W' : WX) (pn : List (Addr × Obj)) (xe : Value → Shared → Prop), AtS (X.tr pn xe) T W' N sc → PSs (X.tr pn xe) body (tSs T W' b)) :
    PS X (.Try body [.ExceptHandler (some (.Name x np)) (some n) [.Assign [.Name y yp] (.Tuple [.Call (.Name x1 q1) [.Name n m1, .Name z1 r1] [] s1, .Call (.Name x2 q2) [.Name n m2, .Name z2 r2] [] s2, .Call (.Name x3 q3) [.Name n m3, .Name z3 r3] [] s3] k tp) ap] pos'] [] [] pos) (tS T W (.tryk b nm i j c1 c2 c3)) := by
  obtain ⟨rfl, g, n1, n3⟩ := F
  have hln' : X.env.kindOf n = some .local := by
    show X.env.scope.names.lookup n = some .local
    rw [A.A.hs]
    exact hln
  refine ps_weak (ps_try_kinds (T := T) (i := i) (j := j) (tb := fun W' => tSs T W' b) A.A.C A.stk A.fr (nd_ok A) (by rw [A.A.hN]; exact hi) hln' hy.ix hy.loc A.fn hn ⟨g, n1, .inl h⟩ hI F1 F2 F3 G1 G2 G3 k1 k2 k3 l1 l2 l3 (fun W' pn xe tk hp => hb W' pn xe (A.tr tk hp))) fun D σ H ⟨B, ρ, r, p⟩ => ?_
  simp only [evS] at p
  refine ⟨B, ρ, r, ?_⟩
  cases ev : evSs b ρ with
  | nxt ρ' => rw [ev] at p; exact p
  | ret d => rw [ev] at p; exact p
  | no => rw [ev] at p; exact p
  | ex c ρ' =>
    rw [ev] at p
    intro σ' H' ⟨O', r'⟩ hc
    simp only at p
    split at p
    · rename_i t1 t2 t3 i1 i2 i3
      refine ⟨true, A.A.C.exF c hc, fun _ a na => ⟨c, hc, rfl, rfl, ⟨σ', rfl⟩, t1, t2, t3, i1, i2, i3, fun q nq => ?_⟩, fun z => nomatch z⟩
      refine p _ _ ⟨O', ?_⟩
      have r2 := r'.mono (Ex.new (o := .tup [.bl t1, .bl t2, .bl t3]) nq)
      have nO := live_new r'.rl.live nq
      have dv : DV T (hide O' (upd H' q (.tup [.bl t1, .bl t2, .bl t3]))) (.tup [.bl t1, .bl t2, .bl t3]) (.ref q) := .tup (SqT.of (by rw [hide_out nO]; exact upd_same)) (.cons (.bl _) (.cons (.bl _) (.cons (.bl _) .nil)))
      by_cases hij : i = j
      · subst hij
        have e1 : ((σ'.set i (some (.ref a))).set i (some (.ref q))).set i none = σ'.set i none := by simp
        have e2 : (ρ'.set i (.dat (.tup [.bl t1, .bl t2, .bl t3]))).set i .un = ρ'.set i .un := by simp
        rw [e1, e2]
        exact r2.setn i none
      · have e1 : ((σ'.set i (some (.ref a))).set j (some (.ref q))).set i none = (σ'.set j (some (.ref q))).set i none := by
          rw [List.set_comm _ _ hij, List.set_set]
        rw [e1]
        exact (r2.setd dv j).setn i none
    · exact False.elim p
end
end MP

set_option Elab.async false
set_option linter.all false
set_option maxRecDepth 100000
set_option maxHeartbeats 16000000
set_option autoImplicit false
/-! MPJ: statements, put together; a def's promise. -/
namespace MP
open PySem L2
open PyProof.Rows hiding St

section
variable {T : Tab}
theorem fresh_pe {X : Cx} {W : WX} {N : List Str} {sc : Scope} (A : At X T W N sc) (e : E) (v : Expr) (h : chkE N sc e v = true) (o : okE (Holds X T) e) (hf : fresh e = true) : PE X v (tN T W e) := by
  cases e with
  | lst es =>
    simp only [chkE] at h
    split at h
    · simp only [Bool.and_eq_true, decide_eq_true_eq] at h
      exact n_lst (soundEs es _ A h.1 o).1 (lenEs_ok h.2)
    · cases h
  | f1 f a =>
    cases f with
    | list =>
      simp only [chkE] at h
      split at h
      · simp only [Bool.and_eq_true] at h
        exact n_list A (chkF_ok A.hs h.1.1.2) o.1 (soundE a _ A h.1.2 o.2).pe h.2
      · cases h
    | _ => cases hf
  | _ => cases hf
mutual
theorem soundS : ∀ (m : S) {X : Cx} {W : WX} {N : List Str} {sc : Scope} (st : Stmt), AtS X T W N sc → chkS N sc m st = true → okS (Holds X T) m → PS X st (tS T W m)
  | .asg i e, X, W, N, sc, st, A, h, o => by
    simp only [chkS] at h
    split at h
    · rename_i x px v pos
      simp only [Bool.and_eq_true] at h
      have n := chkN_ok A h.1
      have he := soundE e v A.A h.2 o
      by_cases hc : noComp v = true
      · exact a_asg A n he.pe (swap_none hc)
      · cases v with
        | ListComp elt gs scope p2 =>
          by_cases hw : swapB sc x px (.ListComp elt gs scope p2) = true
          · cases e with
            | lc j el src =>
              have h2 := h.2
              simp only [chkE] at h2
              split at h2
              · rename_i q
                cases q
                simp only [Bool.and_eq_true, decide_eq_true_eq] at h2
                obtain ⟨⟨⟨⟨⟨h1, h2⟩, h3⟩, h4⟩, h5⟩, h6⟩ := h2
                exact a_asgL A n h1 h2 h3 h6 (fun s H C cl fp => (soundE el _ (A.A.blk s H C cl fp) h4 o.1).pe) (soundSrc src _ _ A.A h5 h6 o.2) hw
              · cases h2
            | lcP j k el src =>
              have h2 := h.2
              simp only [chkE] at h2
              split at h2
              · rename_i q
                cases q
                simp only [Bool.and_eq_true, decide_eq_true_eq] at h2
                obtain ⟨⟨⟨⟨⟨⟨⟨⟨h1, g1⟩, hij⟩, h2⟩, g2⟩, h3⟩, h4⟩, h5⟩, h6⟩ := h2
                exact a_asgP A n h1 g1 hij h2 g2 h3 h6 (fun s H C cl fp => (soundE el _ (A.A.blk s H C cl fp) h4 o.1).pe) (soundSrcT src _ A.A h5 h6 o.2) hw
              · cases h2
            | lcf j el src c =>
              have h2 := h.2
              simp only [chkE] at h2
              split at h2
              · rename_i q
                cases q
                simp only [Bool.and_eq_true, decide_eq_true_eq] at h2
                obtain ⟨⟨⟨⟨⟨⟨h1, h2⟩, h3⟩, h4⟩, h5⟩, h6⟩, h7⟩ := h2
                exact a_asgF A n h1 h2 h3 h6 (fun s H C cl fp => (soundE el _ (A.A.blk s H C cl fp) h4 o.1).pe) (fun s H C cl fp => (soundE c _ (A.A.blk s H C cl fp) h7 o.2.2).pt) (soundSrc src _ _ A.A h5 h6 o.2.1) hw
              · cases h2
            | _ => simp [chkE] at h
          · exact a_asg A n he.pe (swap_lc A.A.hs (by simpa using hw) A.kind)
        | SetComp _ _ _ _ => cases e <;> simp [chkE] at h
        | DictComp _ _ _ _ _ => cases e <;> simp [chkE] at h
        | _ => exact absurd rfl hc
    · cases h
  | .asgN i e, X, W, N, sc, st, A, h, o => by
    simp only [chkS] at h
    split at h
    · simp only [Bool.and_eq_true] at h
      exact a_asgN A (chkN_ok A h.1.1) (fun hf => fresh_pe A.A e _ h.1.2 o hf) (soundE e _ A.A h.1.2 o).pe h.2
    · cases h
  | .asgT is e, X, W, N, sc, st, A, h, o => by
    simp only [chkS] at h
    split at h
    · simp only [Bool.or_eq_true] at h
      rcases h with h | h
      · simp only [Bool.and_eq_true] at h
        exact a_asgT A h.1.1.1 (soundE e _ A.A h.1.1.2 o).pe h.1.2 h.2
      · unfold chkPar at h
        split at h
        · simp only [Bool.and_eq_true, decide_eq_true_eq] at h
          obtain ⟨⟨⟨⟨⟨⟨⟨⟨⟨h1, h2⟩, h3⟩, h4⟩, h5⟩, h6⟩, h7⟩, h8⟩, h9⟩, h10⟩ := h
          exact a_par A h1 h2 h3 h4 h5 h6 h7 h8 (soundEs (.cons _ (.cons _ .nil)) _ A.A (by simp [chkEs, h9, h10, shp]) o).1
        · cases h
    · cases h
  | .frz i, X, W, N, sc, st, A, h, o => by simp [chkS] at h
  | .app i e, X, W, N, sc, st, A, h, o => by
    simp only [chkS] at h
    split at h
    · simp only [Bool.and_eq_true, decide_eq_true_eq] at h
      obtain ⟨⟨⟨⟨rfl, h1⟩, h2⟩, h3⟩, h4⟩ := h
      exact a_app A (chkN_ok A h1) (soundE e _ A.A h2 o).pe h3 h4
    · cases h
  | .sti i e1 e2, X, W, N, sc, st, A, h, o => by
    simp only [chkS] at h
    split at h
    · simp only [Bool.and_eq_true] at h
      exact a_sti A (chkN_ok A h.1.1.1.1) (soundE e1 _ A.A h.1.1.1.2 o.1).pe (soundE e2 _ A.A h.1.1.2 o.2).pe h.1.2 h.2
    · cases h
  | .ins i e1 e2, X, W, N, sc, st, A, h, o => by simp [chkS] at h
  | .ifs c a b, X, W, N, sc, st, A, h, o => by
    simp only [chkS] at h
    split at h
    · simp only [Bool.and_eq_true] at h
      exact a_if (soundE c _ A.A h.1.1 o.1).pt (soundSs a _ A h.1.2 o.2.1) (soundSs b _ A h.2 o.2.2)
    · cases h
  | .fors i src b, X, W, N, sc, st, A, h, o => by
    simp only [chkS] at h
    split at h
    · simp only [Bool.and_eq_true] at h
      exact a_for A (chkN_ok A h.1.1.1) (soundSrc src _ _ A.A h.1.1.2 h.1.2 o.1) h.1.2 (soundSs b _ A h.2 o.2)
    · cases h
  | .forT is src b, X, W, N, sc, st, A, h, o => by
    simp only [chkS] at h
    split at h
    · simp only [Bool.and_eq_true] at h
      exact a_forT A h.1.1.1 (soundSrcT src _ A.A h.1.1.2 h.1.2 o.1) h.1.2 (soundSs b _ A h.2 o.2)
    · cases h
  | .whl c b, X, W, N, sc, st, A, h, o => by
    simp only [chkS] at h
    split at h
    · simp only [Bool.and_eq_true] at h
      exact a_whl A (soundE c _ A.A h.1 o.1).pt (soundSs b _ A h.2 o.2)
    · cases h
  | .ret e, X, W, N, sc, st, A, h, o => by
    simp only [chkS] at h
    split at h
    · exact a_ret (soundE e _ A.A h o).pe
    · cases h
  | .rse nm c, X, W, N, sc, st, A, h, o => by
    simp only [chkS] at h
    split at h
    · exact a_rse A (chkF_ok A.A.hs h) o
    · cases h
  | .drp e, X, W, N, sc, st, A, h, o => by
    simp only [chkS] at h
    split at h
    · simp only [Bool.and_eq_true] at h
      exact a_drp (soundE e _ A.A h.1 o).pe h.2
    · cases h
  | .pas, X, W, N, sc, st, A, h, o => by
    simp only [chkS] at h
    split at h
    · exact a_pas
    · cases h
  | .tryx b nm i j, X, W, N, sc, st, A, h, o => by
    simp only [chkS] at h
    split at h
    · simp only [Bool.and_eq_true, decide_eq_true_eq] at h
      obtain ⟨⟨⟨⟨⟨⟨h1, h2⟩, rfl⟩, h4⟩, h5⟩, h6⟩, h7⟩ := h
      exact a_try A (chkF_ok A.A.hs h2) o.2 h4 h5 h6 (chkN_ok A h7) fun W' pn xe A' => soundSs b _ A' h1 o.1
    · cases h
  | .tryk b nm i j c1 c2 c3, X, W, N, sc, st, A, h, o => by
    simp only [chkS] at h
    split at h
    · simp only [Bool.and_eq_true, decide_eq_true_eq] at h
      obtain ⟨⟨⟨⟨⟨⟨⟨⟨⟨⟨⟨⟨⟨⟨⟨⟨⟨h1, h2⟩, rfl⟩, rfl⟩, rfl⟩, h4⟩, h5⟩, h6⟩, h7⟩, f1⟩, f2⟩, f3⟩, g1⟩, g2⟩, g3⟩, l1⟩, l2⟩, l3⟩ := h
      obtain ⟨o1, o2, o3, o4, o5, o6⟩ := o
      exact a_tryk A (chkF_ok A.A.hs h2) o2 h4 h5 h6 (chkN_ok A h7) o3 (chkF_ok A.A.hs f1) (chkF_ok A.A.hs f2) (chkF_ok A.A.hs f3) (chkF_ok A.A.hs g1) (chkF_ok A.A.hs g2) (chkF_ok A.A.hs g3) o4 o5 o6 l1 l2 l3 fun W' pn xe A' => soundSs b _ A' h1 o1
    · cases h
theorem soundSs : ∀ (m : Ss) {X : Cx} {W : WX} {N : List Str} {sc : Scope} (sts : List Stmt), AtS X T W N sc → chkSs N sc m sts = true → okSs (Holds X T) m → PSs X sts (tSs T W m)
  | .nil, X, W, N, sc, sts, A, h, o => by
    simp only [chkSs] at h
    split at h
    · exact pss_weak pss_nil fun De σ H ⟨B, ρ, r, p⟩ => p _ _ r
    · cases h
  | .cons s r, X, W, N, sc, sts, A, h, o => by
    by_cases hz : ∃ i, s = .frz i
    · obtain ⟨i, rfl⟩ := hz
      simp only [chkSs] at h
      exact a_frz (soundSs r _ A h o.2)
    · obtain ⟨st, ss, rfl, h1, h2⟩ : ∃ st ss, sts = st :: ss ∧ chkS N sc s st = true ∧ chkSs N sc r ss = true := by
        cases sts with
        | nil => cases s <;> first | exact (hz ⟨_, rfl⟩).elim | simp [chkSs] at h
        | cons st ss =>
          refine ⟨st, ss, rfl, ?_⟩
          cases s <;> first | exact (hz ⟨_, rfl⟩).elim | (simp only [chkSs, Bool.and_eq_true] at h; exact h)
      refine pss_weak (pss_cons (soundS s _ A h1 o.1) (soundSs r _ A h2 o.2)) fun De σ H ⟨B, ρ, rr, p⟩ => ?_
      refine ⟨B, ρ, rr, ?_⟩
      simp only [evSs] at p
      cases ev : evS s ρ with
      | nxt ρ' => rw [ev] at p; exact fun σ' H' r' => ⟨B, ρ', r', p⟩
      | ret d => rw [ev] at p; exact p
      | ex c ρ' => rw [ev] at p; exact p
      | no => rw [ev] at p; exact p
end
end

/-- the facts of the written part and the names that the whole text leans on -/
structure Facts (K : PySem.W.Frag) (T : Tab) : Prop where
  hK : K = T.K
  exT : ∀ c ∈ T.exs, ExcC K (T.exc c)
  exI : ∀ c ∈ T.exs, ∀ d ∈ T.exs, PySem.W.kitOne K (.ref (T.exc c)) (.ref (T.exc d)) = some (c == d)
  exV : ∀ c ∈ T.exs, PySem.W.kitOne K (.ref (T.exc c)) (.type "ValueError") = some true
  exN : ∀ c ∈ T.exs, PySem.W.kitOne K (.type "NoneType") (.ref (T.exc c)) = some false
  exF : ∀ c ∈ T.exs, PySem.W.exmOne K (.ref (T.exc c)) (.ref T.flt) = some true
  exM : ∀ c ∈ T.exs, PySem.W.excIn K (T.exc c) [.type "ValueError", .type "Exception", .type "BaseException", .type "object"] "ValueError.__new__" = true ∧ PySem.W.keepIn K (.ref (T.exc c)) = true ∧ PySem.W.typeIn K (.ref (T.exc c)) = some (.type "type")
  dig : PySem.W.nsIn K cStatics "sys.int_max_str_digits" = some none
section
variable {P : Program} {w : World} {K : PySem.W.Frag} {mg : Str → Option Value} {base : Heap} {T : Tab}
theorem start_read {T : Tab} {O : List Addr} {H : Hp} {ds : List D} {vs : List V} (r : DVs T (hide O H) ds vs) (l : ∀ a ∈ O, H a ≠ none) (n : Nat) (N : List Str) (hn : N.length = n) (hl : ds.length ≤ n) : Rb ⟨H, O, []⟩ T O (start N vs) (ds.map .dat ++ List.replicate (n - ds.length) .un) H := by
  have hv := r.length
  have e : start N vs = vs.map some ++ List.replicate (N.length - vs.length) none := rfl
  refine ⟨⟨l, ?_, fun i s q => ?_, fun i j xs ys a h1 h2 h3 h4 => ?_⟩, Ex.refl _, fun a ha => ha, l, fun i xs a h1 h2 => ?_, fun p hp => by cases hp⟩
  · rw [e, List.length_append, List.length_append, List.length_map, List.length_map, List.length_replicate, List.length_replicate, hn]
    omega
  · by_cases hi : i < ds.length
    · rw [List.getElem?_append_left (by simpa using hi), List.getElem?_map] at q
      cases hd : ds[i]? with
      | none => rw [hd] at q; cases q
      | some d =>
        rw [hd] at q
        cases q
        obtain ⟨v, h1, h2⟩ := r.get hd
        refine ⟨v, ?_, h2⟩
        rw [e, List.getElem?_append_left (by rw [List.length_map]; omega), List.getElem?_map, h1]
        rfl
    · rw [List.getElem?_append_right (by simpa using hi)] at q
      rw [List.getElem?_replicate] at q
      split at q
      · cases q
        trivial
      · cases q
  · exfalso
    by_cases hi : i < ds.length
    · rw [List.getElem?_append_left (by simpa using hi), List.getElem?_map] at h1
      cases hd : ds[i]? with
      | none => rw [hd] at h1; cases h1
      | some d => rw [hd] at h1; cases h1
    · rw [List.getElem?_append_right (by simpa using hi), List.getElem?_replicate] at h1
      split at h1 <;> cases h1
  · exfalso
    by_cases hi : i < ds.length
    · rw [List.getElem?_append_left (by simpa using hi), List.getElem?_map] at h1
      cases hd : ds[i]? with
      | none => rw [hd] at h1; cases h1
      | some d => rw [hd] at h1; cases h1
    · rw [List.getElem?_append_right (by simpa using hi), List.getElem?_replicate] at h1
      split at h1 <;> cases h1
/-- what a body at level k may lean on, by names -/
def Need.At (P : Program) (w : World) (K : PySem.W.Frag) (mg : Str → Option Value) (base : Heap) (T : Tab) (k : Nat) : Need → Prop
  | .fn nm f df => ∃ fa fd ps dvs ds, mg (Str.ofString nm) = some (.ref fa) ∧ PySem.W.keepIn K (.ref fa) = true ∧ FnOk P w K mg base (L2.CX P w) k fa fd ps (spF T f) ∧ Binds K fd ps ds ∧ Vals dvs ds ∧ ∀ H, DVs T H df dvs
  | .exc nm c => mg (Str.ofString nm) = some (.ref (T.exc c)) ∧ c ∈ T.exs
  | .blt nm => mg (Str.ofString nm) = none
  | .glo nm d => ∃ v u, mg (Str.ofString nm) = some u ∧ RelV v u ∧ ∀ H, DV T H d v
  | .flt nm => mg (Str.ofString nm) = some (.ref T.flt)
  | .iso nm c => mg (Str.ofString nm) = some (.ref (T.obj c)) ∧ ∀ e ∈ T.objs, IsoC K (T.obj e) ∧ PySem.W.kitOne K (.ref (T.obj e)) (.ref (T.obj c)) = some (e == c)
  | .isw nm => ∃ aw, mg (Str.ofString nm) = some (.ref aw) ∧ ∀ e ∈ T.objs, IsoC K (T.obj e) ∧ PySem.W.kitOne K (.ref (T.obj e)) (.ref aw) = some true
  | .cls nm c => mg (Str.ofString nm) = some (.ref (T.obj c)) ∧ c ∈ T.objs ∧ Mk0 K (T.obj c)
  | .meth m tbl => ∀ c ∈ T.objs, ∃ f fd ps, Cls K (T.obj c) ∧ Meth K (T.obj c) (Str.ofString m) f ∧ FnOk P w K mg base (L2.CX P w) k f fd ps (spF T (tbl c)) ∧ Binds K fd ps []
theorem clNeed_imp {Φ Ψ : Need → Prop} (h : ∀ n, Φ n → Ψ n) (c : Cl) (o : clNeed Φ c) : clNeed Ψ c := by
  cases c <;> exact h _ o
mutual
theorem okE_imp {Φ Ψ : Need → Prop} (h : ∀ n, Φ n → Ψ n) : ∀ m : E, okE Φ m → okE Ψ m
  | .var _, _ => trivial
  | .int _, _ => trivial
  | .bl _, _ => trivial
  | .non, _ => trivial
  | .dic, _ => trivial
  | .str _, _ => trivial
  | .glo _ _, o => h _ o
  | .bin _ a b, o => ⟨okE_imp h a o.1, okE_imp h b o.2⟩
  | .neg a, o => okE_imp h a o
  | .cmp _ a b, o => ⟨okE_imp h a o.1, okE_imp h b o.2⟩
  | .chn _ _ a b c, o => ⟨okE_imp h a o.1, okE_imp h b o.2.1, okE_imp h c o.2.2⟩
  | .chn3 _ _ _ a b c d, o => ⟨okE_imp h a o.1, okE_imp h b o.2.1, okE_imp h c o.2.2.1, okE_imp h d o.2.2.2⟩
  | .and a b, o => ⟨okE_imp h a o.1, okE_imp h b o.2⟩
  | .or a b, o => ⟨okE_imp h a o.1, okE_imp h b o.2⟩
  | .not a, o => okE_imp h a o
  | .ite _ _ _, _ => trivial
  | .tup es, o => okEs_imp h es o
  | .lst es, o => okEs_imp h es o
  | .ix a b, o => ⟨okE_imp h a o.1, okE_imp h b o.2⟩
  | .slcL a b, o => ⟨okE_imp h a o.1, okE_imp h b o.2⟩
  | .slcH a b, o => ⟨okE_imp h a o.1, okE_imp h b o.2⟩
  | .slc a b c, o => ⟨okE_imp h a o.1, okE_imp h b o.2.1, okE_imp h c o.2.2⟩
  | .call _ _ es _, o => ⟨h _ o.1, okEs_imp h es o.2⟩
  | .f1 _ a, o => ⟨h _ o.1, okE_imp h a o.2⟩
  | .f2 _ a b, o => ⟨h _ o.1, okE_imp h a o.2.1, okE_imp h b o.2.2⟩
  | .m0 _ a, o => okE_imp h a o
  | .tm _ a b, o => ⟨okE_imp h a o.1, okE_imp h b o.2⟩
  | .isi a c, o => ⟨h _ o.1, clNeed_imp h c o.2.1, okE_imp h a o.2.2⟩
  | .lc _ el src, o => ⟨okE_imp h el o.1, okSrc_imp h src o.2⟩
  | .lcP _ _ el src, o => ⟨okE_imp h el o.1, okSrc_imp h src o.2⟩
  | .lcf _ el src c, o => ⟨okE_imp h el o.1, okSrc_imp h src o.2.1, okE_imp h c o.2.2⟩
  | .mk _ _, o => h _ o
  | .meth _ _ a es, o => ⟨h _ o.1, okE_imp h a o.2.1, okEs_imp h es o.2.2⟩
  | .oix _ b, o => okE_imp h b o
  | .onz _, _ => trivial
  | .olen _, o => h _ o
theorem okEs_imp {Φ Ψ : Need → Prop} (h : ∀ n, Φ n → Ψ n) : ∀ m : Es, okEs Φ m → okEs Ψ m
  | .nil, _ => trivial
  | .cons a r, o => ⟨okE_imp h a o.1, okEs_imp h r o.2⟩
theorem okSrc_imp {Φ Ψ : Need → Prop} (h : ∀ n, Φ n → Ψ n) : ∀ m : Src, okSrc Φ m → okSrc Ψ m
  | .e a, o => okE_imp h a o
  | .rng1 a, o => ⟨h _ o.1, okE_imp h a o.2⟩
  | .rng2 a b, o => ⟨h _ o.1, okE_imp h a o.2.1, okE_imp h b o.2.2⟩
  | .rng3 a b c, o => ⟨h _ o.1, okE_imp h a o.2.1, okE_imp h b o.2.2.1, okE_imp h c o.2.2.2⟩
  | .zip a b, o => ⟨h _ o.1, okE_imp h a o.2.1, okE_imp h b o.2.2⟩
end
mutual
theorem okS_imp {Φ Ψ : Need → Prop} (h : ∀ n, Φ n → Ψ n) : ∀ m : S, okS Φ m → okS Ψ m
  | .asg _ e, o => okE_imp h e o
  | .asgN _ e, o => okE_imp h e o
  | .asgT _ e, o => okE_imp h e o
  | .frz _, _ => trivial
  | .app _ e, o => okE_imp h e o
  | .sti _ a b, o => ⟨okE_imp h a o.1, okE_imp h b o.2⟩
  | .ins _ a b, o => ⟨okE_imp h a o.1, okE_imp h b o.2⟩
  | .ifs c a b, o => ⟨okE_imp h c o.1, okSs_imp h a o.2.1, okSs_imp h b o.2.2⟩
  | .fors _ src b, o => ⟨okSrc_imp h src o.1, okSs_imp h b o.2⟩
  | .forT _ src b, o => ⟨okSrc_imp h src o.1, okSs_imp h b o.2⟩
  | .whl c b, o => ⟨okE_imp h c o.1, okSs_imp h b o.2⟩
  | .ret e, o => okE_imp h e o
  | .rse _ _, o => h _ o
  | .drp e, o => okE_imp h e o
  | .pas, _ => trivial
  | .tryx b _ _ _, o => ⟨okSs_imp h b o.1, h _ o.2⟩
  | .tryk b _ _ _ c1 c2 c3, o => ⟨okSs_imp h b o.1, h _ o.2.1, h _ o.2.2.1, clNeed_imp h c1 o.2.2.2.1, clNeed_imp h c2 o.2.2.2.2.1, clNeed_imp h c3 o.2.2.2.2.2⟩
theorem okSs_imp {Φ Ψ : Need → Prop} (h : ∀ n, Φ n → Ψ n) : ∀ m : Ss, okSs Φ m → okSs Ψ m
  | .nil, _ => trivial
  | .cons s r, o => ⟨okS_imp h s o.1, okSs_imp h r o.2⟩
end
/-- THE RULE for a def: its text passes the look, what it leans on is there: it comes to run n np b -/
theorem def_ok {x qual : Str} {st : Stmt} {f : Addr} {fd : FuncData} {N ps : List Str} {k np : Nat} {b : Ss} (hF : ∃ (oc : Value) (od : Option Addr) (dV kV doc pm : Value) (an : Option Addr) (cdv ct : Value) (osl : Array (Option Value)),
    fd = PySem.W.fnOf x qual (defArgs st) (defBody st) (defScope st) dV kV doc pm an cdv ct ∧ K.lookup f = some ⟨oc, od, .func fd, osl⟩ ∧ PySem.W.codeIn K cdv qual = true)
    (S : FnScope N ps (defScope st)) (C : Facts K T) (hc : chkSs N (defScope st) b (defBody st) = true) (hps : ps.length = np) (ok : okSs (Need.At P w K mg base T k) b) : FnOk P w K mg base (L2.CX P w) (k + 1) f fd ps (spF T (run N.length np b)) := by
  obtain ⟨oc, od, dV, kV, doc, pm, an, cdv, ct, osl, rfl, lk, hcd⟩ := hF
  have pl : ps.length ≤ N.length := by have := congrArg List.length S.pre; rw [List.length_take] at this; omega
  refine fn_of lk hcd S (fun vs H Q E h => ?_) (fun A outer s H vs Q E hr h => ?_)
  · obtain ⟨O, ds, l, r, m⟩ := h
    unfold run at m
    by_cases hl : ds.length = np
    · rw [← r.length, hl, hps]
    · rw [if_neg hl] at m
      exact False.elim m
  · obtain ⟨O, ds, l, r, m⟩ := h
    unfold run at m
    have hl : ds.length = np := by
      by_cases hl : ds.length = np
      · exact hl
      · rw [if_neg hl] at m
        exact False.elim m
    rw [if_pos hl] at m
    generalize hX : cxOf (L2.CX P w) P w K mg base N qual (defScope st) f cdv A outer s H E = X at *
    have xA : X.A = A.deeper (envOfC qual (defScope st) s.heap.objs.size f cdv) := by rw [← hX]; rfl
    have W0 : Takes X (fun cls d _ H => E cls d H) := by
      rw [← hX]
      exact takes_of rfl rfl rfl rfl
    have At0 : AtS X T (fun cls d _ H => E cls d H) N (defScope st) := by
      refine ⟨⟨⟨?_, ?_, ?_, ?_, ?_, ?_, ?_, ?_, ?_, ?_⟩, ?_, S.nd, ?_, W0⟩, ?_, ?_, ?_, ?_, ?_, S.kind⟩
      · rw [← hX]; exact C.hK
      · rw [← hX]; rfl
      · rw [xA]
        have := hr.un
        omega
      · rw [← hX]; exact C.exT
      · rw [← hX]; exact C.exI
      · rw [← hX]; exact C.exV
      · rw [← hX]; exact C.exN
      · rw [← hX]; exact C.exF
      · rw [← hX]; exact C.exM
      · rw [← hX]; exact C.dig
      · rw [← hX]; rfl
      · rw [← hX]; rfl
      · rw [← hX]; exact fun _ => rfl
      · rw [← hX]; exact passes_of (K := fun e s' => L2.CX P w outer H s E e s') (E₁ := fun e s' => L2.CX P w outer H s E e s') rfl
      · rw [← hX]; rfl
      · rw [← hX]; rfl
      · rw [← hX]; rfl
    have holds : okSs (Holds X T) b := by
      refine okSs_imp (fun n hn => ?_) b ok
      cases n with
      | fn nm f df =>
        obtain ⟨fa, fd, ps, dvs, ds, h1, h2, h3, h4, h5, h6⟩ := hn
        refine ⟨k, fa, fd, ps, dvs, ds, ?_, ?_, ?_, ?_, ?_, h5, h6⟩
        · rw [xA]; exact hr
        · rw [← hX]; exact h1
        · rw [← hX]; exact h2
        · rw [← hX]; exact h3
        · rw [← hX]; exact h4
      | exc nm c => exact ⟨by rw [← hX]; exact hn.1, hn.2⟩
      | blt nm => show X.mg _ = none; rw [← hX]; exact hn
      | glo nm d =>
        obtain ⟨v, u, h1, h2, h3⟩ := hn
        exact ⟨v, u, by rw [← hX]; exact h1, h2, h3⟩
      | flt nm => show X.mg _ = _; rw [← hX]; exact hn
      | cls nm c => rw [← hX]; exact hn
      | iso nm c => rw [← hX]; exact hn
      | isw nm => rw [← hX]; exact hn
      | meth m tbl =>
        intro c hc
        obtain ⟨f, fd, ps, h1, h2, h3, h4⟩ := hn c hc
        exact ⟨k, f, fd, ps, by rw [xA]; exact hr, by rw [← hX]; exact h1, by rw [← hX]; exact h2, by rw [← hX]; exact h3, by rw [← hX]; exact h4⟩
    refine ⟨_, soundSs b _ At0 hc holds, ⟨H, O, []⟩, ds.map .dat ++ List.replicate (N.length - np) .un, ⟨O, ?_⟩, ?_⟩
    · rw [← hl]
      exact start_read r l N.length N rfl (by omega)
    · cases ev : evSs b (ds.map .dat ++ List.replicate (N.length - np) .un) with
      | nxt ρ' =>
        rw [ev] at m
        exact fun σ' H' ⟨O', r'⟩ => m .non H' r'.ex .non
      | ret d =>
        rw [ev] at m
        exact fun v H' e dv => m v H' e dv
      | ex c ρ' =>
        rw [ev] at m
        exact fun σ' H' ⟨O', r'⟩ hc => m H' r'.ex hc
      | no => rw [ev] at m; exact False.elim m
end
end MP

set_option Elab.async false
set_option linter.all false
set_option maxRecDepth 100000
set_option maxHeartbeats 4000000
set_option autoImplicit false
/-! MPK: the ends: a def under its name, the law's promise, the row. -/
namespace MP
open PySem L2
open PyProof.Rows hiding St
/-- a def without defaults, as def_ok wants it -/
theorem fun_ex {K : PySem.W.Frag} {x qual : Str} {st : Stmt} {f : Addr} {fd : FuncData} (F : Fun K x qual st f fd) : ∃ (oc : Value) (od : Option Addr) (dV kV doc pm : Value) (an : Option Addr) (cdv ct : Value) (osl : Array (Option Value)),
    fd = PySem.W.fnOf x qual (defArgs st) (defBody st) (defScope st) dV kV doc pm an cdv ct ∧ K.lookup f = some ⟨oc, od, .func fd, osl⟩ ∧ PySem.W.codeIn K cdv qual = true := by
  obtain ⟨oc, od, kV, doc, pm, an, cdv, ct, osl, h⟩ := F.ex
  exact ⟨oc, od, .none, kV, doc, pm, an, cdv, ct, osl, h⟩
section
variable {P : Program} {w : World} {K : PySem.W.Frag} {mg : Str → Option Value} {base : Heap} {T : Tab}
/-- a def's call, kept for levels above -/
theorem At_mono {j k : Nat} {n : Need} (h : Need.At P w K mg base T j n) (le : j ≤ k) : Need.At P w K mg base T k n := by
  cases n with
  | fn nm f df =>
    obtain ⟨fa, fd, ps, dvs, ds, h1, h2, h3, h4⟩ := h
    exact ⟨fa, fd, ps, dvs, ds, h1, h2, h3.mono le, h4⟩
  | exc nm c => exact h
  | blt nm => exact h
  | glo nm d => exact h
  | flt nm => exact h
  | iso nm c => exact h
  | isw nm => exact h
  | cls nm c => exact h
  | meth m tbl => exact fun c hc => let ⟨f, fd, ps, h1, h2, h3, h4⟩ := h c hc; ⟨f, fd, ps, h1, h2, h3.mono le, h4⟩
/-- a def without defaults, under its name -/
theorem at_fn {nm : String} {st : Stmt} {fa : Addr} {N ps : List Str} {k np : Nat} {b : Ss} {f : List D → R D} {oc : Value} {od an : Option Addr} {osl : Array (Option Value)} {kV doc pm cdv ct : Value}
    (hm : mg (Str.ofString nm) = some (.ref fa)) (hk : PySem.W.keepIn K (.ref fa) = true)
    (l : K.lookup fa = some ⟨oc, od, .func (PySem.W.fnOf (Str.ofString nm) (Str.ofString nm) (defArgs st) (defBody st) (defScope st) .none kV doc pm an cdv ct), osl⟩) (c : PySem.W.codeIn K cdv (Str.ofString nm) = true)
    (S : FnScope N ps (defScope st)) (C : Facts K T) (hc : chkSs N (defScope st) b (defBody st) = true) (hps : ps.length = np)
    (bd : ∀ (kV doc pm : Value) (an : Option Addr) (cdv ct : Value) (us : List Value), us.length = ps.length → bindArgs (PySem.W.fnOf (Str.ofString nm) (Str.ofString nm) (defArgs st) (defBody st) (defScope st) .none kV doc pm an cdv ct) ⟨us, []⟩ = pure (ps.zip us))
    (hf : f = run N.length np b) (ok : okSs (Need.At P w K mg base T k) b) : Need.At P w K mg base T (k + 1) (.fn nm f []) := by
  subst hf
  have F := fun_mk (st := st) l c hk
  exact ⟨fa, _, ps, [], [], hm, hk, def_ok (np := np) (fun_ex F) S C hc hps ok, F.binds bd, .nil, fun _ => .nil⟩
/-- a def with defaults, under its name: n values are written, the defaults behind the first j fill up -/
theorem at_fnD {nm : String} {st : Stmt} {fa dT : Addr} {N ps : List Str} {k np n j : Nat} {b : Ss} {f : List D → R D} {oc dc : Value} {od an dd : Option Addr} {osl dsl : Array (Option Value)} {kV doc pm cdv ct : Value} {its : List Value} {dn : Nat} {dvs : List V} {df : List D}
    (hm : mg (Str.ofString nm) = some (.ref fa)) (hk : PySem.W.keepIn K (.ref fa) = true)
    (l : K.lookup fa = some ⟨oc, od, .func (PySem.W.fnOf (Str.ofString nm) (Str.ofString nm) (defArgs st) (defBody st) (defScope st) (.ref dT) kV doc pm an cdv ct), osl⟩) (q : K.lookup dT = some ⟨dc, dd, .seq its.toArray dn, dsl⟩) (c : PySem.W.codeIn K cdv (Str.ofString nm) = true)
    (S : FnScope N ps (defScope st)) (C : Facts K T) (hc : chkSs N (defScope st) b (defBody st) = true) (hps : ps.length = np) (rv : Vals dvs its) (hd : dvs ≠ []) (hn : n + (dvs.length - j) = ps.length)
    (bd : ∀ (T : Addr) (kV doc pm : Value) (an : Option Addr) (cdv ct : Value) (us its : List Value), us.length = n → its.length = dvs.length →
      ∃ k, bindArgs (PySem.W.fnOf (Str.ofString nm) (Str.ofString nm) (defArgs st) (defBody st) (defScope st) (.ref T) kV doc pm an cdv ct) ⟨us, []⟩ = seqItems? (.ref T) >>= k ∧ k (some its.toArray) = pure (ps.zip (us ++ its.drop j)))
    (dv : ∀ H, DVs T H df (dvs.drop j)) (hf : f = run N.length np b) (ok : okSs (Need.At P w K mg base T k) b) : Need.At P w K mg base T (k + 1) (.fn nm f df) := by
  subst hf
  have F : FunD K (Str.ofString nm) (Str.ofString nm) (defArgs st) (defBody st) (defScope st) dvs [] fa _ := ⟨⟨oc, od, .ref dT, kV, doc, pm, an, cdv, ct, osl, rfl, l, c, .inr ⟨hd, dT, _, its, dn, rfl, q, rfl, rv⟩, .inl rfl⟩, hk⟩
  obtain ⟨ds, r1, r2⟩ := F.binds1 n j hd hn bd
  exact ⟨fa, _, ps, _, ds, hm, hk, def_ok (np := np) ⟨oc, od, .ref dT, kV, doc, pm, an, cdv, ct, osl, rfl, l, c⟩ S C hc hps ok, r2, r1, dv⟩
/-- a method -/
theorem meth_fn {x qual : Str} {st : Stmt} {fa : Addr} {N ps : List Str} {k np : Nat} {b : Ss} {f : List D → R D} {oc : Value} {od an : Option Addr} {osl : Array (Option Value)} {kV doc pm cdv ct : Value}
    (hk : PySem.W.keepIn K (.ref fa) = true) (l : K.lookup fa = some ⟨oc, od, .func (PySem.W.fnOf x qual (defArgs st) (defBody st) (defScope st) .none kV doc pm an cdv ct), osl⟩) (c : PySem.W.codeIn K cdv qual = true)
    (S : FnScope N ps (defScope st)) (C : Facts K T) (hc : chkSs N (defScope st) b (defBody st) = true) (hps : ps.length = np)
    (bd : ∀ (kV doc pm : Value) (an : Option Addr) (cdv ct : Value) (us : List Value), us.length = ps.length → bindArgs (PySem.W.fnOf x qual (defArgs st) (defBody st) (defScope st) .none kV doc pm an cdv ct) ⟨us, []⟩ = pure (ps.zip us))
    (hf : f = run N.length np b) (ok : okSs (Need.At P w K mg base T k) b) : ∃ fd, FnOk P w K mg base (L2.CX P w) (k + 1) fa fd ps (spF T f) ∧ Binds K fd ps [] := by
  subst hf
  have F := fun_mk (st := st) l c hk
  exact ⟨_, def_ok (np := np) (fun_ex F) S C hc hps ok, F.binds bd⟩
theorem dv_str {T : Tab} {H : Hp} {x : Str} {l : List Nat} (h : x.cps.toList = l) : DV T H (.str l) (.str x) := by
  subst h
  exact .str x
/-- the law's promise -/
def spL (K : PySem.W.Frag) : Sp := fun vs H Q _ => ∃ (a : Addr) (ns : List Int), vs = [.ref a] ∧ SqL K H a (ns.map V.int) ∧ ns.length ≤ 63 ∧ (∀ z ∈ ns, Builtin.Int.intBits z ≤ 1048576) ∧ ∀ H', Q (.bl true) H'
theorem dv_ints {H : Hp} : ∀ ns : List Int, DVs T H (ns.map .int) (ns.map .int)
  | [] => .nil
  | n :: r => .cons (.int n) (dv_ints r)
/-- what a law's run on every script promises -/
def LawOk (f : List D → R D) : Prop := ∀ ns : List Int, ns.length ≤ 63 → (∀ z ∈ ns, Builtin.Int.intBits z ≤ 1048576) → f [.lst (ns.map .int)] = .ok (.bl true)
theorem hide_nil {H : Hp} : hide [] H = H := by
  funext b
  exact if_neg (by simp)
theorem law_fn {x : Str} {st : Stmt} {fa : Addr} {fd : FuncData} {N ps : List Str} {k np : Nat} {b : Ss} {f : List D → R D}
    (hF : Fun K x x st fa fd) (S : FnScope N ps (defScope st)) (C : Facts K T) (hc : chkSs N (defScope st) b (defBody st) = true) (hps : ps.length = np)
    (hf : f = run N.length np b) (hl : LawOk f) (ok : okSs (Need.At P w K mg base T k) b) : FnOk P w K mg base (L2.CX P w) (k + 1) fa fd ps (spL K) := by
  subst hf
  refine (def_ok (np := np) (fun_ex hF) S C hc hps ok).imp fun vs H Q E h => ?_
  obtain ⟨a, ns, rfl, hS, h1, h2, hq⟩ := h
  refine ⟨[], [.lst (ns.map .int)], (fun a ha => by cases ha), ?_, ?_⟩
  · rw [hide_nil]
    refine .cons (.lst ?_ (dv_ints ns)) .nil
    rw [← C.hK]
    exact hS
  · rw [hl ns h1 h2]
    intro v H' _ dv
    cases dv
    exact hq H'
end
theorem kit_s {K : PySem.W.Frag} {t : Value} : PySem.W.kitOne K t t = some true := by
  unfold PySem.W.kitOne
  rw [if_pos (by simp)]
theorem kit_r {K : PySem.W.Frag} {t : Value} {S : Addr} {b : Bool} (h2 : PySem.W.isClsIn K S = true) (h3 : PySem.W.typeIn K (.ref S) = some (.type "type")) (h4 : PySem.W.subIn K t (.ref S) = some b) (ne : (t == Value.ref S) = false := by rfl) : PySem.W.kitOne K t (.ref S) = some b := by
  have e2 : ((PySem.W.clsIn K S).isSome && PySem.W.typeIn K (.ref S) == some (.type "type")) = true := by
    have h2' : (PySem.W.clsIn K S).isSome = true := h2
    rw [h2', h3] <;> rfl
  unfold PySem.W.kitOne
  rw [if_neg (by rw [ne]; exact Bool.false_ne_true)]
  exact (if_pos e2).trans h4
theorem kit_p {K : PySem.W.Frag} {A S : Addr} (h2 : PySem.W.isClsIn K S = true) (h3 : PySem.W.typeIn K (.ref S) = some (.type "type")) (h4 : PySem.W.subIn K (.ref A) (.ref S) = some false) (h5 : PySem.W.subIn K (.ref S) (.ref S) = some true) : PySem.W.kitOne K (.ref A) (.ref S) = some false := by
  refine kit_r h2 h3 h4 ?_
  have ne : A ≠ S := fun e => by
    rw [e, h5] at h4
    cases h4
  exact beq_eq_false_iff_ne.mpr fun e => by cases e; exact ne rfl
theorem kit_t {K : PySem.W.Frag} {S : Addr} (h : PySem.W.subIn K (.ref S) (.type "ValueError") = some true) : PySem.W.kitOne K (.ref S) (.type "ValueError") = some true := by
  unfold PySem.W.kitOne
  rw [if_neg (by rw [show (Value.ref S == Value.type "ValueError") = false from rfl]; exact Bool.false_ne_true)]
  have e : PySem.W.kitMeta "ValueError" = true := by decide +kernel
  show (if PySem.W.kitMeta "ValueError" = true then PySem.W.subIn K (.ref S) (.type "ValueError") else none) = some true
  rw [if_pos e]
  exact h
theorem exm_r {K : PySem.W.Frag} {t : Value} {S : Addr} {b : Bool} (h1 : PySem.W.subIn K (.ref S) (.type "BaseException") = some true) (h2 : PySem.W.isClsIn K S = true) (h3 : PySem.W.typeIn K (.ref S) = some (.type "type")) (h4 : PySem.W.subIn K t (.ref S) = some b) : PySem.W.exmOne K t (.ref S) = some b := by
  have e1 : (PySem.W.subIn K (.ref S) (.type "BaseException") == some true) = true := by rw [h1] <;> rfl
  have e2 : ((PySem.W.clsIn K S).isSome && PySem.W.typeIn K (.ref S) == some (.type "type")) = true := by
    have h2' : (PySem.W.clsIn K S).isSome = true := h2
    rw [h2', h3] <;> rfl
  exact (if_pos e1).trans ((if_pos e2).trans h4)
theorem walk_mp {l : PySem.W.OpenLaw} {q : Program} {loose : List Str} {XP : (Str → Option Value) → Heap → Prop} {YP : World → Heap → Prop} {d : DefRec} {K : Params → PySem.W.Frag} {x : Str} {k : Nat}
    (hn : l.most = some 63) (hdf : d.params.defaults = []) (hr : Room k callerA) (hY : ∀ (w : World) (h : Heap), YP w h → (K w.params).In h)
    (F : ∀ (w : World) (mg : Str → Option Value) (fa : Addr) (h : Heap), (K w.params).In h → h.Ns mainGlobals mg → mg d.name = some (.ref fa) →
      ∃ fd : FuncData, (∀ (s : Shared) (u : Value), BindsTo s fd ⟨[u], []⟩ [(x, u)]) ∧ ∀ base : Heap, (K w.params).In base → base.Ns mainGlobals mg → FnOk l.prog w (K w.params) mg base (L2.CX l.prog w) k fa fd [x] (spL (K w.params))) :
    PySem.W.WalkO q loose XP YP l.row.toRowW d [] (fun f vs => PySem.call f vs) :=
  L2.walk_ofB (n := 63) (k := k) (x := x) (CX := fun w => L2.CX l.prog w) (sp := fun w => spL (K w.params)) hn (by decide) hdf hr hY F (fun w H a ns hl hb _ hS => ⟨a, ns, rfl, hS, hl, hb, fun _ => rfl⟩)
    fun w H s e s' h => by
      obtain ⟨_, _, _, _, _, _, _, _, _, _, _, _, z⟩ := h
      exact z.elim
end MP

namespace MP
def G.b_wide_14 : Ss := (.cons (.asg 1 (.bin .mod (.bin .mul (.var 0) (.int 48271)) (.int 999983)))
  (.cons (.ifs (.cmp .eq (.bin .mod (.var 1) (.int 2)) (.int 1)) (.cons (.ret (.tup (.cons (.bin .add (.int 2) (.bin .mod (.bin .fdiv (.var 1) (.int 2)) (.int 3))) (.cons (.bin .add (.int 1) (.bin .mod (.bin .fdiv (.var 1) (.int 6)) (.int 4))) .nil))))
  .nil) .nil)
  (.cons (.ret (.tup (.cons (.bin .add (.int 2) (.bin .mod (.bin .fdiv (.var 1) (.int 2)) (.int 10))) (.cons (.bin .add (.int 1) (.bin .mod (.bin .fdiv (.var 1) (.int 20)) (.int 60))) .nil))))
  .nil)))
def G.wide_14 (a : List D) : R D := run 2 1 G.b_wide_14 a

def G.b_cell_at_01 : Ss := (.cons (.ifs (.cmp .lt (.var 1) (.f1 .len (.var 0))) (.cons (.ret (.ix (.var 0) (.var 1)))
  .nil) .nil)
  (.cons (.ret (.int 0))
  .nil))
def G.cell_at_01 (a : List D) : R D := run 2 2 G.b_cell_at_01 a

def F.b_is_whole : Ss := (.cons (.ret (.and (.isi (.var 0) .int) (.not (.isi (.var 0) .bool))))
  .nil)
def F.is_whole (a : List D) : R D := run 1 1 F.b_is_whole a

def F.b_width_of : Ss := (.cons (.ifs (.or (.not (.call "is_whole" F.is_whole (.cons (.var 0) .nil) [])) (.not (.call "is_whole" F.is_whole (.cons (.var 1) .nil) []))) (.cons (.rse "NoWidth" 0)
  .nil) .nil)
  (.cons (.ifs (.or (.cmp .lt (.var 0) (.int 2)) (.or (.cmp .gt (.var 0) (.int 11)) (.or (.cmp .lt (.var 1) (.int 1)) (.cmp .gt (.var 1) (.int 60))))) (.cons (.rse "NoWidth" 0)
  .nil) .nil)
  (.cons (.ret (.tup (.cons (.var 0) (.cons (.var 1) .nil))))
  .nil)))
def F.width_of (a : List D) : R D := run 2 2 F.b_width_of a

def F.b_many_words : Ss := (.cons (.ret (.bin .shl (.int 1) (.bin .add (.bin .add (.int 1) (.ix (.var 0) (.int 0))) (.ix (.var 0) (.int 1)))))
  .nil)
def F.many_words (a : List D) : R D := run 1 1 F.b_many_words a

def F.b_asked_word : Ss := (.cons (.ifs (.or (.not (.call "is_whole" F.is_whole (.cons (.var 1) .nil) [])) (.or (.cmp .lt (.var 1) (.int 0)) (.cmp .ge (.var 1) (.call "many_words" F.many_words (.cons (.var 0) .nil) [])))) (.cons (.rse "NoWord" 1)
  .nil) .nil)
  (.cons (.ret (.var 1))
  .nil))
def F.asked_word (a : List D) : R D := run 2 2 F.b_asked_word a

def F.b_last_exponent : Ss := (.cons (.ret (.bin .sub (.bin .shl (.int 1) (.ix (.var 0) (.int 0))) (.int 1)))
  .nil)
def F.last_exponent (a : List D) : R D := run 1 1 F.b_last_exponent a

def F.b_cut : Ss := (.cons (.drp (.call "asked_word" F.asked_word (.cons (.var 0) (.cons (.var 1) .nil)) []))
  (.cons (.asg 2 (.bin .shr (.var 1) (.bin .add (.ix (.var 0) (.int 0)) (.ix (.var 0) (.int 1)))))
  (.cons (.asg 3 (.bin .and (.bin .shr (.var 1) (.ix (.var 0) (.int 1))) (.call "last_exponent" F.last_exponent (.cons (.var 0) .nil) [])))
  (.cons (.ret (.tup (.cons (.var 2) (.cons (.var 3) (.cons (.bin .and (.var 1) (.bin .sub (.bin .shl (.int 1) (.ix (.var 0) (.int 1))) (.int 1))) .nil)))))
  .nil))))
def F.cut (a : List D) : R D := run 4 2 F.b_cut a

def F.b_kind_of : Ss := (.cons (.asgT [2, 3, 4] (.call "cut" F.cut (.cons (.var 0) (.cons (.var 1) .nil)) []))
  (.cons (.ifs (.cmp .eq (.var 3) (.int 0)) (.cons (.ifs (.cmp .eq (.var 4) (.int 0)) (.cons (.ret (.str [110, 111, 117, 103, 104, 116]))
  .nil) .nil)
  (.cons (.ret (.str [115, 109, 97, 108, 108]))
  .nil)) .nil)
  (.cons (.ifs (.cmp .lt (.var 3) (.call "last_exponent" F.last_exponent (.cons (.var 0) .nil) [])) (.cons (.ret (.str [112, 108, 97, 105, 110]))
  .nil) .nil)
  (.cons (.ifs (.cmp .eq (.var 4) (.int 0)) (.cons (.ret (.str [101, 110, 100, 108, 101, 115, 115]))
  .nil) .nil)
  (.cons (.ifs (.cmp .eq (.bin .shr (.var 4) (.bin .sub (.ix (.var 0) (.int 1)) (.int 1))) (.int 1)) (.cons (.ret (.str [115, 116, 105, 108, 108]))
  .nil) .nil)
  (.cons (.ret (.str [108, 111, 117, 100]))
  .nil))))))
def F.kind_of (a : List D) : R D := run 5 2 F.b_kind_of a

def F.b_sign_bit : Ss := (.cons (.ret (.bin .shl (.int 1) (.bin .add (.ix (.var 0) (.int 0)) (.ix (.var 0) (.int 1)))))
  .nil)
def F.sign_bit (a : List D) : R D := run 1 1 F.b_sign_bit a

def F.b_minus_of : Ss := (.cons (.ifs (.cmp .ne (.bin .and (.var 1) (.call "sign_bit" F.sign_bit (.cons (.var 0) .nil) [])) (.int 0)) (.cons (.ret (.str [45]))
  .nil) .nil)
  (.cons (.ret (.str []))
  .nil))
def F.minus_of (a : List D) : R D := run 2 2 F.b_minus_of a

def F.b_exact : Ss := (.cons (.ifs (.cmp .eq (.var 0) (.int 0)) (.cons (.ret (.tup (.cons (.int 0) (.cons (.int 0) .nil))))
  .nil) .nil)
  (.cons (.asg 2 (.bin .sub (.m0 .bits (.bin .and (.var 0) (.bin .sub (.int 0) (.var 0)))) (.int 1)))
  (.cons (.ret (.tup (.cons (.bin .shr (.var 0) (.var 2)) (.cons (.bin .add (.var 1) (.var 2)) .nil))))
  .nil)))
def F.exact (a : List D) : R D := run 3 2 F.b_exact a

def F.b_bias_of : Ss := (.cons (.ret (.bin .sub (.bin .shl (.int 1) (.bin .sub (.ix (.var 0) (.int 0)) (.int 1))) (.int 1)))
  .nil)
def F.bias_of (a : List D) : R D := run 1 1 F.b_bias_of a

def F.b_least_power : Ss := (.cons (.ret (.bin .sub (.bin .sub (.int 1) (.call "bias_of" F.bias_of (.cons (.var 0) .nil) [])) (.ix (.var 0) (.int 1))))
  .nil)
def F.least_power (a : List D) : R D := run 1 1 F.b_least_power a

def F.b_value_of : Ss := (.cons (.asgT [2, 3, 4] (.call "cut" F.cut (.cons (.var 0) (.cons (.var 1) .nil)) []))
  (.cons (.ifs (.cmp .eq (.var 3) (.call "last_exponent" F.last_exponent (.cons (.var 0) .nil) [])) (.cons (.rse "NoNumber" 3)
  .nil) .nil)
  (.cons (.ifs (.cmp .gt (.var 3) (.int 0)) (.cons (.asg 4 (.bin .add (.var 4) (.bin .shl (.int 1) (.ix (.var 0) (.int 1)))))
  (.cons (.asg 3 (.bin .sub (.var 3) (.int 1)))
  .nil)) .nil)
  (.cons (.ifs (.cmp .eq (.var 2) (.int 1)) (.cons (.asg 4 (.bin .sub (.int 0) (.var 4)))
  .nil) .nil)
  (.cons (.ret (.call "exact" F.exact (.cons (.var 4) (.cons (.bin .add (.var 3) (.call "least_power" F.least_power (.cons (.var 0) .nil) [])) .nil)) []))
  .nil)))))
def F.value_of (a : List D) : R D := run 5 2 F.b_value_of a

def F.b_unsigned : Ss := (.cons (.ret (.bin .and (.call "asked_word" F.asked_word (.cons (.var 0) (.cons (.var 1) .nil)) []) (.bin .sub (.call "sign_bit" F.sign_bit (.cons (.var 0) .nil) []) (.int 1))))
  .nil)
def F.unsigned (a : List D) : R D := run 2 2 F.b_unsigned a

def F.b_base_to : Ss := (.cons (.asg 2 (.int 1))
  (.cons (.whl (.cmp .gt (.var 1) (.int 0)) (.cons (.ifs (.cmp .eq (.bin .mod (.var 1) (.int 2)) (.int 1)) (.cons (.asg 2 (.bin .mul (.var 2) (.var 0)))
  .nil) .nil)
  (.cons (.asg 0 (.bin .mul (.var 0) (.var 0)))
  (.cons (.asg 1 (.bin .fdiv (.var 1) (.int 2)))
  .nil))))
  (.cons (.ret (.var 2))
  .nil)))
def F.base_to (a : List D) : R D := run 3 2 F.b_base_to a

def F.b_figures_of : Ss := (.cons (.ifs (.cmp .ge (.var 1) (.int 0)) (.cons (.ret (.tup (.cons (.f1 .str (.bin .shl (.var 0) (.var 1))) (.cons (.int 0) .nil))))
  .nil) .nil)
  (.cons (.ret (.tup (.cons (.f1 .str (.bin .mul (.var 0) (.call "base_to" F.base_to (.cons (.int 5) (.cons (.bin .sub (.int 0) (.var 1)) .nil)) []))) (.cons (.bin .sub (.int 0) (.var 1)) .nil))))
  .nil))
def F.figures_of (a : List D) : R D := run 2 2 F.b_figures_of a

def F.b_exact_text : Ss := (.cons (.asg 2 (.call "kind_of" F.kind_of (.cons (.var 0) (.cons (.var 1) .nil)) []))
  (.cons (.ifs (.or (.cmp .eq (.var 2) (.str [115, 116, 105, 108, 108])) (.cmp .eq (.var 2) (.str [108, 111, 117, 100]))) (.cons (.ret (.str [110, 111, 110, 101]))
  .nil) .nil)
  (.cons (.ifs (.cmp .eq (.var 2) (.str [101, 110, 100, 108, 101, 115, 115])) (.cons (.ret (.bin .add (.call "minus_of" F.minus_of (.cons (.var 0) (.cons (.var 1) .nil)) []) (.str [101, 110, 100, 108, 101, 115, 115])))
  .nil) .nil)
  (.cons (.asgT [3, 4] (.call "value_of" F.value_of (.cons (.var 0) (.cons (.call "unsigned" F.unsigned (.cons (.var 0) (.cons (.var 1) .nil)) []) .nil)) []))
  (.cons (.asgT [5, 6] (.call "figures_of" F.figures_of (.cons (.var 3) (.cons (.var 4) .nil)) []))
  (.cons (.ifs (.cmp .eq (.var 6) (.int 0)) (.cons (.ret (.bin .add (.call "minus_of" F.minus_of (.cons (.var 0) (.cons (.var 1) .nil)) []) (.var 5)))
  .nil) .nil)
  (.cons (.asg 5 (.tm .zfill (.var 5) (.bin .add (.var 6) (.int 1))))
  (.cons (.ret (.bin .add (.bin .add (.bin .add (.call "minus_of" F.minus_of (.cons (.var 0) (.cons (.var 1) .nil)) []) (.slcH (.var 5) (.bin .sub (.f1 .len (.var 5)) (.var 6)))) (.str [46])) (.slcL (.var 5) (.bin .sub (.f1 .len (.var 5)) (.var 6)))))
  .nil))))))))
def F.exact_text (a : List D) : R D := run 7 2 F.b_exact_text a

def F.b_over_and_under : Ss := (.cons (.ifs (.cmp .lt (.var 1) (.int 0)) (.cons (.ret (.tup (.cons (.var 0) (.cons (.call "base_to" F.base_to (.cons (.int 10) (.cons (.bin .sub (.int 0) (.var 1)) .nil)) []) .nil))))
  .nil) .nil)
  (.cons (.ret (.tup (.cons (.bin .mul (.var 0) (.call "base_to" F.base_to (.cons (.int 10) (.cons (.var 1) .nil)) [])) (.cons (.int 1) .nil))))
  .nil))
def F.over_and_under (a : List D) : R D := run 2 2 F.b_over_and_under a

def F.b_way_of : Ss := (.cons (.ifs (.cmp .eq (.var 0) (.str [101, 118, 101, 110])) (.cons (.ret (.mk "Even" 0))
  .nil) .nil)
  (.cons (.ifs (.cmp .eq (.var 0) (.str [97, 119, 97, 121])) (.cons (.ret (.mk "Away" 1))
  .nil) .nil)
  (.cons (.ifs (.cmp .eq (.var 0) (.str [105, 110])) (.cons (.ret (.mk "Inward" 2))
  .nil) .nil)
  (.cons (.ifs (.cmp .eq (.var 0) (.str [117, 112])) (.cons (.ret (.mk "Upward" 3))
  .nil) .nil)
  (.cons (.ifs (.cmp .eq (.var 0) (.str [100, 111, 119, 110])) (.cons (.ret (.mk "Downward" 4))
  .nil) .nil)
  (.cons (.rse "NoWay" 2)
  .nil))))))
def F.way_of (a : List D) : R D := run 1 1 F.b_way_of a

def F.b_height_of : Ss := (.cons (.ifs (.cmp .eq (.var 0) (.int 0)) (.cons (.rse "NoNumber" 3)
  .nil) .nil)
  (.cons (.asg 3 (.f1 .abs (.var 0)))
  (.cons (.asg 4 (.bin .sub (.m0 .bits (.var 3)) (.m0 .bits (.var 2))))
  (.cons (.asg 5 (.f2 .min (.var 4) (.int 0)))
  (.cons (.ifs (.cmp .lt (.bin .shl (.var 3) (.bin .sub (.int 0) (.var 5))) (.bin .shl (.var 2) (.bin .sub (.var 4) (.var 5)))) (.cons (.asg 4 (.bin .sub (.var 4) (.int 1)))
  .nil) .nil)
  (.cons (.ret (.bin .add (.var 4) (.var 1)))
  .nil))))))
def F.height_of (a : List D) : R D := run 6 3 F.b_height_of a

def F.b_in_steps : Ss := (.cons (.asg 4 (.f2 .min (.var 1) (.var 3)))
  (.cons (.asg 5 (.bin .shl (.var 2) (.bin .sub (.var 3) (.var 4))))
  (.cons (.asgT [6, 7] (.f2 .divmod (.bin .shl (.f1 .abs (.var 0)) (.bin .sub (.var 1) (.var 4))) (.var 5)))
  (.cons (.ifs (.cmp .eq (.var 7) (.int 0)) (.cons (.ret (.tup (.cons (.var 6) (.cons (.int 0) .nil))))
  .nil) .nil)
  (.cons (.ifs (.cmp .lt (.bin .mul (.int 2) (.var 7)) (.var 5)) (.cons (.ret (.tup (.cons (.var 6) (.cons (.int 1) .nil))))
  .nil) .nil)
  (.cons (.ifs (.cmp .eq (.bin .mul (.int 2) (.var 7)) (.var 5)) (.cons (.ret (.tup (.cons (.var 6) (.cons (.int 2) .nil))))
  .nil) .nil)
  (.cons (.ret (.tup (.cons (.var 6) (.cons (.int 3) .nil))))
  .nil)))))))
def F.in_steps (a : List D) : R D := run 8 4 F.b_in_steps a

def F.b_Even_grows : Ss := (.cons (.ret (.or (.cmp .eq (.var 2) (.int 3)) (.and (.cmp .eq (.var 2) (.int 2)) (.var 1))))
  .nil)
def F.Even_grows (a : List D) : R D := run 4 4 F.b_Even_grows a

def F.b_Away_grows : Ss := (.cons (.ret (.cmp .ge (.var 2) (.int 2)))
  .nil)
def F.Away_grows (a : List D) : R D := run 4 4 F.b_Away_grows a

def F.b_Way_grows : Ss := (.cons (.ret (.bl false))
  .nil)
def F.Way_grows (a : List D) : R D := run 4 4 F.b_Way_grows a

def F.b_Upward_grows : Ss := (.cons (.ret (.not (.var 3)))
  .nil)
def F.Upward_grows (a : List D) : R D := run 4 4 F.b_Upward_grows a

def F.b_Downward_grows : Ss := (.cons (.ret (.var 3))
  .nil)
def F.Downward_grows (a : List D) : R D := run 4 4 F.b_Downward_grows a

def F.grows : Nat → List D → R D
  | 0 => F.Even_grows
  | 1 => F.Away_grows
  | 2 => F.Way_grows
  | 3 => F.Upward_grows
  | 4 => F.Downward_grows
  | _ => fun _ => .no

def F.b_is_part : Ss := (.cons (.ret (.and (.call "is_whole" F.is_whole (.cons (.var 0) .nil) []) (.and (.cmp .ge (.var 0) (.int 0)) (.cmp .lt (.var 0) (.var 1)))))
  .nil)
def F.is_part (a : List D) : R D := run 2 2 F.b_is_part a

def F.b_joined : Ss := (.cons (.ifs (.or (.not (.call "is_part" F.is_part (.cons (.var 1) (.cons (.int 2) .nil)) [])) (.or (.not (.call "is_part" F.is_part (.cons (.var 2) (.cons (.bin .shl (.int 1) (.ix (.var 0) (.int 0))) .nil)) [])) (.not (.call "is_part" F.is_part (.cons (.var 3) (.cons (.bin .shl (.int 1) (.ix (.var 0) (.int 1))) .nil)) [])))) (.cons (.rse "NoWord" 1)
  .nil) .nil)
  (.cons (.ret (.bin .or (.bin .or (.bin .shl (.var 1) (.bin .add (.ix (.var 0) (.int 0)) (.ix (.var 0) (.int 1)))) (.bin .shl (.var 2) (.ix (.var 0) (.int 1)))) (.var 3)))
  .nil))
def F.joined (a : List D) : R D := run 4 4 F.b_joined a

def F.b_endless_of : Ss := (.cons (.ret (.call "joined" F.joined (.cons (.var 0) (.cons (.f1 .int (.var 1)) (.cons (.call "last_exponent" F.last_exponent (.cons (.var 0) .nil) []) (.cons (.int 0) .nil)))) []))
  .nil)
def F.endless_of (a : List D) : R D := run 2 2 F.b_endless_of a

def F.b_with_sign : Ss := (.cons (.ifs (.var 2) (.cons (.ret (.bin .or (.var 1) (.call "sign_bit" F.sign_bit (.cons (.var 0) .nil) [])))
  .nil) .nil)
  (.cons (.ret (.var 1))
  .nil))
def F.with_sign (a : List D) : R D := run 3 3 F.b_with_sign a

def F.b_beyond : Ss := (.cons (.asg 3 (.call "endless_of" F.endless_of (.cons (.var 0) (.cons (.bl false) .nil)) []))
  (.cons (.ifs (.not (.meth "grows" F.grows (.var 1) (.cons (.bl true) (.cons (.int 3) (.cons (.var 2) .nil))))) (.cons (.asg 3 (.bin .sub (.var 3) (.int 1)))
  .nil) .nil)
  (.cons (.ret (.tup (.cons (.call "with_sign" F.with_sign (.cons (.var 0) (.cons (.var 3) (.cons (.var 2) .nil))) []) (.cons (.bin .or (.glo "GREAT" (.int 4)) (.glo "NEAR" (.int 16))) .nil))))
  .nil)))
def F.beyond (a : List D) : R D := run 4 3 F.b_beyond a

def F.b_due_marks : Ss := (.cons (.ifs (.cmp .eq (.var 1) (.int 0)) (.cons (.ret (.int 0))
  .nil) .nil)
  (.cons (.ifs (.cmp .lt (.var 2) (.bin .sub (.int 1) (.call "bias_of" F.bias_of (.cons (.var 0) .nil) []))) (.cons (.ret (.bin .or (.glo "SMALL" (.int 8)) (.glo "NEAR" (.int 16))))
  .nil) .nil)
  (.cons (.ret (.glo "NEAR" (.int 16)))
  .nil)))
def F.due_marks (a : List D) : R D := run 3 3 F.b_due_marks a

def F.b_taken : Ss := (.cons (.asg 5 (.call "way_of" F.way_of (.cons (.var 4) .nil) []))
  (.cons (.ifs (.cmp .eq (.var 1) (.int 0)) (.cons (.ret (.tup (.cons (.int 0) (.cons (.int 0) .nil))))
  .nil) .nil)
  (.cons (.asg 6 (.call "height_of" F.height_of (.cons (.var 1) (.cons (.var 2) (.cons (.var 3) .nil))) []))
  (.cons (.asg 7 (.call "least_power" F.least_power (.cons (.var 0) .nil) []))
  (.cons (.asg 8 (.f2 .max (.bin .sub (.var 6) (.ix (.var 0) (.int 1))) (.var 7)))
  (.cons (.asgT [9, 10] (.call "in_steps" F.in_steps (.cons (.var 1) (.cons (.var 2) (.cons (.var 3) (.cons (.var 8) .nil)))) []))
  (.cons (.ifs (.and (.cmp .gt (.var 10) (.int 0)) (.meth "grows" F.grows (.var 5) (.cons (.cmp .eq (.bin .mod (.var 9) (.int 2)) (.int 1)) (.cons (.var 10) (.cons (.cmp .lt (.var 1) (.int 0)) .nil))))) (.cons (.asg 9 (.bin .add (.var 9) (.int 1)))
  .nil) .nil)
  (.cons (.asg 11 (.bin .add (.bin .shl (.bin .sub (.var 8) (.var 7)) (.ix (.var 0) (.int 1))) (.var 9)))
  (.cons (.ifs (.cmp .ge (.var 11) (.call "endless_of" F.endless_of (.cons (.var 0) (.cons (.bl false) .nil)) [])) (.cons (.ret (.call "beyond" F.beyond (.cons (.var 0) (.cons (.var 5) (.cons (.cmp .lt (.var 1) (.int 0)) .nil))) []))
  .nil) .nil)
  (.cons (.ret (.tup (.cons (.call "with_sign" F.with_sign (.cons (.var 0) (.cons (.var 11) (.cons (.cmp .lt (.var 1) (.int 0)) .nil))) []) (.cons (.call "due_marks" F.due_marks (.cons (.var 0) (.cons (.var 10) (.cons (.var 6) .nil))) []) .nil))))
  .nil))))))))))
def F.taken (a : List D) : R D := run 12 5 F.b_taken a

def F.b_reads_to : Ss := (.cons (.asgT [4, 5] (.call "over_and_under" F.over_and_under (.cons (.var 2) (.cons (.var 3) .nil)) []))
  (.cons (.ret (.cmp .eq (.ix (.call "taken" F.taken (.cons (.var 0) (.cons (.var 4) (.cons (.int 0) (.cons (.var 5) .nil)))) [.str [101, 118, 101, 110]]) (.int 0)) (.var 1)))
  .nil))
def F.reads_to (a : List D) : R D := run 6 4 F.b_reads_to a

def F.b_fewest : Ss := (.cons (.asgT [2, 3] (.call "value_of" F.value_of (.cons (.var 0) (.cons (.var 1) .nil)) []))
  (.cons (.asgT [4, 5] (.call "figures_of" F.figures_of (.cons (.var 2) (.cons (.var 3) .nil)) []))
  (.cons (.asg 6 (.bin .sub (.bin .sub (.f1 .len (.var 4)) (.var 5)) (.int 1)))
  (.cons (.whl (.bl true) (.cons (.asgT [7, 8] (.call "over_and_under" F.over_and_under (.cons (.bin .shl (.var 2) (.f2 .max (.var 3) (.int 0))) (.cons (.bin .sub (.int 0) (.var 6)) .nil)) []))
  (.cons (.asg 8 (.bin .shl (.var 8) (.f2 .max (.bin .sub (.int 0) (.var 3)) (.int 0))))
  (.cons (.asgT [9, 10] (.f2 .divmod (.var 7) (.var 8)))
  (.cons (.asg 11 (.var 9))
  (.cons (.asg 12 (.bin .add (.var 9) (.int 1)))
  (.cons (.ifs (.cmp .gt (.bin .mul (.int 2) (.var 10)) (.var 8)) (.cons (.asg 11 (.bin .add (.var 9) (.int 1)))
  (.cons (.asg 12 (.var 9))
  .nil)) .nil)
  (.cons (.ifs (.call "reads_to" F.reads_to (.cons (.var 0) (.cons (.var 1) (.cons (.var 11) (.cons (.var 6) .nil)))) []) (.cons (.ret (.tup (.cons (.var 11) (.cons (.var 6) .nil))))
  .nil) .nil)
  (.cons (.ifs (.call "reads_to" F.reads_to (.cons (.var 0) (.cons (.var 1) (.cons (.var 12) (.cons (.var 6) .nil)))) []) (.cons (.ret (.tup (.cons (.var 12) (.cons (.var 6) .nil))))
  .nil) .nil)
  (.cons (.asg 6 (.bin .sub (.var 6) (.int 1)))
  .nil))))))))))
  .nil))))
def F.fewest (a : List D) : R D := run 13 2 F.b_fewest a

def F.b_shortest : Ss := (.cons (.asg 2 (.call "kind_of" F.kind_of (.cons (.var 0) (.cons (.var 1) .nil)) []))
  (.cons (.ifs (.and (.cmp .ne (.var 2) (.str [115, 109, 97, 108, 108])) (.cmp .ne (.var 2) (.str [112, 108, 97, 105, 110]))) (.cons (.ret (.call "exact_text" F.exact_text (.cons (.var 0) (.cons (.var 1) .nil)) []))
  .nil) .nil)
  (.cons (.asgT [3, 4] (.call "fewest" F.fewest (.cons (.var 0) (.cons (.call "unsigned" F.unsigned (.cons (.var 0) (.cons (.var 1) .nil)) []) .nil)) []))
  (.cons (.asg 5 (.f1 .str (.var 3)))
  (.cons (.asg 6 (.bin .sub (.bin .add (.var 4) (.f1 .len (.var 5))) (.int 1)))
  (.cons (.asg 5 (.tm .rstrip (.var 5) (.str [48])))
  (.cons (.asg 7 (.bin .add (.call "minus_of" F.minus_of (.cons (.var 0) (.cons (.var 1) .nil)) []) (.slcH (.var 5) (.int 1))))
  (.cons (.ifs (.cmp .gt (.f1 .len (.var 5)) (.int 1)) (.cons (.asg 7 (.bin .add (.bin .add (.var 7) (.str [46])) (.slcL (.var 5) (.int 1))))
  .nil) .nil)
  (.cons (.ret (.bin .add (.bin .add (.var 7) (.str [101])) (.f1 .str (.var 6))))
  .nil)))))))))
def F.shortest (a : List D) : R D := run 8 2 F.b_shortest a

def G.b_due_76 : Ss := (.cons (.asg 2 (.bin .shl (.int 1) (.bin .add (.ix (.var 0) (.int 0)) (.ix (.var 0) (.int 1)))))
  (.cons (.asg 3 (.bin .shl (.bin .sub (.bin .shl (.int 1) (.ix (.var 0) (.int 0))) (.int 1)) (.ix (.var 0) (.int 1))))
  (.cons (.ifs (.cmp .gt (.bin .mod (.var 1) (.var 2)) (.var 3)) (.cons (.ret (.str [110, 111, 110, 101]))
  .nil) .nil)
  (.cons (.ifs (.cmp .eq (.bin .mod (.var 1) (.var 2)) (.var 3)) (.cons (.ret (.ix (.lst (.cons (.str [101, 110, 100, 108, 101, 115, 115]) (.cons (.str [45, 101, 110, 100, 108, 101, 115, 115]) .nil))) (.bin .fdiv (.var 1) (.var 2))))
  .nil) .nil)
  (.cons (.ifs (.cmp .eq (.bin .mod (.var 1) (.var 2)) (.int 0)) (.cons (.ret (.ix (.lst (.cons (.str [48]) (.cons (.str [45, 48]) .nil))) (.bin .fdiv (.var 1) (.var 2))))
  .nil) .nil)
  (.cons (.ret (.str []))
  .nil))))))
def G.due_76 (a : List D) : R D := run 4 2 G.b_due_76 a

def F.b_none_of : Ss := (.cons (.ret (.call "joined" F.joined (.cons (.var 0) (.cons (.int 0) (.cons (.call "last_exponent" F.last_exponent (.cons (.var 0) .nil) []) (.cons (.bin .shl (.int 1) (.bin .sub (.ix (.var 0) (.int 1)) (.int 1))) .nil)))) []))
  .nil)
def F.none_of (a : List D) : R D := run 1 1 F.b_none_of a

def F.b_all_figures : Ss := (.cons (.fors 1 (.e (.var 0)) (.cons (.ifs (.cmp .nin (.var 1) (.glo "FIGURES" (.str [48, 49, 50, 51, 52, 53, 54, 55, 56, 57]))) (.cons (.ret (.bl false))
  .nil) .nil)
  .nil))
  (.cons (.ret (.cmp .ne (.var 0) (.str [])))
  .nil))
def F.all_figures (a : List D) : R D := run 2 1 F.b_all_figures a

def F.b_power_told : Ss := (.cons (.asg 1 (.var 0))
  (.cons (.ifs (.tm .startswith (.var 0) (.str [45])) (.cons (.asg 1 (.slcL (.var 0) (.int 1)))
  .nil) .nil)
  (.cons (.ifs (.or (.not (.call "all_figures" F.all_figures (.cons (.var 1) .nil) [])) (.cmp .gt (.f1 .len (.var 1)) (.int 3))) (.cons (.rse "NoText" 5)
  .nil) .nil)
  (.cons (.ifs (.tm .startswith (.var 0) (.str [45])) (.cons (.ret (.bin .sub (.int 0) (.f1 .int (.var 1))))
  .nil) .nil)
  (.cons (.ret (.f1 .int (.var 1)))
  .nil)))))
def F.power_told (a : List D) : R D := run 2 1 F.b_power_told a

def F.b_parts_of : Ss := (.cons (.ifs (.or (.not (.isi (.var 0) .str)) (.cmp .gt (.f1 .len (.var 0)) (.int 1200))) (.cons (.rse "NoText" 5)
  .nil) .nil)
  (.cons (.asg 1 (.tm .startswith (.var 0) (.str [45])))
  (.cons (.asg 2 (.var 0))
  (.cons (.ifs (.var 1) (.cons (.asg 2 (.slcL (.var 0) (.int 1)))
  .nil) .nil)
  (.cons (.asgT [3, 4, 5] (.tm .partition (.var 2) (.str [101])))
  (.cons (.asg 6 (.int 0))
  (.cons (.ifs (.cmp .eq (.var 4) (.str [101])) (.cons (.asg 6 (.call "power_told" F.power_told (.cons (.var 5) .nil) []))
  .nil) .nil)
  (.cons (.asgT [7, 8, 9] (.tm .partition (.var 3) (.str [46])))
  (.cons (.ifs (.or (.not (.call "all_figures" F.all_figures (.cons (.var 7) .nil) [])) (.and (.cmp .eq (.var 8) (.str [46])) (.not (.call "all_figures" F.all_figures (.cons (.var 9) .nil) [])))) (.cons (.rse "NoText" 5)
  .nil) .nil)
  (.cons (.ret (.tup (.cons (.var 1) (.cons (.f1 .int (.bin .add (.var 7) (.var 9))) (.cons (.bin .sub (.var 6) (.f1 .len (.var 9))) .nil)))))
  .nil))))))))))
def F.parts_of (a : List D) : R D := run 10 1 F.b_parts_of a

def F.b_read : Ss := (.cons (.ifs (.or (.cmp .eq (.var 1) (.str [110, 111, 110, 101])) (.or (.cmp .eq (.var 1) (.str [101, 110, 100, 108, 101, 115, 115])) (.cmp .eq (.var 1) (.str [45, 101, 110, 100, 108, 101, 115, 115])))) (.cons (.drp (.call "way_of" F.way_of (.cons (.var 2) .nil) []))
  (.cons (.ifs (.cmp .eq (.var 1) (.str [110, 111, 110, 101])) (.cons (.ret (.tup (.cons (.call "none_of" F.none_of (.cons (.var 0) .nil) []) (.cons (.int 0) .nil))))
  .nil) .nil)
  (.cons (.ret (.tup (.cons (.call "endless_of" F.endless_of (.cons (.var 0) (.cons (.cmp .eq (.var 1) (.str [45, 101, 110, 100, 108, 101, 115, 115])) .nil)) []) (.cons (.int 0) .nil))))
  .nil))) .nil)
  (.cons (.asgT [3, 4, 5] (.call "parts_of" F.parts_of (.cons (.var 1) .nil) []))
  (.cons (.ifs (.cmp .eq (.var 4) (.int 0)) (.cons (.drp (.call "way_of" F.way_of (.cons (.var 2) .nil) []))
  (.cons (.ret (.tup (.cons (.call "with_sign" F.with_sign (.cons (.var 0) (.cons (.int 0) (.cons (.var 3) .nil))) []) (.cons (.int 0) .nil))))
  .nil)) .nil)
  (.cons (.asgT [6, 7] (.call "over_and_under" F.over_and_under (.cons (.var 4) (.cons (.var 5) .nil)) []))
  (.cons (.ifs (.var 3) (.cons (.asg 6 (.bin .sub (.int 0) (.var 6)))
  .nil) .nil)
  (.cons (.ret (.call "taken" F.taken (.cons (.var 0) (.cons (.var 6) (.cons (.int 0) (.cons (.var 7) (.cons (.var 2) .nil))))) []))
  .nil))))))
def F.read (a : List D) : R D := run 8 3 F.b_read a

def G.b_all_figures_76 : Ss := (.cons (.fors 1 (.e (.var 0)) (.cons (.ifs (.cmp .nin (.var 1) (.str [48, 49, 50, 51, 52, 53, 54, 55, 56, 57])) (.cons (.ret (.bl false))
  .nil) .nil)
  .nil))
  (.cons (.ret (.and (.cmp .ne (.var 0) (.str [])) (.or (.cmp .eq (.var 0) (.str [48])) (.cmp .ne (.slcH (.var 0) (.int 1)) (.str [48])))))
  .nil))
def G.all_figures_76 (a : List D) : R D := run 2 1 G.b_all_figures_76 a

def G.b_parts_76 : Ss := (.cons (.asgT [1, 2, 3] (.tm .partition (.var 0) (.str [101])))
  (.cons (.asgT [4, 5, 6] (.tm .partition (.var 1) (.str [46])))
  (.cons (.asg 7 (.var 3))
  (.cons (.ifs (.cmp .eq (.slcH (.var 3) (.int 1)) (.str [45])) (.cons (.asg 7 (.slcL (.var 3) (.int 1)))
  .nil) .nil)
  (.cons (.ifs (.or (.cmp .ne (.var 2) (.str [101])) (.or (.not (.call "_law_all_figures" G.all_figures_76 (.cons (.var 7) .nil) [])) (.or (.cmp .eq (.var 3) (.str [45, 48])) (.cmp .gt (.f1 .len (.var 7)) (.int 3))))) (.cons (.ret .non)
  .nil) .nil)
  (.cons (.ifs (.or (.cmp .ne (.f1 .len (.var 4)) (.int 1)) (.cmp .nin (.var 4) (.str [49, 50, 51, 52, 53, 54, 55, 56, 57]))) (.cons (.ret .non)
  .nil) .nil)
  (.cons (.ifs (.and (.cmp .eq (.var 5) (.str [46])) (.or (.not (.call "_law_all_figures" G.all_figures_76 (.cons (.bin .add (.str [49]) (.var 6)) .nil) [])) (.or (.cmp .eq (.var 6) (.str [])) (.cmp .eq (.slcL (.var 6) (.bin .sub (.f1 .len (.var 6)) (.int 1))) (.str [48]))))) (.cons (.ret .non)
  .nil) .nil)
  (.cons (.ret (.tup (.cons (.f1 .int (.bin .add (.var 4) (.var 6))) (.cons (.f1 .int (.var 3)) (.cons (.bin .add (.int 1) (.f1 .len (.var 6))) .nil)))))
  .nil))))))))
def G.parts_76 (a : List D) : R D := run 8 1 G.b_parts_76 a

def G.b_steps_of_33 : Ss := (.cons (.ifs (.cmp .lt (.var 1) (.bin .shl (.int 1) (.ix (.var 0) (.int 1)))) (.cons (.ret (.var 1))
  .nil) .nil)
  (.cons (.ret (.bin .shl (.bin .add (.bin .mod (.var 1) (.bin .shl (.int 1) (.ix (.var 0) (.int 1)))) (.bin .shl (.int 1) (.ix (.var 0) (.int 1)))) (.bin .sub (.bin .shr (.var 1) (.ix (.var 0) (.int 1))) (.int 1))))
  .nil))
def G.steps_of_33 (a : List D) : R D := run 2 2 G.b_steps_of_33 a

def G.b_tens_74 : Ss := (.cons (.asg 1 (.int 1))
  (.cons (.asg 2 (.int 10))
  (.cons (.whl (.cmp .gt (.var 0) (.int 0)) (.cons (.ifs (.cmp .eq (.bin .mod (.var 0) (.int 2)) (.int 1)) (.cons (.asg 1 (.bin .mul (.var 1) (.var 2)))
  .nil) .nil)
  (.cons (.asg 2 (.bin .mul (.var 2) (.var 2)))
  (.cons (.asg 0 (.bin .fdiv (.var 0) (.int 2)))
  .nil))))
  (.cons (.ret (.var 1))
  .nil))))
def G.tens_74 (a : List D) : R D := run 3 1 G.b_tens_74 a

def G.b_decade_76 : Ss := (.cons (.asg 3 (.bin .sub (.bin .add (.ix (.var 0) (.int 1)) (.bin .shl (.int 1) (.bin .sub (.ix (.var 0) (.int 0)) (.int 1)))) (.int 2)))
  (.cons (.asg 4 (.bin .mul (.call "_law_steps_of" G.steps_of_33 (.cons (.var 0) (.cons (.var 1) .nil)) []) (.call "_law_tens" G.tens_74 (.cons (.f2 .max (.bin .sub (.int 0) (.var 2)) (.int 0)) .nil) [])))
  (.cons (.asg 5 (.bin .shl (.call "_law_tens" G.tens_74 (.cons (.f2 .max (.var 2) (.int 0)) .nil) []) (.var 3)))
  (.cons (.ifs (.cmp .lt (.var 4) (.var 5)) (.cons (.asg 2 (.bin .sub (.var 2) (.int 1)))
  (.cons (.ret (.tup (.cons (.var 2) (.cons (.cmp .ge (.bin .mul (.int 10) (.var 4)) (.var 5)) .nil))))
  .nil)) .nil)
  (.cons (.ret (.tup (.cons (.var 2) (.cons (.cmp .lt (.var 4) (.bin .mul (.int 10) (.var 5))) .nil))))
  .nil)))))
def G.decade_76 (a : List D) : R D := run 6 3 G.b_decade_76 a

def G.b_next_two_76 : Ss := (.cons (.asg 4 (.bin .sub (.bin .add (.ix (.var 0) (.int 1)) (.bin .shl (.int 1) (.bin .sub (.ix (.var 0) (.int 0)) (.int 1)))) (.int 2)))
  (.cons (.asg 5 (.bin .add (.bin .sub (.var 3) (.var 2)) (.int 1)))
  (.cons (.asg 6 (.bin .mul (.call "_law_steps_of" G.steps_of_33 (.cons (.var 0) (.cons (.var 1) .nil)) []) (.call "_law_tens" G.tens_74 (.cons (.f2 .max (.bin .sub (.int 0) (.var 5)) (.int 0)) .nil) [])))
  (.cons (.asg 7 (.bin .shl (.call "_law_tens" G.tens_74 (.cons (.f2 .max (.var 5) (.int 0)) .nil) []) (.var 4)))
  (.cons (.asgT [8, 9] (.f2 .divmod (.var 6) (.var 7)))
  (.cons (.ret (.tup (.cons (.var 8) (.cons (.bin .add (.var 8) (.int 1)) (.cons (.var 5) (.cons (.bin .sub (.bin .mul (.int 2) (.var 9)) (.var 7)) .nil))))))
  .nil))))))
def G.next_two_76 (a : List D) : R D := run 10 4 G.b_next_two_76 a

def G.b_reads_76 : Ss := (.cons (.ret (.cmp .eq (.ix (.call "read" F.read (.cons (.var 0) (.cons (.bin .add (.bin .add (.f1 .str (.var 2)) (.str [101])) (.f1 .str (.var 3))) .nil)) [.str [101, 118, 101, 110]]) (.int 0)) (.var 1)))
  .nil)
def G.reads_76 (a : List D) : R D := run 4 4 G.b_reads_76 a

def G.b_fewest_76 : Ss := (.cons (.asg 3 (.call "width_of" F.width_of (.cons (.ix (.var 0) (.int 0)) (.cons (.ix (.var 0) (.int 1)) .nil)) []))
  (.cons (.asgT [4, 5] (.call "_law_decade" G.decade_76 (.cons (.var 0) (.cons (.var 1) (.cons (.ix (.var 2) (.int 1)) .nil))) []))
  (.cons (.ifs (.not (.var 5)) (.cons (.ret (.bl false))
  .nil) .nil)
  (.cons (.ifs (.cmp .gt (.ix (.var 2) (.int 2)) (.int 1)) (.cons (.asgT [6, 7, 8, 9] (.call "_law_next_two" G.next_two_76 (.cons (.var 0) (.cons (.var 1) (.cons (.bin .sub (.ix (.var 2) (.int 2)) (.int 1)) (.cons (.var 4) .nil)))) []))
  (.cons (.ifs (.or (.call "_law_reads" G.reads_76 (.cons (.var 3) (.cons (.var 1) (.cons (.var 6) (.cons (.var 8) .nil)))) []) (.call "_law_reads" G.reads_76 (.cons (.var 3) (.cons (.var 1) (.cons (.var 7) (.cons (.var 8) .nil)))) [])) (.cons (.ret (.bl false))
  .nil) .nil)
  .nil)) .nil)
  (.cons (.asgT [6, 7, 8, 9] (.call "_law_next_two" G.next_two_76 (.cons (.var 0) (.cons (.var 1) (.cons (.ix (.var 2) (.int 2)) (.cons (.var 4) .nil)))) []))
  (.cons (.asg 10 (.bin .mul (.ix (.var 2) (.int 0)) (.call "_law_tens" G.tens_74 (.cons (.bin .sub (.bin .add (.bin .sub (.ix (.var 2) (.int 1)) (.ix (.var 2) (.int 2))) (.int 1)) (.var 8)) .nil) [])))
  (.cons (.ifs (.cmp .eq (.var 10) (.var 6)) (.cons (.ret (.or (.cmp .le (.var 9) (.int 0)) (.not (.call "_law_reads" G.reads_76 (.cons (.var 3) (.cons (.var 1) (.cons (.var 7) (.cons (.var 8) .nil)))) []))))
  .nil) .nil)
  (.cons (.ret (.and (.cmp .eq (.var 10) (.var 7)) (.or (.cmp .gt (.var 9) (.int 0)) (.not (.call "_law_reads" G.reads_76 (.cons (.var 3) (.cons (.var 1) (.cons (.var 6) (.cons (.var 8) .nil)))) [])))))
  .nil))))))))
def G.fewest_76 (a : List D) : R D := run 11 3 G.b_fewest_76 a

def G.b_told_76 : Ss := (.cons (.asg 2 (.call "width_of" F.width_of (.cons (.ix (.var 0) (.int 0)) (.cons (.ix (.var 0) (.int 1)) .nil)) []))
  (.cons (.asg 3 (.bin .shl (.int 1) (.bin .add (.ix (.var 0) (.int 0)) (.ix (.var 0) (.int 1)))))
  (.cons (.asg 4 (.call "shortest" F.shortest (.cons (.var 2) (.cons (.var 1) .nil)) []))
  (.cons (.ifs (.not (.isi (.var 4) .str)) (.cons (.ret (.bl false))
  .nil) .nil)
  (.cons (.ifs (.cmp .ne (.call "_law_due" G.due_76 (.cons (.var 0) (.cons (.var 1) .nil)) []) (.str [])) (.cons (.ret (.cmp .eq (.var 4) (.call "_law_due" G.due_76 (.cons (.var 0) (.cons (.var 1) .nil)) [])))
  .nil) .nil)
  (.cons (.ifs (.or (.cmp .ne (.cmp .eq (.slcH (.var 4) (.int 1)) (.str [45])) (.cmp .ge (.var 1) (.var 3))) (.cmp .ne (.ix (.call "read" F.read (.cons (.var 2) (.cons (.var 4) .nil)) [.str [101, 118, 101, 110]]) (.int 0)) (.var 1))) (.cons (.ret (.bl false))
  .nil) .nil)
  (.cons (.asg 5 (.call "_law_parts" G.parts_76 (.cons (.slcL (.var 4) (.f1 .int (.cmp .ge (.var 1) (.var 3)))) .nil) []))
  (.cons (.ret (.and (.cmp .isn (.var 5) .non) (.call "_law_fewest" G.fewest_76 (.cons (.var 0) (.cons (.bin .mod (.var 1) (.var 3)) (.cons (.var 5) .nil))) [])))
  .nil))))))))
def G.told_76 (a : List D) : R D := run 6 2 G.b_told_76 a

def G.b_word_02 : Ss := (.cons (.asg 2 (.bin .shl (.int 1) (.bin .add (.bin .add (.int 1) (.ix (.var 0) (.int 0))) (.ix (.var 0) (.int 1)))))
  (.cons (.asg 3 (.bin .mod (.bin .mul (.var 1) (.int 618033988749894848204587)) (.bin .add (.bin .pow (.int 10) (.int 24)) (.int 7))))
  (.cons (.asg 4 (.bin .shl (.bin .sub (.bin .shl (.int 1) (.ix (.var 0) (.int 0))) (.int 1)) (.ix (.var 0) (.int 1))))
  (.cons (.asg 5 (.lst (.cons (.int 0) (.cons (.int 1) (.cons (.bin .sub (.bin .shl (.int 1) (.ix (.var 0) (.int 1))) (.int 1)) (.cons (.bin .shl (.int 1) (.ix (.var 0) (.int 1))) (.cons (.bin .sub (.var 4) (.int 1)) (.cons (.var 4) (.cons (.bin .add (.var 4) (.int 1)) (.cons (.bin .add (.var 4) (.bin .shl (.int 1) (.bin .sub (.ix (.var 0) (.int 1)) (.int 1)))) .nil))))))))))
  (.cons (.asg 6 (.bin .mod (.bin .fdiv (.var 3) (.var 2)) (.int 16)))
  (.cons (.ifs (.cmp .lt (.var 6) (.int 8)) (.cons (.ret (.bin .add (.ix (.var 5) (.var 6)) (.bin .mul (.bin .mod (.var 3) (.int 2)) (.bin .fdiv (.var 2) (.int 2)))))
  .nil) .nil)
  (.cons (.ret (.bin .mod (.var 3) (.var 2)))
  .nil)))))))
def G.word_02 (a : List D) : R D := run 7 2 G.b_word_02 a

def F.b_added : Ss := (.cons (.asg 2 (.f2 .min (.ix (.var 0) (.int 1)) (.ix (.var 1) (.int 1))))
  (.cons (.ret (.call "exact" F.exact (.cons (.bin .add (.bin .shl (.ix (.var 0) (.int 0)) (.bin .sub (.ix (.var 0) (.int 1)) (.var 2))) (.bin .shl (.ix (.var 1) (.int 0)) (.bin .sub (.ix (.var 1) (.int 1)) (.var 2)))) (.cons (.var 2) .nil)) []))
  .nil))
def F.added (a : List D) : R D := run 3 2 F.b_added a

def F.b_opposite : Ss := (.cons (.ret (.tup (.cons (.bin .sub (.int 0) (.ix (.var 0) (.int 0))) (.cons (.ix (.var 0) (.int 1)) .nil))))
  .nil)
def F.opposite (a : List D) : R D := run 1 1 F.b_opposite a

def F.b_is_nought_term : Ss := (.cons (.ret (.and (.cmp .eq (.ix (.var 0) (.int 0)) (.str [110, 117, 109, 98, 101, 114])) (.cmp .eq (.ix (.var 0) (.int 2)) (.tup (.cons (.int 0) (.cons (.int 0) .nil))))))
  .nil)
def F.is_nought_term (a : List D) : R D := run 1 1 F.b_is_nought_term a

def F.b_nought_sum : Ss := (.cons (.asg 3 (.lcf 5 (.var 5) (.e (.var 1)) (.and (.call "is_nought_term" F.is_nought_term (.cons (.var 5) .nil) []) (.ix (.var 5) (.int 1)))))
  (.cons (.asg 4 (.lcf 5 (.var 5) (.e (.var 1)) (.and (.call "is_nought_term" F.is_nought_term (.cons (.var 5) .nil) []) (.not (.ix (.var 5) (.int 1))))))
  (.cons (.ifs (.cmp .eq (.f1 .len (.var 4)) (.f1 .len (.var 1))) (.cons (.ret (.int 0))
  .nil) .nil)
  (.cons (.ifs (.or (.cmp .eq (.f1 .len (.var 3)) (.f1 .len (.var 1))) (.cmp .eq (.var 2) (.str [100, 111, 119, 110]))) (.cons (.ret (.call "sign_bit" F.sign_bit (.cons (.var 0) .nil) []))
  .nil) .nil)
  (.cons (.ret (.int 0))
  .nil)))))
def F.nought_sum (a : List D) : R D := run 6 3 F.b_nought_sum a

def F.b_numbers_gathered : Ss := (.cons (.asg 3 (.tup (.cons (.int 0) (.cons (.int 0) .nil))))
  (.cons (.fors 4 (.e (.var 1)) (.cons (.ifs (.ix (.var 4) (.int 1)) (.cons (.asg 3 (.call "added" F.added (.cons (.var 3) (.cons (.call "opposite" F.opposite (.cons (.ix (.var 4) (.int 2)) .nil) []) .nil)) []))
  .nil) (.cons (.asg 3 (.call "added" F.added (.cons (.var 3) (.cons (.ix (.var 4) (.int 2)) .nil)) []))
  .nil))
  .nil))
  (.cons (.ifs (.cmp .eq (.var 3) (.tup (.cons (.int 0) (.cons (.int 0) .nil)))) (.cons (.ret (.tup (.cons (.call "nought_sum" F.nought_sum (.cons (.var 0) (.cons (.var 1) (.cons (.var 2) .nil))) []) (.cons (.int 0) .nil))))
  .nil) .nil)
  (.cons (.ret (.call "taken" F.taken (.cons (.var 0) (.cons (.ix (.var 3) (.int 0)) (.cons (.ix (.var 3) (.int 1)) (.cons (.int 1) (.cons (.var 2) .nil))))) []))
  .nil))))
def F.numbers_gathered (a : List D) : R D := run 5 3 F.b_numbers_gathered a

def F.b_gathered : Ss := (.cons (.drp (.call "way_of" F.way_of (.cons (.var 2) .nil) []))
  (.cons (.asg 3 (.lc 5 (.ix (.var 5) (.int 0)) (.e (.var 1))))
  (.cons (.ifs (.cmp .in_ (.str [119, 114, 111, 110, 103]) (.var 3)) (.cons (.ret (.tup (.cons (.call "none_of" F.none_of (.cons (.var 0) .nil) []) (.cons (.glo "WRONG" (.int 1)) .nil))))
  .nil) .nil)
  (.cons (.ifs (.cmp .in_ (.str [110, 111, 110, 101]) (.var 3)) (.cons (.ret (.tup (.cons (.call "none_of" F.none_of (.cons (.var 0) .nil) []) (.cons (.int 0) .nil))))
  .nil) .nil)
  (.cons (.asg 4 (.lcf 5 (.ix (.var 5) (.int 1)) (.e (.var 1)) (.cmp .eq (.ix (.var 5) (.int 0)) (.str [101, 110, 100, 108, 101, 115, 115]))))
  (.cons (.ifs (.and (.cmp .in_ (.bl true) (.var 4)) (.cmp .in_ (.bl false) (.var 4))) (.cons (.ret (.tup (.cons (.call "none_of" F.none_of (.cons (.var 0) .nil) []) (.cons (.glo "WRONG" (.int 1)) .nil))))
  .nil) .nil)
  (.cons (.ifs (.cmp .ne (.var 4) (.lst .nil)) (.cons (.ret (.tup (.cons (.call "endless_of" F.endless_of (.cons (.var 0) (.cons (.ix (.var 4) (.int 0)) .nil)) []) (.cons (.int 0) .nil))))
  .nil) .nil)
  (.cons (.ret (.call "numbers_gathered" F.numbers_gathered (.cons (.var 0) (.cons (.var 1) (.cons (.var 2) .nil))) []))
  .nil))))))))
def F.gathered (a : List D) : R D := run 6 3 F.b_gathered a

def F.b_term_of : Ss := (.cons (.asg 2 (.call "kind_of" F.kind_of (.cons (.var 0) (.cons (.var 1) .nil)) []))
  (.cons (.ifs (.cmp .eq (.var 2) (.str [108, 111, 117, 100])) (.cons (.ret (.tup (.cons (.str [119, 114, 111, 110, 103]) (.cons (.bl false) (.cons (.tup (.cons (.int 0) (.cons (.int 0) .nil))) .nil)))))
  .nil) .nil)
  (.cons (.ifs (.cmp .eq (.var 2) (.str [115, 116, 105, 108, 108])) (.cons (.ret (.tup (.cons (.str [110, 111, 110, 101]) (.cons (.bl false) (.cons (.tup (.cons (.int 0) (.cons (.int 0) .nil))) .nil)))))
  .nil) .nil)
  (.cons (.asg 3 (.cmp .ge (.var 1) (.call "sign_bit" F.sign_bit (.cons (.var 0) .nil) [])))
  (.cons (.ifs (.cmp .eq (.var 2) (.str [101, 110, 100, 108, 101, 115, 115])) (.cons (.ret (.tup (.cons (.str [101, 110, 100, 108, 101, 115, 115]) (.cons (.var 3) (.cons (.tup (.cons (.int 0) (.cons (.int 0) .nil))) .nil)))))
  .nil) .nil)
  (.cons (.ret (.tup (.cons (.str [110, 117, 109, 98, 101, 114]) (.cons (.var 3) (.cons (.call "value_of" F.value_of (.cons (.var 0) (.cons (.call "unsigned" F.unsigned (.cons (.var 0) (.cons (.var 1) .nil)) []) .nil)) []) .nil)))))
  .nil))))))
def F.term_of (a : List D) : R D := run 4 2 F.b_term_of a

def F.b_multiplied : Ss := (.cons (.ret (.call "exact" F.exact (.cons (.bin .mul (.ix (.var 0) (.int 0)) (.ix (.var 1) (.int 0))) (.cons (.bin .add (.ix (.var 0) (.int 1)) (.ix (.var 1) (.int 1))) .nil)) []))
  .nil)
def F.multiplied (a : List D) : R D := run 2 2 F.b_multiplied a

def F.b_product : Ss := (.cons (.asg 3 (.call "term_of" F.term_of (.cons (.var 0) (.cons (.var 1) .nil)) []))
  (.cons (.asg 4 (.call "term_of" F.term_of (.cons (.var 0) (.cons (.var 2) .nil)) []))
  (.cons (.asg 5 (.tup (.cons (.ix (.var 3) (.int 0)) (.cons (.ix (.var 4) (.int 0)) .nil))))
  (.cons (.ifs (.cmp .in_ (.str [119, 114, 111, 110, 103]) (.var 5)) (.cons (.ret (.tup (.cons (.str [119, 114, 111, 110, 103]) (.cons (.bl false) (.cons (.tup (.cons (.int 0) (.cons (.int 0) .nil))) .nil)))))
  .nil) .nil)
  (.cons (.ifs (.cmp .in_ (.str [110, 111, 110, 101]) (.var 5)) (.cons (.ret (.tup (.cons (.str [110, 111, 110, 101]) (.cons (.bl false) (.cons (.tup (.cons (.int 0) (.cons (.int 0) .nil))) .nil)))))
  .nil) .nil)
  (.cons (.asg 6 (.cmp .ne (.ix (.var 3) (.int 1)) (.ix (.var 4) (.int 1))))
  (.cons (.ifs (.cmp .nin (.str [101, 110, 100, 108, 101, 115, 115]) (.var 5)) (.cons (.ret (.tup (.cons (.str [110, 117, 109, 98, 101, 114]) (.cons (.var 6) (.cons (.call "multiplied" F.multiplied (.cons (.ix (.var 3) (.int 2)) (.cons (.ix (.var 4) (.int 2)) .nil)) []) .nil)))))
  .nil) .nil)
  (.cons (.ifs (.or (.call "is_nought_term" F.is_nought_term (.cons (.var 3) .nil) []) (.call "is_nought_term" F.is_nought_term (.cons (.var 4) .nil) [])) (.cons (.ret (.tup (.cons (.str [119, 114, 111, 110, 103]) (.cons (.bl false) (.cons (.tup (.cons (.int 0) (.cons (.int 0) .nil))) .nil)))))
  .nil) .nil)
  (.cons (.ret (.tup (.cons (.str [101, 110, 100, 108, 101, 115, 115]) (.cons (.var 6) (.cons (.tup (.cons (.int 0) (.cons (.int 0) .nil))) .nil)))))
  .nil)))))))))
def F.product (a : List D) : R D := run 7 3 F.b_product a

def F.b_fused : Ss := (.cons (.ret (.call "gathered" F.gathered (.cons (.var 0) (.cons (.lst (.cons (.call "product" F.product (.cons (.var 0) (.cons (.var 1) (.cons (.var 2) .nil))) []) (.cons (.call "term_of" F.term_of (.cons (.var 0) (.cons (.var 3) .nil)) []) .nil))) (.cons (.var 4) .nil))) []))
  .nil)
def F.fused (a : List D) : R D := run 5 5 F.b_fused a

def F.b_is_below : Ss := (.cons (.ret (.cmp .lt (.ix (.call "added" F.added (.cons (.var 0) (.cons (.call "opposite" F.opposite (.cons (.var 1) .nil) []) .nil)) []) (.int 0)) (.int 0)))
  .nil)
def F.is_below (a : List D) : R D := run 2 2 F.b_is_below a

def F.b_turned : Ss := (.cons (.ret (.bin .xor (.call "asked_word" F.asked_word (.cons (.var 0) (.cons (.var 1) .nil)) []) (.call "sign_bit" F.sign_bit (.cons (.var 0) .nil) [])))
  .nil)
def F.turned (a : List D) : R D := run 2 2 F.b_turned a

def F.b_minus : Ss := (.cons (.ret (.call "gathered" F.gathered (.cons (.var 0) (.cons (.lst (.cons (.call "term_of" F.term_of (.cons (.var 0) (.cons (.var 1) .nil)) []) (.cons (.call "term_of" F.term_of (.cons (.var 0) (.cons (.call "turned" F.turned (.cons (.var 0) (.cons (.var 2) .nil)) []) .nil)) []) .nil))) (.cons (.var 3) .nil))) []))
  .nil)
def F.minus (a : List D) : R D := run 4 4 F.b_minus a

def F.b_none_answer : Ss := (.cons (.ifs (.cmp .in_ (.str [108, 111, 117, 100]) (.var 1)) (.cons (.ret (.tup (.cons (.call "none_of" F.none_of (.cons (.var 0) .nil) []) (.cons (.glo "WRONG" (.int 1)) .nil))))
  .nil) .nil)
  (.cons (.ifs (.cmp .in_ (.str [115, 116, 105, 108, 108]) (.var 1)) (.cons (.ret (.tup (.cons (.call "none_of" F.none_of (.cons (.var 0) .nil) []) (.cons (.int 0) .nil))))
  .nil) .nil)
  (.cons (.ret .non)
  .nil)))
def F.none_answer (a : List D) : R D := run 2 2 F.b_none_answer a

def F.b_moved : Ss := (.cons (.asg 4 (.call "kind_of" F.kind_of (.cons (.var 0) (.cons (.var 2) .nil)) []))
  (.cons (.drp (.call "way_of" F.way_of (.cons (.var 3) .nil) []))
  (.cons (.asg 5 (.call "none_answer" F.none_answer (.cons (.var 1) (.cons (.lst (.cons (.var 4) .nil)) .nil)) []))
  (.cons (.ifs (.cmp .isn (.var 5) .non) (.cons (.ret (.var 5))
  .nil) .nil)
  (.cons (.asg 6 (.cmp .ge (.var 2) (.call "sign_bit" F.sign_bit (.cons (.var 0) .nil) [])))
  (.cons (.ifs (.cmp .eq (.var 4) (.str [101, 110, 100, 108, 101, 115, 115])) (.cons (.ret (.tup (.cons (.call "endless_of" F.endless_of (.cons (.var 1) (.cons (.var 6) .nil)) []) (.cons (.int 0) .nil))))
  .nil) .nil)
  (.cons (.ifs (.cmp .eq (.var 4) (.str [110, 111, 117, 103, 104, 116])) (.cons (.ret (.tup (.cons (.bin .mul (.call "sign_bit" F.sign_bit (.cons (.var 1) .nil) []) (.f1 .int (.var 6))) (.cons (.int 0) .nil))))
  .nil) .nil)
  (.cons (.asgT [7, 8] (.call "value_of" F.value_of (.cons (.var 0) (.cons (.var 2) .nil)) []))
  (.cons (.ret (.call "taken" F.taken (.cons (.var 1) (.cons (.var 7) (.cons (.var 8) (.cons (.int 1) (.cons (.var 3) .nil))))) []))
  .nil)))))))))
def F.moved (a : List D) : R D := run 9 4 F.b_moved a

def F.b_number_near : Ss := (.cons (.asgT [3, 4] (.call "value_of" F.value_of (.cons (.var 0) (.cons (.var 1) .nil)) []))
  (.cons (.asg 5 (.call "way_of" F.way_of (.cons (.var 2) .nil) []))
  (.cons (.asgT [6, 7] (.call "in_steps" F.in_steps (.cons (.var 3) (.cons (.var 4) (.cons (.int 1) (.cons (.int 0) .nil)))) []))
  (.cons (.ifs (.and (.cmp .gt (.var 7) (.int 0)) (.meth "grows" F.grows (.var 5) (.cons (.cmp .eq (.bin .mod (.var 6) (.int 2)) (.int 1)) (.cons (.var 7) (.cons (.cmp .lt (.var 3) (.int 0)) .nil))))) (.cons (.asg 6 (.bin .add (.var 6) (.int 1)))
  .nil) .nil)
  (.cons (.ifs (.cmp .lt (.var 3) (.int 0)) (.cons (.asg 6 (.bin .sub (.int 0) (.var 6)))
  .nil) .nil)
  (.cons (.ret (.tup (.cons (.var 6) (.cons (.cmp .eq (.var 7) (.int 0)) .nil))))
  .nil))))))
def F.number_near (a : List D) : R D := run 8 3 F.b_number_near a

def F.b_sign_of_two : Ss := (.cons (.ret (.cmp .ne (.bin .and (.bin .xor (.var 1) (.var 2)) (.call "sign_bit" F.sign_bit (.cons (.var 0) .nil) [])) (.int 0)))
  .nil)
def F.sign_of_two (a : List D) : R D := run 3 3 F.b_sign_of_two a

def F.b_over : Ss := (.cons (.asg 4 (.lst (.cons (.call "kind_of" F.kind_of (.cons (.var 0) (.cons (.var 1) .nil)) []) (.cons (.call "kind_of" F.kind_of (.cons (.var 0) (.cons (.var 2) .nil)) []) .nil))))
  (.cons (.drp (.call "way_of" F.way_of (.cons (.var 3) .nil) []))
  (.cons (.asg 5 (.call "none_answer" F.none_answer (.cons (.var 0) (.cons (.var 4) .nil)) []))
  (.cons (.ifs (.cmp .isn (.var 5) .non) (.cons (.ret (.var 5))
  .nil) .nil)
  (.cons (.ifs (.or (.cmp .eq (.var 4) (.lst (.cons (.str [101, 110, 100, 108, 101, 115, 115]) (.cons (.str [101, 110, 100, 108, 101, 115, 115]) .nil)))) (.cmp .eq (.var 4) (.lst (.cons (.str [110, 111, 117, 103, 104, 116]) (.cons (.str [110, 111, 117, 103, 104, 116]) .nil))))) (.cons (.ret (.tup (.cons (.call "none_of" F.none_of (.cons (.var 0) .nil) []) (.cons (.glo "WRONG" (.int 1)) .nil))))
  .nil) .nil)
  (.cons (.asg 6 (.call "sign_of_two" F.sign_of_two (.cons (.var 0) (.cons (.var 1) (.cons (.var 2) .nil))) []))
  (.cons (.ifs (.cmp .eq (.ix (.var 4) (.int 0)) (.str [101, 110, 100, 108, 101, 115, 115])) (.cons (.ret (.tup (.cons (.call "endless_of" F.endless_of (.cons (.var 0) (.cons (.var 6) .nil)) []) (.cons (.int 0) .nil))))
  .nil) .nil)
  (.cons (.ifs (.or (.cmp .eq (.ix (.var 4) (.int 1)) (.str [101, 110, 100, 108, 101, 115, 115])) (.cmp .eq (.ix (.var 4) (.int 0)) (.str [110, 111, 117, 103, 104, 116]))) (.cons (.ret (.tup (.cons (.call "with_sign" F.with_sign (.cons (.var 0) (.cons (.int 0) (.cons (.var 6) .nil))) []) (.cons (.int 0) .nil))))
  .nil) .nil)
  (.cons (.ifs (.cmp .eq (.ix (.var 4) (.int 1)) (.str [110, 111, 117, 103, 104, 116])) (.cons (.ret (.tup (.cons (.call "endless_of" F.endless_of (.cons (.var 0) (.cons (.var 6) .nil)) []) (.cons (.glo "POLE" (.int 2)) .nil))))
  .nil) .nil)
  (.cons (.asgT [7, 8] (.call "value_of" F.value_of (.cons (.var 0) (.cons (.var 1) .nil)) []))
  (.cons (.asgT [9, 10] (.call "value_of" F.value_of (.cons (.var 0) (.cons (.var 2) .nil)) []))
  (.cons (.ifs (.cmp .lt (.var 9) (.int 0)) (.cons (.asg 7 (.bin .sub (.int 0) (.var 7)))
  .nil) .nil)
  (.cons (.ret (.call "taken" F.taken (.cons (.var 0) (.cons (.var 7) (.cons (.bin .sub (.var 8) (.var 10)) (.cons (.f1 .abs (.var 9)) (.cons (.var 3) .nil))))) []))
  .nil)))))))))))))
def F.over (a : List D) : R D := run 11 4 F.b_over a

def F.b_plus : Ss := (.cons (.ret (.call "gathered" F.gathered (.cons (.var 0) (.cons (.lst (.cons (.call "term_of" F.term_of (.cons (.var 0) (.cons (.var 1) .nil)) []) (.cons (.call "term_of" F.term_of (.cons (.var 0) (.cons (.var 2) .nil)) []) .nil))) (.cons (.var 3) .nil))) []))
  .nil)
def F.plus (a : List D) : R D := run 4 4 F.b_plus a

def F.b_rank_of : Ss := (.cons (.asg 2 (.call "unsigned" F.unsigned (.cons (.var 0) (.cons (.var 1) .nil)) []))
  (.cons (.ifs (.cmp .gt (.var 2) (.call "endless_of" F.endless_of (.cons (.var 0) (.cons (.bl false) .nil)) [])) (.cons (.ret .non)
  .nil) .nil)
  (.cons (.ifs (.cmp .eq (.var 2) (.var 1)) (.cons (.ret (.var 2))
  .nil) .nil)
  (.cons (.ret (.bin .sub (.int 0) (.var 2)))
  .nil))))
def F.rank_of (a : List D) : R D := run 3 2 F.b_rank_of a

def F.b_scaled : Ss := (.cons (.asg 4 (.call "kind_of" F.kind_of (.cons (.var 0) (.cons (.var 1) .nil)) []))
  (.cons (.drp (.call "way_of" F.way_of (.cons (.var 3) .nil) []))
  (.cons (.asg 5 (.call "none_answer" F.none_answer (.cons (.var 0) (.cons (.lst (.cons (.var 4) .nil)) .nil)) []))
  (.cons (.ifs (.cmp .isn (.var 5) .non) (.cons (.ret (.var 5))
  .nil) .nil)
  (.cons (.ifs (.or (.cmp .eq (.var 4) (.str [101, 110, 100, 108, 101, 115, 115])) (.cmp .eq (.var 4) (.str [110, 111, 117, 103, 104, 116]))) (.cons (.ret (.tup (.cons (.var 1) (.cons (.int 0) .nil))))
  .nil) .nil)
  (.cons (.asgT [6, 7] (.call "value_of" F.value_of (.cons (.var 0) (.cons (.var 1) .nil)) []))
  (.cons (.ret (.call "taken" F.taken (.cons (.var 0) (.cons (.var 6) (.cons (.bin .add (.var 7) (.var 2)) (.cons (.int 1) (.cons (.var 3) .nil))))) []))
  .nil)))))))
def F.scaled (a : List D) : R D := run 8 4 F.b_scaled a

def F.b_signed : Ss := (.cons (.ret (.bin .or (.call "unsigned" F.unsigned (.cons (.var 0) (.cons (.var 1) .nil)) []) (.bin .and (.call "asked_word" F.asked_word (.cons (.var 0) (.cons (.var 2) .nil)) []) (.call "sign_bit" F.sign_bit (.cons (.var 0) .nil) []))))
  .nil)
def F.signed (a : List D) : R D := run 3 3 F.b_signed a

def F.b_word_at : Ss := (.cons (.ifs (.or (.not (.call "is_whole" F.is_whole (.cons (.var 1) .nil) [])) (.cmp .gt (.f1 .abs (.var 1)) (.call "endless_of" F.endless_of (.cons (.var 0) (.cons (.bl false) .nil)) []))) (.cons (.rse "NoNumber" 3)
  .nil) .nil)
  (.cons (.ifs (.cmp .lt (.var 1) (.int 0)) (.cons (.ret (.bin .or (.bin .sub (.int 0) (.var 1)) (.call "sign_bit" F.sign_bit (.cons (.var 0) .nil) [])))
  .nil) .nil)
  (.cons (.ret (.var 1))
  .nil)))
def F.word_at (a : List D) : R D := run 2 2 F.b_word_at a

def F.b_stepped : Ss := (.cons (.asg 3 (.call "rank_of" F.rank_of (.cons (.var 0) (.cons (.var 1) .nil)) []))
  (.cons (.ifs (.or (.cmp .is (.var 3) .non) (.cmp .gt (.f1 .abs (.bin .add (.var 3) (.var 2))) (.call "endless_of" F.endless_of (.cons (.var 0) (.cons (.bl false) .nil)) []))) (.cons (.ret (.var 1))
  .nil) .nil)
  (.cons (.ifs (.cmp .eq (.bin .add (.var 3) (.var 2)) (.int 0)) (.cons (.ret (.call "signed" F.signed (.cons (.var 0) (.cons (.int 0) (.cons (.var 1) .nil))) []))
  .nil) .nil)
  (.cons (.ret (.call "word_at" F.word_at (.cons (.var 0) (.cons (.bin .add (.var 3) (.var 2)) .nil)) []))
  .nil))))
def F.stepped (a : List D) : R D := run 4 3 F.b_stepped a

def F.b_times : Ss := (.cons (.ret (.call "gathered" F.gathered (.cons (.var 0) (.cons (.lst (.cons (.call "product" F.product (.cons (.var 0) (.cons (.var 1) (.cons (.var 2) .nil))) []) .nil)) (.cons (.var 3) .nil))) []))
  .nil)
def F.times (a : List D) : R D := run 4 4 F.b_times a

def G.b_chosen_38 : Ss := (.cons (.ifs (.or (.cmp .eq (.var 0) (.str [117, 112])) (.cmp .eq (.var 0) (.str [100, 111, 119, 110]))) (.cons (.ifs (.cmp .eq (.var 1) (.cmp .eq (.var 0) (.str [117, 112]))) (.cons (.ret (.cmp .le (.bin .mul (.ix (.var 5) (.int 1)) (.var 4)) (.var 3)))
  .nil) .nil)
  (.cons (.ret (.cmp .ge (.bin .mul (.ix (.var 5) (.int 1)) (.var 4)) (.var 3)))
  .nil)) .nil)
  (.cons (.ifs (.cmp .eq (.var 0) (.str [105, 110])) (.cons (.ret (.cmp .le (.bin .mul (.ix (.var 5) (.int 1)) (.var 4)) (.var 3)))
  .nil) .nil)
  (.cons (.asg 6 (.lst (.cons (.bin .sub (.bin .mul (.int 2) (.var 3)) (.bin .mul (.bin .add (.ix (.var 5) (.int 0)) (.ix (.var 5) (.int 1))) (.var 4))) (.cons (.bin .sub (.bin .mul (.bin .add (.ix (.var 5) (.int 1)) (.ix (.var 5) (.int 2))) (.var 4)) (.bin .mul (.int 2) (.var 3))) .nil))))
  (.cons (.ifs (.and (.cmp .eq (.var 0) (.str [101, 118, 101, 110])) (.cmp .eq (.bin .mod (.var 2) (.int 2)) (.int 0))) (.cons (.ret (.and (.cmp .ge (.ix (.var 6) (.int 0)) (.int 0)) (.cmp .ge (.ix (.var 6) (.int 1)) (.int 0))))
  .nil) .nil)
  (.cons (.ifs (.cmp .eq (.var 0) (.str [101, 118, 101, 110])) (.cons (.ret (.and (.cmp .gt (.ix (.var 6) (.int 0)) (.int 0)) (.cmp .gt (.ix (.var 6) (.int 1)) (.int 0))))
  .nil) .nil)
  (.cons (.ret (.and (.cmp .ge (.ix (.var 6) (.int 0)) (.int 0)) (.cmp .gt (.ix (.var 6) (.int 1)) (.int 0))))
  .nil))))))
def G.chosen_38 (a : List D) : R D := run 7 6 G.b_chosen_38 a

def G.b_grown_41 : Ss := (.cons (.ifs (.cmp .eq (.var 0) (.str [101, 118, 101, 110])) (.cons (.ret (.or (.cmp .gt (.var 2) (.var 3)) (.and (.cmp .eq (.var 2) (.var 3)) (.var 1))))
  .nil) .nil)
  (.cons (.ifs (.cmp .eq (.var 0) (.str [97, 119, 97, 121])) (.cons (.ret (.cmp .ge (.var 2) (.var 3)))
  .nil) .nil)
  (.cons (.ifs (.cmp .eq (.var 0) (.str [105, 110])) (.cons (.ret (.bl false))
  .nil) .nil)
  (.cons (.ret (.cmp .eq (.var 4) (.cmp .eq (.var 0) (.str [100, 111, 119, 110]))))
  .nil))))
def G.grown_41 (a : List D) : R D := run 5 5 G.b_grown_41 a

def G.b_least_15 : Ss := (.cons (.ret (.bin .sub (.bin .sub (.int 2) (.bin .shl (.int 1) (.bin .sub (.ix (.var 0) (.int 0)) (.int 1)))) (.ix (.var 0) (.int 1))))
  .nil)
def G.least_15 (a : List D) : R D := run 1 1 G.b_least_15 a

def G.b_lower_33 : Ss := (.cons (.asg 2 (.bin .shl (.bin .sub (.bin .shl (.int 1) (.ix (.var 0) (.int 0))) (.int 1)) (.ix (.var 0) (.int 1))))
  (.cons (.asg 3 (.bin .mod (.bin .mul (.var 1) (.int 618033988749894848204587)) (.bin .add (.bin .pow (.int 10) (.int 24)) (.int 7))))
  (.cons (.asg 4 (.lst (.cons (.int 0) (.cons (.bin .sub (.bin .shl (.int 1) (.ix (.var 0) (.int 1))) (.int 2)) (.cons (.bin .sub (.bin .shl (.int 1) (.ix (.var 0) (.int 1))) (.int 1)) (.cons (.bin .shl (.int 1) (.ix (.var 0) (.int 1))) (.cons (.bin .sub (.var 2) (.int 2)) .nil)))))))
  (.cons (.asg 5 (.bin .mod (.bin .fdiv (.var 3) (.var 2)) (.int 10)))
  (.cons (.ifs (.cmp .lt (.var 5) (.int 5)) (.cons (.ret (.ix (.var 4) (.var 5)))
  .nil) .nil)
  (.cons (.ret (.bin .mod (.var 3) (.bin .sub (.var 2) (.int 1))))
  .nil))))))
def G.lower_33 (a : List D) : R D := run 6 2 G.b_lower_33 a

def G.b_marks_38 : Ss := (.cons (.ifs (.cmp .eq (.bin .mul (.ix (.var 3) (.int 1)) (.var 2)) (.var 1)) (.cons (.ret (.int 0))
  .nil) .nil)
  (.cons (.ifs (.cmp .lt (.var 1) (.bin .shl (.var 2) (.ix (.var 0) (.int 1)))) (.cons (.ret (.int 24))
  .nil) .nil)
  (.cons (.ret (.int 16))
  .nil)))
def G.marks_38 (a : List D) : R D := run 4 4 G.b_marks_38 a

def G.b_parts_33 : Ss := (.cons (.asg 1 (.bin .mod (.bin .mul (.var 0) (.int 414213562373095048801689)) (.bin .add (.bin .pow (.int 10) (.int 24)) (.int 7))))
  (.cons (.asg 2 (.bin .add (.int 2) (.bin .mod (.var 1) (.bin .sub (.bin .pow (.int 10) (.int 9)) (.int 1)))))
  (.cons (.ifs (.cmp .eq (.bin .mod (.var 0) (.int 3)) (.int 1)) (.cons (.ret (.tup (.cons (.var 2) (.cons (.bin .mul (.int 2) (.var 2)) .nil))))
  .nil) .nil)
  (.cons (.ifs (.cmp .eq (.bin .mod (.var 0) (.int 3)) (.int 2)) (.cons (.ret (.tup (.cons (.bin .sub (.bin .add (.var 2) (.int 1)) (.bin .mul (.bin .mod (.bin .fdiv (.var 1) (.bin .pow (.int 10) (.int 9))) (.int 2)) (.int 2))) (.cons (.bin .mul (.int 2) (.var 2)) .nil))))
  .nil) .nil)
  (.cons (.ret (.tup (.cons (.bin .add (.int 1) (.bin .mod (.bin .fdiv (.var 1) (.bin .pow (.int 10) (.int 9))) (.bin .sub (.var 2) (.int 1)))) (.cons (.var 2) .nil))))
  .nil)))))
def G.parts_33 (a : List D) : R D := run 3 1 G.b_parts_33 a

def G.b_whole_01 : Ss := (.cons (.ret (.and (.isi (.var 0) .int) (.not (.isi (.var 0) .bool))))
  .nil)
def G.whole_01 (a : List D) : R D := run 1 1 G.b_whole_01 a

def G.b_pair_11 : Ss := (.cons (.ret (.and (.isi (.var 0) .tuple) (.and (.cmp .eq (.f1 .len (.var 0)) (.int 2)) (.and (.call "_law_whole" G.whole_01 (.cons (.ix (.var 0) (.int 0)) .nil) []) (.call "_law_whole" G.whole_01 (.cons (.ix (.var 0) (.int 1)) .nil) [])))))
  .nil)
def G.pair_11 (a : List D) : R D := run 1 1 G.b_pair_11 a

def G.b_right_11 : Ss := (.cons (.ifs (.not (.call "_law_pair" G.pair_11 (.cons (.var 0) .nil) [])) (.cons (.ret (.bl false))
  .nil) .nil)
  (.cons (.ifs (.cmp .eq (.var 1) (.int 0)) (.cons (.ret (.cmp .eq (.var 0) (.tup (.cons (.int 0) (.cons (.int 0) .nil)))))
  .nil) .nil)
  (.cons (.asg 3 (.bin .sub (.ix (.var 0) (.int 1)) (.var 2)))
  (.cons (.ifs (.or (.cmp .eq (.bin .mod (.ix (.var 0) (.int 0)) (.int 2)) (.int 0)) (.or (.cmp .lt (.var 3) (.int 0)) (.cmp .gt (.var 3) (.m0 .bits (.f1 .abs (.var 1)))))) (.cons (.ret (.bl false))
  .nil) .nil)
  (.cons (.ret (.cmp .eq (.bin .shl (.ix (.var 0) (.int 0)) (.var 3)) (.var 1)))
  .nil)))))
def G.right_11 (a : List D) : R D := run 4 3 G.b_right_11 a

def G.b_steps_41 : Ss := (.cons (.ifs (.cmp .lt (.var 1) (.bin .shl (.int 1) (.ix (.var 0) (.int 1)))) (.cons (.ret (.var 1))
  .nil) .nil)
  (.cons (.ret (.bin .shl (.bin .add (.bin .mod (.var 1) (.bin .shl (.int 1) (.ix (.var 0) (.int 1)))) (.bin .shl (.int 1) (.ix (.var 0) (.int 1)))) (.bin .sub (.bin .shr (.var 1) (.ix (.var 0) (.int 1))) (.int 1))))
  .nil))
def G.steps_41 (a : List D) : R D := run 2 2 G.b_steps_41 a

def G.b_right_41 : Ss := (.cons (.asg 5 (.bin .shl (.bin .sub (.bin .shl (.int 1) (.ix (.var 0) (.int 0))) (.int 1)) (.ix (.var 0) (.int 1))))
  (.cons (.asg 6 (.bin .sub (.ix (.var 1) (.int 0)) (.bin .mul (.f1 .int (.cmp .lt (.var 2) (.int 0))) (.bin .shl (.int 1) (.bin .add (.ix (.var 0) (.int 0)) (.ix (.var 0) (.int 1)))))))
  (.cons (.ifs (.or (.cmp .lt (.var 6) (.int 0)) (.cmp .gt (.var 6) (.var 5))) (.cons (.ret (.bl false))
  .nil) .nil)
  (.cons (.ifs (.cmp .ge (.f1 .abs (.var 2)) (.bin .shl (.call "_law_steps" G.steps_41 (.cons (.var 0) (.cons (.var 5) .nil)) []) (.var 3))) (.cons (.ret (.and (.cmp .eq (.var 6) (.bin .add (.bin .sub (.var 5) (.int 1)) (.f1 .int (.call "_law_grown" G.grown_41 (.cons (.var 4) (.cons (.bl true) (.cons (.int 3) (.cons (.int 1) (.cons (.cmp .lt (.var 2) (.int 0)) .nil))))) [])))) (.cmp .eq (.ix (.var 1) (.int 1)) (.int 20))))
  .nil) .nil)
  (.cons (.asg 7 (.bin .shl (.call "_law_steps" G.steps_41 (.cons (.var 0) (.cons (.var 6) .nil)) []) (.var 3)))
  (.cons (.ifs (.cmp .eq (.var 7) (.f1 .abs (.var 2))) (.cons (.ret (.cmp .eq (.ix (.var 1) (.int 1)) (.int 0)))
  .nil) .nil)
  (.cons (.asg 8 (.bin .sub (.var 6) (.f1 .int (.cmp .gt (.var 7) (.f1 .abs (.var 2))))))
  (.cons (.asg 9 (.bin .sub (.f1 .abs (.var 2)) (.bin .shl (.call "_law_steps" G.steps_41 (.cons (.var 0) (.cons (.var 8) .nil)) []) (.var 3))))
  (.cons (.asg 10 (.bin .sub (.bin .shl (.call "_law_steps" G.steps_41 (.cons (.var 0) (.cons (.bin .add (.var 8) (.int 1)) .nil)) []) (.var 3)) (.f1 .abs (.var 2))))
  (.cons (.ifs (.or (.cmp .le (.var 9) (.int 0)) (.cmp .le (.var 10) (.int 0))) (.cons (.ret (.bl false))
  .nil) .nil)
  (.cons (.ifs (.cmp .ne (.cmp .gt (.var 7) (.f1 .abs (.var 2))) (.call "_law_grown" G.grown_41 (.cons (.var 4) (.cons (.cmp .eq (.bin .mod (.var 8) (.int 2)) (.int 1)) (.cons (.var 9) (.cons (.var 10) (.cons (.cmp .lt (.var 2) (.int 0)) .nil))))) [])) (.cons (.ret (.bl false))
  .nil) .nil)
  (.cons (.asg 11 (.f1 .int (.cmp .lt (.f1 .abs (.var 2)) (.bin .shl (.int 1) (.bin .add (.ix (.var 0) (.int 1)) (.var 3))))))
  (.cons (.ret (.cmp .eq (.ix (.var 1) (.int 1)) (.bin .add (.bin .add (.int 16) (.bin .mul (.int 8) (.var 11))) (.bin .mul (.int 4) (.f1 .int (.cmp .eq (.var 6) (.var 5)))))))
  .nil)))))))))))))
def G.right_41 (a : List D) : R D := run 12 5 G.b_right_41 a

def G.b_right_42 : Ss := (.cons (.asg 4 (.bin .shl (.bin .sub (.bin .shl (.int 1) (.ix (.var 0) (.int 0))) (.int 1)) (.ix (.var 0) (.int 1))))
  (.cons (.asg 5 (.bin .sub (.ix (.var 1) (.int 0)) (.bin .mul (.f1 .int (.cmp .lt (.var 2) (.int 0))) (.bin .shl (.int 1) (.bin .add (.ix (.var 0) (.int 0)) (.ix (.var 0) (.int 1)))))))
  (.cons (.ifs (.or (.cmp .lt (.var 5) (.int 0)) (.cmp .gt (.var 5) (.var 4))) (.cons (.ret (.bl false))
  .nil) .nil)
  (.cons (.ifs (.cmp .ge (.f1 .abs (.var 2)) (.call "_law_steps" G.steps_41 (.cons (.var 0) (.cons (.var 4) .nil)) [])) (.cons (.ret (.and (.cmp .eq (.var 5) (.bin .add (.bin .sub (.var 4) (.int 1)) (.f1 .int (.call "_law_grown" G.grown_41 (.cons (.var 3) (.cons (.bl true) (.cons (.int 3) (.cons (.int 1) (.cons (.cmp .lt (.var 2) (.int 0)) .nil))))) [])))) (.cmp .eq (.ix (.var 1) (.int 1)) (.int 20))))
  .nil) .nil)
  (.cons (.asg 6 (.call "_law_steps" G.steps_41 (.cons (.var 0) (.cons (.var 5) .nil)) []))
  (.cons (.ifs (.cmp .eq (.var 6) (.f1 .abs (.var 2))) (.cons (.ret (.cmp .eq (.ix (.var 1) (.int 1)) (.int 0)))
  .nil) .nil)
  (.cons (.asg 7 (.bin .sub (.var 5) (.f1 .int (.cmp .gt (.var 6) (.f1 .abs (.var 2))))))
  (.cons (.asg 8 (.bin .sub (.f1 .abs (.var 2)) (.call "_law_steps" G.steps_41 (.cons (.var 0) (.cons (.var 7) .nil)) [])))
  (.cons (.asg 9 (.bin .sub (.call "_law_steps" G.steps_41 (.cons (.var 0) (.cons (.bin .add (.var 7) (.int 1)) .nil)) []) (.f1 .abs (.var 2))))
  (.cons (.ifs (.or (.cmp .le (.var 8) (.int 0)) (.cmp .le (.var 9) (.int 0))) (.cons (.ret (.bl false))
  .nil) .nil)
  (.cons (.ifs (.cmp .ne (.cmp .gt (.var 6) (.f1 .abs (.var 2))) (.call "_law_grown" G.grown_41 (.cons (.var 3) (.cons (.cmp .eq (.bin .mod (.var 7) (.int 2)) (.int 1)) (.cons (.var 8) (.cons (.var 9) (.cons (.cmp .lt (.var 2) (.int 0)) .nil))))) [])) (.cons (.ret (.bl false))
  .nil) .nil)
  (.cons (.ret (.cmp .eq (.ix (.var 1) (.int 1)) (.bin .add (.bin .add (.int 16) (.bin .mul (.int 8) (.f1 .int (.cmp .lt (.f1 .abs (.var 2)) (.bin .shl (.int 1) (.ix (.var 0) (.int 1))))))) (.bin .mul (.int 4) (.f1 .int (.cmp .eq (.var 5) (.var 4)))))))
  .nil))))))))))))
def G.right_42 (a : List D) : R D := run 10 4 G.b_right_42 a

def G.b_signed_42 : Ss := (.cons (.asg 2 (.bin .shl (.int 1) (.bin .add (.ix (.var 0) (.int 0)) (.ix (.var 0) (.int 1)))))
  (.cons (.ifs (.cmp .ge (.var 1) (.var 2)) (.cons (.ret (.bin .sub (.int 0) (.call "_law_steps" G.steps_41 (.cons (.var 0) (.cons (.bin .sub (.var 1) (.var 2)) .nil)) [])))
  .nil) .nil)
  (.cons (.ret (.call "_law_steps" G.steps_41 (.cons (.var 0) (.cons (.var 1) .nil)) []))
  .nil)))
def G.signed_42 (a : List D) : R D := run 3 2 G.b_signed_42 a

def G.b_steps_21 : Ss := (.cons (.asg 2 (.bin .shl (.int 1) (.bin .add (.ix (.var 0) (.int 0)) (.ix (.var 0) (.int 1)))))
  (.cons (.asg 3 (.bin .mod (.var 1) (.var 2)))
  (.cons (.ifs (.cmp .ge (.var 3) (.bin .shl (.int 1) (.ix (.var 0) (.int 1)))) (.cons (.asg 3 (.bin .shl (.bin .add (.bin .mod (.var 3) (.bin .shl (.int 1) (.ix (.var 0) (.int 1)))) (.bin .shl (.int 1) (.ix (.var 0) (.int 1)))) (.bin .sub (.bin .shr (.var 3) (.ix (.var 0) (.int 1))) (.int 1))))
  .nil) .nil)
  (.cons (.ifs (.cmp .ge (.var 1) (.var 2)) (.cons (.ret (.bin .sub (.int 0) (.var 3)))
  .nil) .nil)
  (.cons (.ret (.var 3))
  .nil)))))
def G.steps_21 (a : List D) : R D := run 4 2 G.b_steps_21 a

def G.b_too_great_38 : Ss := (.cons (.ifs (.or (.cmp .eq (.var 0) (.str [101, 118, 101, 110])) (.cmp .eq (.var 0) (.str [97, 119, 97, 121]))) (.cons (.ret (.cmp .ge (.bin .mul (.int 2) (.var 2)) (.bin .mul (.bin .add (.ix (.var 4) (.int 0)) (.ix (.var 4) (.int 1))) (.var 3))))
  .nil) .nil)
  (.cons (.ret (.and (.cmp .ne (.var 0) (.str [105, 110])) (.and (.cmp .ne (.var 1) (.cmp .eq (.var 0) (.str [117, 112]))) (.cmp .gt (.var 2) (.bin .mul (.ix (.var 4) (.int 0)) (.var 3))))))
  .nil))
def G.too_great_38 (a : List D) : R D := run 5 5 G.b_too_great_38 a

def G.b_wide_02 : Ss := (.cons (.asg 1 (.bin .mod (.bin .mul (.var 0) (.int 48271)) (.int 999983)))
  (.cons (.ret (.tup (.cons (.bin .add (.int 2) (.bin .mod (.var 1) (.int 10))) (.cons (.bin .add (.int 1) (.bin .mod (.bin .fdiv (.var 1) (.int 10)) (.int 60))) .nil))))
  .nil))
def G.wide_02 (a : List D) : R D := run 2 1 G.b_wide_02 a

def G.b_word_14 : Ss := (.cons (.asg 2 (.bin .shl (.int 1) (.bin .add (.ix (.var 0) (.int 0)) (.ix (.var 0) (.int 1)))))
  (.cons (.asg 3 (.bin .mod (.bin .mul (.var 1) (.int 618033988749894848204587)) (.bin .add (.bin .pow (.int 10) (.int 24)) (.int 7))))
  (.cons (.asg 4 (.bin .shl (.bin .sub (.bin .shl (.int 1) (.ix (.var 0) (.int 0))) (.int 1)) (.ix (.var 0) (.int 1))))
  (.cons (.asg 5 (.lst (.cons (.int 0) (.cons (.int 1) (.cons (.bin .sub (.bin .shl (.int 1) (.ix (.var 0) (.int 1))) (.int 1)) (.cons (.bin .shl (.int 1) (.ix (.var 0) (.int 1))) (.cons (.bin .sub (.var 4) (.int 1)) (.cons (.var 4) (.cons (.bin .add (.var 4) (.int 1)) (.cons (.bin .add (.var 4) (.bin .shl (.int 1) (.bin .sub (.ix (.var 0) (.int 1)) (.int 1)))) .nil))))))))))
  (.cons (.asg 6 (.bin .mod (.bin .fdiv (.var 3) (.bin .mul (.int 2) (.var 2))) (.int 22)))
  (.cons (.ifs (.cmp .lt (.var 6) (.int 8)) (.cons (.ret (.bin .add (.ix (.var 5) (.var 6)) (.bin .mul (.bin .mod (.var 3) (.int 2)) (.var 2))))
  .nil) .nil)
  (.cons (.ifs (.cmp .lt (.var 6) (.int 11)) (.cons (.asg 7 (.bin .sub (.bin .add (.bin .shl (.bin .mod (.bin .fdiv (.var 3) (.int 2)) (.bin .shl (.int 1) (.ix (.var 0) (.int 0)))) (.ix (.var 0) (.int 1))) (.var 6)) (.int 9)))
  (.cons (.ret (.bin .add (.f2 .max (.var 7) (.int 0)) (.bin .mul (.bin .mod (.var 3) (.int 2)) (.var 2))))
  .nil)) .nil)
  (.cons (.ret (.bin .mod (.var 3) (.bin .mul (.int 2) (.var 2))))
  .nil))))))))
def G.word_14 (a : List D) : R D := run 8 2 G.b_word_14 a

def G.b_word_22 : Ss := (.cons (.asg 2 (.bin .shl (.int 1) (.bin .add (.ix (.var 0) (.int 0)) (.ix (.var 0) (.int 1)))))
  (.cons (.asg 3 (.bin .mod (.bin .mul (.var 1) (.int 618033988749894848204587)) (.bin .add (.bin .pow (.int 10) (.int 24)) (.int 7))))
  (.cons (.asg 4 (.bin .shl (.bin .sub (.bin .shl (.int 1) (.ix (.var 0) (.int 0))) (.int 1)) (.ix (.var 0) (.int 1))))
  (.cons (.asg 5 (.lst (.cons (.int 0) (.cons (.int 1) (.cons (.bin .sub (.bin .shl (.int 1) (.ix (.var 0) (.int 1))) (.int 1)) (.cons (.bin .shl (.int 1) (.ix (.var 0) (.int 1))) (.cons (.bin .sub (.var 4) (.int 1)) (.cons (.var 4) (.cons (.bin .add (.var 4) (.int 1)) (.cons (.bin .add (.var 4) (.bin .shl (.int 1) (.bin .sub (.ix (.var 0) (.int 1)) (.int 1)))) .nil))))))))))
  (.cons (.asg 6 (.bin .mod (.bin .fdiv (.var 3) (.bin .mul (.int 2) (.var 2))) (.int 16)))
  (.cons (.ifs (.cmp .lt (.var 6) (.int 8)) (.cons (.ret (.bin .add (.ix (.var 5) (.var 6)) (.bin .mul (.bin .mod (.var 3) (.int 2)) (.var 2))))
  .nil) .nil)
  (.cons (.ret (.bin .mod (.var 3) (.bin .mul (.int 2) (.var 2))))
  .nil)))))))
def G.word_22 (a : List D) : R D := run 7 2 G.b_word_22 a
end MP

set_option Elab.async false
set_option linter.all false
set_option maxRecDepth 100000
set_option maxHeartbeats 4000000
set_option autoImplicit false
/-! MPL: plain facts of the evaluator. -/
namespace MP
open PySem

/-! ### bits -/
abbrev Bd (k : Nat) (i : Int) : Prop := bits i ≤ k
theorem Bd.iff {k : Nat} {i : Int} : Bd k i ↔ i.natAbs < 2 ^ k := PySem.intBits_le_iff
theorem Bd.mono {j k : Nat} {i : Int} (h : Bd j i) (le : j ≤ k) : Bd k i := Nat.le_trans h le
theorem Bd.lit (i : Int) : Bd (bits i) i := Nat.le_refl _
theorem Bd.mul {a b : Nat} {i j : Int} (h : Bd a i) (g : Bd b j) : Bd (a + b) (i * j) := PySem.intBits_mul_le h g
theorem Bd.add {a b : Nat} {i j : Int} (h : Bd a i) (g : Bd b j) : Bd (max a b + 1) (i + j) := by
  exact PySem.intBits_add_le h g
theorem Bd.sub {a b : Nat} {i j : Int} (h : Bd a i) (g : Bd b j) : Bd (max a b + 1) (i - j) := by
  exact PySem.intBits_sub_le h g
theorem Bd.neg {a : Nat} {i : Int} (h : Bd a i) : Bd a (-i) := PySem.intBits_neg_le h
theorem Bd.abs {a : Nat} {i : Int} (h : Bd a i) : Bd a (i.natAbs : Int) := PySem.intBits_natAbs_le h
theorem Bd.mod {b : Nat} {i j : Int} (p : 0 < j) (g : Bd b j) : Bd b (i % j) := by
  rw [Bd.iff] at *
  have h1 := Int.emod_nonneg i (by omega : j ≠ 0)
  have h2 := Int.emod_lt_of_pos i p
  omega
theorem Bd.fdiv {a : Nat} {i j : Int} (p : 0 < j) (h : Bd a i) : Bd a (i / j) := by
  have := PySem.intBits_fdiv_le (y := j) h
  rw [Int.fdiv_eq_ediv_of_nonneg _ (by omega)] at this
  exact this
theorem Bd.pow2 (k : Nat) : Bd (k + 1) (2 ^ k : Int) := by
  rw [Bd.iff, Int.natAbs_pow]
  exact Nat.pow_lt_pow_right (by decide) (by omega)
theorem Bd.shl {a : Nat} {i : Int} (k : Nat) (h : Bd a i) : Bd (a + k) (i * 2 ^ k) := by
  rw [Bd.iff] at *
  rw [Int.natAbs_mul, Int.natAbs_pow, Nat.pow_add]
  exact Nat.mul_lt_mul_of_pos_right h (Nat.pow_pos (by decide))
theorem Bd.shlm {a : Nat} {i x j : Int} (h : Bd a i) (p : 0 < j) : Bd (a + j.toNat) (i * 2 ^ (x % j).toNat) := by
  refine (Bd.shl _ h).mono ?_
  have h1 := Int.emod_nonneg x (by omega : j ≠ 0)
  have h2 := Int.emod_lt_of_pos x p
  omega
theorem Bd.rng {k : Nat} {i : Int} (h1 : -(2 ^ k : Int) < i) (h2 : i < 2 ^ k) : Bd k i := by
  rw [Bd.iff]
  have : ((2 ^ k : Nat) : Int) = (2 : Int) ^ k := by push_cast; rfl
  omega
theorem Bd.le {a k : Nat} {i : Int} (h : Bd a i) (q : a ≤ k) : bits i ≤ k := Nat.le_trans h q
theorem bsum {a b c : Nat} {i j : Int} (h : Bd a i) (g : Bd b j) (q : a + b ≤ c) : bits i + bits j ≤ c := Nat.le_trans (Nat.add_le_add h g) q

theorem bits_one : bits 1 = 1 := by decide
theorem bits_two : bits 2 = 2 := by decide
theorem bits_three : bits 3 = 2 := by decide

/-! ### values -/
theorem mul_ok {i j : Int} (h : bits i + bits j ≤ 134217728) : mulD (.int i) (.int j) = .ok (.int (i * j)) := if_pos h
theorem mod_ok {i j : Int} (h : 0 < j) : modD (.int i) (.int j) = .ok (.int (i % j)) := if_pos h
theorem fdiv_ok {i j : Int} (h : 0 < j) (h2 : j < 1073741824) : fdivD (.int i) (.int j) = .ok (.int (i / j)) := if_pos ⟨h, PyProof.noPylong_small (by omega)⟩
theorem shl_ok {i j : Int} (h : 0 ≤ j) (h2 : (bits i : Int) + j ≤ 134217728) : shlD (.int i) (.int j) = .ok (.int (i * 2 ^ j.toNat)) := if_pos ⟨h, h2⟩
theorem shr_ok {i j : Int} (h : 0 ≤ j) : shrD (.int i) (.int j) = .ok (.int (i / 2 ^ j.toNat)) := if_pos h
theorem pow_ok {i j : Int} (h : 0 ≤ j ∧ j ≤ 1000000 ∧ i.natAbs < 2 ^ 64) : powD (.int i) (.int j) = .ok (.int (i ^ j.toNat)) := if_pos h
theorem add_int {i j : Int} : addD (.int i) (.int j) = .ok (.int (i + j)) := rfl
theorem sub_int {i j : Int} : int2 (· - ·) (.int i) (.int j) = .ok (.int (i - j)) := rfl
theorem and_int {i j : Int} : int2 Builtin.bitAnd (.int i) (.int j) = .ok (.int (Builtin.bitAnd i j)) := rfl
theorem or_int {i j : Int} : int2 Builtin.bitOr (.int i) (.int j) = .ok (.int (Builtin.bitOr i j)) := rfl
theorem xor_int {i j : Int} : int2 Builtin.bitXor (.int i) (.int j) = .ok (.int (Builtin.bitXor i j)) := rfl
theorem neg_int {i : Int} : negD (.int i) = .ok (.int (-i)) := rfl
theorem bin_add {x y : D} : binD .add x y = addD x y := rfl
theorem bin_sub {x y : D} : binD .sub x y = int2 (· - ·) x y := rfl
theorem bin_mul {x y : D} : binD .mul x y = mulD x y := rfl
theorem bin_fdiv {x y : D} : binD .fdiv x y = fdivD x y := rfl
theorem bin_mod {x y : D} : binD .mod x y = modD x y := rfl
theorem bin_shl {x y : D} : binD .shl x y = shlD x y := rfl
theorem bin_shr {x y : D} : binD .shr x y = shrD x y := rfl
theorem bin_pow {x y : D} : binD .pow x y = powD x y := rfl
theorem bin_and {x y : D} : binD .and x y = int2 Builtin.bitAnd x y := rfl
theorem bin_or {x y : D} : binD .or x y = int2 Builtin.bitOr x y := rfl
theorem bin_xor {x y : D} : binD .xor x y = int2 Builtin.bitXor x y := rfl
theorem cmp_eq {i j : Int} : cmpD .eq (.int i) (.int j) = .ok (decide (i = j)) := by
  show R.ok (i == j) = _
  exact congrArg R.ok (by by_cases h : i = j <;> simp [h])
theorem cmp_ne {i j : Int} : cmpD .ne (.int i) (.int j) = .ok (decide (¬ i = j)) := by
  show R.ok (!(i == j)) = _
  exact congrArg R.ok (by by_cases h : i = j <;> simp [h])
theorem cmp_lt {i j : Int} : cmpD .lt (.int i) (.int j) = .ok (decide (i < j)) := rfl
theorem cmp_le {i j : Int} : cmpD .le (.int i) (.int j) = .ok (decide (i ≤ j)) := rfl
theorem cmp_gt {i j : Int} : cmpD .gt (.int i) (.int j) = .ok (decide (j < i)) := rfl
theorem cmp_ge {i j : Int} : cmpD .ge (.int i) (.int j) = .ok (decide (j ≤ i)) := rfl
theorem bool_ok {b : Bool} : boolD (.bl b) = .ok b := rfl
theorem int_ok {i : Int} : intD (.int i) = .ok i := rfl
theorem len_lst {xs : List D} : f1D .len (.lst xs) = .ok (.int xs.length) := rfl
theorem len_tup {xs : List D} : f1D .len (.tup xs) = .ok (.int xs.length) := rfl
theorem abs_int {i : Int} : f1D .abs (.int i) = .ok (.int i.natAbs) := rfl
theorem int_int {i : Int} : f1D .int (.int i) = .ok (.int i) := rfl
theorem int_bl {b : Bool} : f1D .int (.bl b) = .ok (.int (if b = true then 1 else 0)) := by cases b <;> rfl
theorem max_int {i j : Int} : f2D .max (.int i) (.int j) = .ok (.int (max i j)) := rfl
theorem min_int {i j : Int} : f2D .min (.int i) (.int j) = .ok (.int (min i j)) := rfl
theorem bits_int {i : Int} : m0D .bits (.int i) = .ok (.int (bits i)) := rfl
theorem place_ok {n i : Nat} (h : i < n) : place n (i : Int) = some i := by
  unfold place
  rw [if_pos (by omega), if_pos (by omega)]
  rfl
theorem ix_tup {xs : List D} {i : Nat} (h : i < xs.length) : ixD (.tup xs) (.int (i : Int)) = .ok xs[i] := by
  show (match (place xs.length (i : Int)).bind (xs[·]?) with | some d => R.ok d | none => .no) = _
  rw [place_ok h]
  show (match xs[i]? with | some d => R.ok d | none => .no) = _
  rw [List.getElem?_eq_getElem h]
theorem ix_tup0 {a : D} {r : List D} : ixD (.tup (a :: r)) (.int 0) = .ok a := ix_tup (i := 0) (by simp)
theorem ix_tup1 {a b : D} {r : List D} : ixD (.tup (a :: b :: r)) (.int 1) = .ok b := ix_tup (i := 1) (by simp)
theorem ix_tup2 {a b c : D} {r : List D} : ixD (.tup (a :: b :: c :: r)) (.int 2) = .ok c := ix_tup (i := 2) (by simp)
theorem ix_lst {xs : List D} {i : Nat} (h : i < xs.length) : ixD (.lst xs) (.int (i : Int)) = .ok xs[i] := by
  show (match (place xs.length (i : Int)).bind (xs[·]?) with | some d => R.ok d | none => .no) = _
  rw [place_ok h]
  show (match xs[i]? with | some d => R.ok d | none => .no) = _
  rw [List.getElem?_eq_getElem h]
theorem ix_ints {ns : List Int} {i : Nat} (h : i < ns.length) : ixD (.lst (ns.map .int)) (.int (i : Int)) = .ok (.int ns[i]) := by
  rw [ix_lst (by simpa using h)]
  simp

/-! ### the evaluator's steps -/
def outR : Out → R D
  | .nxt _ => .ok .non
  | .ret d => .ok d
  | .ex c _ => .ex c
  | .no => .no
theorem run_eq {n np : Nat} {b : Ss} {args : List D} (h : args.length = np) : run n np b args = outR (evSs b (args.map .dat ++ List.replicate (n - np) .un)) := by
  unfold run
  rw [if_pos h]
  cases evSs b (args.map .dat ++ List.replicate (n - np) .un) <;> rfl
theorem outR_nxt {ρ : Env} : outR (.nxt ρ) = .ok .non := rfl
theorem outR_ret {d : D} : outR (.ret d) = .ok d := rfl
theorem outR_ex {c : Nat} {ρ : Env} : outR (.ex c ρ) = .ex c := rfl
theorem outR_ite {p : Prop} [Decidable p] {a b : Out} : outR (if p then a else b) = if p then outR a else outR b := by split <;> rfl
theorem thenO_ite {p : Prop} [Decidable p] {a b : Out} {f : Env → Out} : thenO (if p then a else b) f = if p then thenO a f else thenO b f := by split <;> rfl
theorem withR_ite {α : Type} {p : Prop} [Decidable p] {a b : R α} {ρ : Env} {f : α → Out} : withR (if p then a else b) ρ f = if p then withR a ρ f else withR b ρ f := by split <;> rfl
theorem bind_ite {α β : Type} {p : Prop} [Decidable p] {a b : R α} {f : α → R β} : (if p then a else b).bind f = if p then a.bind f else b.bind f := by split <;> rfl
theorem getS0 {a : D} {r : Env} : getS (.dat a :: r) 0 = .ok a := rfl
theorem getSs {s : Slot} {r : Env} {i : Nat} : getS (s :: r) (i + 1) = getS r i := rfl
theorem set0 {s t : Slot} {r : Env} : List.set (s :: r) 0 t = t :: r := rfl
theorem setS {s t : Slot} {r : Env} {i : Nat} : List.set (s :: r) (i + 1) t = s :: List.set r i t := rfl
theorem forGo_inv {step : D → Env → Out} {I : Env → Prop} : ∀ (xs : List D) (ρ : Env), I ρ → (∀ x ∈ xs, ∀ ρ, I ρ → ∃ ρ', step x ρ = .nxt ρ' ∧ I ρ') → ∃ ρ', forGo step xs ρ = .nxt ρ' ∧ I ρ'
  | [], ρ, h, _ => ⟨ρ, rfl, h⟩
  | x :: xs, ρ, h, hs => by
    obtain ⟨ρ1, e1, h1⟩ := hs x (List.mem_cons_self ..) ρ h
    obtain ⟨ρ2, e2, h2⟩ := forGo_inv xs ρ1 h1 fun y hy => hs y (List.mem_cons_of_mem _ hy)
    refine ⟨ρ2, ?_, h2⟩
    unfold forGo
    rw [e1]
    exact e2
/-- what a loop's body must do -/
def Goes (I : Env → Prop) (o : Out) : Prop := ∃ ρ', o = .nxt ρ' ∧ I ρ'
theorem forGo_P {step : D → Env → Out} {I : Env → Prop} {P : Out → Prop} {xs : List D} {ρ : Env} (h : I ρ) (hs : ∀ x ∈ xs, ∀ ρ, I ρ → Goes I (step x ρ)) (k : ∀ ρ', I ρ' → P (.nxt ρ')) : P (forGo step xs ρ) := by
  obtain ⟨ρ', e, h'⟩ := forGo_inv xs ρ h hs
  rw [e]
  exact k ρ' h'
theorem seq {s : S} {r : Ss} {ρ ρ1 : Env} {P : Out → Prop} (h : evS s ρ = .nxt ρ1) (k : P (evSs r ρ1)) : P (evSs (.cons s r) ρ) := by
  have e : evSs (.cons s r) ρ = evSs r ρ1 := by
    simp only [evSs]
    rw [h, thenO_nxt]
  rw [e]
  exact k
theorem seq_ret {s : S} {r : Ss} {ρ : Env} {d : D} {P : Out → Prop} (h : evS s ρ = .ret d) (k : P (.ret d)) : P (evSs (.cons s r) ρ) := by
  have e : evSs (.cons s r) ρ = .ret d := by
    simp only [evSs]
    rw [h, thenO_ret]
  rw [e]
  exact k
theorem seq_nil {ρ : Env} {P : Out → Prop} (k : P (.nxt ρ)) : P (evSs .nil ρ) := by
  simp only [evSs]
  exact k
theorem seqs {s : S} {r : Ss} {ρ : Env} {P : Out → Prop} {i : Nat} {sl : Slot} (h : evS s ρ = .nxt (ρ.set i sl)) (k : P (evSs r (ρ.set i sl))) : P (evSs (.cons s r) ρ) := seq h k
/-! ### the cell at a place -/
theorem cell_at_ok {ns : List Int} {k : Int} (h0 : 0 ≤ k) : ∃ v, G.cell_at_01 [.lst (ns.map .int), .int k] = .ok (.int v) ∧ (v = 0 ∨ v ∈ ns) := by
  simp only [G.cell_at_01, G.b_cell_at_01]
  rw [run_eq (by rfl)]
  simp only [List.map_cons, List.map_nil, List.replicate, List.cons_append, List.nil_append, evSs, evS, evT, evE, getS0, getSs, R.bind_ok, cmp_lt, len_lst, bool_ok, withR_ok, thenO_ite, thenO_nxt, thenO_ret, outR_ite, outR_ret, List.length_map, decide_eq_true_eq]
  by_cases h : k < (ns.length : Int)
  · rw [if_pos h]
    obtain ⟨n, rfl⟩ : ∃ n : Nat, k = n := ⟨k.toNat, by omega⟩
    rw [ix_ints (by omega)]
    exact ⟨_, rfl, .inr (List.getElem_mem _)⟩
  · rw [if_neg h]
    exact ⟨0, rfl, .inl rfl⟩
/-! ### halves -/
theorem odd_form {n : Int} (h : n ≠ 0) : ∃ (m : Int) (s : Nat), n = m * 2 ^ s ∧ m % 2 = 1 ∧ s ≤ bits n ∧ bits m ≤ bits n := by
  have key : ∀ (N : Nat) (n : Int), n.natAbs ≤ N → n ≠ 0 → ∃ (m : Int) (s : Nat), n = m * 2 ^ s ∧ m % 2 = 1 := by
    intro N
    induction N with
    | zero => intro n h1 h2; omega
    | succ N ih =>
      intro n h1 h2
      by_cases e : n % 2 = 1
      · exact ⟨n, 0, by simp, e⟩
      · obtain ⟨m, s, h3, h4⟩ := ih (n / 2) (by omega) (by omega)
        refine ⟨m, s + 1, ?_, h4⟩
        have : n = 2 * (n / 2) := by omega
        rw [this, h3, Int.pow_succ]
        rw [Int.mul_comm 2, Int.mul_assoc]
  obtain ⟨m, s, h1, h2⟩ := key n.natAbs n (Nat.le_refl _) h
  have hm : m ≠ 0 := by omega
  have hp : 0 < (2 : Nat) ^ s := Nat.pow_pos (by decide)
  have e : n.natAbs = m.natAbs * 2 ^ s := by rw [h1, Int.natAbs_mul, Int.natAbs_pow]; rfl
  refine ⟨m, s, h1, h2, ?_, ?_⟩
  · have hb : n.natAbs < 2 ^ bits n := Bd.iff.mp (Nat.le_refl _)
    have : 2 ^ s ≤ n.natAbs := by
      rw [e]
      exact Nat.le_mul_of_pos_left _ (by omega)
    exact Nat.le_of_lt ((Nat.pow_lt_pow_iff_right (by decide : 1 < 2)).mp (Nat.lt_of_le_of_lt this hb))
  · refine Bd.iff.mpr (Nat.lt_of_le_of_lt ?_ (Bd.iff.mp (Nat.le_refl (bits n))))
    rw [e]
    exact Nat.le_mul_of_pos_right _ hp
theorem bits_two_pow (s : Nat) : bits (2 ^ s) = s + 1 := by
  have h1 : Bd (s + 1) (2 ^ s : Int) := Bd.pow2 s
  have h2 : ¬ Bd s (2 ^ s : Int) := by
    rw [Bd.iff, Int.natAbs_pow]
    exact Nat.lt_irrefl _
  have h1 : bits (2 ^ s) ≤ s + 1 := h1
  have h2 : ¬ bits (2 ^ s) ≤ s := h2
  omega
theorem low_bit {m : Int} {s : Nat} (h : m % 2 = 1) : Builtin.bitAnd (m * 2 ^ s) (0 - m * 2 ^ s) = 2 ^ s := by
  have e : m * 2 ^ s = 2 ^ s * (2 * (m / 2) + 1) := by
    rw [Int.mul_comm]
    congr 1
    omega
  rw [Int.zero_sub, e]
  exact PySem.W.kbt_low s (m / 2)
theorem pow2_pos (s : Nat) : (0 : Int) < 2 ^ s := Int.pow_pos (by decide)
theorem exact_zero {k : Int} : F.exact [.int 0, .int k] = .ok (.tup [.int 0, .int 0]) := by
  simp only [F.exact, F.b_exact]
  rw [run_eq (by rfl)]
  simp only [evSs, evS, evT, evE, evEs, evSrc, getS0, getSs, set0, setS, R.bind_ok, R.bind_ex, bind_ite, withR_ok, withR_ex, withR_ite, thenO_nxt, thenO_ret, thenO_ex, thenO_ite, outR_nxt, outR_ret, outR_ex, outR_ite, bool_ok, int_ok, bin_add, bin_sub, bin_mul, bin_fdiv, bin_mod, bin_shl, bin_shr, bin_pow, bin_and, bin_or, bin_xor, cmp_eq, cmp_ne, cmp_lt, cmp_le, cmp_gt, cmp_ge, add_int, sub_int, and_int, or_int, xor_int, neg_int, len_lst, len_tup, abs_int, int_int, int_bl, max_int, min_int, bits_int, ix_tup0, ix_tup1, ix_tup2, List.map_cons, List.map_nil, List.replicate, List.cons_append, List.nil_append, List.append_nil, List.length_cons, List.length_nil, decide_eq_true_eq, Nat.reduceSub, Nat.reduceAdd, Int.reduceToNat]
  rw [if_pos trivial]
theorem exact_odd {m k : Int} {s : Nat} (h : m % 2 = 1) : F.exact [.int (m * 2 ^ s), .int k] = .ok (.tup [.int m, .int (k + s)]) := by
  have hm : m ≠ 0 := by omega
  have hp := pow2_pos s
  have hn : ¬ m * 2 ^ s = 0 := by
    intro e
    rcases Int.mul_eq_zero.mp e with e | e <;> omega
  simp only [F.exact, F.b_exact]
  rw [run_eq (by rfl)]
  have e2 : (((s + 1 : Nat) : Int) - 1) = (s : Int) := by omega
  simp (disch := omega) only [evSs, evS, evT, evE, evEs, evSrc, getS0, getSs, set0, setS, R.bind_ok, R.bind_ex, bind_ite, withR_ok, withR_ex, withR_ite, thenO_nxt, thenO_ret, thenO_ex, thenO_ite, outR_nxt, outR_ret, outR_ex, outR_ite, bool_ok, int_ok, bin_add, bin_sub, bin_mul, bin_fdiv, bin_mod, bin_shl, bin_shr, bin_pow, bin_and, bin_or, bin_xor, cmp_eq, cmp_ne, cmp_lt, cmp_le, cmp_gt, cmp_ge, add_int, sub_int, and_int, or_int, xor_int, neg_int, len_lst, len_tup, abs_int, int_int, int_bl, max_int, min_int, bits_int, ix_tup0, ix_tup1, ix_tup2, List.map_cons, List.map_nil, List.replicate, List.cons_append, List.nil_append, List.append_nil, List.length_cons, List.length_nil, decide_eq_true_eq, Nat.reduceSub, Nat.reduceAdd, Int.reduceToNat, low_bit h, bits_two_pow, e2, shr_ok]
  rw [if_neg hn, Int.toNat_natCast, Int.mul_ediv_cancel _ (by omega)]
end MP

set_option Elab.async false
set_option linter.all false
set_option maxRecDepth 100000
set_option maxHeartbeats 4000000
set_option autoImplicit false
/-! LA: exact. -/
namespace MP
open PySem
/-- exact's answer: n = m * 2^s in lowest terms, or nought -/
def Ex11 (n k m e : Int) : Prop := (n = 0 ∧ m = 0 ∧ e = 0) ∨ ∃ s : Nat, n = m * 2 ^ s ∧ m % 2 = 1 ∧ e = k + s ∧ s ≤ bits n
theorem exact_ex (n k : Int) : ∃ m e, F.exact [.int n, .int k] = .ok (.tup [.int m, .int e]) ∧ Ex11 n k m e := by
  by_cases h : n = 0
  · subst h
    exact ⟨0, 0, exact_zero, .inl ⟨rfl, rfl, rfl⟩⟩
  · obtain ⟨m, s, h1, h2, h3, h4⟩ := odd_form h
    refine ⟨m, k + s, ?_, .inr ⟨s, h1, h2, rfl, h3⟩⟩
    rw [h1]
    exact exact_odd h2
end MP

set_option Elab.async false
set_option linter.all false
set_option maxRecDepth 100000
set_option maxHeartbeats 4000000
set_option autoImplicit false
/-! LD: sums, products and who is below. -/
namespace MP
open PySem
def sumv (a ea b eb : Int) : Int := a * 2 ^ (ea - min ea eb).toNat + b * 2 ^ (eb - min ea eb).toNat
end MP

set_option Elab.async false
set_option linter.all false
set_option maxRecDepth 100000
set_option maxHeartbeats 4000000
set_option autoImplicit false
/-! LE: widths and words. -/
namespace MP
open PySem
theorem shlN {i : Int} {k : Nat} (h : bits i + k ≤ 134217728) : shlD (.int i) (.int (k : Int)) = .ok (.int (i * 2 ^ k)) := by
  rw [shl_ok (by omega) (by omega), Int.toNat_natCast]
theorem shrN {i : Int} {k : Nat} : shrD (.int i) (.int (k : Int)) = .ok (.int (i / 2 ^ k)) := by
  rw [shr_ok (by omega), Int.toNat_natCast]
theorem shl1 {k : Nat} (h : k ≤ 1000000) : shlD (.int 1) (.int (k : Int)) = .ok (.int (2 ^ k)) := by
  rw [shlN (by have := bits_one; omega), Int.one_mul]
theorem fdiv_big {i j : Int} (h : 0 < j) (h2 : bits j ≤ 8000) : fdivD (.int i) (.int j) = .ok (.int (i / j)) := by
  refine if_pos ⟨h, PyProof.noPylong_of_log2 ?_⟩
  have h3 : j.natAbs < 2 ^ 8000 := Bd.iff.mp h2
  exact (Nat.log2_lt (by omega)).mpr (Nat.lt_of_lt_of_le h3 (Nat.pow_le_pow_right (by decide) (by decide)))
theorem pow_le_i {i j : Nat} (h : i ≤ j) : (2 : Int) ^ i ≤ 2 ^ j := by
  have := Nat.pow_le_pow_right (n := 2) (by decide) h
  exact_mod_cast this
/-- a width -/
structure Wd (a b : Nat) : Prop where
  a1 : 2 ≤ a
  a2 : a ≤ 11
  b1 : 1 ≤ b
  b2 : b ≤ 60
theorem is_whole_ok {i : Int} : F.is_whole [.int i] = .ok (.bl true) := rfl
section
variable {a b : Nat}
theorem Wd.c1 : (1 : Int) + a + b = ((1 + a + b : Nat) : Int) := by omega
theorem Wd.c2 : (a : Int) + b = ((a + b : Nat) : Int) := by omega
theorem Wd.c3 (w : Wd a b) : (b : Int) - 1 = ((b - 1 : Nat) : Int) := by have := w.b1; omega
theorem Wd.p2 : (2 : Int) ^ (1 + a + b) = 2 * (2 ^ a * 2 ^ b) := by rw [Int.pow_add, Int.pow_add, Int.mul_assoc]; rfl
theorem Wd.p1 : (2 : Int) ^ (a + b) = 2 ^ a * 2 ^ b := Int.pow_add ..
theorem width_ok (w : Wd a b) : F.width_of [.int a, .int b] = .ok (.tup [.int a, .int b]) := by
  have h1 := w.a1; have h2 := w.a2; have h3 := w.b1; have h4 := w.b2
  have g1 : ¬ (a : Int) < 2 := by omega
  have g2 : ¬ (11 : Int) < a := by omega
  have g3 : ¬ (b : Int) < 1 := by omega
  have g4 : ¬ (60 : Int) < b := by omega
  simp only [F.width_of, F.b_width_of]
  rw [run_eq (by rfl)]
  simp only [evSs, evS, evT, evE, evEs, evSrc, getS0, getSs, set0, setS, R.bind_ok, R.bind_ex, bind_ite, withR_ok, withR_ex, withR_ite, thenO_nxt, thenO_ret, thenO_ex, thenO_ite, outR_nxt, outR_ret, outR_ex, outR_ite, bool_ok, int_ok, bin_add, bin_sub, bin_mul, bin_fdiv, bin_mod, bin_shl, bin_shr, bin_pow, bin_and, bin_or, bin_xor, cmp_eq, cmp_ne, cmp_lt, cmp_le, cmp_gt, cmp_ge, add_int, sub_int, and_int, or_int, xor_int, neg_int, len_lst, len_tup, abs_int, int_int, int_bl, max_int, min_int, bits_int, ix_tup0, ix_tup1, ix_tup2, List.map_cons, List.map_nil, List.replicate, List.cons_append, List.nil_append, List.append_nil, List.length_cons, List.length_nil, decide_eq_true_eq, Nat.reduceSub, Nat.reduceAdd, Int.reduceToNat, is_whole_ok, g1, g2, g3, g4, decide_false, Bool.not_true, Bool.false_eq_true, if_false]
theorem many_ok (w : Wd a b) : F.many_words [.tup [.int a, .int b]] = .ok (.int (2 ^ (1 + a + b))) := by
  have h2 := w.a2; have h4 := w.b2
  simp only [F.many_words, F.b_many_words]
  rw [run_eq (by rfl)]
  simp (disch := omega) only [evSs, evS, evT, evE, evEs, evSrc, getS0, getSs, set0, setS, R.bind_ok, R.bind_ex, bind_ite, withR_ok, withR_ex, withR_ite, thenO_nxt, thenO_ret, thenO_ex, thenO_ite, outR_nxt, outR_ret, outR_ex, outR_ite, bool_ok, int_ok, bin_add, bin_sub, bin_mul, bin_fdiv, bin_mod, bin_shl, bin_shr, bin_pow, bin_and, bin_or, bin_xor, cmp_eq, cmp_ne, cmp_lt, cmp_le, cmp_gt, cmp_ge, add_int, sub_int, and_int, or_int, xor_int, neg_int, len_lst, len_tup, abs_int, int_int, int_bl, max_int, min_int, bits_int, ix_tup0, ix_tup1, ix_tup2, List.map_cons, List.map_nil, List.replicate, List.cons_append, List.nil_append, List.append_nil, List.length_cons, List.length_nil, decide_eq_true_eq, Nat.reduceSub, Nat.reduceAdd, Int.reduceToNat, Wd.c1, shl1]
theorem last_ok (w : Wd a b) : F.last_exponent [.tup [.int a, .int b]] = .ok (.int (2 ^ a - 1)) := by
  have h2 := w.a2
  simp only [F.last_exponent, F.b_last_exponent]
  rw [run_eq (by rfl)]
  simp (disch := omega) only [evSs, evS, evT, evE, evEs, evSrc, getS0, getSs, set0, setS, R.bind_ok, R.bind_ex, bind_ite, withR_ok, withR_ex, withR_ite, thenO_nxt, thenO_ret, thenO_ex, thenO_ite, outR_nxt, outR_ret, outR_ex, outR_ite, bool_ok, int_ok, bin_add, bin_sub, bin_mul, bin_fdiv, bin_mod, bin_shl, bin_shr, bin_pow, bin_and, bin_or, bin_xor, cmp_eq, cmp_ne, cmp_lt, cmp_le, cmp_gt, cmp_ge, add_int, sub_int, and_int, or_int, xor_int, neg_int, len_lst, len_tup, abs_int, int_int, int_bl, max_int, min_int, bits_int, ix_tup0, ix_tup1, ix_tup2, List.map_cons, List.map_nil, List.replicate, List.cons_append, List.nil_append, List.append_nil, List.length_cons, List.length_nil, decide_eq_true_eq, Nat.reduceSub, Nat.reduceAdd, Int.reduceToNat, shl1]
theorem asked_ok (w : Wd a b) {x : Int} (h0 : 0 ≤ x) (h1 : x < 2 ^ (1 + a + b)) : F.asked_word [.tup [.int a, .int b], .int x] = .ok (.int x) := by
  have g1 : ¬ x < 0 := by omega
  have g2 : ¬ (2 : Int) ^ (1 + a + b) ≤ x := by omega
  simp only [F.asked_word, F.b_asked_word]
  rw [run_eq (by rfl)]
  simp only [evSs, evS, evT, evE, evEs, evSrc, getS0, getSs, set0, setS, R.bind_ok, R.bind_ex, bind_ite, withR_ok, withR_ex, withR_ite, thenO_nxt, thenO_ret, thenO_ex, thenO_ite, outR_nxt, outR_ret, outR_ex, outR_ite, bool_ok, int_ok, bin_add, bin_sub, bin_mul, bin_fdiv, bin_mod, bin_shl, bin_shr, bin_pow, bin_and, bin_or, bin_xor, cmp_eq, cmp_ne, cmp_lt, cmp_le, cmp_gt, cmp_ge, add_int, sub_int, and_int, or_int, xor_int, neg_int, len_lst, len_tup, abs_int, int_int, int_bl, max_int, min_int, bits_int, ix_tup0, ix_tup1, ix_tup2, List.map_cons, List.map_nil, List.replicate, List.cons_append, List.nil_append, List.append_nil, List.length_cons, List.length_nil, decide_eq_true_eq, Nat.reduceSub, Nat.reduceAdd, Int.reduceToNat, is_whole_ok, many_ok w, g1, g2, decide_false, Bool.not_true, Bool.false_eq_true, if_false]
theorem cut_ok (w : Wd a b) {x : Int} (h0 : 0 ≤ x) (h1 : x < 2 ^ (1 + a + b)) : F.cut [.tup [.int a, .int b], .int x] = .ok (.tup [.int (x / 2 ^ (a + b)), .int (x / 2 ^ b % 2 ^ a), .int (x % 2 ^ b)]) := by
  have h2 := w.a2; have h4 := w.b2
  simp only [F.cut, F.b_cut]
  rw [run_eq (by rfl)]
  simp (disch := omega) only [evSs, evS, evT, evE, evEs, evSrc, getS0, getSs, set0, setS, R.bind_ok, R.bind_ex, bind_ite, withR_ok, withR_ex, withR_ite, thenO_nxt, thenO_ret, thenO_ex, thenO_ite, outR_nxt, outR_ret, outR_ex, outR_ite, bool_ok, int_ok, bin_add, bin_sub, bin_mul, bin_fdiv, bin_mod, bin_shl, bin_shr, bin_pow, bin_and, bin_or, bin_xor, cmp_eq, cmp_ne, cmp_lt, cmp_le, cmp_gt, cmp_ge, add_int, sub_int, and_int, or_int, xor_int, neg_int, len_lst, len_tup, abs_int, int_int, int_bl, max_int, min_int, bits_int, ix_tup0, ix_tup1, ix_tup2, List.map_cons, List.map_nil, List.replicate, List.cons_append, List.nil_append, List.append_nil, List.length_cons, List.length_nil, decide_eq_true_eq, Nat.reduceSub, Nat.reduceAdd, Int.reduceToNat, asked_ok w h0 h1, last_ok w, Wd.c2, shl1, shrN, PySem.W.kbt_mask]
theorem part_ok {x m : Int} (h0 : 0 ≤ x) (h1 : x < m) : F.is_part [.int x, .int m] = .ok (.bl true) := by
  simp only [F.is_part, F.b_is_part]
  rw [run_eq (by rfl)]
  simp only [evSs, evS, evT, evE, evEs, evSrc, getS0, getSs, set0, setS, R.bind_ok, R.bind_ex, bind_ite, withR_ok, withR_ex, withR_ite, thenO_nxt, thenO_ret, thenO_ex, thenO_ite, outR_nxt, outR_ret, outR_ex, outR_ite, bool_ok, int_ok, bin_add, bin_sub, bin_mul, bin_fdiv, bin_mod, bin_shl, bin_shr, bin_pow, bin_and, bin_or, bin_xor, cmp_eq, cmp_ne, cmp_lt, cmp_le, cmp_gt, cmp_ge, add_int, sub_int, and_int, or_int, xor_int, neg_int, len_lst, len_tup, abs_int, int_int, int_bl, max_int, min_int, bits_int, ix_tup0, ix_tup1, ix_tup2, List.map_cons, List.map_nil, List.replicate, List.cons_append, List.nil_append, List.append_nil, List.length_cons, List.length_nil, decide_eq_true_eq, Nat.reduceSub, Nat.reduceAdd, Int.reduceToNat, is_whole_ok, h0, h1, decide_true, if_true]
theorem or_shift {x y : Int} {k : Nat} (h0 : 0 ≤ y) (h1 : y < 2 ^ k) : Builtin.bitOr (x * 2 ^ k) y = x * 2 ^ k + y := by
  have hk := PySem.W.kbt_mask y k
  rw [Int.emod_eq_of_lt h0 h1] at hk
  have hz : Builtin.bitAnd (x * 2 ^ k) y = 0 := by
    have key : ∀ (k : Nat) (x y : Int), 0 ≤ y → y < 2 ^ k → Builtin.bitAnd (x * 2 ^ k) y = 0 := by
      intro k
      induction k with
      | zero =>
        intro x y h0 h1
        have : y = 0 := by rw [Int.pow_zero] at h1; omega
        rw [this]
        exact PyProof.Rows.bitAnd_zero _
      | succ k ih =>
        intro x y h0 h1
        rw [Int.pow_succ] at h1
        have e : x * 2 ^ (k + 1) = 2 * (x * 2 ^ k) := by rw [Int.pow_succ, ← Int.mul_assoc, Int.mul_comm]
        rw [PySem.W.kbt_halves, e, Int.mul_ediv_cancel_left _ (by decide), ih x (y / 2) (by omega) (by omega), if_neg (by omega)]
        rfl
    exact key k x y h0 h1
  rw [PyProof.Rows.bitOr_and, hz]
  omega
theorem joined_ok (w : Wd a b) {s e f : Int} (s0 : 0 ≤ s) (s1 : s < 2) (e0 : 0 ≤ e) (e1 : e < 2 ^ a) (f0 : 0 ≤ f) (f1 : f < 2 ^ b) :
    F.joined [.tup [.int a, .int b], .int s, .int e, .int f] = .ok (.int (s * 2 ^ (a + b) + e * 2 ^ b + f)) := by
  have h2 := w.a2; have h4 := w.b2
  have bs : bits s ≤ 2 := Bd.rng (by omega) (by omega)
  have be : bits e ≤ 20 := by
    refine Bd.rng (by have : (2:Int) ^ 20 = 1048576 := rfl; omega) ?_
    have := pow_le_i (show a ≤ 20 by omega)
    omega
  have o1 : Builtin.bitOr (s * 2 ^ (a + b)) (e * 2 ^ b) = s * 2 ^ (a + b) + e * 2 ^ b := by
    refine or_shift (Int.mul_nonneg e0 (Int.le_of_lt (pow2_pos b))) ?_
    rw [Wd.p1]
    exact Int.mul_lt_mul_of_pos_right e1 (pow2_pos b)
  have o2 : Builtin.bitOr (s * 2 ^ (a + b) + e * 2 ^ b) f = s * 2 ^ (a + b) + e * 2 ^ b + f := by
    have e3 : s * 2 ^ (a + b) + e * 2 ^ b = (s * 2 ^ a + e) * 2 ^ b := by rw [Wd.p1, Int.add_mul, Int.mul_assoc]
    rw [e3]
    exact or_shift f0 f1
  simp only [F.joined, F.b_joined]
  rw [run_eq (by rfl)]
  simp (disch := omega) only [evSs, evS, evT, evE, evEs, evSrc, getS0, getSs, set0, setS, R.bind_ok, R.bind_ex, bind_ite, withR_ok, withR_ex, withR_ite, thenO_nxt, thenO_ret, thenO_ex, thenO_ite, outR_nxt, outR_ret, outR_ex, outR_ite, bool_ok, int_ok, bin_add, bin_sub, bin_mul, bin_fdiv, bin_mod, bin_shl, bin_shr, bin_pow, bin_and, bin_or, bin_xor, cmp_eq, cmp_ne, cmp_lt, cmp_le, cmp_gt, cmp_ge, add_int, sub_int, and_int, or_int, xor_int, neg_int, len_lst, len_tup, abs_int, int_int, int_bl, max_int, min_int, bits_int, ix_tup0, ix_tup1, ix_tup2, List.map_cons, List.map_nil, List.replicate, List.cons_append, List.nil_append, List.append_nil, List.length_cons, List.length_nil, decide_eq_true_eq, Nat.reduceSub, Nat.reduceAdd, Int.reduceToNat, Wd.c2, shl1, shlN, part_ok s0 s1, part_ok e0 e1, part_ok f0 f1, o1, o2, Bool.not_true, Bool.false_eq_true, if_false]
end
end MP

set_option Elab.async false
set_option linter.all false
set_option maxRecDepth 100000
set_option maxHeartbeats 4000000
set_option autoImplicit false
/-! LF: the laws' words. -/
namespace MP
open PySem
theorem ix_pick {zs : List Int} {i : Int} (h0 : 0 ≤ i) (h1 : i < zs.length) : ∃ z ∈ zs, ixD (.lst (zs.map .int)) (.int i) = .ok (.int z) := by
  obtain ⟨n, rfl⟩ : ∃ n : Nat, i = n := ⟨i.toNat, by omega⟩
  exact ⟨zs[n]'(by omega), List.getElem_mem _, ix_ints (by omega)⟩
section
variable {a b : Nat}
theorem Wd.facts (w : Wd a b) : ∃ A B h : Int, (2 : Int) ^ a = A ∧ (2 : Int) ^ b = B ∧ (2 : Int) ^ (b - 1) = h ∧ B = 2 * h ∧ 1 ≤ h ∧ 4 ≤ A ∧ 4 * B ≤ A * B ∧ A ≤ 2048 := by
  have h1 := w.a1; have h2 := w.a2; have h3 := w.b1
  refine ⟨_, _, _, rfl, rfl, rfl, ?_, ?_, ?_, ?_, ?_⟩
  · obtain ⟨c, rfl⟩ : ∃ c, b = c + 1 := ⟨b - 1, by omega⟩
    rw [Nat.add_sub_cancel, Int.pow_succ, Int.mul_comm]
  · have := pow2_pos (b - 1); omega
  · have := pow_le_i h1; have e : (2 : Int) ^ 2 = 4 := rfl; omega
  · refine Int.mul_le_mul_of_nonneg_right ?_ (Int.le_of_lt (pow2_pos b))
    have := pow_le_i h1; have e : (2 : Int) ^ 2 = 4 := rfl; omega
  · have := pow_le_i h2; have e : (2 : Int) ^ 11 = 2048 := rfl; omega
theorem Wd.bm (w : Wd a b) : bits ((2 : Int) ^ (1 + a + b)) ≤ 8000 := by
  have h2 := w.a2; have h4 := w.b2
  exact Nat.le_trans (Bd.pow2 _) (by omega)
theorem word_02_ok (w : Wd a b) {c : Int} (hc : bits c ≤ 4000000) : ∃ x, G.word_02 [.tup [.int a, .int b], .int c] = .ok (.int x) ∧ 0 ≤ x ∧ x < 2 ^ (1 + a + b) := by
  have h2 := w.a2; have h4 := w.b2; have h3 := w.b1
  have hmp := pow2_pos (1 + a + b)
  have hbm := w.bm
  obtain ⟨A, B, h, eA, eB, eh, f1, f2, f3, f4, f5⟩ := w.facts
  have bA : bits ((2 : Int) ^ a - 1) ≤ 20 := by
    have h20 : (2 : Int) ^ 20 = 1048576 := rfl
    exact Bd.rng (by omega) (by omega)
  have ew : (2 : Int) ^ (1 + a + b) = 2 * (A * B) := by rw [Wd.p2, eA, eB]
  have eAB : ((2 : Int) ^ a - 1) * 2 ^ b = A * B - B := by rw [eA, eB, Int.sub_mul, Int.one_mul]
  have eAB' : ((2 : Int) ^ a - 1) * B = A * B - B := by rw [eA, Int.sub_mul, Int.one_mul]
  have c3 := w.c3
  simp only [G.word_02, G.b_word_02]
  rw [run_eq (by rfl)]
  simp only [List.map_cons, List.map_nil, List.replicate, List.cons_append, List.nil_append, Nat.reduceSub]
  refine seq (P := fun o => ∃ x, outR o = .ok (.int x) ∧ 0 ≤ x ∧ x < 2 ^ (1 + a + b)) (by simp (disch := omega) only [evSs, evS, evT, evE, evEs, evSrc, getS0, getSs, set0, setS, R.bind_ok, R.bind_ex, bind_ite, withR_ok, withR_ex, withR_ite, thenO_nxt, thenO_ret, thenO_ex, thenO_ite, outR_nxt, outR_ret, outR_ex, outR_ite, bool_ok, int_ok, bin_add, bin_sub, bin_mul, bin_fdiv, bin_mod, bin_shl, bin_shr, bin_pow, bin_and, bin_or, bin_xor, cmp_eq, cmp_ne, cmp_lt, cmp_le, cmp_gt, cmp_ge, add_int, sub_int, and_int, or_int, xor_int, neg_int, len_lst, len_tup, abs_int, int_int, int_bl, max_int, min_int, bits_int, ix_tup0, ix_tup1, ix_tup2, List.map_cons, List.map_nil, List.replicate, List.cons_append, List.nil_append, List.append_nil, List.length_cons, List.length_nil, decide_eq_true_eq, Nat.reduceSub, Nat.reduceAdd, Int.reduceToNat, Wd.c1, shl1]; rfl) ?_
  refine seq (P := fun o => ∃ x, outR o = .ok (.int x) ∧ 0 ≤ x ∧ x < 2 ^ (1 + a + b)) (by simp (disch := first | exact bsum (by (repeat' first | assumption | apply Bd.mod | apply Bd.shlm | apply Bd.shl | apply Bd.mul | apply Bd.add | apply Bd.sub | apply Bd.neg | apply Bd.abs | apply Bd.fdiv | apply Bd.pow2 | exact Bd.lit _ | decide | omega)) (by (repeat' first | assumption | apply Bd.mod | apply Bd.shlm | apply Bd.shl | apply Bd.mul | apply Bd.add | apply Bd.sub | apply Bd.neg | apply Bd.abs | apply Bd.fdiv | apply Bd.pow2 | exact Bd.lit _ | decide | omega)) (by decide +kernel) | decide +kernel | (have := bits_one; omega)) only [evSs, evS, evT, evE, evEs, evSrc, getS0, getSs, set0, setS, R.bind_ok, R.bind_ex, bind_ite, withR_ok, withR_ex, withR_ite, thenO_nxt, thenO_ret, thenO_ex, thenO_ite, outR_nxt, outR_ret, outR_ex, outR_ite, bool_ok, int_ok, bin_add, bin_sub, bin_mul, bin_fdiv, bin_mod, bin_shl, bin_shr, bin_pow, bin_and, bin_or, bin_xor, cmp_eq, cmp_ne, cmp_lt, cmp_le, cmp_gt, cmp_ge, add_int, sub_int, and_int, or_int, xor_int, neg_int, len_lst, len_tup, abs_int, int_int, int_bl, max_int, min_int, bits_int, ix_tup0, ix_tup1, ix_tup2, List.map_cons, List.map_nil, List.replicate, List.cons_append, List.nil_append, List.append_nil, List.length_cons, List.length_nil, decide_eq_true_eq, Nat.reduceSub, Nat.reduceAdd, Int.reduceToNat, mul_ok, mod_ok, fdiv_ok, shl_ok, shr_ok, pow_ok]; rfl) ?_
  have m0 : 0 ≤ c * 618033988749894848204587 % (10 ^ 24 + 7) := Int.emod_nonneg _ (by decide)
  generalize c * 618033988749894848204587 % (10 ^ 24 + 7) = m at *
  refine seq (P := fun o => ∃ x, outR o = .ok (.int x) ∧ 0 ≤ x ∧ x < 2 ^ (1 + a + b)) (by simp (disch := omega) only [evSs, evS, evT, evE, evEs, evSrc, getS0, getSs, set0, setS, R.bind_ok, R.bind_ex, bind_ite, withR_ok, withR_ex, withR_ite, thenO_nxt, thenO_ret, thenO_ex, thenO_ite, outR_nxt, outR_ret, outR_ex, outR_ite, bool_ok, int_ok, bin_add, bin_sub, bin_mul, bin_fdiv, bin_mod, bin_shl, bin_shr, bin_pow, bin_and, bin_or, bin_xor, cmp_eq, cmp_ne, cmp_lt, cmp_le, cmp_gt, cmp_ge, add_int, sub_int, and_int, or_int, xor_int, neg_int, len_lst, len_tup, abs_int, int_int, int_bl, max_int, min_int, bits_int, ix_tup0, ix_tup1, ix_tup2, List.map_cons, List.map_nil, List.replicate, List.cons_append, List.nil_append, List.append_nil, List.length_cons, List.length_nil, decide_eq_true_eq, Nat.reduceSub, Nat.reduceAdd, Int.reduceToNat, shl1, shlN]; rfl) ?_
  refine seq (P := fun o => ∃ x, outR o = .ok (.int x) ∧ 0 ≤ x ∧ x < 2 ^ (1 + a + b)) (by simp (disch := omega) only [evSs, evS, evT, evE, evEs, evSrc, getS0, getSs, set0, setS, R.bind_ok, R.bind_ex, bind_ite, withR_ok, withR_ex, withR_ite, thenO_nxt, thenO_ret, thenO_ex, thenO_ite, outR_nxt, outR_ret, outR_ex, outR_ite, bool_ok, int_ok, bin_add, bin_sub, bin_mul, bin_fdiv, bin_mod, bin_shl, bin_shr, bin_pow, bin_and, bin_or, bin_xor, cmp_eq, cmp_ne, cmp_lt, cmp_le, cmp_gt, cmp_ge, add_int, sub_int, and_int, or_int, xor_int, neg_int, len_lst, len_tup, abs_int, int_int, int_bl, max_int, min_int, bits_int, ix_tup0, ix_tup1, ix_tup2, List.map_cons, List.map_nil, List.replicate, List.cons_append, List.nil_append, List.append_nil, List.length_cons, List.length_nil, decide_eq_true_eq, Nat.reduceSub, Nat.reduceAdd, Int.reduceToNat, shl1, c3]; rfl) ?_
  have p0 : 0 ≤ m / 2 ^ (1 + a + b) % 16 := Int.emod_nonneg _ (by decide)
  refine seq (P := fun o => ∃ x, outR o = .ok (.int x) ∧ 0 ≤ x ∧ x < 2 ^ (1 + a + b)) (by simp (disch := first | omega | decide) only [evSs, evS, evT, evE, evEs, evSrc, getS0, getSs, set0, setS, R.bind_ok, R.bind_ex, bind_ite, withR_ok, withR_ex, withR_ite, thenO_nxt, thenO_ret, thenO_ex, thenO_ite, outR_nxt, outR_ret, outR_ex, outR_ite, bool_ok, int_ok, bin_add, bin_sub, bin_mul, bin_fdiv, bin_mod, bin_shl, bin_shr, bin_pow, bin_and, bin_or, bin_xor, cmp_eq, cmp_ne, cmp_lt, cmp_le, cmp_gt, cmp_ge, add_int, sub_int, and_int, or_int, xor_int, neg_int, len_lst, len_tup, abs_int, int_int, int_bl, max_int, min_int, bits_int, ix_tup0, ix_tup1, ix_tup2, List.map_cons, List.map_nil, List.replicate, List.cons_append, List.nil_append, List.append_nil, List.length_cons, List.length_nil, decide_eq_true_eq, Nat.reduceSub, Nat.reduceAdd, Int.reduceToNat, fdiv_big hmp hbm, mod_ok]; rfl) ?_
  generalize m / 2 ^ (1 + a + b) % 16 = p at *
  by_cases hp : p < 8
  · obtain ⟨z, hz, ez⟩ := ix_pick (zs := [0, 1, 2 ^ b - 1, 2 ^ b, (2 ^ a - 1) * 2 ^ b - 1, (2 ^ a - 1) * 2 ^ b, (2 ^ a - 1) * 2 ^ b + 1, (2 ^ a - 1) * 2 ^ b + 2 ^ (b - 1)]) p0 (by simpa using hp)
    simp only [List.map_cons, List.map_nil] at ez
    have hz2 : 0 ≤ z ∧ z < A * B := by
      simp only [List.mem_cons, List.not_mem_nil, or_false, eB, eAB', eh] at hz
      rcases hz with rfl | rfl | rfl | rfl | rfl | rfl | rfl | rfl <;> omega
    have bb : bits (m % 2) + bits ((2 : Int) ^ (1 + a + b) / 2) ≤ 134217728 := by
      have q1 : bits (m % 2) ≤ 2 := Bd.rng (by omega) (by omega)
      have q2 : bits ((2 : Int) ^ (1 + a + b) / 2) ≤ 8000 := Bd.fdiv (by decide) hbm
      omega
    refine seq_ret (P := fun o => ∃ x, outR o = .ok (.int x) ∧ 0 ≤ x ∧ x < 2 ^ (1 + a + b)) (by simp (disch := first | assumption | decide) only [evSs, evS, evT, evE, evEs, evSrc, getS0, getSs, set0, setS, R.bind_ok, R.bind_ex, bind_ite, withR_ok, withR_ex, withR_ite, thenO_nxt, thenO_ret, thenO_ex, thenO_ite, outR_nxt, outR_ret, outR_ex, outR_ite, bool_ok, int_ok, bin_add, bin_sub, bin_mul, bin_fdiv, bin_mod, bin_shl, bin_shr, bin_pow, bin_and, bin_or, bin_xor, cmp_eq, cmp_ne, cmp_lt, cmp_le, cmp_gt, cmp_ge, add_int, sub_int, and_int, or_int, xor_int, neg_int, len_lst, len_tup, abs_int, int_int, int_bl, max_int, min_int, bits_int, ix_tup0, ix_tup1, ix_tup2, List.map_cons, List.map_nil, List.replicate, List.cons_append, List.nil_append, List.append_nil, List.length_cons, List.length_nil, decide_eq_true_eq, Nat.reduceSub, Nat.reduceAdd, Int.reduceToNat, hp, decide_true, if_true, ez, mod_ok, fdiv_ok, mul_ok bb]; rfl) ?_
    refine ⟨_, rfl, ?_, ?_⟩
    · have : 0 ≤ m % 2 * ((2 : Int) ^ (1 + a + b) / 2) := Int.mul_nonneg (by omega) (by omega)
      omega
    · rw [ew, Int.mul_ediv_cancel_left _ (by decide)]
      have hm2 : m % 2 = 0 ∨ m % 2 = 1 := by omega
      rcases hm2 with q | q <;> rw [q] <;> omega
  · refine seq (P := fun o => ∃ x, outR o = .ok (.int x) ∧ 0 ≤ x ∧ x < 2 ^ (1 + a + b)) (by simp only [evSs, evS, evT, evE, evEs, evSrc, getS0, getSs, set0, setS, R.bind_ok, R.bind_ex, bind_ite, withR_ok, withR_ex, withR_ite, thenO_nxt, thenO_ret, thenO_ex, thenO_ite, outR_nxt, outR_ret, outR_ex, outR_ite, bool_ok, int_ok, bin_add, bin_sub, bin_mul, bin_fdiv, bin_mod, bin_shl, bin_shr, bin_pow, bin_and, bin_or, bin_xor, cmp_eq, cmp_ne, cmp_lt, cmp_le, cmp_gt, cmp_ge, add_int, sub_int, and_int, or_int, xor_int, neg_int, len_lst, len_tup, abs_int, int_int, int_bl, max_int, min_int, bits_int, ix_tup0, ix_tup1, ix_tup2, List.map_cons, List.map_nil, List.replicate, List.cons_append, List.nil_append, List.append_nil, List.length_cons, List.length_nil, decide_eq_true_eq, Nat.reduceSub, Nat.reduceAdd, Int.reduceToNat, hp, decide_false, Bool.false_eq_true, if_false]; rfl) ?_
    refine seq_ret (P := fun o => ∃ x, outR o = .ok (.int x) ∧ 0 ≤ x ∧ x < 2 ^ (1 + a + b)) (by simp (disch := assumption) only [evSs, evS, evT, evE, evEs, evSrc, getS0, getSs, set0, setS, R.bind_ok, R.bind_ex, bind_ite, withR_ok, withR_ex, withR_ite, thenO_nxt, thenO_ret, thenO_ex, thenO_ite, outR_nxt, outR_ret, outR_ex, outR_ite, bool_ok, int_ok, bin_add, bin_sub, bin_mul, bin_fdiv, bin_mod, bin_shl, bin_shr, bin_pow, bin_and, bin_or, bin_xor, cmp_eq, cmp_ne, cmp_lt, cmp_le, cmp_gt, cmp_ge, add_int, sub_int, and_int, or_int, xor_int, neg_int, len_lst, len_tup, abs_int, int_int, int_bl, max_int, min_int, bits_int, ix_tup0, ix_tup1, ix_tup2, List.map_cons, List.map_nil, List.replicate, List.cons_append, List.nil_append, List.append_nil, List.length_cons, List.length_nil, decide_eq_true_eq, Nat.reduceSub, Nat.reduceAdd, Int.reduceToNat, mod_ok]; rfl) ?_
    exact ⟨_, rfl, Int.emod_nonneg _ (by omega), Int.emod_lt_of_pos _ hmp⟩
end
end MP

set_option Elab.async false
set_option linter.all false
set_option maxRecDepth 100000
set_option maxHeartbeats 4000000
set_option autoImplicit false
/-! LG: kinds and signs. -/
namespace MP
open PySem
/-- the kind by the two parts -/
def kindv (a b : Nat) (E f : Int) : List Nat :=
  if E = 0 then (if f = 0 then [110, 111, 117, 103, 104, 116] else [115, 109, 97, 108, 108])
  else if E < 2 ^ a - 1 then [112, 108, 97, 105, 110] else if f = 0 then [101, 110, 100, 108, 101, 115, 115] else if f / 2 ^ (b - 1) = 1 then [115, 116, 105, 108, 108] else [108, 111, 117, 100]
section
variable {a b : Nat}
theorem kind_of_ok (w : Wd a b) {x : Int} (h0 : 0 ≤ x) (h1 : x < 2 ^ (1 + a + b)) : F.kind_of [.tup [.int a, .int b], .int x] = .ok (.str (kindv a b (x / 2 ^ b % 2 ^ a) (x % 2 ^ b))) := by
  have c3 := w.c3
  simp only [F.kind_of, F.b_kind_of]
  rw [run_eq (by rfl)]
  simp only [List.map_cons, List.map_nil, List.replicate, List.cons_append, List.nil_append, Nat.reduceSub]
  refine seq (P := fun o => outR o = _) (by simp only [evSs, evS, evT, evE, evEs, evSrc, getS0, getSs, set0, setS, R.bind_ok, R.bind_ex, bind_ite, withR_ok, withR_ex, withR_ite, thenO_nxt, thenO_ret, thenO_ex, thenO_ite, outR_nxt, outR_ret, outR_ex, outR_ite, bool_ok, int_ok, bin_add, bin_sub, bin_mul, bin_fdiv, bin_mod, bin_shl, bin_shr, bin_pow, bin_and, bin_or, bin_xor, cmp_eq, cmp_ne, cmp_lt, cmp_le, cmp_gt, cmp_ge, add_int, sub_int, and_int, or_int, xor_int, neg_int, len_lst, len_tup, abs_int, int_int, int_bl, max_int, min_int, bits_int, ix_tup0, ix_tup1, ix_tup2, List.map_cons, List.map_nil, List.replicate, List.cons_append, List.nil_append, List.append_nil, List.length_cons, List.length_nil, decide_eq_true_eq, Nat.reduceSub, Nat.reduceAdd, Int.reduceToNat, cut_ok w h0 h1, setAll]; rfl) ?_
  generalize x / 2 ^ b % 2 ^ a = E
  generalize x % 2 ^ b = f
  unfold kindv
  simp only [evSs, evS, evT, evE, evEs, evSrc, getS0, getSs, set0, setS, R.bind_ok, R.bind_ex, bind_ite, withR_ok, withR_ex, withR_ite, thenO_nxt, thenO_ret, thenO_ex, thenO_ite, outR_nxt, outR_ret, outR_ex, outR_ite, bool_ok, int_ok, bin_add, bin_sub, bin_mul, bin_fdiv, bin_mod, bin_shl, bin_shr, bin_pow, bin_and, bin_or, bin_xor, cmp_eq, cmp_ne, cmp_lt, cmp_le, cmp_gt, cmp_ge, add_int, sub_int, and_int, or_int, xor_int, neg_int, len_lst, len_tup, abs_int, int_int, int_bl, max_int, min_int, bits_int, ix_tup0, ix_tup1, ix_tup2, List.map_cons, List.map_nil, List.replicate, List.cons_append, List.nil_append, List.append_nil, List.length_cons, List.length_nil, decide_eq_true_eq, Nat.reduceSub, Nat.reduceAdd, Int.reduceToNat, last_ok w, c3, shrN]
  repeat' split
  all_goals rfl
theorem sign_ok (w : Wd a b) : F.sign_bit [.tup [.int a, .int b]] = .ok (.int (2 ^ (a + b))) := by
  have h2 := w.a2; have h4 := w.b2
  simp only [F.sign_bit, F.b_sign_bit]
  rw [run_eq (by rfl)]
  simp (disch := omega) only [evSs, evS, evT, evE, evEs, evSrc, getS0, getSs, set0, setS, R.bind_ok, R.bind_ex, bind_ite, withR_ok, withR_ex, withR_ite, thenO_nxt, thenO_ret, thenO_ex, thenO_ite, outR_nxt, outR_ret, outR_ex, outR_ite, bool_ok, int_ok, bin_add, bin_sub, bin_mul, bin_fdiv, bin_mod, bin_shl, bin_shr, bin_pow, bin_and, bin_or, bin_xor, cmp_eq, cmp_ne, cmp_lt, cmp_le, cmp_gt, cmp_ge, add_int, sub_int, and_int, or_int, xor_int, neg_int, len_lst, len_tup, abs_int, int_int, int_bl, max_int, min_int, bits_int, ix_tup0, ix_tup1, ix_tup2, List.map_cons, List.map_nil, List.replicate, List.cons_append, List.nil_append, List.append_nil, List.length_cons, List.length_nil, decide_eq_true_eq, Nat.reduceSub, Nat.reduceAdd, Int.reduceToNat, Wd.c2, shl1]
theorem unsigned_ok (w : Wd a b) {x : Int} (h0 : 0 ≤ x) (h1 : x < 2 ^ (1 + a + b)) : F.unsigned [.tup [.int a, .int b], .int x] = .ok (.int (x % 2 ^ (a + b))) := by
  simp only [F.unsigned, F.b_unsigned]
  rw [run_eq (by rfl)]
  simp only [evSs, evS, evT, evE, evEs, evSrc, getS0, getSs, set0, setS, R.bind_ok, R.bind_ex, bind_ite, withR_ok, withR_ex, withR_ite, thenO_nxt, thenO_ret, thenO_ex, thenO_ite, outR_nxt, outR_ret, outR_ex, outR_ite, bool_ok, int_ok, bin_add, bin_sub, bin_mul, bin_fdiv, bin_mod, bin_shl, bin_shr, bin_pow, bin_and, bin_or, bin_xor, cmp_eq, cmp_ne, cmp_lt, cmp_le, cmp_gt, cmp_ge, add_int, sub_int, and_int, or_int, xor_int, neg_int, len_lst, len_tup, abs_int, int_int, int_bl, max_int, min_int, bits_int, ix_tup0, ix_tup1, ix_tup2, List.map_cons, List.map_nil, List.replicate, List.cons_append, List.nil_append, List.append_nil, List.length_cons, List.length_nil, decide_eq_true_eq, Nat.reduceSub, Nat.reduceAdd, Int.reduceToNat, asked_ok w h0 h1, sign_ok w, PySem.W.kbt_mask]
theorem high_bit {x : Int} (h0 : 0 ≤ x) (h1 : x < 2 ^ (1 + a + b)) : x / 2 ^ (a + b) % 2 = x / 2 ^ (a + b) ∧ 0 ≤ x / 2 ^ (a + b) ∧ x / 2 ^ (a + b) < 2 := by
  have pab := pow2_pos (a + b)
  have q0 : 0 ≤ x / 2 ^ (a + b) := Int.ediv_nonneg h0 (Int.le_of_lt pab)
  have q1 : x / 2 ^ (a + b) < 2 := by
    refine Int.ediv_lt_of_lt_mul pab ?_
    rw [Wd.p1, ← Wd.p2]
    exact h1
  exact ⟨by omega, q0, q1⟩
end
end MP

set_option Elab.async false
set_option linter.all false
set_option maxRecDepth 100000
set_option maxHeartbeats 4000000
set_option autoImplicit false
/-! LH: ranks. -/
namespace MP
open PySem
section
variable {a b : Nat}
theorem Wd.lh (w : Wd a b) : ∃ L H : Int, ((2 : Int) ^ a - 1) * 2 ^ b = L ∧ (2 : Int) ^ (a + b) = H ∧ 0 < L ∧ L < H ∧ (2 : Int) ^ (1 + a + b) = 2 * H := by
  obtain ⟨A, B, h, eA, eB, eh, f1, f2, f3, f4, f5⟩ := w.facts
  refine ⟨_, _, rfl, rfl, ?_, ?_, ?_⟩
  · rw [Int.sub_mul, Int.one_mul, eA, eB]; omega
  · rw [Wd.p1, Int.sub_mul, Int.one_mul, eA, eB]; omega
  · rw [Wd.p2, Wd.p1]
theorem endless_ok (w : Wd a b) : F.endless_of [.tup [.int a, .int b], .bl false] = .ok (.int ((2 ^ a - 1) * 2 ^ b)) := by
  have pa := pow2_pos a
  have pb := pow2_pos b
  have := joined_ok w (s := 0) (e := 2 ^ a - 1) (f := 0) (by omega) (by omega) (by omega) (by omega) (by omega) pb
  rw [Int.zero_mul, Int.zero_add, Int.add_zero] at this
  simp only [F.endless_of, F.b_endless_of]
  rw [run_eq (by rfl)]
  simp only [evSs, evS, evT, evE, evEs, evSrc, getS0, getSs, set0, setS, R.bind_ok, R.bind_ex, bind_ite, withR_ok, withR_ex, withR_ite, thenO_nxt, thenO_ret, thenO_ex, thenO_ite, outR_nxt, outR_ret, outR_ex, outR_ite, bool_ok, int_ok, bin_add, bin_sub, bin_mul, bin_fdiv, bin_mod, bin_shl, bin_shr, bin_pow, bin_and, bin_or, bin_xor, cmp_eq, cmp_ne, cmp_lt, cmp_le, cmp_gt, cmp_ge, add_int, sub_int, and_int, or_int, xor_int, neg_int, len_lst, len_tup, abs_int, int_int, int_bl, max_int, min_int, bits_int, ix_tup0, ix_tup1, ix_tup2, List.map_cons, List.map_nil, List.replicate, List.cons_append, List.nil_append, List.append_nil, List.length_cons, List.length_nil, decide_eq_true_eq, Nat.reduceSub, Nat.reduceAdd, Int.reduceToNat, last_ok w, Bool.false_eq_true, if_false, this]
/-- the rank by the half -/
def rk (H x : Int) : Int := if x < H then x else H - x
/-- the word a step further -/
def nxv (L H x st : Int) : Int := if L < x % H ∨ L < ((rk H x + st).natAbs : Int) then x else if rk H x + st = 0 then x / H * H else if rk H x + st < 0 then H - (rk H x + st) else rk H x + st
end
end MP

set_option Elab.async false
set_option linter.all false
set_option maxRecDepth 100000
set_option maxHeartbeats 4000000
set_option autoImplicit false
/-! LI: widths and words of k14, k21. -/
namespace MP
open PySem
section
variable {a b : Nat}
theorem wide_14_ok {c : Int} (hc : bits c ≤ 4000000) : ∃ a b : Nat, G.wide_14 [.int c] = .ok (.tup [.int a, .int b]) ∧ Wd a b := by
  simp only [G.wide_14, G.b_wide_14]
  rw [run_eq (by rfl)]
  simp (disch := first | exact bsum (by (repeat' first | assumption | apply Bd.mod | apply Bd.shlm | apply Bd.shl | apply Bd.mul | apply Bd.add | apply Bd.sub | apply Bd.neg | apply Bd.abs | apply Bd.fdiv | apply Bd.pow2 | exact Bd.lit _ | decide | omega)) (by (repeat' first | assumption | apply Bd.mod | apply Bd.shlm | apply Bd.shl | apply Bd.mul | apply Bd.add | apply Bd.sub | apply Bd.neg | apply Bd.abs | apply Bd.fdiv | apply Bd.pow2 | exact Bd.lit _ | decide | omega)) (by decide +kernel) | decide +kernel | (have := bits_one; omega)) only [evSs, evS, evT, evE, evEs, evSrc, getS0, getSs, set0, setS, R.bind_ok, R.bind_ex, bind_ite, withR_ok, withR_ex, withR_ite, thenO_nxt, thenO_ret, thenO_ex, thenO_ite, outR_nxt, outR_ret, outR_ex, outR_ite, bool_ok, int_ok, bin_add, bin_sub, bin_mul, bin_fdiv, bin_mod, bin_shl, bin_shr, bin_pow, bin_and, bin_or, bin_xor, cmp_eq, cmp_ne, cmp_lt, cmp_le, cmp_gt, cmp_ge, add_int, sub_int, and_int, or_int, xor_int, neg_int, len_lst, len_tup, abs_int, int_int, int_bl, max_int, min_int, bits_int, ix_tup0, ix_tup1, ix_tup2, List.map_cons, List.map_nil, List.replicate, List.cons_append, List.nil_append, List.append_nil, List.length_cons, List.length_nil, decide_eq_true_eq, Nat.reduceSub, Nat.reduceAdd, Int.reduceToNat, mul_ok, mod_ok, fdiv_ok, shl_ok, shr_ok, pow_ok]
  have m0 : 0 ≤ c * 48271 % 999983 := by omega
  generalize c * 48271 % 999983 = m at *
  split
  · refine ⟨(2 + m / 2 % 3).toNat, (1 + m / 6 % 4).toNat, ?_, ⟨by omega, by omega, by omega, by omega⟩⟩
    rw [Int.toNat_of_nonneg (by omega), Int.toNat_of_nonneg (by omega)]
  · refine ⟨(2 + m / 2 % 10).toNat, (1 + m / 20 % 60).toNat, ?_, ⟨by omega, by omega, by omega, by omega⟩⟩
    rw [Int.toNat_of_nonneg (by omega), Int.toNat_of_nonneg (by omega)]
end
end MP

set_option Elab.async false
set_option linter.all false
set_option maxRecDepth 100000
set_option maxHeartbeats 4000000
set_option autoImplicit false
/-! LJ: steps in order; k22's words. -/
namespace MP
open PySem
section
variable {a b : Nat}
/-- the steps of a size -/
def sv (b : Nat) (s : Int) : Int := if s < 2 ^ b then s else (s % 2 ^ b + 2 ^ b) * 2 ^ (s / 2 ^ b - 1).toNat
def stv (b : Nat) (H x : Int) : Int := if H ≤ x then 0 - sv b (x % H) else sv b (x % H)
end
end MP

set_option Elab.async false
set_option linter.all false
set_option maxRecDepth 100000
set_option maxHeartbeats 4000000
set_option autoImplicit false
set_option exponentiation.threshold 10000
/-! LK: amounts taken to words. -/
namespace MP
open PySem
/-! ### the values of sizes, in least steps -/
def st (b : Nat) (s : Int) : Int := if s < 2 ^ b then s else (s % 2 ^ b + 2 ^ b) * 2 ^ (s / 2 ^ b - 1).toNat
theorem st_at {b P : Nat} {q : Int} (h : (P = 0 ∧ 0 ≤ q ∧ q ≤ 2 ^ (b + 1)) ∨ (2 ^ b ≤ q ∧ q ≤ 2 ^ (b + 1))) : st b ((P : Int) * 2 ^ b + q) = q * 2 ^ P := by
  have hp := pow2_pos b
  have hs : (2 : Int) ^ (b + 1) = 2 * 2 ^ b := by rw [Int.pow_succ]; omega
  have e3 : ∀ t : Int, (P : Int) * 2 ^ b + q = (t + (P : Int) * 2 ^ b) + (q - t) := fun t => by omega
  unfold st
  by_cases c0 : P = 0 ∧ q < 2 ^ b
  · obtain ⟨rfl, c⟩ := c0
    have e : ((0 : Nat) : Int) * 2 ^ b + q = q := by simp
    rw [e, if_pos c, Int.pow_zero, Int.mul_one]
  · have hq : 2 ^ b ≤ q ∧ q ≤ 2 ^ (b + 1) := by rcases h with h | h <;> constructor <;> omega
    have hpp : 0 ≤ (P : Int) * 2 ^ b := Int.mul_nonneg (by omega) (by omega)
    rw [if_neg (by omega)]
    by_cases c1 : q < 2 ^ (b + 1)
    · have e1 : ((P : Int) * 2 ^ b + q) / 2 ^ b = P + 1 := by
        rw [show (P : Int) * 2 ^ b + q = (q - 2 ^ b) + ((P : Int) + 1) * 2 ^ b by rw [Int.add_mul]; omega, Int.add_mul_ediv_right _ _ (by omega), Int.ediv_eq_zero_of_lt (by omega) (by omega)]
        omega
      have e2 : ((P : Int) * 2 ^ b + q) % 2 ^ b = q - 2 ^ b := by
        rw [show (P : Int) * 2 ^ b + q = (q - 2 ^ b) + ((P : Int) + 1) * 2 ^ b by rw [Int.add_mul]; omega, Int.add_mul_emod_self_right, Int.emod_eq_of_lt (by omega) (by omega)]
      rw [e1, e2, show ((P : Int) + 1 - 1).toNat = P by omega]
      congr 1
      omega
    · have e0 : q = 2 * 2 ^ b := by omega
      subst e0
      have e1 : ((P : Int) * 2 ^ b + 2 * 2 ^ b) / 2 ^ b = P + 2 := by
        rw [← Int.add_mul, Int.mul_ediv_cancel _ (by omega)]
      have e2 : ((P : Int) * 2 ^ b + 2 * 2 ^ b) % 2 ^ b = 0 := by
        rw [← Int.add_mul, Int.mul_emod_left]
      rw [e1, e2, show ((P : Int) + 2 - 1).toNat = P + 1 by omega, Int.pow_succ]
      rw [Int.zero_add, Int.mul_comm 2, Int.mul_assoc, Int.mul_comm 2]
/-- a size in parts -/
theorem size_form {b : Nat} {s : Int} (h : 0 ≤ s) : ∃ (P : Nat) (q : Int), s = (P : Int) * 2 ^ b + q ∧ q < 2 ^ (b + 1) ∧ ((P = 0 ∧ 0 ≤ q) ∨ (2 ^ b ≤ q)) := by
  have hp := pow2_pos b
  have hs : (2 : Int) ^ (b + 1) = 2 * 2 ^ b := by rw [Int.pow_succ]; omega
  have e := Int.mul_ediv_add_emod s (2 ^ b)
  have m0 := Int.emod_nonneg s (show (2 : Int) ^ b ≠ 0 by omega)
  have m1 := Int.emod_lt_of_pos s hp
  have d0 : 0 ≤ s / 2 ^ b := Int.ediv_nonneg h (by omega)
  by_cases c : s / 2 ^ b = 0
  · rw [c] at e
    exact ⟨0, s, by simp, by omega, .inl ⟨rfl, h⟩⟩
  · refine ⟨(s / 2 ^ b - 1).toNat, s % 2 ^ b + 2 ^ b, ?_, by omega, .inr (by omega)⟩
    rw [show (((s / 2 ^ b - 1).toNat : Nat) : Int) = s / 2 ^ b - 1 by omega, Int.sub_mul, Int.one_mul, Int.mul_comm (s / 2 ^ b)]
    omega
theorem st_step {b : Nat} {s : Int} (h : 0 ≤ s) : ∃ P : Nat, st b (s + 1) = st b s + 2 ^ P ∧ (s < 2 ^ b → P = 0) := by
  have hp := pow2_pos b
  have hs : (2 : Int) ^ (b + 1) = 2 * 2 ^ b := by rw [Int.pow_succ]; omega
  obtain ⟨P, q, rfl, h1, h2⟩ := size_form (b := b) h
  refine ⟨P, ?_, fun c => ?_⟩
  · rw [Int.add_assoc, st_at (by omega), st_at (by omega), Int.add_mul, Int.one_mul]
  · rcases h2 with h2 | h2
    · exact h2.1
    · by_cases z : P = 0
      · exact z
      · have : (1 : Int) * 2 ^ b ≤ (P : Int) * 2 ^ b := Int.mul_le_mul_of_nonneg_right (by omega) (by omega)
        omega
theorem st_lt1 {b : Nat} {s : Int} (h : 0 ≤ s) : st b s < st b (s + 1) := by
  obtain ⟨P, e, _⟩ := st_step (b := b) h
  have := pow2_pos P
  omega
theorem st_small {b : Nat} {s : Int} (h : s ≤ 2 ^ b) : st b s = s := by
  by_cases c : s < 2 ^ b
  · unfold st; rw [if_pos c]
  · have e : s = 2 ^ b := by omega
    have hp := pow2_pos b
    have hs : (2 : Int) ^ (b + 1) = 2 * 2 ^ b := by rw [Int.pow_succ]; omega
    have := st_at (b := b) (P := 0) (q := 2 ^ b) (.inr ⟨by omega, by omega⟩)
    simp at this
    rw [e, this]
theorem st_mono {b : Nat} {s : Int} (h : 0 ≤ s) : ∀ k : Nat, st b s ≤ st b (s + k)
  | 0 => by simp
  | k + 1 => by
    have h1 := st_mono (b := b) h k
    have h2 := st_lt1 (b := b) (show 0 ≤ s + (k : Int) by omega)
    rw [show s + ((k + 1 : Nat) : Int) = s + k + 1 by omega]
    omega
theorem st_le {b : Nat} {s t : Int} (h : 0 ≤ s) (h1 : s ≤ t) : st b s ≤ st b t := by
  have := st_mono (b := b) h (t - s).toNat
  rwa [show s + ((t - s).toNat : Int) = t by omega] at this
theorem st_lt {b : Nat} {s t : Int} (h : 0 ≤ s) (h1 : s < t) : st b s < st b t := by
  have h2 := st_lt1 (b := b) h
  have h3 := st_le (b := b) (show 0 ≤ s + 1 by omega) (show s + 1 ≤ t by omega)
  omega
theorem st_nn {b : Nat} {s : Int} (h : 0 ≤ s) : 0 ≤ st b s := by
  have h2 := st_le (b := b) (Int.le_refl 0) h
  have := pow2_pos b
  rw [st_small (by omega)] at h2
  exact h2
theorem st_iff {b : Nat} {s t : Int} (h : 0 ≤ s) (g : 0 ≤ t) : st b s < st b t ↔ s < t := by
  constructor
  · intro c
    by_cases z : s < t
    · exact z
    · have := st_le (b := b) g (show t ≤ s by omega)
      omega
  · exact st_lt h
/-- the amount M over N lies from s on, ahead of the next -/
structure AtS' (b : Nat) (M N s : Int) : Prop where
  s0 : 0 ≤ s
  lo : st b s * N ≤ M
  hi : M < st b (s + 1) * N
theorem at_uniq {b : Nat} {M N s t : Int} (hN : 0 < N) (h : AtS' b M N s) (g : AtS' b M N t) : s = t := by
  have key : ∀ {s t : Int}, AtS' b M N s → AtS' b M N t → ¬ s < t := fun {s t} h g c => by
    have h1 := st_le (b := b) (show 0 ≤ s + 1 by have := h.s0; omega) (show s + 1 ≤ t by omega)
    have h2 := Int.mul_le_mul_of_nonneg_right h1 (Int.le_of_lt hN)
    have := h.hi
    have := g.lo
    omega
  have := key h g
  have := key g h
  omega
/-- how much of a step is left -/
def sd (r u : Int) : Int := if r = 0 then 0 else if 2 * r < u then 1 else if 2 * r = u then 2 else 3
theorem sd_mul {r u c : Int} (hc : 0 < c) : sd (r * c) (u * c) = sd r u := by
  have h1 : r * c = 0 ↔ r = 0 := by
    constructor
    · intro h; rcases Int.mul_eq_zero.mp h with h | h <;> omega
    · intro h; rw [h, Int.zero_mul]
  have h2 : 2 * (r * c) < u * c ↔ 2 * r < u := by
    rw [← Int.mul_assoc]
    exact Int.mul_lt_mul_right hc
  have h3 : 2 * (r * c) = u * c ↔ 2 * r = u := by
    rw [← Int.mul_assoc]
    exact Int.mul_eq_mul_right_iff (by omega)
  unfold sd
  simp only [h1, h2, h3]
def side (b : Nat) (M N s : Int) : Int := sd (M - st b s * N) ((st b (s + 1) - st b s) * N)
/-! ### ways -/
def wn : Nat → List Nat
  | 0 => [101, 118, 101, 110]
  | 1 => [97, 119, 97, 121]
  | 2 => [105, 110]
  | 3 => [117, 112]
  | _ => [100, 111, 119, 110]
def gw (c : Nat) (odd : Bool) (sd : Int) (lo : Bool) : Bool := match c with
  | 0 => decide (sd = 3) || (decide (sd = 2) && odd)
  | 1 => decide (2 ≤ sd)
  | 2 => false
  | 3 => !lo
  | _ => lo
theorem c5 {c : Nat} (h : c < 5) : c = 0 ∨ c = 1 ∨ c = 2 ∨ c = 3 ∨ c = 4 := by omega
theorem way_ok {c : Nat} (h : c < 5) : F.way_of [.str (wn c)] = .ok (.obj c) := by
  rcases c5 h with rfl | rfl | rfl | rfl | rfl <;> rfl
theorem obj_ok {c : Nat} : objD (.obj c) = .ok c := rfl
theorem grows_ok {c : Nat} (h : c < 5) {o l : Bool} {s : Int} : F.grows c [.obj c, .bl o, .int s, .bl l] = .ok (.bl (gw c o s l)) := by
  rcases c5 h with rfl | rfl | rfl | rfl | rfl
  · simp only [F.grows, F.Even_grows, F.b_Even_grows]
    rw [run_eq (by rfl)]
    simp only [evSs, evS, evT, evE, evEs, evSrc, getS0, getSs, set0, setS, R.bind_ok, R.bind_ex, bind_ite, withR_ok, withR_ex, withR_ite, thenO_nxt, thenO_ret, thenO_ex, thenO_ite, outR_nxt, outR_ret, outR_ex, outR_ite, bool_ok, int_ok, bin_add, bin_sub, bin_mul, bin_fdiv, bin_mod, bin_shl, bin_shr, bin_pow, bin_and, bin_or, bin_xor, cmp_eq, cmp_ne, cmp_lt, cmp_le, cmp_gt, cmp_ge, add_int, sub_int, and_int, or_int, xor_int, neg_int, len_lst, len_tup, abs_int, int_int, int_bl, max_int, min_int, bits_int, ix_tup0, ix_tup1, ix_tup2, List.map_cons, List.map_nil, List.replicate, List.cons_append, List.nil_append, List.append_nil, List.length_cons, List.length_nil, decide_eq_true_eq, Nat.reduceSub, Nat.reduceAdd, Int.reduceToNat, gw]
    by_cases h3 : s = 3
    · simp [h3, outR]
    · by_cases h2 : s = 2
      · simp [h2, outR]
      · simp [h2, h3, outR]
  all_goals rfl
/-! ### scaling -/
theorem at_ratio {b : Nat} {M N M' N' s : Int} (hN : 0 < N) (hN' : 0 < N') (e : M * N' = M' * N) (h : AtS' b M N s) : AtS' b M' N' s := by
  refine ⟨h.s0, ?_, ?_⟩
  · have h1 := Int.mul_le_mul_of_nonneg_right h.lo (Int.le_of_lt hN')
    rw [e, Int.mul_right_comm] at h1
    exact Int.le_of_mul_le_mul_right h1 hN
  · have h1 := Int.mul_lt_mul_of_pos_right h.hi hN'
    rw [e, Int.mul_right_comm] at h1
    exact Int.lt_of_mul_lt_mul_right h1 (Int.le_of_lt hN)
theorem side_ratio {b : Nat} {M N M' N' s : Int} (hN : 0 < N) (hN' : 0 < N') (e : M * N' = M' * N) : side b M N s = side b M' N' s := by
  unfold side
  rw [← sd_mul (r := M - st b s * N) hN', ← sd_mul (r := M' - st b s * N') hN]
  congr 1
  · rw [Int.sub_mul, Int.sub_mul, e, Int.mul_right_comm (st b s)]
  · rw [Int.mul_right_comm]
theorem at_ex {b : Nat} {M N : Int} (hM : 0 ≤ M) (hN : 0 < N) : ∃ s, AtS' b M N s := by
  have key : ∀ k : Nat, M < st b k * N → ∃ s, AtS' b M N s := by
    intro k
    induction k with
    | zero =>
      intro h
      have e : st b ((0 : Nat) : Int) = 0 := st_small (b := b) (s := 0) (Int.le_of_lt (pow2_pos b))
      rw [e, Int.zero_mul] at h
      omega
    | succ k ih =>
      intro h
      by_cases c : M < st b k * N
      · exact ih c
      · exact ⟨k, by omega, by omega, by simpa using h⟩
  have big : ∀ k : Nat, (k : Int) ≤ st b k := by
    intro k
    induction k with
    | zero => exact st_nn (Int.le_refl 0)
    | succ k ih =>
      have := st_lt1 (b := b) (s := (k : Int)) (by omega)
      have e : (((k + 1 : Nat) : Int)) = (k : Int) + 1 := by omega
      rw [e]
      omega
  refine key (M + 1).toNat ?_
  have h1 := big (M + 1).toNat
  have h2 : M + 1 ≤ st b ((M + 1).toNat : Int) := by omega
  have h3 := Int.mul_le_mul_of_nonneg_left (show 1 ≤ N by omega) (show 0 ≤ st b ((M + 1).toNat : Int) by omega)
  omega
/-! ### heights, steps -/
def Hs (M : Nat) (a b h : Int) : Prop := -(M : Int) ≤ h ∧ b * 2 ^ (h + M).toNat ≤ a * 2 ^ M ∧ a * 2 ^ M < b * 2 ^ (h + 1 + M).toNat
theorem bits_low {a : Int} (h : 0 < a) : ∃ A : Nat, bits a = A + 1 ∧ 2 ^ A ≤ a ∧ a < 2 ^ (A + 1) := by
  have h1 : a.natAbs < 2 ^ bits a := Bd.iff.mp (Nat.le_refl _)
  obtain ⟨A, hA⟩ : ∃ A, bits a = A + 1 := by
    cases e : bits a with
    | zero => rw [e] at h1; simp at h1; omega
    | succ A => exact ⟨A, rfl⟩
  refine ⟨A, hA, ?_, ?_⟩
  · have h2 : ¬ a.natAbs < 2 ^ A := fun q => by
      have : bits a ≤ A := Bd.iff.mpr q
      omega
    have h3 : 2 ^ A ≤ a.natAbs := by omega
    have : ((2 ^ A : Nat) : Int) ≤ (a.natAbs : Int) := by exact_mod_cast h3
    push_cast at this
    omega
  · rw [hA] at h1
    have : (a.natAbs : Int) < ((2 ^ (A + 1) : Nat) : Int) := by exact_mod_cast h1
    push_cast at this
    omega
theorem lift_lt {M : Nat} {a b h : Int} (hM : -(M : Int) ≤ h) : (a * 2 ^ (0 - min h 0).toNat < b * 2 ^ (h - min h 0).toNat) ↔ (a * 2 ^ M < b * 2 ^ (h + M).toNat) := by
  have e1 : a * 2 ^ M = a * 2 ^ (0 - min h 0).toNat * 2 ^ (M + min h 0).toNat := by
    rw [Int.mul_assoc, ← Int.pow_add]
    congr 2
    omega
  have e2 : b * 2 ^ (h + M).toNat = b * 2 ^ (h - min h 0).toNat * 2 ^ (M + min h 0).toNat := by
    rw [Int.mul_assoc, ← Int.pow_add]
    congr 2
    omega
  rw [e1, e2]
  exact (Int.mul_lt_mul_right (pow2_pos _)).symm
theorem hs_first {M : Nat} {a b : Int} (ha : 0 < a) (hb : 0 < b) (h1 : (bits a : Int) - bits b - 1 ≥ -(M : Int)) :
    b * 2 ^ ((bits a : Int) - bits b - 1 + M).toNat ≤ a * 2 ^ M ∧ a * 2 ^ M < b * 2 ^ ((bits a : Int) - bits b + 1 + M).toNat := by
  obtain ⟨A, eA, a1, a2⟩ := bits_low ha
  obtain ⟨B, eB, b1, b2⟩ := bits_low hb
  constructor
  · have q1 : b * 2 ^ ((bits a : Int) - bits b - 1 + M).toNat ≤ 2 ^ (B + 1) * 2 ^ ((bits a : Int) - bits b - 1 + M).toNat := Int.mul_le_mul_of_nonneg_right (Int.le_of_lt b2) (Int.le_of_lt (pow2_pos _))
    have q2 : (2 : Int) ^ (B + 1) * 2 ^ ((bits a : Int) - bits b - 1 + M).toNat = 2 ^ A * 2 ^ M := by
      rw [← Int.pow_add, ← Int.pow_add]
      congr 1
      omega
    have q3 : (2 : Int) ^ A * 2 ^ M ≤ a * 2 ^ M := Int.mul_le_mul_of_nonneg_right a1 (Int.le_of_lt (pow2_pos _))
    omega
  · have q1 : a * 2 ^ M < 2 ^ (A + 1) * 2 ^ M := Int.mul_lt_mul_of_pos_right a2 (pow2_pos _)
    have q2 : (2 : Int) ^ (A + 1) * 2 ^ M = 2 ^ B * 2 ^ ((bits a : Int) - bits b + 1 + M).toNat := by
      rw [← Int.pow_add, ← Int.pow_add]
      congr 1
      omega
    have q3 : (2 : Int) ^ B * 2 ^ ((bits a : Int) - bits b + 1 + M).toNat ≤ b * 2 ^ ((bits a : Int) - bits b + 1 + M).toNat := Int.mul_le_mul_of_nonneg_right b1 (Int.le_of_lt (pow2_pos _))
    omega
theorem height_ok (M : Nat) (hM : 20000 ≤ M) {n k d : Int} (hn0 : n ≠ 0) (hn : bits n ≤ 8000) (hd0 : 0 < d) (hd : bits d ≤ 8000) :
    ∃ h, F.height_of [.int n, .int k, .int d] = .ok (.int (h + k)) ∧ Hs M (n.natAbs : Int) d h ∧ -8100 ≤ h ∧ h ≤ 8100 := by
  have hb : bits (n.natAbs : Int) ≤ 8000 := Bd.abs hn
  have ha : (0 : Int) < n.natAbs := by omega
  obtain ⟨f1, f2⟩ := hs_first (M := M) ha hd0 (by omega)
  simp only [F.height_of, F.b_height_of]
  rw [run_eq (by rfl)]
  generalize eh : (bits (n.natAbs : Int) : Int) - bits d = h at *
  have hl1 : -8000 ≤ h := by omega
  have hl2 : h ≤ 8000 := by omega
  simp (disch := omega) only [evSs, evS, evT, evE, evEs, evSrc, getS0, getSs, set0, setS, R.bind_ok, R.bind_ex, bind_ite, withR_ok, withR_ex, withR_ite, thenO_nxt, thenO_ret, thenO_ex, thenO_ite, outR_nxt, outR_ret, outR_ex, outR_ite, bool_ok, int_ok, bin_add, bin_sub, bin_mul, bin_fdiv, bin_mod, bin_shl, bin_shr, bin_pow, bin_and, bin_or, bin_xor, cmp_eq, cmp_ne, cmp_lt, cmp_le, cmp_gt, cmp_ge, add_int, sub_int, and_int, or_int, xor_int, neg_int, len_lst, len_tup, abs_int, int_int, int_bl, max_int, min_int, bits_int, ix_tup0, ix_tup1, ix_tup2, List.map_cons, List.map_nil, List.replicate, List.cons_append, List.nil_append, List.append_nil, List.length_cons, List.length_nil, decide_eq_true_eq, Nat.reduceSub, Nat.reduceAdd, Int.reduceToNat, hn0, if_false, eh, shl_ok, lift_lt (M := M) (show -(M : Int) ≤ h by omega)]
  split
  · rename_i c
    refine ⟨h - 1, rfl, ⟨by omega, f1, ?_⟩, by omega, by omega⟩
    rw [show h - 1 + 1 + (M : Int) = h + M by omega]
    exact c
  · rename_i c
    exact ⟨h, rfl, ⟨by omega, by omega, f2⟩, by omega, by omega⟩
theorem divmod_ok {i j : Int} (h : 0 < j) (h2 : bits j ≤ 8900) : f2D .divmod (.int i) (.int j) = .ok (.tup [.int (i / j), .int (i % j)]) := by
  refine if_pos ⟨h, PyProof.noPylong_of_log2 ?_⟩
  have h3 : j.natAbs < 2 ^ 8900 := Bd.iff.mp h2
  exact (Nat.log2_lt (by omega)).mpr (Nat.lt_of_lt_of_le h3 (Nat.pow_le_pow_right (by decide) (by decide)))
theorem in_steps_ok {n k d g : Int} (hn : bits n ≤ 20000) (h1 : -60000 ≤ k) (h2 : k ≤ 60000) (hd0 : 0 < d) (h3 : -60000 ≤ g) (h4 : g ≤ 60000) (hd : bits d ≤ 8900) (h5 : (bits d : Int) + (g - k) ≤ 8900) :
    F.in_steps [.int n, .int k, .int d, .int g] = .ok (.tup [.int ((n.natAbs : Int) * 2 ^ (k - min k g).toNat / (d * 2 ^ (g - min k g).toNat)), .int (sd ((n.natAbs : Int) * 2 ^ (k - min k g).toNat % (d * 2 ^ (g - min k g).toNat)) (d * 2 ^ (g - min k g).toNat))]) := by
  have hb : bits (n.natAbs : Int) ≤ 20000 := Bd.abs hn
  have hp := pow2_pos (g - min k g).toNat
  have hu : 0 < d * 2 ^ (g - min k g).toNat := Int.mul_pos (by omega) hp
  have b1 : bits (d * 2 ^ (g - min k g).toNat) ≤ 8900 := Nat.le_trans (Bd.shl _ (Nat.le_refl (bits d))) (by omega)
  have b2 : bits ((n.natAbs : Int) * 2 ^ (k - min k g).toNat) ≤ 200000 := Nat.le_trans (Bd.shl _ hb) (by omega)
  simp only [F.in_steps, F.b_in_steps]
  rw [run_eq (by rfl)]
  simp (disch := omega) only [evSs, evS, evT, evE, evEs, evSrc, getS0, getSs, set0, setS, R.bind_ok, R.bind_ex, bind_ite, withR_ok, withR_ex, withR_ite, thenO_nxt, thenO_ret, thenO_ex, thenO_ite, outR_nxt, outR_ret, outR_ex, outR_ite, bool_ok, int_ok, bin_add, bin_sub, bin_mul, bin_fdiv, bin_mod, bin_shl, bin_shr, bin_pow, bin_and, bin_or, bin_xor, cmp_eq, cmp_ne, cmp_lt, cmp_le, cmp_gt, cmp_ge, add_int, sub_int, and_int, or_int, xor_int, neg_int, len_lst, len_tup, abs_int, int_int, int_bl, max_int, min_int, bits_int, ix_tup0, ix_tup1, ix_tup2, List.map_cons, List.map_nil, List.replicate, List.cons_append, List.nil_append, List.append_nil, List.length_cons, List.length_nil, decide_eq_true_eq, Nat.reduceSub, Nat.reduceAdd, Int.reduceToNat, shl_ok]
  generalize d * 2 ^ (g - min k g).toNat = u at *
  generalize (n.natAbs : Int) * 2 ^ (k - min k g).toNat = t at *
  have b3 : bits 2 + bits (t % u) ≤ 134217728 := by
    have q1 : bits (t % u) ≤ 8900 := Bd.le (Bd.mod hu b1) (by decide)
    have q2 : bits 2 = 2 := by decide
    omega
  simp (disch := omega) only [divmod_ok, setAll, evSs, evS, evT, evE, evEs, evSrc, getS0, getSs, set0, setS, R.bind_ok, R.bind_ex, bind_ite, withR_ok, withR_ex, withR_ite, thenO_nxt, thenO_ret, thenO_ex, thenO_ite, outR_nxt, outR_ret, outR_ex, outR_ite, bool_ok, int_ok, bin_add, bin_sub, bin_mul, bin_fdiv, bin_mod, bin_shl, bin_shr, bin_pow, bin_and, bin_or, bin_xor, cmp_eq, cmp_ne, cmp_lt, cmp_le, cmp_gt, cmp_ge, add_int, sub_int, and_int, or_int, xor_int, neg_int, len_lst, len_tup, abs_int, int_int, int_bl, max_int, min_int, bits_int, ix_tup0, ix_tup1, ix_tup2, List.map_cons, List.map_nil, List.replicate, List.cons_append, List.nil_append, List.append_nil, List.length_cons, List.length_nil, decide_eq_true_eq, Nat.reduceSub, Nat.reduceAdd, Int.reduceToNat, mul_ok b3]
  unfold sd
  repeat' split
  all_goals first | rfl | omega
section
variable {a b : Nat}
def lpv (a b : Nat) : Int := 2 - 2 ^ (a - 1) - b
theorem Wd.ca (w : Wd a b) : (a : Int) - 1 = ((a - 1 : Nat) : Int) := by have := w.a1; omega
theorem bias_ok (w : Wd a b) : F.bias_of [.tup [.int a, .int b]] = .ok (.int (2 ^ (a - 1) - 1)) := by
  have h2 := w.a2
  have ca := w.ca
  simp only [F.bias_of, F.b_bias_of]
  rw [run_eq (by rfl)]
  simp (disch := omega) only [evSs, evS, evT, evE, evEs, evSrc, getS0, getSs, set0, setS, R.bind_ok, R.bind_ex, bind_ite, withR_ok, withR_ex, withR_ite, thenO_nxt, thenO_ret, thenO_ex, thenO_ite, outR_nxt, outR_ret, outR_ex, outR_ite, bool_ok, int_ok, bin_add, bin_sub, bin_mul, bin_fdiv, bin_mod, bin_shl, bin_shr, bin_pow, bin_and, bin_or, bin_xor, cmp_eq, cmp_ne, cmp_lt, cmp_le, cmp_gt, cmp_ge, add_int, sub_int, and_int, or_int, xor_int, neg_int, len_lst, len_tup, abs_int, int_int, int_bl, max_int, min_int, bits_int, ix_tup0, ix_tup1, ix_tup2, List.map_cons, List.map_nil, List.replicate, List.cons_append, List.nil_append, List.append_nil, List.length_cons, List.length_nil, decide_eq_true_eq, Nat.reduceSub, Nat.reduceAdd, Int.reduceToNat, ca, shl1]
theorem least_ok (w : Wd a b) : F.least_power [.tup [.int a, .int b]] = .ok (.int (lpv a b)) := by
  have e : (1 : Int) - (2 ^ (a - 1) - 1) - b = lpv a b := by unfold lpv; omega
  simp only [F.least_power, F.b_least_power]
  rw [run_eq (by rfl)]
  simp only [evSs, evS, evT, evE, evEs, evSrc, getS0, getSs, set0, setS, R.bind_ok, R.bind_ex, bind_ite, withR_ok, withR_ex, withR_ite, thenO_nxt, thenO_ret, thenO_ex, thenO_ite, outR_nxt, outR_ret, outR_ex, outR_ite, bool_ok, int_ok, bin_add, bin_sub, bin_mul, bin_fdiv, bin_mod, bin_shl, bin_shr, bin_pow, bin_and, bin_or, bin_xor, cmp_eq, cmp_ne, cmp_lt, cmp_le, cmp_gt, cmp_ge, add_int, sub_int, and_int, or_int, xor_int, neg_int, len_lst, len_tup, abs_int, int_int, int_bl, max_int, min_int, bits_int, ix_tup0, ix_tup1, ix_tup2, List.map_cons, List.map_nil, List.replicate, List.cons_append, List.nil_append, List.append_nil, List.length_cons, List.length_nil, decide_eq_true_eq, Nat.reduceSub, Nat.reduceAdd, Int.reduceToNat, bias_ok w, e]
theorem Wd.lp (w : Wd a b) : -1082 ≤ lpv a b ∧ lpv a b ≤ -1 := by
  have h1 := w.a1; have h2 := w.a2; have h3 := w.b1; have h4 := w.b2
  have p1 := pow_le_i (show 1 ≤ a - 1 by omega)
  have p2 := pow_le_i (show a - 1 ≤ 10 by omega)
  have e1 : (2 : Int) ^ 1 = 2 := rfl
  have e2 : (2 : Int) ^ 10 = 1024 := rfl
  unfold lpv
  omega
theorem withsign_ok (w : Wd a b) {x : Int} (h0 : 0 ≤ x) (h1 : x < 2 ^ (a + b)) (lo : Bool) : F.with_sign [.tup [.int a, .int b], .int x, .bl lo] = .ok (.int (x + if lo = true then 2 ^ (a + b) else 0)) := by
  have e : Builtin.bitOr x (2 ^ (a + b)) = x + 2 ^ (a + b) := by
    have := or_shift (x := 1) (y := x) (k := a + b) h0 h1
    rw [PyProof.Rows.bitOr_comm, ← Int.one_mul (2 ^ (a + b)), this]
    omega
  simp only [F.with_sign, F.b_with_sign]
  rw [run_eq (by rfl)]
  cases lo
  · simp only [evSs, evS, evT, evE, evEs, evSrc, getS0, getSs, set0, setS, R.bind_ok, R.bind_ex, bind_ite, withR_ok, withR_ex, withR_ite, thenO_nxt, thenO_ret, thenO_ex, thenO_ite, outR_nxt, outR_ret, outR_ex, outR_ite, bool_ok, int_ok, bin_add, bin_sub, bin_mul, bin_fdiv, bin_mod, bin_shl, bin_shr, bin_pow, bin_and, bin_or, bin_xor, cmp_eq, cmp_ne, cmp_lt, cmp_le, cmp_gt, cmp_ge, add_int, sub_int, and_int, or_int, xor_int, neg_int, len_lst, len_tup, abs_int, int_int, int_bl, max_int, min_int, bits_int, ix_tup0, ix_tup1, ix_tup2, List.map_cons, List.map_nil, List.replicate, List.cons_append, List.nil_append, List.append_nil, List.length_cons, List.length_nil, decide_eq_true_eq, Nat.reduceSub, Nat.reduceAdd, Int.reduceToNat, Bool.false_eq_true, if_false, Int.add_zero]
  · simp only [evSs, evS, evT, evE, evEs, evSrc, getS0, getSs, set0, setS, R.bind_ok, R.bind_ex, bind_ite, withR_ok, withR_ex, withR_ite, thenO_nxt, thenO_ret, thenO_ex, thenO_ite, outR_nxt, outR_ret, outR_ex, outR_ite, bool_ok, int_ok, bin_add, bin_sub, bin_mul, bin_fdiv, bin_mod, bin_shl, bin_shr, bin_pow, bin_and, bin_or, bin_xor, cmp_eq, cmp_ne, cmp_lt, cmp_le, cmp_gt, cmp_ge, add_int, sub_int, and_int, or_int, xor_int, neg_int, len_lst, len_tup, abs_int, int_int, int_bl, max_int, min_int, bits_int, ix_tup0, ix_tup1, ix_tup2, List.map_cons, List.map_nil, List.replicate, List.cons_append, List.nil_append, List.append_nil, List.length_cons, List.length_nil, decide_eq_true_eq, Nat.reduceSub, Nat.reduceAdd, Int.reduceToNat, sign_ok w, e, if_true]
theorem beyond_ok (w : Wd a b) {c : Nat} (hc : c < 5) (lo : Bool) : F.beyond [.tup [.int a, .int b], .obj c, .bl lo] = .ok (.tup [.int ((if gw c true 3 lo = true then (2 ^ a - 1) * 2 ^ b else (2 ^ a - 1) * 2 ^ b - 1) + if lo = true then 2 ^ (a + b) else 0), .int 20]) := by
  obtain ⟨L, H, eL, eH, hL, hLH, e2⟩ := w.lh
  have s1 := withsign_ok w (x := L) (by omega) (by omega) lo
  have s2 := withsign_ok w (x := L - 1) (by omega) (by omega) lo
  have e20 : Builtin.bitOr 4 16 = 20 := by decide
  simp only [F.beyond, F.b_beyond]
  rw [run_eq (by rfl)]
  rw [eL]
  have ee := endless_ok w
  rw [eL] at ee
  cases hg : gw c true 3 lo
  · simp only [evSs, evS, evT, evE, evEs, evSrc, getS0, getSs, set0, setS, R.bind_ok, R.bind_ex, bind_ite, withR_ok, withR_ex, withR_ite, thenO_nxt, thenO_ret, thenO_ex, thenO_ite, outR_nxt, outR_ret, outR_ex, outR_ite, bool_ok, int_ok, bin_add, bin_sub, bin_mul, bin_fdiv, bin_mod, bin_shl, bin_shr, bin_pow, bin_and, bin_or, bin_xor, cmp_eq, cmp_ne, cmp_lt, cmp_le, cmp_gt, cmp_ge, add_int, sub_int, and_int, or_int, xor_int, neg_int, len_lst, len_tup, abs_int, int_int, int_bl, max_int, min_int, bits_int, ix_tup0, ix_tup1, ix_tup2, List.map_cons, List.map_nil, List.replicate, List.cons_append, List.nil_append, List.append_nil, List.length_cons, List.length_nil, decide_eq_true_eq, Nat.reduceSub, Nat.reduceAdd, Int.reduceToNat, ee, obj_ok, grows_ok hc, hg, Bool.not_false, Bool.not_true, Bool.false_eq_true, if_false, if_true, s2, e20]
  · simp only [evSs, evS, evT, evE, evEs, evSrc, getS0, getSs, set0, setS, R.bind_ok, R.bind_ex, bind_ite, withR_ok, withR_ex, withR_ite, thenO_nxt, thenO_ret, thenO_ex, thenO_ite, outR_nxt, outR_ret, outR_ex, outR_ite, bool_ok, int_ok, bin_add, bin_sub, bin_mul, bin_fdiv, bin_mod, bin_shl, bin_shr, bin_pow, bin_and, bin_or, bin_xor, cmp_eq, cmp_ne, cmp_lt, cmp_le, cmp_gt, cmp_ge, add_int, sub_int, and_int, or_int, xor_int, neg_int, len_lst, len_tup, abs_int, int_int, int_bl, max_int, min_int, bits_int, ix_tup0, ix_tup1, ix_tup2, List.map_cons, List.map_nil, List.replicate, List.cons_append, List.nil_append, List.append_nil, List.length_cons, List.length_nil, decide_eq_true_eq, Nat.reduceSub, Nat.reduceAdd, Int.reduceToNat, ee, obj_ok, grows_ok hc, hg, Bool.not_false, Bool.not_true, Bool.false_eq_true, if_false, if_true, s1, e20]
theorem due_ok (w : Wd a b) {z h : Int} : F.due_marks [.tup [.int a, .int b], .int z, .int h] = .ok (.int (if z = 0 then 0 else if h < lpv a b + b then 24 else 16)) := by
  have e24 : Builtin.bitOr 8 16 = 24 := by decide
  have e : (1 : Int) - (2 ^ (a - 1) - 1) = lpv a b + b := by unfold lpv; omega
  simp only [F.due_marks, F.b_due_marks]
  rw [run_eq (by rfl)]
  simp only [evSs, evS, evT, evE, evEs, evSrc, getS0, getSs, set0, setS, R.bind_ok, R.bind_ex, bind_ite, withR_ok, withR_ex, withR_ite, thenO_nxt, thenO_ret, thenO_ex, thenO_ite, outR_nxt, outR_ret, outR_ex, outR_ite, bool_ok, int_ok, bin_add, bin_sub, bin_mul, bin_fdiv, bin_mod, bin_shl, bin_shr, bin_pow, bin_and, bin_or, bin_xor, cmp_eq, cmp_ne, cmp_lt, cmp_le, cmp_gt, cmp_ge, add_int, sub_int, and_int, or_int, xor_int, neg_int, len_lst, len_tup, abs_int, int_int, int_bl, max_int, min_int, bits_int, ix_tup0, ix_tup1, ix_tup2, List.map_cons, List.map_nil, List.replicate, List.cons_append, List.nil_append, List.append_nil, List.length_cons, List.length_nil, decide_eq_true_eq, Nat.reduceSub, Nat.reduceAdd, Int.reduceToNat, bias_ok w, e, e24]
  repeat' split
  all_goals rfl
/-! ### taken -/
def tkG (c : Nat) (lo : Bool) (s z : Int) : Int := if 0 < z ∧ gw c (decide (s % 2 = 1)) z lo = true then s + 1 else s
def tkW (a b c : Nat) (lo : Bool) (s z : Int) : Int := (if (2 ^ a - 1) * 2 ^ b ≤ tkG c lo s z then (if gw c true 3 lo = true then (2 ^ a - 1) * 2 ^ b else (2 ^ a - 1) * 2 ^ b - 1) else tkG c lo s z) + if lo = true then 2 ^ (a + b) else 0
def tkM (a b c : Nat) (lo : Bool) (s z : Int) : Int := if (2 ^ a - 1) * 2 ^ b ≤ tkG c lo s z then 20 else if z = 0 then 0 else if s < 2 ^ b then 24 else 16
theorem tkG_nn {c : Nat} {lo : Bool} {s z : Int} (h : 0 ≤ s) : 0 ≤ tkG c lo s z := by
  unfold tkG
  split <;> omega
/-- the steps and the exponent that the program reckons are the size's -/
theorem taken_core (w : Wd a b) {n k d : Int} (n0 : n ≠ 0) (hn : bits n ≤ 8000) (d0 : 0 < d) (hd : bits d ≤ 8000) (k1 : -20000 ≤ k) (k2 : k ≤ 20000) (hk : (bits d : Int) - k ≤ 8700) :
    ∃ (h : Int) (P : Nat) (q z : Int), F.height_of [.int n, .int k, .int d] = .ok (.int h) ∧ max (h - b) (lpv a b) = lpv a b + P ∧ P ≤ 40000 ∧ F.in_steps [.int n, .int k, .int d, .int (lpv a b + P)] = .ok (.tup [.int q, .int z]) ∧ 0 ≤ q ∧ q ≤ 2 ^ (b + 1) ∧
      AtS' b ((n.natAbs : Int) * 2 ^ (k - lpv a b).toNat) (d * 2 ^ (lpv a b - k).toNat) ((P : Int) * 2 ^ b + q) ∧ z = side b ((n.natAbs : Int) * 2 ^ (k - lpv a b).toNat) (d * 2 ^ (lpv a b - k).toNat) ((P : Int) * 2 ^ b + q) ∧ (h < lpv a b + b ↔ (P : Int) * 2 ^ b + q < 2 ^ b) := by
  have h2 := w.a2; have h3 := w.b1; have h4 := w.b2
  obtain ⟨l1, l2⟩ := w.lp
  obtain ⟨h, e1, ⟨p0, p1, p2⟩, g1, g2⟩ := height_ok 40000 (by decide) (k := k) n0 hn d0 hd
  generalize hl : lpv a b = l at *
  -- the two bounds by the least step
  have lo : ∀ e : Nat, (e : Int) ≤ h + k - l → d * 2 ^ (l - k).toNat * 2 ^ e ≤ (n.natAbs : Int) * 2 ^ (k - l).toNat := by
    intro e he
    have q1 : d * 2 ^ ((e : Int) + l - k + 40000).toNat ≤ (n.natAbs : Int) * 2 ^ 40000 := Int.le_trans (Int.mul_le_mul_of_nonneg_left (pow_le_i (by omega)) (Int.le_of_lt d0)) p1
    have q2 := Int.mul_le_mul_of_nonneg_right q1 (Int.le_of_lt (pow2_pos (k - l).toNat))
    rw [Int.mul_assoc, ← Int.pow_add, Int.mul_right_comm] at q2
    refine Int.le_of_mul_le_mul_right ?_ (pow2_pos 40000)
    rw [Int.mul_assoc d, ← Int.pow_add, Int.mul_assoc d, ← Int.pow_add]
    rw [show (l - k).toNat + e + 40000 = ((e : Int) + l - k + 40000).toNat + (k - l).toNat by omega]
    exact q2
  have hi : ∀ e : Nat, h + k + 1 - l ≤ (e : Int) → (n.natAbs : Int) * 2 ^ (k - l).toNat < d * 2 ^ (l - k).toNat * 2 ^ e := by
    intro e he
    have q1 : (n.natAbs : Int) * 2 ^ 40000 < d * 2 ^ ((e : Int) + l - k + 40000).toNat := Int.lt_of_lt_of_le p2 (Int.mul_le_mul_of_nonneg_left (pow_le_i (by omega)) (Int.le_of_lt d0))
    have q2 := Int.mul_lt_mul_of_pos_right q1 (pow2_pos (k - l).toNat)
    rw [Int.mul_assoc d, ← Int.pow_add, Int.mul_right_comm] at q2
    refine Int.lt_of_mul_lt_mul_right ?_ (Int.le_of_lt (pow2_pos 40000))
    rw [Int.mul_assoc d, ← Int.pow_add, Int.mul_assoc d, ← Int.pow_add]
    rw [show (l - k).toNat + e + 40000 = ((e : Int) + l - k + 40000).toNat + (k - l).toNat by omega]
    exact q2
  obtain ⟨P, hP⟩ : ∃ P : Nat, max (h + k - b) l = l + P := ⟨(max (h + k - b) l - l).toNat, by omega⟩
  have hPs : P ≤ 40000 := by omega
  -- unit and number
  have es := in_steps_ok (n := n) (k := k) (d := d) (g := l + P) (by omega) (by omega) (by omega) d0 (by omega) (by omega) (by omega) (by
    have hb := Bd.abs hn
    by_cases c : P = 0
    · omega
    · -- the power is the height's
      have : l + (P : Int) = h + k - b := by omega
      obtain ⟨A, eA, a1, a2⟩ := bits_low (a := (n.natAbs : Int)) (by omega)
      obtain ⟨B, eB, b1, b2⟩ := bits_low d0
      -- h ≤ A - B
      have hh : h ≤ (A : Int) - B := by
        by_cases c2 : h ≤ (A : Int) - B
        · exact c2
        · exfalso
          have r1 : (2 : Int) ^ B * 2 ^ (h + 40000).toNat ≤ d * 2 ^ (h + 40000).toNat := Int.mul_le_mul_of_nonneg_right b1 (Int.le_of_lt (pow2_pos _))
          have r2 : (n.natAbs : Int) * 2 ^ 40000 < 2 ^ (A + 1) * 2 ^ 40000 := Int.mul_lt_mul_of_pos_right a2 (pow2_pos _)
          rw [← Int.pow_add] at r1 r2
          have r3 := pow_le_i (show A + 1 + 40000 ≤ B + (h + 40000).toNat by omega)
          have p1' : d * 2 ^ (h + 40000).toNat ≤ (n.natAbs : Int) * 2 ^ 40000 := p1
          omega
      omega)
  generalize hV : (n.natAbs : Int) * 2 ^ (k - min k (l + P)).toNat = V at es
  generalize hU : d * 2 ^ (l + P - min k (l + P)).toNat = U at es
  have U0 : 0 < U := by rw [← hU]; exact Int.mul_pos d0 (pow2_pos _)
  have V0 : 0 ≤ V := by rw [← hV]; exact Int.mul_nonneg (by omega) (Int.le_of_lt (pow2_pos _))
  -- the scale
  have eM : (n.natAbs : Int) * 2 ^ (k - l).toNat = V * 2 ^ ((k - l).toNat - (k - min k (l + P)).toNat) := by
    rw [← hV, Int.mul_assoc, ← Int.pow_add]
    congr 2
    omega
  have eN : d * 2 ^ (l - k).toNat * 2 ^ P = U * 2 ^ ((k - l).toNat - (k - min k (l + P)).toNat) := by
    rw [← hU, Int.mul_assoc, ← Int.pow_add, Int.mul_assoc, ← Int.pow_add]
    congr 2
    omega
  generalize ((k - l).toNat - (k - min k (l + P)).toNat) = δ at eM eN
  have hδ := pow2_pos δ
  generalize hM : (n.natAbs : Int) * 2 ^ (k - l).toNat = M at *
  generalize hNN : d * 2 ^ (l - k).toNat = N at *
  have N0 : 0 < N := by rw [← hNN]; exact Int.mul_pos d0 (pow2_pos _)
  have dm := Int.mul_ediv_add_emod V U
  have m0 := Int.emod_nonneg V (show U ≠ 0 by omega)
  have m1 := Int.emod_lt_of_pos V U0
  have q0 : 0 ≤ V / U := Int.ediv_nonneg V0 (Int.le_of_lt U0)
  have hp := pow2_pos b
  have hs : (2 : Int) ^ (b + 1) = 2 * 2 ^ b := by rw [Int.pow_succ]; omega
  -- e steps up
  have loV : ∀ e : Nat, ((P + e : Nat) : Int) ≤ h + k - l → (2 : Int) ^ e ≤ V / U := fun e he => by
    have t := lo (P + e) he
    rw [Int.pow_add, ← Int.mul_assoc, eN, eM, Int.mul_right_comm] at t
    have t2 := Int.le_of_mul_le_mul_right t hδ
    exact (Int.le_ediv_iff_mul_le U0).mpr (by rw [Int.mul_comm]; exact t2)
  have hiV : ∀ e : Nat, h + k + 1 - l ≤ ((P + e : Nat) : Int) → V / U < 2 ^ e := fun e he => by
    have t := hi (P + e) he
    rw [Int.pow_add, ← Int.mul_assoc, eN, eM, Int.mul_right_comm] at t
    have t2 := Int.lt_of_mul_lt_mul_right t (Int.le_of_lt hδ)
    exact Int.ediv_lt_of_lt_mul U0 (by rw [Int.mul_comm]; exact t2)
  have q1 : V / U < 2 ^ (b + 1) := hiV (b + 1) (by omega)
  have qq : P = 0 ∨ 2 ^ b ≤ V / U := by
    by_cases c : P = 0
    · exact .inl c
    · exact .inr (loV b (by omega))
  have f1 : st b ((P : Int) * 2 ^ b + V / U) = V / U * 2 ^ P := st_at (by omega)
  have f2 : st b ((P : Int) * 2 ^ b + V / U + 1) = (V / U + 1) * 2 ^ P := by rw [Int.add_assoc]; exact st_at (by omega)
  have e5 : V / U * 2 ^ P * N = V / U * U * 2 ^ δ := by rw [Int.mul_assoc, Int.mul_comm (2 ^ P), eN, Int.mul_assoc]
  have e6 : (V / U + 1) * 2 ^ P * N = (V / U + 1) * U * 2 ^ δ := by rw [Int.mul_assoc, Int.mul_comm (2 ^ P), eN, Int.mul_assoc]
  refine ⟨h + k, P, V / U, _, e1, hP, hPs, es, q0, Int.le_of_lt q1, ⟨?_, ?_, ?_⟩, ?_, ?_⟩
  · have := Int.mul_nonneg (show 0 ≤ (P : Int) by omega) (Int.le_of_lt hp)
    omega
  · rw [f1, e5, eM]
    exact Int.mul_le_mul_of_nonneg_right (by rw [Int.mul_comm]; omega) (Int.le_of_lt hδ)
  · rw [f2, e6, eM]
    refine Int.mul_lt_mul_of_pos_right ?_ hδ
    rw [Int.add_mul, Int.mul_comm (V / U)]
    omega
  · unfold side
    rw [f1, f2, e5, eM, ← Int.sub_mul, ← Int.sub_mul, show V / U + 1 - V / U = 1 by omega, Int.one_mul, Int.mul_comm (2 ^ P), eN, sd_mul hδ]
    congr 1
    rw [Int.mul_comm]
    omega
  · have hpp := Int.mul_le_mul_of_nonneg_right (c := (2 : Int) ^ b) (show (if P = 0 then (0 : Int) else 1) ≤ P by split <;> omega) (Int.le_of_lt hp)
    constructor
    · intro c
      have z : P = 0 := by omega
      have := hiV b (by omega)
      rw [z]
      simp
      exact this
    · intro c
      by_cases c2 : h + k < l + b
      · exact c2
      · exfalso
        rcases qq with z | z
        · have := loV b (by omega)
          rw [z] at c
          simp at c
          omega
        · by_cases y : P = 0
          · rw [y] at c; simp at c; omega
          · rw [if_neg y] at hpp; omega
theorem taken_at (w : Wd a b) {c : Nat} (hc : c < 5) {n k d M N s : Int} (n0 : n ≠ 0) (hn : bits n ≤ 8000) (d0 : 0 < d) (hd : bits d ≤ 8000) (k1 : -20000 ≤ k) (k2 : k ≤ 20000) (hk : (bits d : Int) - k ≤ 8700)
    (hN : 0 < N) (hr : (n.natAbs : Int) * 2 ^ (k - lpv a b).toNat * N = M * (d * 2 ^ (lpv a b - k).toNat)) (hs : AtS' b M N s) :
    F.taken [.tup [.int a, .int b], .int n, .int k, .int d, .str (wn c)] = .ok (.tup [.int (tkW a b c (decide (n < 0)) s (side b M N s)), .int (tkM a b c (decide (n < 0)) s (side b M N s))]) := by
  have h3 := w.b1; have h4 := w.b2
  obtain ⟨l1, l2⟩ := w.lp
  obtain ⟨h, P, q, z, e1, e2, e3, e4, q0, q1, at1, ez, ed⟩ := taken_core w n0 hn d0 hd k1 k2 hk
  have N1 : 0 < d * 2 ^ (lpv a b - k).toNat := Int.mul_pos d0 (pow2_pos _)
  have es : s = (P : Int) * 2 ^ b + q := at_uniq hN hs (at_ratio N1 hN hr at1)
  have ez2 : z = side b M N s := by rw [ez, es]; exact side_ratio N1 hN hr
  have hp := pow2_pos b
  obtain ⟨L, H, eL, eH, hL, hLH, eW⟩ := w.lh
  have ee := endless_ok w
  rw [eL] at ee
  -- the parity
  have par : q % 2 = s % 2 := by
    obtain ⟨j, rfl⟩ : ∃ j, b = j + 1 := ⟨b - 1, by omega⟩
    rw [es, Int.pow_succ, ← Int.mul_assoc]
    omega
  have bp : bits (P : Int) ≤ 100 := Bd.rng (by have : (2 : Int) ^ 100 = 1267650600228229401496703205376 := rfl; omega) (by have : (2 : Int) ^ 100 = 1267650600228229401496703205376 := rfl; omega)
  have esh : shlD (.int (P : Int)) (.int (b : Int)) = .ok (.int ((P : Int) * 2 ^ b)) := shlN (by omega)
  have s0 := hs.s0
  have ws : ∀ {x : Int}, 0 ≤ x → x < L → F.with_sign [.tup [.int a, .int b], .int x, .bl (decide (n < 0))] = .ok (.int (x + if n < 0 then 2 ^ (a + b) else 0)) := fun {x} x0 x1 => by
    rw [withsign_ok w x0 (by omega)]
    simp only [decide_eq_true_eq]
  simp only [F.taken, F.b_taken]
  rw [run_eq (by rfl)]
  simp only [List.map_cons, List.map_nil, List.replicate, List.cons_append, List.nil_append, Nat.reduceSub]
  refine seq (P := fun o => outR o = _) (by simp only [evSs, evS, evT, evE, evEs, evSrc, getS0, getSs, set0, setS, R.bind_ok, R.bind_ex, bind_ite, withR_ok, withR_ex, withR_ite, thenO_nxt, thenO_ret, thenO_ex, thenO_ite, outR_nxt, outR_ret, outR_ex, outR_ite, bool_ok, int_ok, bin_add, bin_sub, bin_mul, bin_fdiv, bin_mod, bin_shl, bin_shr, bin_pow, bin_and, bin_or, bin_xor, cmp_eq, cmp_ne, cmp_lt, cmp_le, cmp_gt, cmp_ge, add_int, sub_int, and_int, or_int, xor_int, neg_int, len_lst, len_tup, abs_int, int_int, int_bl, max_int, min_int, bits_int, ix_tup0, ix_tup1, ix_tup2, List.map_cons, List.map_nil, List.replicate, List.cons_append, List.nil_append, List.append_nil, List.length_cons, List.length_nil, decide_eq_true_eq, Nat.reduceSub, Nat.reduceAdd, Int.reduceToNat, way_ok hc]; rfl) ?_
  refine seq (P := fun o => outR o = _) (by simp only [evSs, evS, evT, evE, evEs, evSrc, getS0, getSs, set0, setS, R.bind_ok, R.bind_ex, bind_ite, withR_ok, withR_ex, withR_ite, thenO_nxt, thenO_ret, thenO_ex, thenO_ite, outR_nxt, outR_ret, outR_ex, outR_ite, bool_ok, int_ok, bin_add, bin_sub, bin_mul, bin_fdiv, bin_mod, bin_shl, bin_shr, bin_pow, bin_and, bin_or, bin_xor, cmp_eq, cmp_ne, cmp_lt, cmp_le, cmp_gt, cmp_ge, add_int, sub_int, and_int, or_int, xor_int, neg_int, len_lst, len_tup, abs_int, int_int, int_bl, max_int, min_int, bits_int, ix_tup0, ix_tup1, ix_tup2, List.map_cons, List.map_nil, List.replicate, List.cons_append, List.nil_append, List.append_nil, List.length_cons, List.length_nil, decide_eq_true_eq, Nat.reduceSub, Nat.reduceAdd, Int.reduceToNat, n0, decide_false, Bool.false_eq_true, if_false]; rfl) ?_
  refine seq (P := fun o => outR o = _) (by simp only [evSs, evS, evT, evE, evEs, evSrc, getS0, getSs, set0, setS, R.bind_ok, R.bind_ex, bind_ite, withR_ok, withR_ex, withR_ite, thenO_nxt, thenO_ret, thenO_ex, thenO_ite, outR_nxt, outR_ret, outR_ex, outR_ite, bool_ok, int_ok, bin_add, bin_sub, bin_mul, bin_fdiv, bin_mod, bin_shl, bin_shr, bin_pow, bin_and, bin_or, bin_xor, cmp_eq, cmp_ne, cmp_lt, cmp_le, cmp_gt, cmp_ge, add_int, sub_int, and_int, or_int, xor_int, neg_int, len_lst, len_tup, abs_int, int_int, int_bl, max_int, min_int, bits_int, ix_tup0, ix_tup1, ix_tup2, List.map_cons, List.map_nil, List.replicate, List.cons_append, List.nil_append, List.append_nil, List.length_cons, List.length_nil, decide_eq_true_eq, Nat.reduceSub, Nat.reduceAdd, Int.reduceToNat, e1]; rfl) ?_
  refine seq (P := fun o => outR o = _) (by simp only [evSs, evS, evT, evE, evEs, evSrc, getS0, getSs, set0, setS, R.bind_ok, R.bind_ex, bind_ite, withR_ok, withR_ex, withR_ite, thenO_nxt, thenO_ret, thenO_ex, thenO_ite, outR_nxt, outR_ret, outR_ex, outR_ite, bool_ok, int_ok, bin_add, bin_sub, bin_mul, bin_fdiv, bin_mod, bin_shl, bin_shr, bin_pow, bin_and, bin_or, bin_xor, cmp_eq, cmp_ne, cmp_lt, cmp_le, cmp_gt, cmp_ge, add_int, sub_int, and_int, or_int, xor_int, neg_int, len_lst, len_tup, abs_int, int_int, int_bl, max_int, min_int, bits_int, ix_tup0, ix_tup1, ix_tup2, List.map_cons, List.map_nil, List.replicate, List.cons_append, List.nil_append, List.append_nil, List.length_cons, List.length_nil, decide_eq_true_eq, Nat.reduceSub, Nat.reduceAdd, Int.reduceToNat, least_ok w]; rfl) ?_
  refine seq (P := fun o => outR o = _) (by simp only [evSs, evS, evT, evE, evEs, evSrc, getS0, getSs, set0, setS, R.bind_ok, R.bind_ex, bind_ite, withR_ok, withR_ex, withR_ite, thenO_nxt, thenO_ret, thenO_ex, thenO_ite, outR_nxt, outR_ret, outR_ex, outR_ite, bool_ok, int_ok, bin_add, bin_sub, bin_mul, bin_fdiv, bin_mod, bin_shl, bin_shr, bin_pow, bin_and, bin_or, bin_xor, cmp_eq, cmp_ne, cmp_lt, cmp_le, cmp_gt, cmp_ge, add_int, sub_int, and_int, or_int, xor_int, neg_int, len_lst, len_tup, abs_int, int_int, int_bl, max_int, min_int, bits_int, ix_tup0, ix_tup1, ix_tup2, List.map_cons, List.map_nil, List.replicate, List.cons_append, List.nil_append, List.append_nil, List.length_cons, List.length_nil, decide_eq_true_eq, Nat.reduceSub, Nat.reduceAdd, Int.reduceToNat, e2]; rfl) ?_
  refine seq (P := fun o => outR o = _) (by simp only [evSs, evS, evT, evE, evEs, evSrc, getS0, getSs, set0, setS, R.bind_ok, R.bind_ex, bind_ite, withR_ok, withR_ex, withR_ite, thenO_nxt, thenO_ret, thenO_ex, thenO_ite, outR_nxt, outR_ret, outR_ex, outR_ite, bool_ok, int_ok, bin_add, bin_sub, bin_mul, bin_fdiv, bin_mod, bin_shl, bin_shr, bin_pow, bin_and, bin_or, bin_xor, cmp_eq, cmp_ne, cmp_lt, cmp_le, cmp_gt, cmp_ge, add_int, sub_int, and_int, or_int, xor_int, neg_int, len_lst, len_tup, abs_int, int_int, int_bl, max_int, min_int, bits_int, ix_tup0, ix_tup1, ix_tup2, List.map_cons, List.map_nil, List.replicate, List.cons_append, List.nil_append, List.append_nil, List.length_cons, List.length_nil, decide_eq_true_eq, Nat.reduceSub, Nat.reduceAdd, Int.reduceToNat, e4, setAll]; rfl) ?_
  have bg : ∀ t : Int, (P : Int) * 2 ^ b + (q + t) = s + t := fun t => by omega
  have fin : ∀ g : Int, g = tkG c (decide (n < 0)) s (side b M N s) - (P : Int) * 2 ^ b → outR (evSs (.cons (.asg 11 (.bin .add (.bin .shl (.bin .sub (.var 8) (.var 7)) (.ix (.var 0) (.int 1))) (.var 9)))
  (.cons (.ifs (.cmp .ge (.var 11) (.call "endless_of" F.endless_of (.cons (.var 0) (.cons (.bl false) .nil)) [])) (.cons (.ret (.call "beyond" F.beyond (.cons (.var 0) (.cons (.var 5) (.cons (.cmp .lt (.var 1) (.int 0)) .nil))) []))
  .nil) .nil)
  (.cons (.ret (.tup (.cons (.call "with_sign" F.with_sign (.cons (.var 0) (.cons (.var 11) (.cons (.cmp .lt (.var 1) (.int 0)) .nil))) []) (.cons (.call "due_marks" F.due_marks (.cons (.var 0) (.cons (.var 10) (.cons (.var 6) .nil))) []) .nil))))
  .nil))) [.dat (.tup [.int a, .int b]), .dat (.int n), .dat (.int k), .dat (.int d), .dat (.str (wn c)), .dat (.obj c), .dat (.int h), .dat (.int (lpv a b)), .dat (.int (lpv a b + P)), .dat (.int g), .dat (.int z), .un]) = .ok (.tup [.int (tkW a b c (decide (n < 0)) s (side b M N s)), .int (tkM a b c (decide (n < 0)) s (side b M N s))]) := by
    intro g hg
    have ga : (P : Int) * 2 ^ b + g = tkG c (decide (n < 0)) s (side b M N s) := by omega
    have gn := tkG_nn (c := c) (lo := decide (n < 0)) (z := side b M N s) s0
    have el : lpv a b + (P : Int) - lpv a b = P := by omega
    have bo := beyond_ok w hc (decide (n < 0))
    unfold tkW tkM
    rw [eL] at bo ⊢
    generalize tkG c (decide (n < 0)) s (side b M N s) = G at *
    refine seq (P := fun o => outR o = _) (by simp only [evSs, evS, evT, evE, evEs, evSrc, getS0, getSs, set0, setS, R.bind_ok, R.bind_ex, bind_ite, withR_ok, withR_ex, withR_ite, thenO_nxt, thenO_ret, thenO_ex, thenO_ite, outR_nxt, outR_ret, outR_ex, outR_ite, bool_ok, int_ok, bin_add, bin_sub, bin_mul, bin_fdiv, bin_mod, bin_shl, bin_shr, bin_pow, bin_and, bin_or, bin_xor, cmp_eq, cmp_ne, cmp_lt, cmp_le, cmp_gt, cmp_ge, add_int, sub_int, and_int, or_int, xor_int, neg_int, len_lst, len_tup, abs_int, int_int, int_bl, max_int, min_int, bits_int, ix_tup0, ix_tup1, ix_tup2, List.map_cons, List.map_nil, List.replicate, List.cons_append, List.nil_append, List.append_nil, List.length_cons, List.length_nil, decide_eq_true_eq, Nat.reduceSub, Nat.reduceAdd, Int.reduceToNat, el, esh, ga]; rfl) ?_
    by_cases cl : L ≤ G
    · simp only [evSs, evS, evT, evE, evEs, evSrc, getS0, getSs, set0, setS, R.bind_ok, R.bind_ex, bind_ite, withR_ok, withR_ex, withR_ite, thenO_nxt, thenO_ret, thenO_ex, thenO_ite, outR_nxt, outR_ret, outR_ex, outR_ite, bool_ok, int_ok, bin_add, bin_sub, bin_mul, bin_fdiv, bin_mod, bin_shl, bin_shr, bin_pow, bin_and, bin_or, bin_xor, cmp_eq, cmp_ne, cmp_lt, cmp_le, cmp_gt, cmp_ge, add_int, sub_int, and_int, or_int, xor_int, neg_int, len_lst, len_tup, abs_int, int_int, int_bl, max_int, min_int, bits_int, ix_tup0, ix_tup1, ix_tup2, List.map_cons, List.map_nil, List.replicate, List.cons_append, List.nil_append, List.append_nil, List.length_cons, List.length_nil, decide_eq_true_eq, Nat.reduceSub, Nat.reduceAdd, Int.reduceToNat, ee, cl, decide_true, if_true, bo]
    · rw [if_neg cl, if_neg cl]
      simp only [evSs, evS, evT, evE, evEs, evSrc, getS0, getSs, set0, setS, R.bind_ok, R.bind_ex, bind_ite, withR_ok, withR_ex, withR_ite, thenO_nxt, thenO_ret, thenO_ex, thenO_ite, outR_nxt, outR_ret, outR_ex, outR_ite, bool_ok, int_ok, bin_add, bin_sub, bin_mul, bin_fdiv, bin_mod, bin_shl, bin_shr, bin_pow, bin_and, bin_or, bin_xor, cmp_eq, cmp_ne, cmp_lt, cmp_le, cmp_gt, cmp_ge, add_int, sub_int, and_int, or_int, xor_int, neg_int, len_lst, len_tup, abs_int, int_int, int_bl, max_int, min_int, bits_int, ix_tup0, ix_tup1, ix_tup2, List.map_cons, List.map_nil, List.replicate, List.cons_append, List.nil_append, List.append_nil, List.length_cons, List.length_nil, decide_eq_true_eq, Nat.reduceSub, Nat.reduceAdd, Int.reduceToNat, ee, cl, decide_false, Bool.false_eq_true, if_false, ws gn (show G < L by omega), due_ok w, ed, ← es, ez2]
  by_cases cz : 0 < z
  · have tt : gw c (decide (q % 2 = 1)) z (decide (n < 0)) = gw c (decide (s % 2 = 1)) (side b M N s) (decide (n < 0)) := by rw [par, ez2]
    cases hg : gw c (decide (s % 2 = 1)) (side b M N s) (decide (n < 0))
    · refine seq (P := fun o => outR o = _) (by simp (disch := decide) only [evSs, evS, evT, evE, evEs, evSrc, getS0, getSs, set0, setS, R.bind_ok, R.bind_ex, bind_ite, withR_ok, withR_ex, withR_ite, thenO_nxt, thenO_ret, thenO_ex, thenO_ite, outR_nxt, outR_ret, outR_ex, outR_ite, bool_ok, int_ok, bin_add, bin_sub, bin_mul, bin_fdiv, bin_mod, bin_shl, bin_shr, bin_pow, bin_and, bin_or, bin_xor, cmp_eq, cmp_ne, cmp_lt, cmp_le, cmp_gt, cmp_ge, add_int, sub_int, and_int, or_int, xor_int, neg_int, len_lst, len_tup, abs_int, int_int, int_bl, max_int, min_int, bits_int, ix_tup0, ix_tup1, ix_tup2, List.map_cons, List.map_nil, List.replicate, List.cons_append, List.nil_append, List.append_nil, List.length_cons, List.length_nil, decide_eq_true_eq, Nat.reduceSub, Nat.reduceAdd, Int.reduceToNat, mod_ok, cz, decide_true, obj_ok, grows_ok hc, tt, hg, Bool.false_eq_true, if_false, if_true]; rfl) ?_
      refine fin q ?_
      unfold tkG
      rw [if_neg (by rw [hg]; simp)]
      omega
    · refine seq (P := fun o => outR o = _) (by simp (disch := decide) only [evSs, evS, evT, evE, evEs, evSrc, getS0, getSs, set0, setS, R.bind_ok, R.bind_ex, bind_ite, withR_ok, withR_ex, withR_ite, thenO_nxt, thenO_ret, thenO_ex, thenO_ite, outR_nxt, outR_ret, outR_ex, outR_ite, bool_ok, int_ok, bin_add, bin_sub, bin_mul, bin_fdiv, bin_mod, bin_shl, bin_shr, bin_pow, bin_and, bin_or, bin_xor, cmp_eq, cmp_ne, cmp_lt, cmp_le, cmp_gt, cmp_ge, add_int, sub_int, and_int, or_int, xor_int, neg_int, len_lst, len_tup, abs_int, int_int, int_bl, max_int, min_int, bits_int, ix_tup0, ix_tup1, ix_tup2, List.map_cons, List.map_nil, List.replicate, List.cons_append, List.nil_append, List.append_nil, List.length_cons, List.length_nil, decide_eq_true_eq, Nat.reduceSub, Nat.reduceAdd, Int.reduceToNat, mod_ok, cz, decide_true, obj_ok, grows_ok hc, tt, hg, Bool.false_eq_true, if_false, if_true]; rfl) ?_
      refine fin (q + 1) ?_
      unfold tkG
      rw [if_pos ⟨by omega, hg⟩]
      omega
  · refine seq (P := fun o => outR o = _) (by simp only [evSs, evS, evT, evE, evEs, evSrc, getS0, getSs, set0, setS, R.bind_ok, R.bind_ex, bind_ite, withR_ok, withR_ex, withR_ite, thenO_nxt, thenO_ret, thenO_ex, thenO_ite, outR_nxt, outR_ret, outR_ex, outR_ite, bool_ok, int_ok, bin_add, bin_sub, bin_mul, bin_fdiv, bin_mod, bin_shl, bin_shr, bin_pow, bin_and, bin_or, bin_xor, cmp_eq, cmp_ne, cmp_lt, cmp_le, cmp_gt, cmp_ge, add_int, sub_int, and_int, or_int, xor_int, neg_int, len_lst, len_tup, abs_int, int_int, int_bl, max_int, min_int, bits_int, ix_tup0, ix_tup1, ix_tup2, List.map_cons, List.map_nil, List.replicate, List.cons_append, List.nil_append, List.append_nil, List.length_cons, List.length_nil, decide_eq_true_eq, Nat.reduceSub, Nat.reduceAdd, Int.reduceToNat, cz, decide_false, Bool.false_eq_true, if_false]; rfl) ?_
    refine fin q ?_
    unfold tkG
    rw [if_neg (by omega)]
    omega
end
end MP

set_option Elab.async false
set_option linter.all false
set_option maxRecDepth 100000
set_option maxHeartbeats 4000000
set_option autoImplicit false
set_option exponentiation.threshold 10000
/-! LL: what the laws about amounts share. -/
namespace MP
open PySem
section
variable {a b : Nat}
theorem cell_b {ns : List Int} (hb : ∀ z ∈ ns, PySem.Builtin.Int.intBits z ≤ 1048576) {v : Int} (hv : v = 0 ∨ v ∈ ns) : bits v ≤ 4000000 := by
  rcases hv with rfl | hv
  · decide
  · exact Nat.le_trans (hb v hv) (by decide)
/-- the value of a word without its sign, in parts -/
theorem st_parts (w : Wd a b) {s : Int} (h0 : 0 ≤ s) (h1 : s < 2 ^ (a + b)) :
    (s / 2 ^ b = 0 → st b s = s ∧ s < 2 ^ b) ∧ (s / 2 ^ b ≠ 0 → st b s = (s % 2 ^ b + 2 ^ b) * 2 ^ (s / 2 ^ b - 1).toNat ∧ 1 ≤ s / 2 ^ b ∧ s / 2 ^ b < 2 ^ a) := by
  have hp := pow2_pos b
  have d0 := Int.ediv_nonneg h0 (Int.le_of_lt hp)
  have dm := Int.mul_ediv_add_emod s (2 ^ b)
  have m0 := Int.emod_nonneg s (show (2 : Int) ^ b ≠ 0 by omega)
  have m1 := Int.emod_lt_of_pos s hp
  have d1 : s / 2 ^ b < 2 ^ a := Int.ediv_lt_of_lt_mul hp (by rw [← Int.pow_add]; exact h1)
  constructor
  · intro c
    rw [c, Int.mul_zero] at dm
    have : s < 2 ^ b := by omega
    exact ⟨by unfold st; rw [if_pos this], this⟩
  · intro c
    have : ¬ s < 2 ^ b := fun q => c (Int.ediv_eq_zero_of_lt h0 q)
    exact ⟨by unfold st; rw [if_neg this], by omega, d1⟩
theorem half_ok (w : Wd a b) : shlD (.int 1) (.int (((a + b : Nat)) : Int)) = .ok (.int (2 ^ (a + b))) := by
  have h2 := w.a2; have h4 := w.b2
  exact shl1 (by omega)
theorem Wd.bh (w : Wd a b) : bits ((2 : Int) ^ (a + b)) ≤ 100 := by
  have h2 := w.a2; have h4 := w.b2
  exact Nat.le_trans (Bd.pow2 _) (by omega)
theorem Wd.bb (w : Wd a b) : bits ((2 : Int) ^ b) ≤ 100 := by
  have h4 := w.b2
  exact Nat.le_trans (Bd.pow2 _) (by omega)
theorem Wd.ba (w : Wd a b) : bits ((2 : Int) ^ a) ≤ 100 := by
  have h4 := w.a2
  exact Nat.le_trans (Bd.pow2 _) (by omega)
theorem bd_lt {x y : Int} {k : Nat} (h0 : 0 ≤ x) (h1 : x ≤ y) (h : bits y ≤ k) : bits x ≤ k := by
  refine Bd.iff.mpr ?_
  have := Bd.iff.mp h
  omega
theorem st_bits (w : Wd a b) {s : Int} (h0 : 0 ≤ s) (h1 : s < 2 ^ (a + b)) : bits (st b s) ≤ 2200 := by
  have h2 := w.a2; have h4 := w.b2
  obtain ⟨P0, P1⟩ := st_parts w h0 h1
  have pb := pow2_pos b
  have m0 := Int.emod_nonneg s (show (2 : Int) ^ b ≠ 0 by omega)
  have m1 := Int.emod_lt_of_pos s pb
  by_cases c : s / 2 ^ b = 0
  · rw [(P0 c).1]
    exact Nat.le_trans (bd_lt h0 (by omega) w.bh) (by decide)
  · obtain ⟨e1, e2, e3⟩ := P1 c
    rw [e1]
    have b61 : bits ((2 : Int) ^ b) ≤ 61 := Nat.le_trans (Bd.pow2 b) (by omega)
    have bt : bits (s % 2 ^ b + 2 ^ b) ≤ 100 := Nat.le_trans (Bd.add (Bd.mod pb b61) b61) (by decide)
    have hA := pow_le_i h2
    have e11 : (2 : Int) ^ 11 = 2048 := rfl
    exact Nat.le_trans (Bd.shl _ bt) (by omega)
theorem steps_of_33_ok (w : Wd a b) {s : Int} (h0 : 0 ≤ s) (h1 : s < 2 ^ (a + b)) : G.steps_of_33 [.tup [.int a, .int b], .int s] = .ok (.int (st b s)) := by
  have h2 := w.a2; have h4 := w.b2
  obtain ⟨P0, P1⟩ := st_parts w h0 h1
  have pb := pow2_pos b
  have m0 := Int.emod_nonneg s (show (2 : Int) ^ b ≠ 0 by omega)
  have m1 := Int.emod_lt_of_pos s pb
  have e1 : shlD (.int 1) (.int (b : Int)) = .ok (.int (2 ^ b)) := shl1 (by omega)
  simp only [G.steps_of_33, G.b_steps_of_33]
  rw [run_eq (by rfl)]
  by_cases c : s / 2 ^ b = 0
  · obtain ⟨e2, e3⟩ := P0 c
    simp only [evSs, evS, evT, evE, evEs, evSrc, getS0, getSs, set0, setS, R.bind_ok, R.bind_ex, bind_ite, withR_ok, withR_ex, withR_ite, thenO_nxt, thenO_ret, thenO_ex, thenO_ite, outR_nxt, outR_ret, outR_ex, outR_ite, bool_ok, int_ok, bin_add, bin_sub, bin_mul, bin_fdiv, bin_mod, bin_shl, bin_shr, bin_pow, bin_and, bin_or, bin_xor, cmp_eq, cmp_ne, cmp_lt, cmp_le, cmp_gt, cmp_ge, add_int, sub_int, and_int, or_int, xor_int, neg_int, len_lst, len_tup, abs_int, int_int, int_bl, max_int, min_int, bits_int, ix_tup0, ix_tup1, ix_tup2, List.map_cons, List.map_nil, List.replicate, List.cons_append, List.nil_append, List.append_nil, List.length_cons, List.length_nil, decide_eq_true_eq, Nat.reduceSub, Nat.reduceAdd, Int.reduceToNat, e1, e3, decide_true, decide_false, Bool.not_true, Bool.not_false, Bool.false_eq_true, if_true, if_false, e2]
  · obtain ⟨e2, e3, e4⟩ := P1 c
    have hA := pow_le_i h2
    have e11 : (2 : Int) ^ 11 = 2048 := rfl
    have b61 : bits ((2 : Int) ^ b) ≤ 61 := Nat.le_trans (Bd.pow2 b) (by omega)
    have bt : bits (s % 2 ^ b + 2 ^ b) ≤ 100 := Nat.le_trans (Bd.add (Bd.mod pb b61) b61) (by decide)
    have hn : ¬ s < 2 ^ b := fun q => c (Int.ediv_eq_zero_of_lt h0 q)
    have eS : shlD (.int (s % 2 ^ b + 2 ^ b)) (.int (s / 2 ^ b - 1)) = .ok (.int ((s % 2 ^ b + 2 ^ b) * 2 ^ (s / 2 ^ b - 1).toNat)) := shl_ok (by omega) (by omega)
    simp only [evSs, evS, evT, evE, evEs, evSrc, getS0, getSs, set0, setS, R.bind_ok, R.bind_ex, bind_ite, withR_ok, withR_ex, withR_ite, thenO_nxt, thenO_ret, thenO_ex, thenO_ite, outR_nxt, outR_ret, outR_ex, outR_ite, bool_ok, int_ok, bin_add, bin_sub, bin_mul, bin_fdiv, bin_mod, bin_shl, bin_shr, bin_pow, bin_and, bin_or, bin_xor, cmp_eq, cmp_ne, cmp_lt, cmp_le, cmp_gt, cmp_ge, add_int, sub_int, and_int, or_int, xor_int, neg_int, len_lst, len_tup, abs_int, int_int, int_bl, max_int, min_int, bits_int, ix_tup0, ix_tup1, ix_tup2, List.map_cons, List.map_nil, List.replicate, List.cons_append, List.nil_append, List.append_nil, List.length_cons, List.length_nil, decide_eq_true_eq, Nat.reduceSub, Nat.reduceAdd, Int.reduceToNat, e1, hn, decide_true, decide_false, Bool.not_true, Bool.not_false, Bool.false_eq_true, if_true, if_false, mod_ok pb, shrN, eS, e2]
theorem bias2 (w : Wd a b) : shlD (.int 1) (.int ((a : Int) - 1)) = .ok (.int (2 ^ (a - 1))) := by
  have h2 := w.a2
  rw [w.ca, shl1 (by omega)]
theorem nm0 {c : Nat} (hc : c < 5) : cmpD .eq (.str (wn c)) (.str [101, 118, 101, 110]) = .ok (decide (c = 0)) := by rcases c5 hc with rfl | rfl | rfl | rfl | rfl <;> rfl
theorem last_ok2 (w : Wd a b) : shlD (.int (2 ^ a - 1)) (.int (b : Int)) = .ok (.int ((2 ^ a - 1) * 2 ^ b)) := by
  have h4 := w.b2
  have bA : bits ((2 : Int) ^ a - 1) ≤ 200 := bd_lt (y := 2 ^ a) (by have := pow2_pos a; omega) (by omega) (Nat.le_trans w.ba (by decide))
  exact shlN (by omega)
end
end MP

set_option Elab.async false
set_option linter.all false
set_option maxRecDepth 100000
set_option maxHeartbeats 4000000
set_option autoImplicit false
set_option exponentiation.threshold 10000
/-! LM: what an amount is taken to, as the laws judge it. -/
namespace MP
open PySem
section
variable {a b : Nat}
def ch (c : Nat) (u : Bool) (g M h0 h1 h2 : Int) : Prop := match c with
  | 0 => (g % 2 = 0 ∧ h0 + h1 ≤ 2 * M ∧ 2 * M ≤ h1 + h2) ∨ (h0 + h1 < 2 * M ∧ 2 * M < h1 + h2)
  | 1 => h0 + h1 ≤ 2 * M ∧ 2 * M < h1 + h2
  | 2 => h1 ≤ M
  | 3 => if u = true then h1 ≤ M else M ≤ h1
  | _ => if u = true then M ≤ h1 else h1 ≤ M
/-- the size below, 0 below nought -/
def stp (b : Nat) (g : Int) : Int := if 0 < g then st b (g - 1) else 0
structure Near (a b c : Nat) (u : Bool) (M N s : Int) (g : Int) : Prop where
  near : st b g * N = M ∨ (stp b g * N < M ∧ M < st b (g + 1) * N)
  ch : ch c u g M (stp b g * N) (st b g * N) (st b (g + 1) * N)
  same : st b g * N = M ↔ side b M N s = 0
  small : M < N * 2 ^ b ↔ s < 2 ^ b
  top : M < st b ((2 ^ a - 1) * 2 ^ b) * N
/-- beyond the greatest number -/
def tg (c : Nat) (u : Bool) (M l0 l1 : Int) : Bool := match c with
  | 0 => decide (l0 + l1 ≤ 2 * M)
  | 1 => decide (l0 + l1 ≤ 2 * M)
  | 2 => false
  | 3 => !u && decide (l0 < M)
  | _ => u && decide (l0 < M)
/-! ### the laws' own judges -/
theorem ix_lst0 {x : D} {r : List D} : ixD (.lst (x :: r)) (.int 0) = .ok x := ix_lst (i := 0) (by simp)
theorem ix_lst1 {x y : D} {r : List D} : ixD (.lst (x :: y :: r)) (.int 1) = .ok y := ix_lst (i := 1) (by simp)
theorem ne_bl2 {x y : Bool} : cmpD .ne (.bl x) (.bl y) = .ok (!(x == y)) := rfl
end
end MP

set_option Elab.async false
set_option linter.all false
set_option maxRecDepth 100000
set_option maxHeartbeats 4000000
set_option autoImplicit false
set_option exponentiation.threshold 10000
/-! LN: words: kinds, values in least steps. -/
namespace MP
open PySem
section
variable {a b : Nat}
/-! ### kinds -/
def kd (a b : Nat) (s : Int) : List Nat := if s = 0 then [110, 111, 117, 103, 104, 116] else if s < 2 ^ b then [115, 109, 97, 108, 108] else if s < (2 ^ a - 1) * 2 ^ b then [112, 108, 97, 105, 110] else if s = (2 ^ a - 1) * 2 ^ b then [101, 110, 100, 108, 101, 115, 115] else if s < (2 ^ a - 1) * 2 ^ b + 2 ^ (b - 1) then [108, 111, 117, 100] else [115, 116, 105, 108, 108]
/-- a word's size in its parts -/
theorem size_parts (x : Int) : x % 2 ^ (a + b) = x / 2 ^ b % 2 ^ a * 2 ^ b + x % 2 ^ b := by
  have pb := pow2_pos b
  have q1 := Int.emod_add_mul_ediv x (2 ^ b)
  have q2 := Int.emod_add_mul_ediv (x / 2 ^ b) (2 ^ a)
  have q3 : x / 2 ^ b / 2 ^ a = x / 2 ^ (a + b) := by
    rw [Int.ediv_ediv_of_nonneg (Int.le_of_lt pb), ← Int.pow_add, Nat.add_comm]
  have q4 := Int.emod_add_mul_ediv x (2 ^ (a + b))
  rw [q3] at q2
  have q6 : 2 ^ b * (x / 2 ^ b) = 2 ^ b * (x / 2 ^ b % 2 ^ a) + 2 ^ b * (2 ^ a * (x / 2 ^ (a + b))) := by
    rw [← Int.mul_add, q2]
  have q7 : 2 ^ (a + b) * (x / 2 ^ (a + b)) = 2 ^ b * (2 ^ a * (x / 2 ^ (a + b))) := by rw [Wd.p1, Int.mul_comm (2 ^ a), Int.mul_assoc]
  have q8 : x / 2 ^ b % 2 ^ a * 2 ^ b = 2 ^ b * (x / 2 ^ b % 2 ^ a) := Int.mul_comm ..
  omega
theorem kd_eq (w : Wd a b) {x : Int} : kindv a b (x / 2 ^ b % 2 ^ a) (x % 2 ^ b) = kd a b (x % 2 ^ (a + b)) := by
  obtain ⟨A, B, h, eA, eB, eh, f1, f2, f3, f4, f5⟩ := w.facts
  have pb := pow2_pos b
  have hs := size_parts (a := a) (b := b) x
  have E0 := Int.emod_nonneg (x / 2 ^ b) (show (2 : Int) ^ a ≠ 0 by omega)
  have E1 := Int.emod_lt_of_pos (x / 2 ^ b) (show (0 : Int) < 2 ^ a by omega)
  have F0 := Int.emod_nonneg x (show (2 : Int) ^ b ≠ 0 by omega)
  have F1 := Int.emod_lt_of_pos x pb
  rw [hs]
  generalize x / 2 ^ b % 2 ^ a = E at *
  generalize x % 2 ^ b = f at *
  unfold kindv kd
  have eAB : ((2 : Int) ^ a - 1) * 2 ^ b = A * B - B := by rw [eA, eB, Int.sub_mul, Int.one_mul]
  rw [eAB, eA, eB, eh]
  rw [eA] at E1
  rw [eB] at F1
  have fd : (f / h = 1) ↔ h ≤ f := by
    constructor
    · intro q
      have := Int.mul_ediv_self_le (x := f) (k := h) (by omega)
      rw [q, Int.mul_one] at this
      exact this
    · intro q
      have := Int.ediv_emod_unique (a := f) (b := h) (r := f - h) (q := 1) (by omega)
      exact (this.mpr ⟨by omega, by omega, by omega⟩).1
  have n1 : E = 0 → E * B = 0 := fun q => by rw [q, Int.zero_mul]
  have n2 : 1 ≤ E → B ≤ E * B := fun q => by
    have := Int.mul_le_mul_of_nonneg_right q (show 0 ≤ B by omega)
    omega
  have n3 : E < A - 1 → E * B + B ≤ A * B - B := fun q => by
    have := Int.mul_le_mul_of_nonneg_right (show E + 1 ≤ A - 1 by omega) (show 0 ≤ B by omega)
    rw [Int.add_mul, Int.sub_mul, Int.one_mul] at this
    exact this
  have n4 : E = A - 1 → E * B = A * B - B := fun q => by rw [q, Int.sub_mul, Int.one_mul]
  generalize E * B = EB at *
  generalize A * B = AB at *
  simp only [fd]
  repeat' split
  all_goals first | rfl | (exfalso; omega)
theorem kind_ok (w : Wd a b) {x : Int} (h0 : 0 ≤ x) (h1 : x < 2 ^ (1 + a + b)) : F.kind_of [.tup [.int a, .int b], .int x] = .ok (.str (kd a b (x % 2 ^ (a + b)))) := by
  rw [kind_of_ok w h0 h1, kd_eq w]
theorem kk00 : cmpD .eq (.str [110, 111, 117, 103, 104, 116]) (.str [110, 111, 117, 103, 104, 116]) = .ok true := rfl
theorem kk01 : cmpD .eq (.str [110, 111, 117, 103, 104, 116]) (.str [115, 109, 97, 108, 108]) = .ok false := rfl
theorem kk02 : cmpD .eq (.str [110, 111, 117, 103, 104, 116]) (.str [112, 108, 97, 105, 110]) = .ok false := rfl
theorem kk03 : cmpD .eq (.str [110, 111, 117, 103, 104, 116]) (.str [101, 110, 100, 108, 101, 115, 115]) = .ok false := rfl
theorem kk04 : cmpD .eq (.str [110, 111, 117, 103, 104, 116]) (.str [108, 111, 117, 100]) = .ok false := rfl
theorem kk05 : cmpD .eq (.str [110, 111, 117, 103, 104, 116]) (.str [115, 116, 105, 108, 108]) = .ok false := rfl
theorem kk10 : cmpD .eq (.str [115, 109, 97, 108, 108]) (.str [110, 111, 117, 103, 104, 116]) = .ok false := rfl
theorem kk11 : cmpD .eq (.str [115, 109, 97, 108, 108]) (.str [115, 109, 97, 108, 108]) = .ok true := rfl
theorem kk12 : cmpD .eq (.str [115, 109, 97, 108, 108]) (.str [112, 108, 97, 105, 110]) = .ok false := rfl
theorem kk13 : cmpD .eq (.str [115, 109, 97, 108, 108]) (.str [101, 110, 100, 108, 101, 115, 115]) = .ok false := rfl
theorem kk14 : cmpD .eq (.str [115, 109, 97, 108, 108]) (.str [108, 111, 117, 100]) = .ok false := rfl
theorem kk15 : cmpD .eq (.str [115, 109, 97, 108, 108]) (.str [115, 116, 105, 108, 108]) = .ok false := rfl
theorem kk20 : cmpD .eq (.str [112, 108, 97, 105, 110]) (.str [110, 111, 117, 103, 104, 116]) = .ok false := rfl
theorem kk21 : cmpD .eq (.str [112, 108, 97, 105, 110]) (.str [115, 109, 97, 108, 108]) = .ok false := rfl
theorem kk22 : cmpD .eq (.str [112, 108, 97, 105, 110]) (.str [112, 108, 97, 105, 110]) = .ok true := rfl
theorem kk23 : cmpD .eq (.str [112, 108, 97, 105, 110]) (.str [101, 110, 100, 108, 101, 115, 115]) = .ok false := rfl
theorem kk24 : cmpD .eq (.str [112, 108, 97, 105, 110]) (.str [108, 111, 117, 100]) = .ok false := rfl
theorem kk25 : cmpD .eq (.str [112, 108, 97, 105, 110]) (.str [115, 116, 105, 108, 108]) = .ok false := rfl
theorem kk30 : cmpD .eq (.str [101, 110, 100, 108, 101, 115, 115]) (.str [110, 111, 117, 103, 104, 116]) = .ok false := rfl
theorem kk31 : cmpD .eq (.str [101, 110, 100, 108, 101, 115, 115]) (.str [115, 109, 97, 108, 108]) = .ok false := rfl
theorem kk32 : cmpD .eq (.str [101, 110, 100, 108, 101, 115, 115]) (.str [112, 108, 97, 105, 110]) = .ok false := rfl
theorem kk33 : cmpD .eq (.str [101, 110, 100, 108, 101, 115, 115]) (.str [101, 110, 100, 108, 101, 115, 115]) = .ok true := rfl
theorem kk34 : cmpD .eq (.str [101, 110, 100, 108, 101, 115, 115]) (.str [108, 111, 117, 100]) = .ok false := rfl
theorem kk35 : cmpD .eq (.str [101, 110, 100, 108, 101, 115, 115]) (.str [115, 116, 105, 108, 108]) = .ok false := rfl
theorem kk40 : cmpD .eq (.str [108, 111, 117, 100]) (.str [110, 111, 117, 103, 104, 116]) = .ok false := rfl
theorem kk41 : cmpD .eq (.str [108, 111, 117, 100]) (.str [115, 109, 97, 108, 108]) = .ok false := rfl
theorem kk42 : cmpD .eq (.str [108, 111, 117, 100]) (.str [112, 108, 97, 105, 110]) = .ok false := rfl
theorem kk43 : cmpD .eq (.str [108, 111, 117, 100]) (.str [101, 110, 100, 108, 101, 115, 115]) = .ok false := rfl
theorem kk44 : cmpD .eq (.str [108, 111, 117, 100]) (.str [108, 111, 117, 100]) = .ok true := rfl
theorem kk45 : cmpD .eq (.str [108, 111, 117, 100]) (.str [115, 116, 105, 108, 108]) = .ok false := rfl
theorem kk50 : cmpD .eq (.str [115, 116, 105, 108, 108]) (.str [110, 111, 117, 103, 104, 116]) = .ok false := rfl
theorem kk51 : cmpD .eq (.str [115, 116, 105, 108, 108]) (.str [115, 109, 97, 108, 108]) = .ok false := rfl
theorem kk52 : cmpD .eq (.str [115, 116, 105, 108, 108]) (.str [112, 108, 97, 105, 110]) = .ok false := rfl
theorem kk53 : cmpD .eq (.str [115, 116, 105, 108, 108]) (.str [101, 110, 100, 108, 101, 115, 115]) = .ok false := rfl
theorem kk54 : cmpD .eq (.str [115, 116, 105, 108, 108]) (.str [108, 111, 117, 100]) = .ok false := rfl
theorem kk55 : cmpD .eq (.str [115, 116, 105, 108, 108]) (.str [115, 116, 105, 108, 108]) = .ok true := rfl
theorem kn00 : cmpD .ne (.str [110, 111, 117, 103, 104, 116]) (.str [110, 111, 117, 103, 104, 116]) = .ok false := rfl
theorem kn01 : cmpD .ne (.str [110, 111, 117, 103, 104, 116]) (.str [115, 109, 97, 108, 108]) = .ok true := rfl
theorem kn02 : cmpD .ne (.str [110, 111, 117, 103, 104, 116]) (.str [112, 108, 97, 105, 110]) = .ok true := rfl
theorem kn03 : cmpD .ne (.str [110, 111, 117, 103, 104, 116]) (.str [101, 110, 100, 108, 101, 115, 115]) = .ok true := rfl
theorem kn04 : cmpD .ne (.str [110, 111, 117, 103, 104, 116]) (.str [108, 111, 117, 100]) = .ok true := rfl
theorem kn05 : cmpD .ne (.str [110, 111, 117, 103, 104, 116]) (.str [115, 116, 105, 108, 108]) = .ok true := rfl
theorem kn10 : cmpD .ne (.str [115, 109, 97, 108, 108]) (.str [110, 111, 117, 103, 104, 116]) = .ok true := rfl
theorem kn11 : cmpD .ne (.str [115, 109, 97, 108, 108]) (.str [115, 109, 97, 108, 108]) = .ok false := rfl
theorem kn12 : cmpD .ne (.str [115, 109, 97, 108, 108]) (.str [112, 108, 97, 105, 110]) = .ok true := rfl
theorem kn13 : cmpD .ne (.str [115, 109, 97, 108, 108]) (.str [101, 110, 100, 108, 101, 115, 115]) = .ok true := rfl
theorem kn14 : cmpD .ne (.str [115, 109, 97, 108, 108]) (.str [108, 111, 117, 100]) = .ok true := rfl
theorem kn15 : cmpD .ne (.str [115, 109, 97, 108, 108]) (.str [115, 116, 105, 108, 108]) = .ok true := rfl
theorem kn20 : cmpD .ne (.str [112, 108, 97, 105, 110]) (.str [110, 111, 117, 103, 104, 116]) = .ok true := rfl
theorem kn21 : cmpD .ne (.str [112, 108, 97, 105, 110]) (.str [115, 109, 97, 108, 108]) = .ok true := rfl
theorem kn22 : cmpD .ne (.str [112, 108, 97, 105, 110]) (.str [112, 108, 97, 105, 110]) = .ok false := rfl
theorem kn23 : cmpD .ne (.str [112, 108, 97, 105, 110]) (.str [101, 110, 100, 108, 101, 115, 115]) = .ok true := rfl
theorem kn24 : cmpD .ne (.str [112, 108, 97, 105, 110]) (.str [108, 111, 117, 100]) = .ok true := rfl
theorem kn25 : cmpD .ne (.str [112, 108, 97, 105, 110]) (.str [115, 116, 105, 108, 108]) = .ok true := rfl
theorem kn30 : cmpD .ne (.str [101, 110, 100, 108, 101, 115, 115]) (.str [110, 111, 117, 103, 104, 116]) = .ok true := rfl
theorem kn31 : cmpD .ne (.str [101, 110, 100, 108, 101, 115, 115]) (.str [115, 109, 97, 108, 108]) = .ok true := rfl
theorem kn32 : cmpD .ne (.str [101, 110, 100, 108, 101, 115, 115]) (.str [112, 108, 97, 105, 110]) = .ok true := rfl
theorem kn33 : cmpD .ne (.str [101, 110, 100, 108, 101, 115, 115]) (.str [101, 110, 100, 108, 101, 115, 115]) = .ok false := rfl
theorem kn34 : cmpD .ne (.str [101, 110, 100, 108, 101, 115, 115]) (.str [108, 111, 117, 100]) = .ok true := rfl
theorem kn35 : cmpD .ne (.str [101, 110, 100, 108, 101, 115, 115]) (.str [115, 116, 105, 108, 108]) = .ok true := rfl
theorem kn40 : cmpD .ne (.str [108, 111, 117, 100]) (.str [110, 111, 117, 103, 104, 116]) = .ok true := rfl
theorem kn41 : cmpD .ne (.str [108, 111, 117, 100]) (.str [115, 109, 97, 108, 108]) = .ok true := rfl
theorem kn42 : cmpD .ne (.str [108, 111, 117, 100]) (.str [112, 108, 97, 105, 110]) = .ok true := rfl
theorem kn43 : cmpD .ne (.str [108, 111, 117, 100]) (.str [101, 110, 100, 108, 101, 115, 115]) = .ok true := rfl
theorem kn44 : cmpD .ne (.str [108, 111, 117, 100]) (.str [108, 111, 117, 100]) = .ok false := rfl
theorem kn45 : cmpD .ne (.str [108, 111, 117, 100]) (.str [115, 116, 105, 108, 108]) = .ok true := rfl
theorem kn50 : cmpD .ne (.str [115, 116, 105, 108, 108]) (.str [110, 111, 117, 103, 104, 116]) = .ok true := rfl
theorem kn51 : cmpD .ne (.str [115, 116, 105, 108, 108]) (.str [115, 109, 97, 108, 108]) = .ok true := rfl
theorem kn52 : cmpD .ne (.str [115, 116, 105, 108, 108]) (.str [112, 108, 97, 105, 110]) = .ok true := rfl
theorem kn53 : cmpD .ne (.str [115, 116, 105, 108, 108]) (.str [101, 110, 100, 108, 101, 115, 115]) = .ok true := rfl
theorem kn54 : cmpD .ne (.str [115, 116, 105, 108, 108]) (.str [108, 111, 117, 100]) = .ok true := rfl
theorem kn55 : cmpD .ne (.str [115, 116, 105, 108, 108]) (.str [115, 116, 105, 108, 108]) = .ok false := rfl
theorem kd_num (w : Wd a b) {s : Int} (h : s < (2 ^ a - 1) * 2 ^ b) : (kd a b s = [110, 111, 117, 103, 104, 116] ∧ s = 0) ∨ (kd a b s = [115, 109, 97, 108, 108] ∧ s ≠ 0) ∨ (kd a b s = [112, 108, 97, 105, 110] ∧ s ≠ 0) := by
  unfold kd
  by_cases c1 : s = 0
  · left; rw [if_pos c1]; exact ⟨rfl, c1⟩
  · by_cases c2 : s < 2 ^ b
    · right; left; rw [if_neg c1, if_pos c2]; exact ⟨rfl, c1⟩
    · right; right; rw [if_neg c1, if_neg c2, if_pos h]; exact ⟨rfl, c1⟩
theorem Wd.bL (w : Wd a b) : 3 * 2 ^ b ≤ ((2 : Int) ^ a - 1) * 2 ^ b ∧ 0 < (2 : Int) ^ b := by
  obtain ⟨A, B, h, eA, eB, eh, f1, f2, f3, f4, f5⟩ := w.facts
  rw [Int.sub_mul, eA, eB]
  omega
theorem kd_end (w : Wd a b) : kd a b ((2 ^ a - 1) * 2 ^ b) = [101, 110, 100, 108, 101, 115, 115] := by
  have ⟨h1, h2⟩ := w.bL
  unfold kd
  rw [if_neg (by omega), if_neg (by omega), if_neg (by omega), if_pos rfl]
theorem kd_loud (w : Wd a b) {s : Int} (h : (2 ^ a - 1) * 2 ^ b < s) (h' : s < (2 ^ a - 1) * 2 ^ b + 2 ^ (b - 1)) : kd a b s = [108, 111, 117, 100] := by
  have ⟨h1, h2⟩ := w.bL
  unfold kd
  rw [if_neg (by omega), if_neg (by omega), if_neg (by omega), if_neg (by omega), if_pos h']
theorem kd_still (w : Wd a b) {s : Int} (h' : (2 ^ a - 1) * 2 ^ b + 2 ^ (b - 1) ≤ s) : kd a b s = [115, 116, 105, 108, 108] := by
  have ⟨h1, h2⟩ := w.bL
  have h3 := pow2_pos (b - 1)
  unfold kd
  rw [if_neg (by omega), if_neg (by omega), if_neg (by omega), if_neg (by omega), if_neg (by omega)]
/-! ### exact numbers by steps of 2 to the power l -/
structure Rp (l v m e : Int) : Prop where
  ge : l ≤ e
  val : v = m * 2 ^ (e - l).toNat
  told : (m = 0 ∧ e = 0) ∨ m % 2 = 1
section
variable {l v m e v' m' e' : Int}
theorem Rp.zero (h : Rp l v m e) : v = 0 ↔ m = 0 := by
  have hp := pow2_pos (e - l).toNat
  rw [h.val]
  constructor
  · intro q
    rcases Int.mul_eq_zero.mp q with q | q <;> omega
  · intro q; rw [q, Int.zero_mul]
theorem Rp.neg (h : Rp l v m e) : v < 0 ↔ m < 0 := by
  have hp := pow2_pos (e - l).toNat
  rw [h.val]
  constructor
  · intro q
    by_cases c : m < 0
    · exact c
    · have := Int.mul_nonneg (show 0 ≤ m by omega) (Int.le_of_lt hp)
      omega
  · exact fun q => Int.mul_neg_of_neg_of_pos q hp
theorem Rp.abs (h : Rp l v m e) : (v.natAbs : Int) = (m.natAbs : Int) * 2 ^ (e - l).toNat := by
  rw [h.val, Int.natAbs_mul, Int.natAbs_pow]
  push_cast
  rfl
theorem Rp.bits (h : Rp l v m e) : MP.bits m ≤ MP.bits v := by
  refine Bd.iff.mpr (Nat.lt_of_le_of_lt ?_ (Bd.iff.mp (Nat.le_refl (MP.bits v))))
  rw [h.val, Int.natAbs_mul]
  exact Nat.le_mul_of_pos_right _ (by have := pow2_pos (e - l).toNat; omega)
theorem Rp.top (h : Rp l v m e) (l0 : l ≤ 0) : e ≤ max 0 (l + MP.bits v) := by
  rcases h.told with t | t
  · omega
  · have hb := Bd.iff.mp (Nat.le_refl (MP.bits v))
    have hv := h.val
    rw [hv, Int.natAbs_mul, Int.natAbs_pow] at hb
    have h5 : 2 ^ (e - l).toNat ≤ m.natAbs * Int.natAbs 2 ^ (e - l).toNat := Nat.le_mul_of_pos_left _ (by omega)
    rw [← hv] at hb
    have := (Nat.pow_lt_pow_iff_right (by decide : 1 < 2)).mp (Nat.lt_of_le_of_lt h5 hb)
    omega
theorem Rp.up (h : Rp l v m e) {l' : Int} (g : l' ≤ l) : Rp l' (v * 2 ^ (l - l').toNat) m e := by
  refine ⟨by have := h.ge; omega, ?_, h.told⟩
  have := h.ge
  rw [h.val, Int.mul_assoc, ← Int.pow_add]
  congr 2
  omega
theorem rp_nil (l0 : l ≤ 0) : Rp l 0 0 0 := ⟨l0, by simp, .inl ⟨rfl, rfl⟩⟩
theorem rp_of_ex {n k : Int} (h : Ex11 n k m e) (g : l ≤ k) (l0 : l ≤ 0) : Rp l (n * 2 ^ (k - l).toNat) m e := by
  rcases h with ⟨rfl, rfl, rfl⟩ | ⟨s, h1, h2, h3, h4⟩
  · rw [Int.zero_mul]
    exact rp_nil l0
  · refine ⟨by omega, ?_, .inr h2⟩
    rw [h1, Int.mul_assoc, ← Int.pow_add]
    congr 2
    omega
end
/-! ### values -/
/-- a word's value in least steps -/
def sgv (a b : Nat) (x : Int) : Int := if 2 ^ (a + b) ≤ x then 0 - st b (x % 2 ^ (a + b)) else st b (x % 2 ^ (a + b))
def mant (b : Nat) (s E f : Int) : Int := if s = 1 then 0 - (if 0 < E then f + 2 ^ b else f) else (if 0 < E then f + 2 ^ b else f)
theorem value_ok (w : Wd a b) {x : Int} (h0 : 0 ≤ x) (h1 : x < 2 ^ (1 + a + b)) (hE : ¬ x / 2 ^ b % 2 ^ a = 2 ^ a - 1) :
    ∃ m e, F.value_of [.tup [.int a, .int b], .int x] = .ok (.tup [.int m, .int e]) ∧ Ex11 (mant b (x / 2 ^ (a + b)) (x / 2 ^ b % 2 ^ a) (x % 2 ^ b)) ((if 0 < x / 2 ^ b % 2 ^ a then x / 2 ^ b % 2 ^ a - 1 else x / 2 ^ b % 2 ^ a) + lpv a b) m e := by
  have h4 := w.b2
  obtain ⟨m, e, em, hx⟩ := exact_ex (mant b (x / 2 ^ (a + b)) (x / 2 ^ b % 2 ^ a) (x % 2 ^ b)) ((if 0 < x / 2 ^ b % 2 ^ a then x / 2 ^ b % 2 ^ a - 1 else x / 2 ^ b % 2 ^ a) + lpv a b)
  refine ⟨m, e, ?_, hx⟩
  clear hx
  simp only [F.value_of, F.b_value_of]
  rw [run_eq (by rfl)]
  simp only [List.map_cons, List.map_nil, List.replicate, List.cons_append, List.nil_append, Nat.reduceSub]
  refine seq (P := fun o => outR o = _) (by simp only [set0, setS, evSs, evS, evT, evE, evEs, evSrc, getS0, getSs, set0, setS, R.bind_ok, R.bind_ex, bind_ite, withR_ok, withR_ex, withR_ite, thenO_nxt, thenO_ret, thenO_ex, thenO_ite, outR_nxt, outR_ret, outR_ex, outR_ite, bool_ok, int_ok, bin_add, bin_sub, bin_mul, bin_fdiv, bin_mod, bin_shl, bin_shr, bin_pow, bin_and, bin_or, bin_xor, cmp_eq, cmp_ne, cmp_lt, cmp_le, cmp_gt, cmp_ge, add_int, sub_int, and_int, or_int, xor_int, neg_int, len_lst, len_tup, abs_int, int_int, int_bl, max_int, min_int, bits_int, ix_tup0, ix_tup1, ix_tup2, List.map_cons, List.map_nil, List.replicate, List.cons_append, List.nil_append, List.append_nil, List.length_cons, List.length_nil, decide_eq_true_eq, Nat.reduceSub, Nat.reduceAdd, Int.reduceToNat, cut_ok w h0 h1, setAll]; rfl) ?_
  generalize x / 2 ^ b % 2 ^ a = E at *
  generalize x % 2 ^ b = f at *
  generalize x / 2 ^ (a + b) = s at *
  refine seq (P := fun o => outR o = _) (by simp only [set0, setS, evSs, evS, evT, evE, evEs, evSrc, getS0, getSs, set0, setS, R.bind_ok, R.bind_ex, bind_ite, withR_ok, withR_ex, withR_ite, thenO_nxt, thenO_ret, thenO_ex, thenO_ite, outR_nxt, outR_ret, outR_ex, outR_ite, bool_ok, int_ok, bin_add, bin_sub, bin_mul, bin_fdiv, bin_mod, bin_shl, bin_shr, bin_pow, bin_and, bin_or, bin_xor, cmp_eq, cmp_ne, cmp_lt, cmp_le, cmp_gt, cmp_ge, add_int, sub_int, and_int, or_int, xor_int, neg_int, len_lst, len_tup, abs_int, int_int, int_bl, max_int, min_int, bits_int, ix_tup0, ix_tup1, ix_tup2, List.map_cons, List.map_nil, List.replicate, List.cons_append, List.nil_append, List.append_nil, List.length_cons, List.length_nil, decide_eq_true_eq, Nat.reduceSub, Nat.reduceAdd, Int.reduceToNat, last_ok w, hE, decide_false, Bool.false_eq_true, if_false]; rfl) ?_
  refine seq (ρ1 := [.dat (.tup [.int a, .int b]), .dat (.int x), .dat (.int s), .dat (.int (if 0 < E then E - 1 else E)), .dat (.int (if 0 < E then f + 2 ^ b else f))]) (P := fun o => outR o = _) ?_ ?_
  · by_cases c : 0 < E
    · simp (disch := omega) only [set0, setS, evSs, evS, evT, evE, evEs, evSrc, getS0, getSs, set0, setS, R.bind_ok, R.bind_ex, bind_ite, withR_ok, withR_ex, withR_ite, thenO_nxt, thenO_ret, thenO_ex, thenO_ite, outR_nxt, outR_ret, outR_ex, outR_ite, bool_ok, int_ok, bin_add, bin_sub, bin_mul, bin_fdiv, bin_mod, bin_shl, bin_shr, bin_pow, bin_and, bin_or, bin_xor, cmp_eq, cmp_ne, cmp_lt, cmp_le, cmp_gt, cmp_ge, add_int, sub_int, and_int, or_int, xor_int, neg_int, len_lst, len_tup, abs_int, int_int, int_bl, max_int, min_int, bits_int, ix_tup0, ix_tup1, ix_tup2, List.map_cons, List.map_nil, List.replicate, List.cons_append, List.nil_append, List.append_nil, List.length_cons, List.length_nil, decide_eq_true_eq, Nat.reduceSub, Nat.reduceAdd, Int.reduceToNat, c, shl1, decide_true, if_true]
    · simp only [set0, setS, evSs, evS, evT, evE, evEs, evSrc, getS0, getSs, set0, setS, R.bind_ok, R.bind_ex, bind_ite, withR_ok, withR_ex, withR_ite, thenO_nxt, thenO_ret, thenO_ex, thenO_ite, outR_nxt, outR_ret, outR_ex, outR_ite, bool_ok, int_ok, bin_add, bin_sub, bin_mul, bin_fdiv, bin_mod, bin_shl, bin_shr, bin_pow, bin_and, bin_or, bin_xor, cmp_eq, cmp_ne, cmp_lt, cmp_le, cmp_gt, cmp_ge, add_int, sub_int, and_int, or_int, xor_int, neg_int, len_lst, len_tup, abs_int, int_int, int_bl, max_int, min_int, bits_int, ix_tup0, ix_tup1, ix_tup2, List.map_cons, List.map_nil, List.replicate, List.cons_append, List.nil_append, List.append_nil, List.length_cons, List.length_nil, decide_eq_true_eq, Nat.reduceSub, Nat.reduceAdd, Int.reduceToNat, c, decide_false, Bool.false_eq_true, if_false]
  refine seq (ρ1 := [.dat (.tup [.int a, .int b]), .dat (.int x), .dat (.int s), .dat (.int (if 0 < E then E - 1 else E)), .dat (.int (mant b s E f))]) (P := fun o => outR o = _) ?_ ?_
  · unfold mant
    by_cases c : s = 1
    · simp only [set0, setS, evSs, evS, evT, evE, evEs, evSrc, getS0, getSs, set0, setS, R.bind_ok, R.bind_ex, bind_ite, withR_ok, withR_ex, withR_ite, thenO_nxt, thenO_ret, thenO_ex, thenO_ite, outR_nxt, outR_ret, outR_ex, outR_ite, bool_ok, int_ok, bin_add, bin_sub, bin_mul, bin_fdiv, bin_mod, bin_shl, bin_shr, bin_pow, bin_and, bin_or, bin_xor, cmp_eq, cmp_ne, cmp_lt, cmp_le, cmp_gt, cmp_ge, add_int, sub_int, and_int, or_int, xor_int, neg_int, len_lst, len_tup, abs_int, int_int, int_bl, max_int, min_int, bits_int, ix_tup0, ix_tup1, ix_tup2, List.map_cons, List.map_nil, List.replicate, List.cons_append, List.nil_append, List.append_nil, List.length_cons, List.length_nil, decide_eq_true_eq, Nat.reduceSub, Nat.reduceAdd, Int.reduceToNat, c, decide_true, if_true]
    · simp only [set0, setS, evSs, evS, evT, evE, evEs, evSrc, getS0, getSs, set0, setS, R.bind_ok, R.bind_ex, bind_ite, withR_ok, withR_ex, withR_ite, thenO_nxt, thenO_ret, thenO_ex, thenO_ite, outR_nxt, outR_ret, outR_ex, outR_ite, bool_ok, int_ok, bin_add, bin_sub, bin_mul, bin_fdiv, bin_mod, bin_shl, bin_shr, bin_pow, bin_and, bin_or, bin_xor, cmp_eq, cmp_ne, cmp_lt, cmp_le, cmp_gt, cmp_ge, add_int, sub_int, and_int, or_int, xor_int, neg_int, len_lst, len_tup, abs_int, int_int, int_bl, max_int, min_int, bits_int, ix_tup0, ix_tup1, ix_tup2, List.map_cons, List.map_nil, List.replicate, List.cons_append, List.nil_append, List.append_nil, List.length_cons, List.length_nil, decide_eq_true_eq, Nat.reduceSub, Nat.reduceAdd, Int.reduceToNat, c, decide_false, Bool.false_eq_true, if_false]
  simp only [set0, setS, evSs, evS, evT, evE, evEs, evSrc, getS0, getSs, set0, setS, R.bind_ok, R.bind_ex, bind_ite, withR_ok, withR_ex, withR_ite, thenO_nxt, thenO_ret, thenO_ex, thenO_ite, outR_nxt, outR_ret, outR_ex, outR_ite, bool_ok, int_ok, bin_add, bin_sub, bin_mul, bin_fdiv, bin_mod, bin_shl, bin_shr, bin_pow, bin_and, bin_or, bin_xor, cmp_eq, cmp_ne, cmp_lt, cmp_le, cmp_gt, cmp_ge, add_int, sub_int, and_int, or_int, xor_int, neg_int, len_lst, len_tup, abs_int, int_int, int_bl, max_int, min_int, bits_int, ix_tup0, ix_tup1, ix_tup2, List.map_cons, List.map_nil, List.replicate, List.cons_append, List.nil_append, List.append_nil, List.length_cons, List.length_nil, decide_eq_true_eq, Nat.reduceSub, Nat.reduceAdd, Int.reduceToNat, least_ok w, em]
/-- the exponent field of a number's word -/
theorem field_lt (w : Wd a b) {x : Int} (hx : x % 2 ^ (a + b) < (2 ^ a - 1) * 2 ^ b) : ¬ x / 2 ^ b % 2 ^ a = 2 ^ a - 1 := by
  intro q
  have hs := size_parts (a := a) (b := b) x
  have pb := pow2_pos b
  have F0 := Int.emod_nonneg x (show (2 : Int) ^ b ≠ 0 by omega)
  rw [q] at hs
  omega
theorem value_rp (w : Wd a b) {x : Int} (h0 : 0 ≤ x) (h1 : x < 2 ^ (1 + a + b)) (hx : x % 2 ^ (a + b) < (2 ^ a - 1) * 2 ^ b) : ∃ m e, F.value_of [.tup [.int a, .int b], .int x] = .ok (.tup [.int m, .int e]) ∧ Rp (lpv a b) (sgv a b x) m e := by
  obtain ⟨l1, l2⟩ := w.lp
  have pab := pow2_pos (a + b)
  have pb := pow2_pos b
  obtain ⟨m, e, ev, hv⟩ := value_ok w h0 h1 (field_lt w hx)
  refine ⟨m, e, ev, ?_⟩
  have s0 := Int.emod_nonneg x (show (2 : Int) ^ (a + b) ≠ 0 by omega)
  have s1 := Int.emod_lt_of_pos x pab
  have hs := size_parts (a := a) (b := b) x
  have F0 := Int.emod_nonneg x (show (2 : Int) ^ b ≠ 0 by omega)
  have F1 := Int.emod_lt_of_pos x pb
  have E0 := Int.emod_nonneg (x / 2 ^ b) (show (2 : Int) ^ a ≠ 0 by have := pow2_pos a; omega)
  obtain ⟨P0, P1⟩ := st_parts w s0 s1
  have hd : x % 2 ^ (a + b) / 2 ^ b = x / 2 ^ b % 2 ^ a := by
    rw [hs, Int.add_comm, Int.add_mul_ediv_right _ _ (by omega), Int.ediv_eq_zero_of_lt F0 F1, Int.zero_add]
  have hm : x % 2 ^ (a + b) % 2 ^ b = x % 2 ^ b := by
    rw [hs, Int.add_comm, Int.add_mul_emod_self_right, Int.emod_eq_of_lt F0 F1]
  have hb := high_bit (a := a) (b := b) h0 h1
  have hq : x / 2 ^ (a + b) = if 2 ^ (a + b) ≤ x then 1 else 0 := by
    have dm := Int.mul_ediv_add_emod x (2 ^ (a + b))
    split
    · rename_i q
      have : x / 2 ^ (a + b) ≠ 0 := fun z => by rw [z] at dm; omega
      omega
    · rename_i q
      exact Int.ediv_eq_zero_of_lt h0 (by omega)
  rw [hd, hm] at P1
  rw [hd] at P0
  generalize x / 2 ^ b % 2 ^ a = E at *
  generalize x % 2 ^ b = f at *
  -- the unsigned value
  have key : (if 0 < E then f + 2 ^ b else f) * 2 ^ ((if 0 < E then E - 1 else E) + lpv a b - lpv a b).toNat = st b (x % 2 ^ (a + b)) := by
    rw [Int.add_sub_cancel]
    by_cases c : E = 0
    · rw [(P0 c).1, if_neg (by omega), if_neg (by omega), c, Int.toNat_zero, Int.pow_zero, Int.mul_one]
      rw [hs, c]
      omega
    · rw [(P1 c).1, if_pos (by omega), if_pos (by omega)]
  have := rp_of_ex hv (l := lpv a b) (by split <;> omega) (by omega)
  have ev2 : mant b (x / 2 ^ (a + b)) E f * 2 ^ ((if 0 < E then E - 1 else E) + lpv a b - lpv a b).toNat = sgv a b x := by
    unfold mant sgv
    rw [← key, hq]
    by_cases c : 2 ^ (a + b) ≤ x
    · rw [if_pos c, if_pos rfl, if_pos c, Int.sub_mul, Int.zero_mul]
    · rw [if_neg c, if_neg (by omega), if_neg c]
  rw [ev2] at this
  exact this
end
end MP

set_option Elab.async false
set_option linter.all false
set_option maxRecDepth 100000
set_option maxHeartbeats 4000000
set_option autoImplicit false
set_option exponentiation.threshold 10000
/-! LO: terms, gathered. -/
namespace MP
open PySem
section
variable {a b : Nat}
/-- what a word stands for: v in steps -/
inductive Tm where
  | wrong | none | endl (s : Bool) | num (s : Bool) (v m e : Int)
def Tm.kn : Tm → List Nat
  | .wrong => [119, 114, 111, 110, 103]
  | .none => [110, 111, 110, 101]
  | .endl _ => [101, 110, 100, 108, 101, 115, 115]
  | .num _ _ _ _ => [110, 117, 109, 98, 101, 114]
def Tm.sg : Tm → Bool
  | .endl s => s
  | .num s _ _ _ => s
  | _ => false
def Tm.ex : Tm → D
  | .num _ _ m e => .tup [.int m, .int e]
  | _ => .tup [.int 0, .int 0]
def Tm.D (t : Tm) : D := .tup [.str t.kn, .bl t.sg, t.ex]
def Tm.isEnd : Tm → Bool
  | .endl _ => true
  | _ => false
def Tm.isNum : Tm → Bool
  | .num _ _ _ _ => true
  | _ => false
def Tm.isWrong : Tm → Bool
  | .wrong => true
  | _ => false
def Tm.isNone : Tm → Bool
  | .none => true
  | _ => false
/-- with its sign -/
def Tm.val : Tm → Int
  | .num s v _ _ => if s = true then 0 - v else v
  | _ => 0
def Tm.Ok (l : Int) (k : Nat) : Tm → Prop
  | .num _ v m e => Rp l v m e ∧ bits v ≤ k
  | _ => True
/-- the term of a word, by its size -/
def wtm (a b : Nat) (x m e : Int) : Tm := if x % 2 ^ (a + b) < (2 ^ a - 1) * 2 ^ b then .num (decide (2 ^ (a + b) ≤ x)) (st b (x % 2 ^ (a + b))) m e else if x % 2 ^ (a + b) = (2 ^ a - 1) * 2 ^ b then .endl (decide (2 ^ (a + b) ≤ x)) else if x % 2 ^ (a + b) < (2 ^ a - 1) * 2 ^ b + 2 ^ (b - 1) then .wrong else .none
/-! ### lists -/
/-! ### numbers gathered -/
def sumT (ts : List Tm) : Int := (ts.map Tm.val).sum
/-- the word of noughts -/
def allB (u : Bool) (ts : List Tm) : Bool := ts.all fun t => decide (t.val = 0) && (t.sg == u)
def nsW (H : Int) (c : Nat) (ts : List Tm) : Int := if allB false ts = true then 0 else if allB true ts = true ∨ c = 4 then H else 0
def ngB : Ss := (.cons (.ifs (.ix (.var 4) (.int 1)) (.cons (.asg 3 (.call "added" F.added (.cons (.var 3) (.cons (.call "opposite" F.opposite (.cons (.ix (.var 4) (.int 2)) .nil) []) .nil)) []))
  .nil) (.cons (.asg 3 (.call "added" F.added (.cons (.var 3) (.cons (.ix (.var 4) (.int 2)) .nil)) []))
  .nil))
  .nil)
/-! ### gathered -/
def gat (a b c : Nat) (ts : List Tm) (r : R D) : R D :=
  if ts.any Tm.isWrong = true then .ok (.tup [.int ((2 ^ a - 1) * 2 ^ b + 2 ^ (b - 1)), .int 1])
  else if ts.any Tm.isNone = true then .ok (.tup [.int ((2 ^ a - 1) * 2 ^ b + 2 ^ (b - 1)), .int 0])
  else if (((ts.filter Tm.isEnd).map Tm.sg).any (· == true) && ((ts.filter Tm.isEnd).map Tm.sg).any (· == false)) = true then .ok (.tup [.int ((2 ^ a - 1) * 2 ^ b + 2 ^ (b - 1)), .int 1])
  else match (ts.filter Tm.isEnd).map Tm.sg with
    | u :: _ => .ok (.tup [.int ((2 ^ a - 1) * 2 ^ b + if u = true then 2 ^ (a + b) else 0), .int 0])
    | [] => r
end
end MP

set_option Elab.async false
set_option linter.all false
set_option maxRecDepth 100000
set_option maxHeartbeats 4000000
set_option autoImplicit false
set_option exponentiation.threshold 10000
/-! LP: the laws' judges of a sum. -/
namespace MP
open PySem
section
variable {a b : Nat}
def gr (c : Nat) (odd : Bool) (l r : Int) (u : Bool) : Bool := match c with
  | 0 => decide (r < l) || (decide (l = r) && odd)
  | 1 => decide (r ≤ l)
  | 2 => false
  | 3 => !u
  | _ => u
/-- what is told, as the judges ask -/
inductive Jd (a b c : Nat) (u : Bool) (M N s Z Y : Int) : Prop where
  | A (h : st b ((2 ^ a - 1) * 2 ^ b) * N ≤ M) (z : Z = (2 ^ a - 1) * 2 ^ b - 1 + (if gw c true 3 u = true then 1 else 0)) (y : Y = 20)
  | B (h : M < st b ((2 ^ a - 1) * 2 ^ b) * N) (z : st b Z * N = M) (y : Y = 0)
  | C (h : M < st b ((2 ^ a - 1) * 2 ^ b) * N) (z : ¬ st b Z * N = M) (lo : Z - (if M < st b Z * N then 1 else 0) = s) (l : 0 < M - st b s * N) (r : 0 < st b (s + 1) * N - M)
    (g : decide (M < st b Z * N) = gr c (decide (s % 2 = 1)) (M - st b s * N) (st b (s + 1) * N - M) u) (y : Y = 16 + 8 * (if M < 2 ^ b * N then 1 else 0) + 4 * (if Z = (2 ^ a - 1) * 2 ^ b then 1 else 0))
end
end MP

set_option Elab.async false
set_option linter.all false
set_option maxRecDepth 100000
set_option maxHeartbeats 4000000
set_option autoImplicit false
set_option exponentiation.threshold 10000
/-! LQ: sums and products of words. -/
namespace MP
open PySem
section
variable {a b : Nat}
/-- a word that is a number -/
structure Nw (a b : Nat) (x : Int) : Prop where
  x0 : 0 ≤ x
  x1 : x < 2 ^ (1 + a + b)
  x2 : x % 2 ^ (a + b) < (2 ^ a - 1) * 2 ^ b
theorem st_zero : st b 0 = 0 := st_small (b := b) (Int.le_of_lt (pow2_pos b))
theorem st_eq0 {s : Int} (h : 0 ≤ s) : st b s = 0 ↔ s = 0 := by
  constructor
  · intro q
    have := (st_iff (b := b) (Int.le_refl 0) h)
    rw [st_zero] at this
    omega
  · intro q; rw [q, st_zero]
/-! ### products -/
/-- the product's term; m e: its exact number -/
def Tm.mul (m e : Int) : Tm → Tm → Tm
  | .wrong, _ => .wrong
  | _, .wrong => .wrong
  | .none, _ => .none
  | _, .none => .none
  | .endl s, .endl t => .endl (s != t)
  | .endl s, .num t v _ _ => if v = 0 then .wrong else .endl (s != t)
  | .num s v _ _, .endl t => if v = 0 then .wrong else .endl (s != t)
  | .num s v _ _, .num t v' _ _ => .num (s != t) (v * v') m e
end
end MP

set_option linter.all false
set_option autoImplicit false
set_option exponentiation.threshold 10000
namespace MP
open PySem
section
variable {a b : Nat}
theorem sgn_div (w : Wd a b) {x : Int} (x0 : 0 ≤ x) (x1 : x < 2 ^ (1 + a + b)) : x / 2 ^ (a + b) = if 2 ^ (a + b) ≤ x then 1 else 0 := by
  have hb := high_bit (a := a) (b := b) x0 x1
  have dm := Int.mul_ediv_add_emod x (2 ^ (a + b))
  have pab := pow2_pos (a + b)
  have m1 := Int.emod_lt_of_pos x pab
  have m0 := Int.emod_nonneg x (show (2 : Int) ^ (a + b) ≠ 0 by omega)
  split
  · have : x / 2 ^ (a + b) ≠ 0 := fun z => by rw [z] at dm; omega
    omega
  · rename_i q
    exact Int.ediv_eq_zero_of_lt x0 (by omega)
/-! ### ways that are none -/
end
end MP

set_option linter.all false
set_option autoImplicit false
set_option exponentiation.threshold 10000
namespace MP
open PySem
section
variable {a b d e : Nat}
end
end MP

set_option linter.all false
set_option autoImplicit false
set_option exponentiation.threshold 10000
namespace MP
open PySem
section
variable {a b : Nat}
end
end MP

set_option linter.all false
set_option autoImplicit false
set_option exponentiation.threshold 10000
namespace MP
open PySem
section
variable {a b : Nat}
/-- the whole number that a size is taken to -/
def wh (c : Nat) (u : Bool) (S U : Int) : Int := S / U + if 0 < S % U ∧ gr c (decide (S / U % 2 = 1)) (S % U) (U - S % U) u = true then 1 else 0
section
variable {e : Nat}
theorem st_form {s : Int} (s0 : 0 ≤ s) : ∃ (q : Int) (P : Nat), 0 ≤ q ∧ q < 2 ^ (b + 1) ∧ st b s = q * 2 ^ P := by
  have pb := pow2_pos b
  have hs : (2 : Int) ^ (b + 1) = 2 * 2 ^ b := by rw [Int.pow_succ]; omega
  unfold st
  split
  · exact ⟨s, 0, s0, by omega, by simp⟩
  · have := Int.emod_nonneg s (show (2 : Int) ^ b ≠ 0 by omega)
    have := Int.emod_lt_of_pos s pb
    exact ⟨_, _, by omega, by omega, rfl⟩
end
end
end MP

set_option linter.all false
set_option autoImplicit false
set_option exponentiation.threshold 10000
namespace MP
open PySem
/-! M6: texts of figures, read as numbers. -/
abbrev Fig (l : List Nat) : Prop := NumText.AllDigits l
abbrev dv (l : List Nat) : Nat := NumText.digitsVal l
abbrev TXT (l : List Nat) : Prop := l.all (fun c => decide (c < 1114112)) = true
theorem plain_str {l : List Nat} (h : TXT l) : D.plain 60 (.str l) = true := h
theorem eq_str {l m : List Nat} (h : TXT l) (g : TXT m) : cmpD .eq (.str l) (.str m) = .ok (l == m) := by
  show eqE _ _ = _
  unfold eqE
  rw [plain_str h, plain_str g]
  rfl
theorem ne_str {l m : List Nat} (h : TXT l) (g : TXT m) : cmpD .ne (.str l) (.str m) = .ok (!(l == m)) := by
  show notR (eqD _ _) = _
  unfold eqD
  rw [plain_str h, plain_str g]
  rfl
theorem txt_app {l m : List Nat} (h : TXT l) (g : TXT m) : TXT (l ++ m) := by
  unfold TXT at *
  rw [List.all_append, h, g]
  rfl
theorem Fig.txt {l : List Nat} (h : Fig l) : TXT l := List.all_eq_true.mpr fun c hc => by
  have := h c hc
  exact decide_eq_true (by omega)
theorem Fig.free {l : List Nat} (h : Fig l) {s : Nat} (hs : s < 48 ∨ 57 < s) : s ∉ l := fun hm => by
  have := h s hm
  omega
theorem Fig.take {l : List Nat} (h : Fig l) (k : Nat) : Fig (l.take k) := fun c hc => h c (List.mem_of_mem_take hc)
theorem Fig.drop {l : List Nat} (h : Fig l) (k : Nat) : Fig (l.drop k) := fun c hc => h c (List.mem_of_mem_drop hc)
theorem Fig.app {l m : List Nat} (h : Fig l) (g : Fig m) : Fig (l ++ m) := fun c hc => (List.mem_append.mp hc).elim (h c) (g c)
theorem fig_in {c : Nat} (h : 48 ≤ c ∧ c ≤ 57) : cmpD .nin (.str [c]) (.str [48, 49, 50, 51, 52, 53, 54, 55, 56, 57]) = .ok false := by
  show notR (.ok (decide (c ∈ [48, 49, 50, 51, 52, 53, 54, 55, 56, 57]))) = _
  rw [decide_eq_true (by simp only [List.mem_cons, List.not_mem_nil, or_false]; omega)]
  rfl
theorem figures_ok {l : List Nat} (h : Fig l) (hne : l ≠ []) : F.all_figures [.str l] = .ok (.bl true) := by
  have e := ne_str h.txt (m := []) rfl
  have e2 : (!(l == [])) = true := by cases l <;> first | exact absurd rfl hne | rfl
  simp only [F.all_figures, F.b_all_figures]
  rw [run_eq (by rfl)]
  simp -implicitDefEqProofs only [evSs, evS, evT, evSrc, evE, evEs, getS0, getSs, set0, setS, R.bind_ok, withR_ok, thenO_nxt, List.map_cons, List.map_nil, List.replicate, List.cons_append, List.nil_append, List.append_nil, Nat.reduceSub, itemsD]
  refine forGo_P (I := fun ρ => ∃ s, ρ = [.dat (.str l), s]) (P := fun o => outR (thenO o _) = _) ⟨_, rfl⟩ ?_ fun ρ' h' => ?_
  · rintro x hx ρ ⟨s, rfl⟩
    obtain ⟨c, hc, rfl⟩ := List.mem_map.mp hx
    refine ⟨[.dat (.str l), .dat (.str [c])], ?_, .dat (.str [c]), rfl⟩
    simp only [evSs, evS, evT, evE, evEs, evSrc, getS0, getSs, set0, setS, R.bind_ok, R.bind_ex, bind_ite, withR_ok, withR_ex, withR_ite, thenO_nxt, thenO_ret, thenO_ex, thenO_ite, outR_nxt, outR_ret, outR_ex, outR_ite, bool_ok, int_ok, bin_add, bin_sub, bin_mul, bin_fdiv, bin_mod, bin_shl, bin_shr, bin_pow, bin_and, bin_or, bin_xor, cmp_eq, cmp_ne, cmp_lt, cmp_le, cmp_gt, cmp_ge, add_int, sub_int, and_int, or_int, xor_int, neg_int, len_lst, len_tup, abs_int, int_int, int_bl, max_int, min_int, bits_int, ix_tup0, ix_tup1, ix_tup2, List.map_cons, List.map_nil, List.replicate, List.cons_append, List.nil_append, List.append_nil, List.length_cons, List.length_nil, decide_eq_true_eq, Nat.reduceSub, Nat.reduceAdd, Int.reduceToNat, fig_in (h c hc), decide_true, decide_false, Bool.not_true, Bool.not_false, Bool.false_eq_true, if_true, if_false]
  · obtain ⟨s, rfl⟩ := h'
    simp only [evSs, evS, evT, evE, evEs, evSrc, getS0, getSs, set0, setS, R.bind_ok, R.bind_ex, bind_ite, withR_ok, withR_ex, withR_ite, thenO_nxt, thenO_ret, thenO_ex, thenO_ite, outR_nxt, outR_ret, outR_ex, outR_ite, bool_ok, int_ok, bin_add, bin_sub, bin_mul, bin_fdiv, bin_mod, bin_shl, bin_shr, bin_pow, bin_and, bin_or, bin_xor, cmp_eq, cmp_ne, cmp_lt, cmp_le, cmp_gt, cmp_ge, add_int, sub_int, and_int, or_int, xor_int, neg_int, len_lst, len_tup, abs_int, int_int, int_bl, max_int, min_int, bits_int, ix_tup0, ix_tup1, ix_tup2, List.map_cons, List.map_nil, List.replicate, List.cons_append, List.nil_append, List.append_nil, List.length_cons, List.length_nil, decide_eq_true_eq, Nat.reduceSub, Nat.reduceAdd, Int.reduceToNat, e, e2]
theorem len_str {l : List Nat} (h : l.length ≤ 100000) : f1D .len (.str l) = .ok (.int l.length) := if_pos (Nat.le_trans h (by decide))
theorem int_dig {l : List Nat} (h : Fig l) (hne : l ≠ []) (hl : l.length ≤ 640) : f1D .int (.str l) = .ok (.int (dv l : Nat)) := by
  show (if l.length ≤ 640 then _ else _) = _
  rw [if_pos hl, show toS l = SX.S l from rfl, SX.int_S (List.all_eq_true.mpr fun c hc => by have := h c hc; simp only [Bool.and_eq_true, decide_eq_true_eq]; exact this) hne (by omega)]
theorem fig_num (n : Nat) : Fig (TL.numL n) := TL.numL_digits n
theorem str_nat {n : Nat} (h : n < 2 ^ 12900) : f1D .str (.int n) = .ok (.str (TL.numL n)) := by
  have hl : n.log2 < 12900 := by
    by_cases h0 : n = 0
    · subst h0; decide
    · exact (Nat.log2_lt h0).mpr h
  show (if ((n : Int)).natAbs.log2 < 12900 then R.ok (ofS (Str.ofString (toString ((n : Nat) : Int)))) else .no) = _
  rw [show ((n : Int)).natAbs = n from Int.natAbs_natCast n, if_pos hl, SX.num_S]
  rfl
theorem str_neg {n : Nat} (h0 : 0 < n) (h : n < 2 ^ 12900) : f1D .str (.int (-(n : Int))) = .ok (.str (45 :: TL.numL n)) := by
  have hl : n.log2 < 12900 := (Nat.log2_lt (by omega)).mpr h
  obtain ⟨m, rfl⟩ : ∃ m, n = m + 1 := ⟨n - 1, by omega⟩
  show (if (-((m + 1 : Nat) : Int)).natAbs.log2 < 12900 then R.ok (ofS (Str.ofString (toString (-((m + 1 : Nat) : Int))))) else .no) = _
  rw [if_pos (by rw [Int.natAbs_neg]; exact hl)]
  refine congrArg R.ok (congrArg D.str ?_)
  have e : toString (-((m + 1 : Nat) : Int)) = "-" ++ toString (((m + 1 : Nat) : Int)) := rfl
  have t := TL.tl_num (m + 1)
  rw [e]
  rw [Str.ofString_eq_toList] at t ⊢
  have t : (toString (((m + 1 : Nat) : Int))).toList.map Char.toNat = TL.numL (m + 1) := t
  show (("-" ++ toString (((m + 1 : Nat) : Int))).toList.map Char.toNat) = _
  rw [String.toList_append, List.map_append, t]
  rfl
theorem starts_cons {c d : Nat} {l : List Nat} : tmD .startswith (.str (c :: l)) (.str [d]) = .ok (.bl (decide (c = d))) := by
  refine congrArg R.ok (congrArg D.bl ?_)
  have e : Txt.startswith (toS (c :: l)) (toS [d]) = (decide (0 + 1 ≤ l.length + 1) && ([c] == [d])) := by
    unfold Txt.startswith
    rw [StrLaws.subAt_eq]
    rw [show (toS (c :: l)).length = l.length + 1 by simp [toS, Str.length], show (toS [d]).length = 1 by simp [toS, Str.length]]
    rfl
  rw [e, decide_eq_true (by omega), Bool.true_and]
  by_cases h : c = d
  · subst h; simp
  · rw [decide_eq_false h]; simp [h]
theorem part_app {p q : List Nat} {c : Nat} (h : c ∉ p) (hl : p.length + q.length ≤ 100000) : tmD .partition (.str (p ++ c :: q)) (.str [c]) = .ok (.tup [.str p, .str [c], .str q]) := by
  have ln : (p ++ c :: q).length ≤ line := by
    rw [List.length_append, List.length_cons]
    exact Nat.le_trans (show _ ≤ 1000000 by omega) (by decide)
  show (if [c].length ≠ 0 ∧ (p ++ c :: q).length ≤ line then _ else _) = _
  rw [if_pos ⟨by simp, ln⟩]
  have e := SX.partition_some (a := p ++ c :: q) (b := [c]) (p := p) (q := q) (by simp) (by
    have := TL.par_part1 (s := c) (S := []) (p := p) (rest := q) (acc := []) h
    rw [List.nil_append] at this
    exact this)
  rw [show toS (p ++ c :: q) = SX.S (p ++ c :: q) from rfl, show toS [c] = SX.S [c] from rfl, e]
  rfl
theorem part_none {p : List Nat} {c : Nat} (h : c ∉ p) (hl : p.length ≤ 100000) : tmD .partition (.str p) (.str [c]) = .ok (.tup [.str p, .str [], .str []]) := by
  show (if [c].length ≠ 0 ∧ p.length ≤ line then _ else _) = _
  rw [if_pos ⟨by simp, Nat.le_trans hl (by decide)⟩]
  have e := SX.partition_none (a := p) (b := [c]) (by simp) (TL.par_none1 (s := c) (S := []) (p := p) (acc := []) h)
  rw [show toS p = SX.S p from rfl, show toS [c] = SX.S [c] from rfl, e]
  rfl
theorem cat_str {l m : List Nat} (h : l.length + m.length ≤ 100000) : addD (.str l) (.str m) = .ok (.str (l ++ m)) := if_pos (Nat.le_trans h (by decide))
theorem slL1 {c : Nat} {l : List Nat} (h : l.length ≤ 100000) : slcD (.str (c :: l)) (some 1) none = .ok (.str l) := by
  show (if (c :: l).length ≤ line then R.ok (D.str (cutL (c :: l) (some 1) none)) else .no) = _
  rw [if_pos (by rw [List.length_cons]; exact Nat.le_trans (show _ ≤ 1000000 by omega) (by decide))]
  refine congrArg R.ok (congrArg D.str ?_)
  unfold cutL bnd
  simp
theorem bnd_nat {n d k : Nat} : bnd n d (some (k : Int)) = min k n := by
  show (if (k : Int) < 0 then ((k : Int) + (n : Int)).toNat else min ((k : Int)).toNat n) = _
  rw [if_neg (by omega), Int.toNat_natCast]
theorem bnd_non {n d : Nat} : bnd n d none = d := rfl
theorem slH {l : List Nat} (h : l.length ≤ 100000) (k : Nat) : slcD (.str l) none (some (k : Int)) = .ok (.str (l.take k)) := by
  show (if l.length ≤ line then R.ok (D.str (cutL l none (some (k : Int)))) else .no) = _
  rw [if_pos (Nat.le_trans h (by decide))]
  refine congrArg R.ok (congrArg D.str ?_)
  unfold cutL
  rw [bnd_nat, bnd_non, List.drop_zero, Nat.sub_zero]
  rcases Nat.le_total k l.length with q | q
  · rw [Nat.min_eq_left q]
  · rw [Nat.min_eq_right q, List.take_length, List.take_of_length_le q]
theorem slL {l : List Nat} (h : l.length ≤ 100000) (k : Nat) : slcD (.str l) (some (k : Int)) none = .ok (.str (l.drop k)) := by
  show (if l.length ≤ line then R.ok (D.str (cutL l (some (k : Int)) none)) else .no) = _
  rw [if_pos (Nat.le_trans h (by decide))]
  refine congrArg R.ok (congrArg D.str ?_)
  unfold cutL
  rw [bnd_nat, bnd_non]
  rcases Nat.le_total k l.length with q | q
  · rw [Nat.min_eq_left q]
    exact List.take_of_length_le (by rw [List.length_drop]; omega)
  · rw [Nat.min_eq_right q, List.drop_length, List.drop_of_length_le q]
    simp
theorem dv_go : ∀ (l : List Nat) (a : Nat), Fig l → l.foldl (fun acc c => acc * 10 + (c - 48)) a < (a + 1) * 10 ^ l.length
  | [], a, _ => by simp
  | c :: r, a, h => by
    have h1 := dv_go r (a * 10 + (c - 48)) fun d hd => h d (List.mem_cons_of_mem _ hd)
    have hc := h c (List.mem_cons_self ..)
    rw [List.foldl_cons, List.length_cons, Nat.pow_succ]
    refine Nat.lt_of_lt_of_le h1 ?_
    have h2 := Nat.mul_le_mul_right (10 ^ r.length) (show a * 10 + (c - 48) + 1 ≤ (a + 1) * 10 by omega)
    have e : (a + 1) * 10 * 10 ^ r.length = (a + 1) * (10 ^ r.length * 10) := by rw [Nat.mul_assoc, Nat.mul_comm 10]
    omega
theorem dv_lt {l : List Nat} (h : Fig l) : dv l < 10 ^ l.length := by
  have := dv_go l 0 h
  rw [Nat.zero_add, Nat.one_mul] at this
  exact this
theorem dv_bits {l : List Nat} (h : Fig l) : bits (dv l : Int) ≤ 4 * l.length + 1 := by
  refine Bd.iff.mpr ?_
  have h1 := dv_lt h
  have h : (10 : Nat) ^ l.length ≤ 16 ^ l.length := Nat.pow_le_pow_left (by decide) _
  have e : (2 : Nat) ^ (4 * l.length + 1) = 2 * 16 ^ l.length := by rw [Nat.pow_succ, Nat.pow_mul, Nat.mul_comm]
  rw [e, Int.natAbs_natCast]
  omega
/-! ### a power told -/
def pwL (t : Int) : List Nat := if t < 0 then 45 :: TL.numL t.natAbs else TL.numL t.natAbs
theorem str_int {t : Int} (h : t.natAbs < 2 ^ 12900) : f1D .str (.int t) = .ok (.str (pwL t)) := by
  unfold pwL
  by_cases h0 : t < 0
  · rw [if_pos h0]
    have := str_neg (n := t.natAbs) (by omega) h
    rw [show (-(t.natAbs : Int)) = t by omega] at this
    exact this
  · rw [if_neg h0]
    have := str_nat (n := t.natAbs) h
    rw [show ((t.natAbs : Nat) : Int) = t by omega] at this
    exact this
theorem pwL_txt (t : Int) : TXT (pwL t) := by
  unfold pwL
  split
  · exact txt_app (l := [45]) rfl (fig_num _).txt
  · exact (fig_num _).txt
theorem num_hd (n : Nat) : ∃ c r, TL.numL n = c :: r ∧ 48 ≤ c ∧ c ≤ 57 := by
  cases h : TL.numL n with
  | nil => exact absurd h (TL.numL_ne n)
  | cons c r => exact ⟨c, r, rfl, (fig_num n) c (by rw [h]; exact List.mem_cons_self ..)⟩
/-! ### the parts of a text -/
/-- the text of a number: a minus or none, figures, a point and figures or none, e and a power -/
def ptq : Option (List Nat) → List Nat
  | some q => 46 :: q
  | none => []
def tx (u : Bool) (p : List Nat) (q : Option (List Nat)) (t : Int) : List Nat := (if u = true then [45] else []) ++ ((p ++ ptq q) ++ 101 :: pwL t)
def tlq : Option (List Nat) → List Nat
  | some q => q
  | none => []
/-! ### powers -/
def btB : Ss := (.cons (.ifs (.cmp .eq (.bin .mod (.var 1) (.int 2)) (.int 1)) (.cons (.asg 2 (.bin .mul (.var 2) (.var 0)))
  .nil) .nil)
  (.cons (.asg 0 (.bin .mul (.var 0) (.var 0)))
  (.cons (.asg 1 (.bin .fdiv (.var 1) (.int 2)))
  .nil)))
theorem pow_half {x f : Int} {m : Nat} : (m % 2 = 1 → f * x * (x * x) ^ (m / 2) = f * x ^ m) ∧ (m % 2 = 0 → f * (x * x) ^ (m / 2) = f * x ^ m) := by
  have e : (x * x) ^ (m / 2) = x ^ (2 * (m / 2)) := by
    rw [Int.pow_mul, show x ^ 2 = x * x by rw [Int.pow_succ, Int.pow_succ, Int.pow_zero, Int.one_mul]]
  constructor
  · intro h
    have e2 : x ^ m = x * x ^ (2 * (m / 2)) := by
      rw [Int.mul_comm x, ← Int.pow_succ, show (2 * (m / 2)).succ = m by omega]
    rw [e, e2, Int.mul_assoc]
  · intro h
    rw [e, show 2 * (m / 2) = m by omega]
theorem bits_half {x f : Int} {m : Nat} {B : Nat} (h : bits f + bits x * m ≤ B) (m0 : 0 < m) : bits (x * x) ≤ 2 * bits x ∧ (m % 2 = 1 → bits (f * x) + bits (x * x) * (m / 2) ≤ B) ∧ (m % 2 = 0 → bits f + bits (x * x) * (m / 2) ≤ B) := by
  have b1 : bits (x * x) ≤ 2 * bits x := by have := Bd.mul (Nat.le_refl (bits x)) (Nat.le_refl (bits x)); unfold Bd at this; omega
  have b2 : bits (f * x) ≤ bits f + bits x := Bd.mul (Nat.le_refl (bits f)) (Nat.le_refl (bits x))
  have b3 := Nat.mul_le_mul_right (m / 2) b1
  refine ⟨b1, fun q => ?_, fun q => ?_⟩
  · have e : bits x * m = 2 * bits x * (m / 2) + bits x := by
      have : m = 2 * (m / 2) + 1 := by omega
      rw [Nat.mul_comm 2 (bits x), Nat.mul_assoc]
      generalize m / 2 = k at *
      rw [this, Nat.mul_add, Nat.mul_one]
    omega
  · have e : bits x * m = 2 * bits x * (m / 2) := by
      rw [Nat.mul_comm 2 (bits x), Nat.mul_assoc, show 2 * (m / 2) = m by omega]
    omega
theorem bt_loop : ∀ (k fu : Nat) (x f : Int) (m : Nat), m < 2 ^ k → k < fu → bits f + bits x * m ≤ 60000000 →
    ∃ x', whGo (fun ρ' => evT (.cmp .gt (.var 1) (.int 0)) ρ') (fun ρ' => evSs btB ρ') fu [.dat (.int x), .dat (.int m), .dat (.int f)] = .nxt [.dat (.int x'), .dat (.int 0), .dat (.int (f * x ^ m))] := by
  have stop : ∀ (fu : Nat) (x f : Int), 0 < fu → ∃ x', whGo (fun ρ' => evT (.cmp .gt (.var 1) (.int 0)) ρ') (fun ρ' => evSs btB ρ') fu [.dat (.int x), .dat (.int ((0 : Nat) : Int)), .dat (.int f)] = .nxt [.dat (.int x'), .dat (.int 0), .dat (.int (f * x ^ 0))] := by
    intro fu x f hf
    obtain ⟨fu, rfl⟩ : ∃ f, fu = f + 1 := ⟨fu - 1, by omega⟩
    refine ⟨x, ?_⟩
    unfold whGo
    simp only [evSs, evS, evT, evE, evEs, evSrc, getS0, getSs, set0, setS, R.bind_ok, R.bind_ex, bind_ite, withR_ok, withR_ex, withR_ite, thenO_nxt, thenO_ret, thenO_ex, thenO_ite, outR_nxt, outR_ret, outR_ex, outR_ite, bool_ok, int_ok, bin_add, bin_sub, bin_mul, bin_fdiv, bin_mod, bin_shl, bin_shr, bin_pow, bin_and, bin_or, bin_xor, cmp_eq, cmp_ne, cmp_lt, cmp_le, cmp_gt, cmp_ge, add_int, sub_int, and_int, or_int, xor_int, neg_int, len_lst, len_tup, abs_int, int_int, int_bl, max_int, min_int, bits_int, ix_tup0, ix_tup1, ix_tup2, List.map_cons, List.map_nil, List.replicate, List.cons_append, List.nil_append, List.append_nil, List.length_cons, List.length_nil, decide_eq_true_eq, Nat.reduceSub, Nat.reduceAdd, Int.reduceToNat, Int.natCast_zero, Int.lt_irrefl, Int.pow_zero, Int.mul_one, decide_true, decide_false, Bool.not_true, Bool.not_false, Bool.false_eq_true, if_true, if_false]
  intro k
  induction k with
  | zero =>
    intro fu x f m hm hf _
    obtain rfl : m = 0 := by omega
    exact stop fu x f (by omega)
  | succ k ih =>
    intro fu x f m hm hf hb
    by_cases m0 : m = 0
    · subst m0
      exact stop fu x f (by omega)
    · obtain ⟨fu, rfl⟩ : ∃ f, fu = f + 1 := ⟨fu - 1, by omega⟩
      obtain ⟨b1, b2, b3⟩ := bits_half hb (by omega)
      have b4 : bits x ≤ bits x * m := Nat.le_mul_of_pos_right _ (by omega)
      have t1 : evT (.cmp .gt (.var 1) (.int 0)) [.dat (.int x), .dat (.int (m : Int)), .dat (.int f)] = .ok true := by
        simp only [evSs, evS, evT, evE, evEs, evSrc, getS0, getSs, set0, setS, R.bind_ok, R.bind_ex, bind_ite, withR_ok, withR_ex, withR_ite, thenO_nxt, thenO_ret, thenO_ex, thenO_ite, outR_nxt, outR_ret, outR_ex, outR_ite, bool_ok, int_ok, bin_add, bin_sub, bin_mul, bin_fdiv, bin_mod, bin_shl, bin_shr, bin_pow, bin_and, bin_or, bin_xor, cmp_eq, cmp_ne, cmp_lt, cmp_le, cmp_gt, cmp_ge, add_int, sub_int, and_int, or_int, xor_int, neg_int, len_lst, len_tup, abs_int, int_int, int_bl, max_int, min_int, bits_int, ix_tup0, ix_tup1, ix_tup2, List.map_cons, List.map_nil, List.replicate, List.cons_append, List.nil_append, List.append_nil, List.length_cons, List.length_nil, decide_eq_true_eq, Nat.reduceSub, Nat.reduceAdd, Int.reduceToNat, show (0 : Int) < (m : Int) by omega, decide_true, decide_false, Bool.not_true, Bool.not_false, Bool.false_eq_true, if_true, if_false]
      have mx : mulD (.int x) (.int x) = .ok (.int (x * x)) := mul_ok (by omega)
      have mf : mulD (.int f) (.int x) = .ok (.int (f * x)) := mul_ok (by omega)
      have md : modD (.int (m : Int)) (.int 2) = .ok (.int ((m % 2 : Nat) : Int)) := by rw [mod_ok (by decide)]; rfl
      have fd : fdivD (.int (m : Int)) (.int 2) = .ok (.int ((m / 2 : Nat) : Int)) := by rw [fdiv_ok (by decide) (by decide)]; rfl
      by_cases p : m % 2 = 1
      · have t2 : evSs btB [.dat (.int x), .dat (.int (m : Int)), .dat (.int f)] = .nxt [.dat (.int (x * x)), .dat (.int ((m / 2 : Nat) : Int)), .dat (.int (f * x))] := by
          simp only [btB, evSs, evS, evT, evE, evEs, evSrc, getS0, getSs, set0, setS, R.bind_ok, R.bind_ex, bind_ite, withR_ok, withR_ex, withR_ite, thenO_nxt, thenO_ret, thenO_ex, thenO_ite, outR_nxt, outR_ret, outR_ex, outR_ite, bool_ok, int_ok, bin_add, bin_sub, bin_mul, bin_fdiv, bin_mod, bin_shl, bin_shr, bin_pow, bin_and, bin_or, bin_xor, cmp_eq, cmp_ne, cmp_lt, cmp_le, cmp_gt, cmp_ge, add_int, sub_int, and_int, or_int, xor_int, neg_int, len_lst, len_tup, abs_int, int_int, int_bl, max_int, min_int, bits_int, ix_tup0, ix_tup1, ix_tup2, List.map_cons, List.map_nil, List.replicate, List.cons_append, List.nil_append, List.append_nil, List.length_cons, List.length_nil, decide_eq_true_eq, Nat.reduceSub, Nat.reduceAdd, Int.reduceToNat, md, fd, mx, mf, p, show (((1 : Nat) : Int) = 1) = True by simp, decide_true, decide_false, Bool.not_true, Bool.not_false, Bool.false_eq_true, if_true, if_false]
        obtain ⟨x', e⟩ := ih fu (x * x) (f * x) (m / 2) (by rw [Nat.pow_succ] at hm; omega) (by omega) (b2 p)
        refine ⟨x', ?_⟩
        rw [whGo]
        simp only [t1, t2, withR_ok, if_true, thenO_nxt]
        rw [e, pow_half.1 p]
      · have p0 : m % 2 = 0 := by omega
        have t2 : evSs btB [.dat (.int x), .dat (.int (m : Int)), .dat (.int f)] = .nxt [.dat (.int (x * x)), .dat (.int ((m / 2 : Nat) : Int)), .dat (.int f)] := by
          simp only [btB, evSs, evS, evT, evE, evEs, evSrc, getS0, getSs, set0, setS, R.bind_ok, R.bind_ex, bind_ite, withR_ok, withR_ex, withR_ite, thenO_nxt, thenO_ret, thenO_ex, thenO_ite, outR_nxt, outR_ret, outR_ex, outR_ite, bool_ok, int_ok, bin_add, bin_sub, bin_mul, bin_fdiv, bin_mod, bin_shl, bin_shr, bin_pow, bin_and, bin_or, bin_xor, cmp_eq, cmp_ne, cmp_lt, cmp_le, cmp_gt, cmp_ge, add_int, sub_int, and_int, or_int, xor_int, neg_int, len_lst, len_tup, abs_int, int_int, int_bl, max_int, min_int, bits_int, ix_tup0, ix_tup1, ix_tup2, List.map_cons, List.map_nil, List.replicate, List.cons_append, List.nil_append, List.append_nil, List.length_cons, List.length_nil, decide_eq_true_eq, Nat.reduceSub, Nat.reduceAdd, Int.reduceToNat, md, fd, mx, mf, p0, show ¬ ((((0 : Nat) : Int)) = 1) by simp, decide_true, decide_false, Bool.not_true, Bool.not_false, Bool.false_eq_true, if_true, if_false]
        obtain ⟨x', e⟩ := ih fu (x * x) f (m / 2) (by rw [Nat.pow_succ] at hm; omega) (by omega) (b3 p0)
        refine ⟨x', ?_⟩
        rw [whGo]
        simp only [t1, t2, withR_ok, if_true, thenO_nxt]
        rw [e, pow_half.2 p0]
theorem base_to_ok {x : Int} {m : Nat} (hm : m < 100000) (hb : bits x * m ≤ 50000000) : F.base_to [.int x, .int m] = .ok (.int (x ^ m)) := by
  have b1 := bits_one
  obtain ⟨x', e⟩ := bt_loop 17 fuel x 1 m (Nat.lt_of_lt_of_le hm (by decide)) (by decide) (by omega)
  simp only [F.base_to, F.b_base_to]
  rw [run_eq (by rfl)]
  simp only [List.map_cons, List.map_nil, List.replicate, List.cons_append, List.nil_append, Nat.reduceSub]
  refine seq (P := fun o => outR o = _) (by simp only [evSs, evS, evT, evE, evEs, evSrc, getS0, getSs, set0, setS, R.bind_ok, R.bind_ex, bind_ite, withR_ok, withR_ex, withR_ite, thenO_nxt, thenO_ret, thenO_ex, thenO_ite, outR_nxt, outR_ret, outR_ex, outR_ite, bool_ok, int_ok, bin_add, bin_sub, bin_mul, bin_fdiv, bin_mod, bin_shl, bin_shr, bin_pow, bin_and, bin_or, bin_xor, cmp_eq, cmp_ne, cmp_lt, cmp_le, cmp_gt, cmp_ge, add_int, sub_int, and_int, or_int, xor_int, neg_int, len_lst, len_tup, abs_int, int_int, int_bl, max_int, min_int, bits_int, ix_tup0, ix_tup1, ix_tup2, List.map_cons, List.map_nil, List.replicate, List.cons_append, List.nil_append, List.append_nil, List.length_cons, List.length_nil, decide_eq_true_eq, Nat.reduceSub, Nat.reduceAdd, Int.reduceToNat, setAll, Int.toNat_natCast, Int.one_mul, decide_true, decide_false, Bool.not_true, Bool.not_false, Bool.false_eq_true, if_true, if_false]; rfl) ?_
  refine seq (P := fun o => outR o = _) (show evS (.whl _ btB) _ = _ from e) ?_
  refine seq_ret (P := fun o => outR o = _) (by simp (disch := first | assumption | omega | decide +kernel | exact bsum (by (repeat' first | assumption | apply Bd.mod | apply Bd.shlm | apply Bd.shl | apply Bd.mul | apply Bd.add | apply Bd.sub | apply Bd.neg | apply Bd.abs | apply Bd.fdiv | apply Bd.pow2 | exact Bd.lit _ | decide | omega)) (by (repeat' first | assumption | apply Bd.mod | apply Bd.shlm | apply Bd.shl | apply Bd.mul | apply Bd.add | apply Bd.sub | apply Bd.neg | apply Bd.abs | apply Bd.fdiv | apply Bd.pow2 | exact Bd.lit _ | decide | omega)) (by decide +kernel) | (have := bits_one; have := bits_two; have := bits_three; omega)) only [evSs, evS, evT, evE, evEs, evSrc, getS0, getSs, set0, setS, R.bind_ok, R.bind_ex, bind_ite, withR_ok, withR_ex, withR_ite, thenO_nxt, thenO_ret, thenO_ex, thenO_ite, outR_nxt, outR_ret, outR_ex, outR_ite, bool_ok, int_ok, bin_add, bin_sub, bin_mul, bin_fdiv, bin_mod, bin_shl, bin_shr, bin_pow, bin_and, bin_or, bin_xor, cmp_eq, cmp_ne, cmp_lt, cmp_le, cmp_gt, cmp_ge, add_int, sub_int, and_int, or_int, xor_int, neg_int, len_lst, len_tup, abs_int, int_int, int_bl, max_int, min_int, bits_int, ix_tup0, ix_tup1, ix_tup2, List.map_cons, List.map_nil, List.replicate, List.cons_append, List.nil_append, List.append_nil, List.length_cons, List.length_nil, decide_eq_true_eq, Nat.reduceSub, Nat.reduceAdd, Int.reduceToNat, setAll, Int.toNat_natCast, Int.one_mul, mul_ok, mod_ok, fdiv_ok, shl_ok, shr_ok, pow_ok, decide_true, decide_false, Bool.not_true, Bool.not_false, Bool.false_eq_true, if_true, if_false]; rfl) ?_
  simp only [outR, Int.one_mul]
theorem bits_ten (k : Nat) : bits ((10 : Int) ^ k) ≤ 4 * k + 1 := by
  refine Bd.iff.mpr ?_
  rw [Int.natAbs_pow]
  have h : (10 : Nat) ^ k ≤ 16 ^ k := Nat.pow_le_pow_left (by decide) k
  have e : (2 : Nat) ^ (4 * k + 1) = 2 * 16 ^ k := by rw [Nat.pow_succ, Nat.pow_mul, Nat.mul_comm]
  have p : 0 < (16 : Nat) ^ k := Nat.pow_pos (by decide)
  rw [e]
  show (10 : Nat) ^ k < _
  omega
theorem over_under_ok {n t : Int} (ht : t.natAbs < 5000) (hn : bits n ≤ 1000000) : F.over_and_under [.int n, .int t] = .ok (.tup [.int (n * 10 ^ t.toNat), .int (10 ^ (-t).toNat)]) := by
  have b10 : bits 10 = 4 := by decide
  simp only [F.over_and_under, F.b_over_and_under]
  rw [run_eq (by rfl)]
  by_cases h : t < 0
  · have bt := base_to_ok (x := 10) (m := (-t).toNat) (by omega) (by rw [b10]; omega)
    rw [show (((-t).toNat : Nat) : Int) = 0 - t by omega] at bt
    simp only [evSs, evS, evT, evE, evEs, evSrc, getS0, getSs, set0, setS, R.bind_ok, R.bind_ex, bind_ite, withR_ok, withR_ex, withR_ite, thenO_nxt, thenO_ret, thenO_ex, thenO_ite, outR_nxt, outR_ret, outR_ex, outR_ite, bool_ok, int_ok, bin_add, bin_sub, bin_mul, bin_fdiv, bin_mod, bin_shl, bin_shr, bin_pow, bin_and, bin_or, bin_xor, cmp_eq, cmp_ne, cmp_lt, cmp_le, cmp_gt, cmp_ge, add_int, sub_int, and_int, or_int, xor_int, neg_int, len_lst, len_tup, abs_int, int_int, int_bl, max_int, min_int, bits_int, ix_tup0, ix_tup1, ix_tup2, List.map_cons, List.map_nil, List.replicate, List.cons_append, List.nil_append, List.append_nil, List.length_cons, List.length_nil, decide_eq_true_eq, Nat.reduceSub, Nat.reduceAdd, Int.reduceToNat, h, bt, decide_true, decide_false, Bool.not_true, Bool.not_false, Bool.false_eq_true, if_true, if_false]
    rw [show t.toNat = 0 by omega, Int.pow_zero, Int.mul_one]
  · have bt := base_to_ok (x := 10) (m := t.toNat) (by omega) (by rw [b10]; omega)
    rw [show ((t.toNat : Nat) : Int) = t by omega] at bt
    have bp := bits_ten t.toNat
    have mm : mulD (.int n) (.int (10 ^ t.toNat)) = .ok (.int (n * 10 ^ t.toNat)) := mul_ok (by omega)
    simp only [evSs, evS, evT, evE, evEs, evSrc, getS0, getSs, set0, setS, R.bind_ok, R.bind_ex, bind_ite, withR_ok, withR_ex, withR_ite, thenO_nxt, thenO_ret, thenO_ex, thenO_ite, outR_nxt, outR_ret, outR_ex, outR_ite, bool_ok, int_ok, bin_add, bin_sub, bin_mul, bin_fdiv, bin_mod, bin_shl, bin_shr, bin_pow, bin_and, bin_or, bin_xor, cmp_eq, cmp_ne, cmp_lt, cmp_le, cmp_gt, cmp_ge, add_int, sub_int, and_int, or_int, xor_int, neg_int, len_lst, len_tup, abs_int, int_int, int_bl, max_int, min_int, bits_int, ix_tup0, ix_tup1, ix_tup2, List.map_cons, List.map_nil, List.replicate, List.cons_append, List.nil_append, List.append_nil, List.length_cons, List.length_nil, decide_eq_true_eq, Nat.reduceSub, Nat.reduceAdd, Int.reduceToNat, h, bt, mm, decide_true, decide_false, Bool.not_true, Bool.not_false, Bool.false_eq_true, if_true, if_false]
    rw [show (-t).toNat = 0 by omega, Int.pow_zero]
end MP

set_option linter.all false
set_option autoImplicit false
set_option exponentiation.threshold 20000
namespace MP
open PySem
/-! M7: texts of numbers, long ones too. -/
theorem Fig.nil : Fig [] := fun c hc => absurd hc (by simp)
theorem int_fig {l : List Nat} (h : Fig l) (hne : l ≠ []) (hl : l.length ≤ 4300) : f1D .int (.str l) = .ok (.int (dv l : Nat)) := by
  by_cases h6 : l.length ≤ 640
  · exact int_dig h hne h6
  · show (if l.length ≤ 640 then _ else _) = _
    rw [if_neg h6, if_pos ⟨hl, List.all_eq_true.mpr fun c hc => by have := h c hc; simp only [Bool.and_eq_true, decide_eq_true_eq]; exact this⟩]
theorem ten3 (j : Nat) : (10 : Nat) ^ (3 * j) ≤ 2 ^ (10 * j) := by
  rw [Nat.pow_mul, Nat.pow_mul]
  exact Nat.pow_le_pow_left (by decide) j
theorem nat_ten3 (k : Nat) : (10 : Nat) ^ k ≤ 2 ^ (10 * (k / 3 + 1)) := Nat.le_trans (Nat.pow_le_pow_right (by decide) (by omega)) (ten3 (k / 3 + 1))
/-! ### any text of a number -/
/-- a power: a minus or none, and figures -/
abbrev Pw := Option (Bool × List Nat)
def pwT : Pw → List Nat
  | some (v, f) => 101 :: ((if v = true then [45] else []) ++ f)
  | none => []
def pwV : Pw → Int
  | some (v, f) => if v = true then -(dv f : Int) else (dv f : Int)
  | none => 0
def PwOk (w : Pw) : Prop := ∀ v f, w = some (v, f) → Fig f ∧ f ≠ [] ∧ f.length ≤ 3
def gx (u : Bool) (p : List Nat) (q : Option (List Nat)) (w : Pw) : List Nat := (if u = true then [45] else []) ++ ((p ++ ptq q) ++ pwT w)
def QOk (q : Option (List Nat)) : Prop := ∀ r, q = some r → Fig r ∧ r ≠ []
theorem power_told_gen {v : Bool} {f : List Nat} (hf : Fig f) (nf : f ≠ []) (lf : f.length ≤ 3) : F.power_told [.str ((if v = true then [45] else []) ++ f)] = .ok (.int (if v = true then -(dv f : Int) else (dv f : Int))) := by
  have ff := figures_ok hf nf
  have fi := int_dig hf nf (by omega)
  have ln := len_str (l := f) (by omega)
  have g3 : ¬ (3 : Int) < ((f.length : Nat)) := by omega
  simp only [F.power_told, F.b_power_told]
  rw [run_eq (by rfl)]
  cases v
  · have st : tmD .startswith (.str f) (.str [45]) = .ok (.bl false) := by
      cases f with
      | nil => exact absurd rfl nf
      | cons c r =>
        have := hf c (List.mem_cons_self ..)
        rw [starts_cons, decide_eq_false (by omega)]
    simp only [Bool.false_eq_true, if_false, List.nil_append]
    simp only [evSs, evS, evT, evE, evEs, evSrc, getS0, getSs, set0, setS, R.bind_ok, R.bind_ex, bind_ite, withR_ok, withR_ex, withR_ite, thenO_nxt, thenO_ret, thenO_ex, thenO_ite, outR_nxt, outR_ret, outR_ex, outR_ite, bool_ok, int_ok, bin_add, bin_sub, bin_mul, bin_fdiv, bin_mod, bin_shl, bin_shr, bin_pow, bin_and, bin_or, bin_xor, cmp_eq, cmp_ne, cmp_lt, cmp_le, cmp_gt, cmp_ge, add_int, sub_int, and_int, or_int, xor_int, neg_int, len_lst, len_tup, abs_int, int_int, int_bl, max_int, min_int, bits_int, ix_tup0, ix_tup1, ix_tup2, List.map_cons, List.map_nil, List.replicate, List.cons_append, List.nil_append, List.append_nil, List.length_cons, List.length_nil, decide_eq_true_eq, Nat.reduceSub, Nat.reduceAdd, Int.reduceToNat, strD, st, ff, ln, g3, fi, decide_true, decide_false, Bool.not_true, Bool.not_false, Bool.false_eq_true, if_true, if_false]
  · have st : tmD .startswith (.str (45 :: f)) (.str [45]) = .ok (.bl true) := by rw [starts_cons]; rfl
    have sl := slL1 (c := 45) (l := f) (by omega)
    simp only [if_true, List.cons_append, List.nil_append]
    simp only [evSs, evS, evT, evE, evEs, evSrc, getS0, getSs, set0, setS, R.bind_ok, R.bind_ex, bind_ite, withR_ok, withR_ex, withR_ite, thenO_nxt, thenO_ret, thenO_ex, thenO_ite, outR_nxt, outR_ret, outR_ex, outR_ite, bool_ok, int_ok, bin_add, bin_sub, bin_mul, bin_fdiv, bin_mod, bin_shl, bin_shr, bin_pow, bin_and, bin_or, bin_xor, cmp_eq, cmp_ne, cmp_lt, cmp_le, cmp_gt, cmp_ge, add_int, sub_int, and_int, or_int, xor_int, neg_int, len_lst, len_tup, abs_int, int_int, int_bl, max_int, min_int, bits_int, ix_tup0, ix_tup1, ix_tup2, List.map_cons, List.map_nil, List.replicate, List.cons_append, List.nil_append, List.append_nil, List.length_cons, List.length_nil, decide_eq_true_eq, Nat.reduceSub, Nat.reduceAdd, Int.reduceToNat, strD, st, sl, ff, ln, g3, fi, decide_true, decide_false, Bool.not_true, Bool.not_false, Bool.false_eq_true, if_true, if_false, Int.zero_sub]
theorem pwT_len {w : Pw} (h : PwOk w) : (pwT w).length ≤ 5 := by
  cases w with
  | none => simp [pwT]
  | some x =>
    obtain ⟨v, f⟩ := x
    have := (h v f rfl).2.2
    cases v <;> simp [pwT] <;> omega
theorem parts_of_gen {u : Bool} {p : List Nat} {q : Option (List Nat)} {w : Pw} (hp : Fig p) (np : p ≠ []) (hq : QOk q) (hw : PwOk w) (hl : (gx u p q w).length ≤ 1200) :
    F.parts_of [.str (gx u p q w)] = .ok (.tup [.bl u, .int (dv (p ++ tlq q) : Nat), .int (pwV w - (tlq q).length)]) := by
  have eT : gx u p q w = (if u = true then [45] else []) ++ ((p ++ ptq q) ++ pwT w) := rfl
  have lq : (ptq q).length ≤ (tlq q).length + 1 ∧ (tlq q).length ≤ (ptq q).length := by cases q <;> simp [ptq, tlq]
  have lT : (p ++ ptq q).length + (pwT w).length ≤ 1200 := by
    rw [eT, List.length_append, List.length_append] at hl
    omega
  have lp : p.length + (ptq q).length ≤ 1200 := by
    rw [List.length_append] at lT
    omega
  generalize hB : p ++ ptq q = B at *
  have fB : 101 ∉ B := by
    rw [← hB]
    cases q with
    | none => rw [ptq, List.append_nil]; exact hp.free (by omega)
    | some r =>
      intro hm
      rcases List.mem_append.mp hm with hm | hm
      · exact hp.free (s := 101) (by omega) hm
      · rcases List.mem_cons.mp hm with hm | hm
        · exact absurd hm (by decide)
        · exact (hq r rfl).1.free (s := 101) (by omega) hm
  obtain ⟨c, r, ep, c1, c2⟩ : ∃ c r, p = c :: r ∧ 48 ≤ c ∧ c ≤ 57 := by
    cases p with
    | nil => exact absurd rfl np
    | cons c r => exact ⟨c, r, rfl, hp c (List.mem_cons_self ..)⟩
  have hd : ∃ r2, B ++ pwT w = c :: r2 := by
    rw [← hB, ep]
    exact ⟨_, rfl⟩
  obtain ⟨r2, e2⟩ := hd
  have ln := len_str (l := gx u p q w) (by omega)
  have g1 : ¬ (1200 : Int) < ((gx u p q w).length : Nat) := by omega
  have st : tmD .startswith (.str (gx u p q w)) (.str [45]) = .ok (.bl u) := by
    rw [eT, e2]
    cases u
    · simp only [Bool.false_eq_true, if_false, List.nil_append]; rw [starts_cons, decide_eq_false (by omega)]
    · simp only [if_true, List.cons_append, List.nil_append]; rw [starts_cons]; rfl
  have lR : (B ++ pwT w).length ≤ 1200 := by rw [List.length_append]; omega
  have sl : u = true → slcD (.str (gx u p q w)) (some 1) none = .ok (.str (B ++ pwT w)) := fun hu => by
    rw [eT, if_pos hu]
    exact slL1 (c := 45) (l := B ++ pwT w) (by omega)
  have nsl : u = false → gx u p q w = B ++ pwT w := fun hu => by
    rw [eT, hu]
    rfl
  -- the part behind the e
  have pt : ∃ mk bh : List Nat, tmD .partition (.str (B ++ pwT w)) (.str [101]) = .ok (.tup [.str B, .str mk, .str bh]) ∧ (∀ (x y : Slot) (ρ1 : Env), True) ∧
      ((mk = [] ∧ pwV w = 0) ∨ (mk = [101] ∧ F.power_told [.str bh] = .ok (.int (pwV w)))) := by
    cases w with
    | none =>
      refine ⟨[], [], ?_, fun _ _ _ => trivial, .inl ⟨rfl, rfl⟩⟩
      have := part_none (p := B) (c := 101) fB (by omega)
      rw [pwT, List.append_nil]
      exact this
    | some x =>
      obtain ⟨v, f⟩ := x
      obtain ⟨hf, nf, lf⟩ := hw v f rfl
      have lw := pwT_len hw
      refine ⟨[101], (if v = true then [45] else []) ++ f, ?_, fun _ _ _ => trivial, .inr ⟨rfl, power_told_gen hf nf lf⟩⟩
      exact part_app (p := B) (q := (if v = true then [45] else []) ++ f) (c := 101) fB (by
        have : ((if v = true then [45] else []) ++ f).length ≤ 4 := by cases v <;> simp <;> omega
        omega)
  obtain ⟨mk, bh, pa1, _, hmk⟩ := pt
  generalize gx u p q w = T at *
  generalize pwV w = W at *
  simp only [F.parts_of, F.b_parts_of]
  rw [run_eq (by rfl)]
  simp only [List.map_cons, List.map_nil, List.replicate, List.cons_append, List.nil_append, Nat.reduceSub]
  refine seq (P := fun o => outR o = _) (by simp only [evSs, evS, evT, evE, evEs, evSrc, getS0, getSs, set0, setS, R.bind_ok, R.bind_ex, bind_ite, withR_ok, withR_ex, withR_ite, thenO_nxt, thenO_ret, thenO_ex, thenO_ite, outR_nxt, outR_ret, outR_ex, outR_ite, bool_ok, int_ok, bin_add, bin_sub, bin_mul, bin_fdiv, bin_mod, bin_shl, bin_shr, bin_pow, bin_and, bin_or, bin_xor, cmp_eq, cmp_ne, cmp_lt, cmp_le, cmp_gt, cmp_ge, add_int, sub_int, and_int, or_int, xor_int, neg_int, len_lst, len_tup, abs_int, int_int, int_bl, max_int, min_int, bits_int, ix_tup0, ix_tup1, ix_tup2, List.map_cons, List.map_nil, List.replicate, List.cons_append, List.nil_append, List.append_nil, List.length_cons, List.length_nil, decide_eq_true_eq, Nat.reduceSub, Nat.reduceAdd, Int.reduceToNat, setAll, Int.toNat_natCast, Int.one_mul, isI, ln, g1, decide_true, decide_false, Bool.not_true, Bool.not_false, Bool.false_eq_true, if_true, if_false]; rfl) ?_
  refine seq (P := fun o => outR o = _) (by simp only [evSs, evS, evT, evE, evEs, evSrc, getS0, getSs, set0, setS, R.bind_ok, R.bind_ex, bind_ite, withR_ok, withR_ex, withR_ite, thenO_nxt, thenO_ret, thenO_ex, thenO_ite, outR_nxt, outR_ret, outR_ex, outR_ite, bool_ok, int_ok, bin_add, bin_sub, bin_mul, bin_fdiv, bin_mod, bin_shl, bin_shr, bin_pow, bin_and, bin_or, bin_xor, cmp_eq, cmp_ne, cmp_lt, cmp_le, cmp_gt, cmp_ge, add_int, sub_int, and_int, or_int, xor_int, neg_int, len_lst, len_tup, abs_int, int_int, int_bl, max_int, min_int, bits_int, ix_tup0, ix_tup1, ix_tup2, List.map_cons, List.map_nil, List.replicate, List.cons_append, List.nil_append, List.append_nil, List.length_cons, List.length_nil, decide_eq_true_eq, Nat.reduceSub, Nat.reduceAdd, Int.reduceToNat, setAll, Int.toNat_natCast, Int.one_mul, strD, st, decide_true, decide_false, Bool.not_true, Bool.not_false, Bool.false_eq_true, if_true, if_false]; rfl) ?_
  refine seq (P := fun o => outR o = _) (by simp only [evSs, evS, evT, evE, evEs, evSrc, getS0, getSs, set0, setS, R.bind_ok, R.bind_ex, bind_ite, withR_ok, withR_ex, withR_ite, thenO_nxt, thenO_ret, thenO_ex, thenO_ite, outR_nxt, outR_ret, outR_ex, outR_ite, bool_ok, int_ok, bin_add, bin_sub, bin_mul, bin_fdiv, bin_mod, bin_shl, bin_shr, bin_pow, bin_and, bin_or, bin_xor, cmp_eq, cmp_ne, cmp_lt, cmp_le, cmp_gt, cmp_ge, add_int, sub_int, and_int, or_int, xor_int, neg_int, len_lst, len_tup, abs_int, int_int, int_bl, max_int, min_int, bits_int, ix_tup0, ix_tup1, ix_tup2, List.map_cons, List.map_nil, List.replicate, List.cons_append, List.nil_append, List.append_nil, List.length_cons, List.length_nil, decide_eq_true_eq, Nat.reduceSub, Nat.reduceAdd, Int.reduceToNat, setAll, Int.toNat_natCast, Int.one_mul, decide_true, decide_false, Bool.not_true, Bool.not_false, Bool.false_eq_true, if_true, if_false]; rfl) ?_
  refine seqs (P := fun o => outR o = _) (i := 2) (sl := .dat (.str (B ++ pwT w))) (by
    cases u
    · simp only [evSs, evS, evT, evE, evEs, evSrc, getS0, getSs, set0, setS, R.bind_ok, R.bind_ex, bind_ite, withR_ok, withR_ex, withR_ite, thenO_nxt, thenO_ret, thenO_ex, thenO_ite, outR_nxt, outR_ret, outR_ex, outR_ite, bool_ok, int_ok, bin_add, bin_sub, bin_mul, bin_fdiv, bin_mod, bin_shl, bin_shr, bin_pow, bin_and, bin_or, bin_xor, cmp_eq, cmp_ne, cmp_lt, cmp_le, cmp_gt, cmp_ge, add_int, sub_int, and_int, or_int, xor_int, neg_int, len_lst, len_tup, abs_int, int_int, int_bl, max_int, min_int, bits_int, ix_tup0, ix_tup1, ix_tup2, List.map_cons, List.map_nil, List.replicate, List.cons_append, List.nil_append, List.append_nil, List.length_cons, List.length_nil, decide_eq_true_eq, Nat.reduceSub, Nat.reduceAdd, Int.reduceToNat, nsl rfl, decide_true, decide_false, Bool.not_true, Bool.not_false, Bool.false_eq_true, if_true, if_false]
    · simp only [evSs, evS, evT, evE, evEs, evSrc, getS0, getSs, set0, setS, R.bind_ok, R.bind_ex, bind_ite, withR_ok, withR_ex, withR_ite, thenO_nxt, thenO_ret, thenO_ex, thenO_ite, outR_nxt, outR_ret, outR_ex, outR_ite, bool_ok, int_ok, bin_add, bin_sub, bin_mul, bin_fdiv, bin_mod, bin_shl, bin_shr, bin_pow, bin_and, bin_or, bin_xor, cmp_eq, cmp_ne, cmp_lt, cmp_le, cmp_gt, cmp_ge, add_int, sub_int, and_int, or_int, xor_int, neg_int, len_lst, len_tup, abs_int, int_int, int_bl, max_int, min_int, bits_int, ix_tup0, ix_tup1, ix_tup2, List.map_cons, List.map_nil, List.replicate, List.cons_append, List.nil_append, List.append_nil, List.length_cons, List.length_nil, decide_eq_true_eq, Nat.reduceSub, Nat.reduceAdd, Int.reduceToNat, sl rfl, decide_true, decide_false, Bool.not_true, Bool.not_false, Bool.false_eq_true, if_true, if_false]) ?_
  simp only [set0, setS]
  refine seq (P := fun o => outR o = _) (by simp only [evSs, evS, evT, evE, evEs, evSrc, getS0, getSs, set0, setS, R.bind_ok, R.bind_ex, bind_ite, withR_ok, withR_ex, withR_ite, thenO_nxt, thenO_ret, thenO_ex, thenO_ite, outR_nxt, outR_ret, outR_ex, outR_ite, bool_ok, int_ok, bin_add, bin_sub, bin_mul, bin_fdiv, bin_mod, bin_shl, bin_shr, bin_pow, bin_and, bin_or, bin_xor, cmp_eq, cmp_ne, cmp_lt, cmp_le, cmp_gt, cmp_ge, add_int, sub_int, and_int, or_int, xor_int, neg_int, len_lst, len_tup, abs_int, int_int, int_bl, max_int, min_int, bits_int, ix_tup0, ix_tup1, ix_tup2, List.map_cons, List.map_nil, List.replicate, List.cons_append, List.nil_append, List.append_nil, List.length_cons, List.length_nil, decide_eq_true_eq, Nat.reduceSub, Nat.reduceAdd, Int.reduceToNat, setAll, Int.toNat_natCast, Int.one_mul, strD, pa1, decide_true, decide_false, Bool.not_true, Bool.not_false, Bool.false_eq_true, if_true, if_false]; rfl) ?_
  refine seq (P := fun o => outR o = _) (by simp only [evSs, evS, evT, evE, evEs, evSrc, getS0, getSs, set0, setS, R.bind_ok, R.bind_ex, bind_ite, withR_ok, withR_ex, withR_ite, thenO_nxt, thenO_ret, thenO_ex, thenO_ite, outR_nxt, outR_ret, outR_ex, outR_ite, bool_ok, int_ok, bin_add, bin_sub, bin_mul, bin_fdiv, bin_mod, bin_shl, bin_shr, bin_pow, bin_and, bin_or, bin_xor, cmp_eq, cmp_ne, cmp_lt, cmp_le, cmp_gt, cmp_ge, add_int, sub_int, and_int, or_int, xor_int, neg_int, len_lst, len_tup, abs_int, int_int, int_bl, max_int, min_int, bits_int, ix_tup0, ix_tup1, ix_tup2, List.map_cons, List.map_nil, List.replicate, List.cons_append, List.nil_append, List.append_nil, List.length_cons, List.length_nil, decide_eq_true_eq, Nat.reduceSub, Nat.reduceAdd, Int.reduceToNat, setAll, Int.toNat_natCast, Int.one_mul, decide_true, decide_false, Bool.not_true, Bool.not_false, Bool.false_eq_true, if_true, if_false]; rfl) ?_
  have e101 : cmpD .eq (.str [101]) (.str [101]) = .ok true := by rfl
  have e0 : cmpD .eq (.str []) (.str [101]) = .ok false := by rfl
  refine seqs (P := fun o => outR o = _) (i := 6) (sl := .dat (.int W)) (by
    rcases hmk with ⟨rfl, rfl⟩ | ⟨rfl, pt⟩
    · simp only [evSs, evS, evT, evE, evEs, evSrc, getS0, getSs, set0, setS, R.bind_ok, R.bind_ex, bind_ite, withR_ok, withR_ex, withR_ite, thenO_nxt, thenO_ret, thenO_ex, thenO_ite, outR_nxt, outR_ret, outR_ex, outR_ite, bool_ok, int_ok, bin_add, bin_sub, bin_mul, bin_fdiv, bin_mod, bin_shl, bin_shr, bin_pow, bin_and, bin_or, bin_xor, cmp_eq, cmp_ne, cmp_lt, cmp_le, cmp_gt, cmp_ge, add_int, sub_int, and_int, or_int, xor_int, neg_int, len_lst, len_tup, abs_int, int_int, int_bl, max_int, min_int, bits_int, ix_tup0, ix_tup1, ix_tup2, List.map_cons, List.map_nil, List.replicate, List.cons_append, List.nil_append, List.append_nil, List.length_cons, List.length_nil, decide_eq_true_eq, Nat.reduceSub, Nat.reduceAdd, Int.reduceToNat, e0, decide_true, decide_false, Bool.not_true, Bool.not_false, Bool.false_eq_true, if_true, if_false]
    · simp only [evSs, evS, evT, evE, evEs, evSrc, getS0, getSs, set0, setS, R.bind_ok, R.bind_ex, bind_ite, withR_ok, withR_ex, withR_ite, thenO_nxt, thenO_ret, thenO_ex, thenO_ite, outR_nxt, outR_ret, outR_ex, outR_ite, bool_ok, int_ok, bin_add, bin_sub, bin_mul, bin_fdiv, bin_mod, bin_shl, bin_shr, bin_pow, bin_and, bin_or, bin_xor, cmp_eq, cmp_ne, cmp_lt, cmp_le, cmp_gt, cmp_ge, add_int, sub_int, and_int, or_int, xor_int, neg_int, len_lst, len_tup, abs_int, int_int, int_bl, max_int, min_int, bits_int, ix_tup0, ix_tup1, ix_tup2, List.map_cons, List.map_nil, List.replicate, List.cons_append, List.nil_append, List.append_nil, List.length_cons, List.length_nil, decide_eq_true_eq, Nat.reduceSub, Nat.reduceAdd, Int.reduceToNat, e101, pt, decide_true, decide_false, Bool.not_true, Bool.not_false, Bool.false_eq_true, if_true, if_false]) ?_
  simp only [set0, setS]
  cases q with
  | none =>
    rw [ptq, List.append_nil] at hB
    subst hB
    have pa2 := part_none (p := p) (c := 46) (hp.free (by omega)) (by omega)
    have f1 := figures_ok hp np
    have e46 : cmpD .eq (.str []) (.str [46]) = .ok false := by rfl
    have ct := cat_str (l := p) (m := []) (by simp only [List.length_nil]; omega)
    rw [List.append_nil] at ct
    have fi := int_fig hp np (by omega)
    have l0 := len_str (l := []) (by simp)
    refine seq (P := fun o => outR o = _) (by simp only [evSs, evS, evT, evE, evEs, evSrc, getS0, getSs, set0, setS, R.bind_ok, R.bind_ex, bind_ite, withR_ok, withR_ex, withR_ite, thenO_nxt, thenO_ret, thenO_ex, thenO_ite, outR_nxt, outR_ret, outR_ex, outR_ite, bool_ok, int_ok, bin_add, bin_sub, bin_mul, bin_fdiv, bin_mod, bin_shl, bin_shr, bin_pow, bin_and, bin_or, bin_xor, cmp_eq, cmp_ne, cmp_lt, cmp_le, cmp_gt, cmp_ge, add_int, sub_int, and_int, or_int, xor_int, neg_int, len_lst, len_tup, abs_int, int_int, int_bl, max_int, min_int, bits_int, ix_tup0, ix_tup1, ix_tup2, List.map_cons, List.map_nil, List.replicate, List.cons_append, List.nil_append, List.append_nil, List.length_cons, List.length_nil, decide_eq_true_eq, Nat.reduceSub, Nat.reduceAdd, Int.reduceToNat, setAll, Int.toNat_natCast, Int.one_mul, strD, pa2, decide_true, decide_false, Bool.not_true, Bool.not_false, Bool.false_eq_true, if_true, if_false]; rfl) ?_
    refine seq (P := fun o => outR o = _) (by simp only [evSs, evS, evT, evE, evEs, evSrc, getS0, getSs, set0, setS, R.bind_ok, R.bind_ex, bind_ite, withR_ok, withR_ex, withR_ite, thenO_nxt, thenO_ret, thenO_ex, thenO_ite, outR_nxt, outR_ret, outR_ex, outR_ite, bool_ok, int_ok, bin_add, bin_sub, bin_mul, bin_fdiv, bin_mod, bin_shl, bin_shr, bin_pow, bin_and, bin_or, bin_xor, cmp_eq, cmp_ne, cmp_lt, cmp_le, cmp_gt, cmp_ge, add_int, sub_int, and_int, or_int, xor_int, neg_int, len_lst, len_tup, abs_int, int_int, int_bl, max_int, min_int, bits_int, ix_tup0, ix_tup1, ix_tup2, List.map_cons, List.map_nil, List.replicate, List.cons_append, List.nil_append, List.append_nil, List.length_cons, List.length_nil, decide_eq_true_eq, Nat.reduceSub, Nat.reduceAdd, Int.reduceToNat, setAll, Int.toNat_natCast, Int.one_mul, f1, e46, decide_true, decide_false, Bool.not_true, Bool.not_false, Bool.false_eq_true, if_true, if_false]; rfl) ?_
    refine seq_ret (P := fun o => outR o = _) (by simp (disch := first | assumption | omega | decide +kernel | exact bsum (by (repeat' first | assumption | apply Bd.mod | apply Bd.shlm | apply Bd.shl | apply Bd.mul | apply Bd.add | apply Bd.sub | apply Bd.neg | apply Bd.abs | apply Bd.fdiv | apply Bd.pow2 | exact Bd.lit _ | decide | omega)) (by (repeat' first | assumption | apply Bd.mod | apply Bd.shlm | apply Bd.shl | apply Bd.mul | apply Bd.add | apply Bd.sub | apply Bd.neg | apply Bd.abs | apply Bd.fdiv | apply Bd.pow2 | exact Bd.lit _ | decide | omega)) (by decide +kernel) | (have := bits_one; have := bits_two; have := bits_three; omega)) only [evSs, evS, evT, evE, evEs, evSrc, getS0, getSs, set0, setS, R.bind_ok, R.bind_ex, bind_ite, withR_ok, withR_ex, withR_ite, thenO_nxt, thenO_ret, thenO_ex, thenO_ite, outR_nxt, outR_ret, outR_ex, outR_ite, bool_ok, int_ok, bin_add, bin_sub, bin_mul, bin_fdiv, bin_mod, bin_shl, bin_shr, bin_pow, bin_and, bin_or, bin_xor, cmp_eq, cmp_ne, cmp_lt, cmp_le, cmp_gt, cmp_ge, add_int, sub_int, and_int, or_int, xor_int, neg_int, len_lst, len_tup, abs_int, int_int, int_bl, max_int, min_int, bits_int, ix_tup0, ix_tup1, ix_tup2, List.map_cons, List.map_nil, List.replicate, List.cons_append, List.nil_append, List.append_nil, List.length_cons, List.length_nil, decide_eq_true_eq, Nat.reduceSub, Nat.reduceAdd, Int.reduceToNat, setAll, Int.toNat_natCast, Int.one_mul, ct, fi, l0, mul_ok, mod_ok, fdiv_ok, shl_ok, shr_ok, pow_ok, decide_true, decide_false, Bool.not_true, Bool.not_false, Bool.false_eq_true, if_true, if_false]; rfl) ?_
    simp only [outR, tlq, List.append_nil, List.length_nil]
  | some r =>
    obtain ⟨hr, nr⟩ := hq r rfl
    simp only [tlq] at lq
    rw [← hB, ptq]
    have pa2 := part_app (p := p) (q := r) (c := 46) (hp.free (by omega)) (by omega)
    have f1 := figures_ok hp np
    have f2 := figures_ok hr nr
    have e46 : cmpD .eq (.str [46]) (.str [46]) = .ok true := by rfl
    have ct := cat_str (l := p) (m := r) (by omega)
    have fi := int_fig (hp.app hr) (by simp [np]) (by rw [List.length_append]; omega)
    have l0 := len_str (l := r) (by omega)
    refine seq (P := fun o => outR o = _) (by simp only [evSs, evS, evT, evE, evEs, evSrc, getS0, getSs, set0, setS, R.bind_ok, R.bind_ex, bind_ite, withR_ok, withR_ex, withR_ite, thenO_nxt, thenO_ret, thenO_ex, thenO_ite, outR_nxt, outR_ret, outR_ex, outR_ite, bool_ok, int_ok, bin_add, bin_sub, bin_mul, bin_fdiv, bin_mod, bin_shl, bin_shr, bin_pow, bin_and, bin_or, bin_xor, cmp_eq, cmp_ne, cmp_lt, cmp_le, cmp_gt, cmp_ge, add_int, sub_int, and_int, or_int, xor_int, neg_int, len_lst, len_tup, abs_int, int_int, int_bl, max_int, min_int, bits_int, ix_tup0, ix_tup1, ix_tup2, List.map_cons, List.map_nil, List.replicate, List.cons_append, List.nil_append, List.append_nil, List.length_cons, List.length_nil, decide_eq_true_eq, Nat.reduceSub, Nat.reduceAdd, Int.reduceToNat, setAll, Int.toNat_natCast, Int.one_mul, strD, pa2, decide_true, decide_false, Bool.not_true, Bool.not_false, Bool.false_eq_true, if_true, if_false]; rfl) ?_
    refine seq (P := fun o => outR o = _) (by simp only [evSs, evS, evT, evE, evEs, evSrc, getS0, getSs, set0, setS, R.bind_ok, R.bind_ex, bind_ite, withR_ok, withR_ex, withR_ite, thenO_nxt, thenO_ret, thenO_ex, thenO_ite, outR_nxt, outR_ret, outR_ex, outR_ite, bool_ok, int_ok, bin_add, bin_sub, bin_mul, bin_fdiv, bin_mod, bin_shl, bin_shr, bin_pow, bin_and, bin_or, bin_xor, cmp_eq, cmp_ne, cmp_lt, cmp_le, cmp_gt, cmp_ge, add_int, sub_int, and_int, or_int, xor_int, neg_int, len_lst, len_tup, abs_int, int_int, int_bl, max_int, min_int, bits_int, ix_tup0, ix_tup1, ix_tup2, List.map_cons, List.map_nil, List.replicate, List.cons_append, List.nil_append, List.append_nil, List.length_cons, List.length_nil, decide_eq_true_eq, Nat.reduceSub, Nat.reduceAdd, Int.reduceToNat, setAll, Int.toNat_natCast, Int.one_mul, f1, f2, e46, decide_true, decide_false, Bool.not_true, Bool.not_false, Bool.false_eq_true, if_true, if_false]; rfl) ?_
    refine seq_ret (P := fun o => outR o = _) (by simp (disch := first | assumption | omega | decide +kernel | exact bsum (by (repeat' first | assumption | apply Bd.mod | apply Bd.shlm | apply Bd.shl | apply Bd.mul | apply Bd.add | apply Bd.sub | apply Bd.neg | apply Bd.abs | apply Bd.fdiv | apply Bd.pow2 | exact Bd.lit _ | decide | omega)) (by (repeat' first | assumption | apply Bd.mod | apply Bd.shlm | apply Bd.shl | apply Bd.mul | apply Bd.add | apply Bd.sub | apply Bd.neg | apply Bd.abs | apply Bd.fdiv | apply Bd.pow2 | exact Bd.lit _ | decide | omega)) (by decide +kernel) | (have := bits_one; have := bits_two; have := bits_three; omega)) only [evSs, evS, evT, evE, evEs, evSrc, getS0, getSs, set0, setS, R.bind_ok, R.bind_ex, bind_ite, withR_ok, withR_ex, withR_ite, thenO_nxt, thenO_ret, thenO_ex, thenO_ite, outR_nxt, outR_ret, outR_ex, outR_ite, bool_ok, int_ok, bin_add, bin_sub, bin_mul, bin_fdiv, bin_mod, bin_shl, bin_shr, bin_pow, bin_and, bin_or, bin_xor, cmp_eq, cmp_ne, cmp_lt, cmp_le, cmp_gt, cmp_ge, add_int, sub_int, and_int, or_int, xor_int, neg_int, len_lst, len_tup, abs_int, int_int, int_bl, max_int, min_int, bits_int, ix_tup0, ix_tup1, ix_tup2, List.map_cons, List.map_nil, List.replicate, List.cons_append, List.nil_append, List.append_nil, List.length_cons, List.length_nil, decide_eq_true_eq, Nat.reduceSub, Nat.reduceAdd, Int.reduceToNat, setAll, Int.toNat_natCast, Int.one_mul, ct, fi, l0, mul_ok, mod_ok, fdiv_ok, shl_ok, shr_ok, pow_ok, decide_true, decide_false, Bool.not_true, Bool.not_false, Bool.false_eq_true, if_true, if_false]; rfl) ?_
    simp only [outR, tlq]
/-! ### reading -/
/-- a text that is none of the three names -/
structure Nn (T : List Nat) : Prop where
  t1 : cmpD .eq (.str T) (.str [110, 111, 110, 101]) = .ok false
  t2 : cmpD .eq (.str T) (.str [101, 110, 100, 108, 101, 115, 115]) = .ok false
  t3 : cmpD .eq (.str T) (.str [45, 101, 110, 100, 108, 101, 115, 115]) = .ok false
section
variable {a b : Nat}
theorem read_num (w : Wd a b) {c : Nat} (hc : c < 5) {T : List Nat} (hT : Nn T) {u : Bool} {n : Nat} {t : Int} (hp : F.parts_of [.str T] = .ok (.tup [.bl u, .int n, .int t])) (n0 : 0 < n) (ht : t.natAbs < 5000) (bn : bits (n : Int) + bits ((10 : Int) ^ t.toNat) ≤ 8000) (bd : bits ((10 : Int) ^ (-t).toNat) ≤ 8000) {s : Int}
    (hs : AtS' b ((n : Int) * 10 ^ t.toNat * 2 ^ (-lpv a b).toNat) (10 ^ (-t).toNat) s) :
    F.read [.tup [.int a, .int b], .str T, .str (wn c)] = .ok (.tup [.int (tkW a b c u s (side b ((n : Int) * 10 ^ t.toNat * 2 ^ (-lpv a b).toNat) (10 ^ (-t).toNat) s)), .int (tkM a b c u s (side b ((n : Int) * 10 ^ t.toNat * 2 ^ (-lpv a b).toNat) (10 ^ (-t).toNat) s))]) := by
  obtain ⟨l1, l2⟩ := w.lp
  have ou := over_under_ok (n := (n : Int)) (t := t) ht (by omega)
  have p1 : 0 < (10 : Int) ^ t.toNat := Int.pow_pos (by decide)
  have p2 : 0 < (10 : Int) ^ (-t).toNat := Int.pow_pos (by decide)
  have b3 : bits ((n : Int) * 10 ^ t.toNat) ≤ bits (n : Int) + bits ((10 : Int) ^ t.toNat) := Bd.mul (Nat.le_refl _) (Nat.le_refl _)
  generalize (10 : Int) ^ t.toNat = X at *
  generalize (10 : Int) ^ (-t).toNat = Y at *
  have q0 : 0 < (n : Int) * X := Int.mul_pos (by omega) p1
  generalize (n : Int) * X = Q at *
  have nz : ¬ (n : Int) = 0 := by omega
  have eu : decide ((if u = true then -Q else Q) < 0) = u := by
    cases u
    · exact decide_eq_false (by simp only [Bool.false_eq_true, if_false]; omega)
    · exact decide_eq_true (by simp only [if_true]; omega)
  have bu : bits (if u = true then -Q else Q) ≤ 8000 := by
    have : bits (-Q) ≤ bits Q := Bd.neg (Nat.le_refl _)
    split <;> omega
  have au : ((if u = true then -Q else Q).natAbs : Int) = Q := by split <;> omega
  have tk := taken_at w hc (n := if u = true then -Q else Q) (k := 0) (d := Y) (M := Q * 2 ^ (-lpv a b).toNat) (N := Y) (s := s) (by split <;> omega) bu p2 (by omega) (by omega) (by omega) (by omega) p2 (by
    rw [au, show (lpv a b - 0).toNat = 0 by omega, Int.pow_zero, Int.mul_one, Int.zero_sub]) hs
  rw [eu] at tk
  simp only [F.read, F.b_read]
  rw [run_eq (by rfl)]
  simp only [List.map_cons, List.map_nil, List.replicate, List.cons_append, List.nil_append, Nat.reduceSub]
  refine seq (P := fun o => outR o = _) (by simp only [evSs, evS, evT, evE, evEs, evSrc, getS0, getSs, set0, setS, R.bind_ok, R.bind_ex, bind_ite, withR_ok, withR_ex, withR_ite, thenO_nxt, thenO_ret, thenO_ex, thenO_ite, outR_nxt, outR_ret, outR_ex, outR_ite, bool_ok, int_ok, bin_add, bin_sub, bin_mul, bin_fdiv, bin_mod, bin_shl, bin_shr, bin_pow, bin_and, bin_or, bin_xor, cmp_eq, cmp_ne, cmp_lt, cmp_le, cmp_gt, cmp_ge, add_int, sub_int, and_int, or_int, xor_int, neg_int, len_lst, len_tup, abs_int, int_int, int_bl, max_int, min_int, bits_int, ix_tup0, ix_tup1, ix_tup2, List.map_cons, List.map_nil, List.replicate, List.cons_append, List.nil_append, List.append_nil, List.length_cons, List.length_nil, decide_eq_true_eq, Nat.reduceSub, Nat.reduceAdd, Int.reduceToNat, setAll, Int.toNat_natCast, Int.one_mul, hT.t1, hT.t2, hT.t3, decide_true, decide_false, Bool.not_true, Bool.not_false, Bool.false_eq_true, if_true, if_false]; rfl) ?_
  refine seq (P := fun o => outR o = _) (by simp only [evSs, evS, evT, evE, evEs, evSrc, getS0, getSs, set0, setS, R.bind_ok, R.bind_ex, bind_ite, withR_ok, withR_ex, withR_ite, thenO_nxt, thenO_ret, thenO_ex, thenO_ite, outR_nxt, outR_ret, outR_ex, outR_ite, bool_ok, int_ok, bin_add, bin_sub, bin_mul, bin_fdiv, bin_mod, bin_shl, bin_shr, bin_pow, bin_and, bin_or, bin_xor, cmp_eq, cmp_ne, cmp_lt, cmp_le, cmp_gt, cmp_ge, add_int, sub_int, and_int, or_int, xor_int, neg_int, len_lst, len_tup, abs_int, int_int, int_bl, max_int, min_int, bits_int, ix_tup0, ix_tup1, ix_tup2, List.map_cons, List.map_nil, List.replicate, List.cons_append, List.nil_append, List.append_nil, List.length_cons, List.length_nil, decide_eq_true_eq, Nat.reduceSub, Nat.reduceAdd, Int.reduceToNat, setAll, Int.toNat_natCast, Int.one_mul, hp, decide_true, decide_false, Bool.not_true, Bool.not_false, Bool.false_eq_true, if_true, if_false]; rfl) ?_
  refine seq (P := fun o => outR o = _) (by simp only [evSs, evS, evT, evE, evEs, evSrc, getS0, getSs, set0, setS, R.bind_ok, R.bind_ex, bind_ite, withR_ok, withR_ex, withR_ite, thenO_nxt, thenO_ret, thenO_ex, thenO_ite, outR_nxt, outR_ret, outR_ex, outR_ite, bool_ok, int_ok, bin_add, bin_sub, bin_mul, bin_fdiv, bin_mod, bin_shl, bin_shr, bin_pow, bin_and, bin_or, bin_xor, cmp_eq, cmp_ne, cmp_lt, cmp_le, cmp_gt, cmp_ge, add_int, sub_int, and_int, or_int, xor_int, neg_int, len_lst, len_tup, abs_int, int_int, int_bl, max_int, min_int, bits_int, ix_tup0, ix_tup1, ix_tup2, List.map_cons, List.map_nil, List.replicate, List.cons_append, List.nil_append, List.append_nil, List.length_cons, List.length_nil, decide_eq_true_eq, Nat.reduceSub, Nat.reduceAdd, Int.reduceToNat, setAll, Int.toNat_natCast, Int.one_mul, nz, decide_true, decide_false, Bool.not_true, Bool.not_false, Bool.false_eq_true, if_true, if_false]; rfl) ?_
  refine seq (P := fun o => outR o = _) (by simp only [evSs, evS, evT, evE, evEs, evSrc, getS0, getSs, set0, setS, R.bind_ok, R.bind_ex, bind_ite, withR_ok, withR_ex, withR_ite, thenO_nxt, thenO_ret, thenO_ex, thenO_ite, outR_nxt, outR_ret, outR_ex, outR_ite, bool_ok, int_ok, bin_add, bin_sub, bin_mul, bin_fdiv, bin_mod, bin_shl, bin_shr, bin_pow, bin_and, bin_or, bin_xor, cmp_eq, cmp_ne, cmp_lt, cmp_le, cmp_gt, cmp_ge, add_int, sub_int, and_int, or_int, xor_int, neg_int, len_lst, len_tup, abs_int, int_int, int_bl, max_int, min_int, bits_int, ix_tup0, ix_tup1, ix_tup2, List.map_cons, List.map_nil, List.replicate, List.cons_append, List.nil_append, List.append_nil, List.length_cons, List.length_nil, decide_eq_true_eq, Nat.reduceSub, Nat.reduceAdd, Int.reduceToNat, setAll, Int.toNat_natCast, Int.one_mul, ou, decide_true, decide_false, Bool.not_true, Bool.not_false, Bool.false_eq_true, if_true, if_false]; rfl) ?_
  refine seqs (P := fun o => outR o = _) (i := 6) (sl := .dat (.int (if u = true then -Q else Q))) (by
    cases u
    · simp only [evSs, evS, evT, evE, evEs, evSrc, getS0, getSs, set0, setS, R.bind_ok, R.bind_ex, bind_ite, withR_ok, withR_ex, withR_ite, thenO_nxt, thenO_ret, thenO_ex, thenO_ite, outR_nxt, outR_ret, outR_ex, outR_ite, bool_ok, int_ok, bin_add, bin_sub, bin_mul, bin_fdiv, bin_mod, bin_shl, bin_shr, bin_pow, bin_and, bin_or, bin_xor, cmp_eq, cmp_ne, cmp_lt, cmp_le, cmp_gt, cmp_ge, add_int, sub_int, and_int, or_int, xor_int, neg_int, len_lst, len_tup, abs_int, int_int, int_bl, max_int, min_int, bits_int, ix_tup0, ix_tup1, ix_tup2, List.map_cons, List.map_nil, List.replicate, List.cons_append, List.nil_append, List.append_nil, List.length_cons, List.length_nil, decide_eq_true_eq, Nat.reduceSub, Nat.reduceAdd, Int.reduceToNat, decide_true, decide_false, Bool.not_true, Bool.not_false, Bool.false_eq_true, if_true, if_false]
    · simp only [evSs, evS, evT, evE, evEs, evSrc, getS0, getSs, set0, setS, R.bind_ok, R.bind_ex, bind_ite, withR_ok, withR_ex, withR_ite, thenO_nxt, thenO_ret, thenO_ex, thenO_ite, outR_nxt, outR_ret, outR_ex, outR_ite, bool_ok, int_ok, bin_add, bin_sub, bin_mul, bin_fdiv, bin_mod, bin_shl, bin_shr, bin_pow, bin_and, bin_or, bin_xor, cmp_eq, cmp_ne, cmp_lt, cmp_le, cmp_gt, cmp_ge, add_int, sub_int, and_int, or_int, xor_int, neg_int, len_lst, len_tup, abs_int, int_int, int_bl, max_int, min_int, bits_int, ix_tup0, ix_tup1, ix_tup2, List.map_cons, List.map_nil, List.replicate, List.cons_append, List.nil_append, List.append_nil, List.length_cons, List.length_nil, decide_eq_true_eq, Nat.reduceSub, Nat.reduceAdd, Int.reduceToNat, decide_true, decide_false, Bool.not_true, Bool.not_false, Bool.false_eq_true, if_true, if_false, Int.zero_sub]) ?_
  simp only [set0, setS]
  refine seq_ret (P := fun o => outR o = _) (by simp (disch := first | assumption | omega | decide +kernel | exact bsum (by (repeat' first | assumption | apply Bd.mod | apply Bd.shlm | apply Bd.shl | apply Bd.mul | apply Bd.add | apply Bd.sub | apply Bd.neg | apply Bd.abs | apply Bd.fdiv | apply Bd.pow2 | exact Bd.lit _ | decide | omega)) (by (repeat' first | assumption | apply Bd.mod | apply Bd.shlm | apply Bd.shl | apply Bd.mul | apply Bd.add | apply Bd.sub | apply Bd.neg | apply Bd.abs | apply Bd.fdiv | apply Bd.pow2 | exact Bd.lit _ | decide | omega)) (by decide +kernel) | (have := bits_one; have := bits_two; have := bits_three; omega)) only [evSs, evS, evT, evE, evEs, evSrc, getS0, getSs, set0, setS, R.bind_ok, R.bind_ex, bind_ite, withR_ok, withR_ex, withR_ite, thenO_nxt, thenO_ret, thenO_ex, thenO_ite, outR_nxt, outR_ret, outR_ex, outR_ite, bool_ok, int_ok, bin_add, bin_sub, bin_mul, bin_fdiv, bin_mod, bin_shl, bin_shr, bin_pow, bin_and, bin_or, bin_xor, cmp_eq, cmp_ne, cmp_lt, cmp_le, cmp_gt, cmp_ge, add_int, sub_int, and_int, or_int, xor_int, neg_int, len_lst, len_tup, abs_int, int_int, int_bl, max_int, min_int, bits_int, ix_tup0, ix_tup1, ix_tup2, List.map_cons, List.map_nil, List.replicate, List.cons_append, List.nil_append, List.append_nil, List.length_cons, List.length_nil, decide_eq_true_eq, Nat.reduceSub, Nat.reduceAdd, Int.reduceToNat, setAll, Int.toNat_natCast, Int.one_mul, tk, mul_ok, mod_ok, fdiv_ok, shl_ok, shr_ok, pow_ok, decide_true, decide_false, Bool.not_true, Bool.not_false, Bool.false_eq_true, if_true, if_false]; rfl) ?_
  rfl
theorem pwT_txt {w : Pw} (h : PwOk w) : TXT (pwT w) := by
  cases w with
  | none => rfl
  | some x =>
    obtain ⟨v, f⟩ := x
    exact txt_app (l := [101]) rfl (txt_app (by cases v <;> rfl) (h v f rfl).1.txt)
/-- a text of a number is none of the names -/
theorem nn_gx {u : Bool} {p : List Nat} {q : Option (List Nat)} {w : Pw} (hp : Fig p) (np : p ≠ []) (hq : QOk q) (hw : PwOk w) : Nn (gx u p q w) ∧ TXT (gx u p q w) ∧ ((gx u p q w).take 1 == [45]) = u := by
  obtain ⟨c, r, rfl, c1, c2⟩ : ∃ c r, p = c :: r ∧ 48 ≤ c ∧ c ≤ 57 := by
    cases p with
    | nil => exact absurd rfl np
    | cons c r => exact ⟨c, r, rfl, hp c (List.mem_cons_self ..)⟩
  have tt : TXT (gx u (c :: r) q w) := by
    unfold gx
    refine txt_app (by cases u <;> rfl) (txt_app (txt_app hp.txt ?_) (pwT_txt hw))
    cases q with
    | none => rfl
    | some r => exact txt_app (l := [46]) rfl (hq r rfl).1.txt
  refine ⟨⟨?_, ?_, ?_⟩, tt, ?_⟩
  · rw [eq_str tt rfl]
    refine congrArg R.ok ?_
    unfold gx
    cases u
    · exact beq_eq_false_iff_ne.mpr fun e => by have := (List.cons.inj e).1; omega
    · exact beq_eq_false_iff_ne.mpr fun e => by have := (List.cons.inj e).1; omega
  · rw [eq_str tt rfl]
    refine congrArg R.ok ?_
    unfold gx
    cases u
    · exact beq_eq_false_iff_ne.mpr fun e => by have := (List.cons.inj e).1; omega
    · exact beq_eq_false_iff_ne.mpr fun e => by have := (List.cons.inj e).1; omega
  · rw [eq_str tt rfl]
    refine congrArg R.ok ?_
    unfold gx
    cases u
    · exact beq_eq_false_iff_ne.mpr fun e => by have := (List.cons.inj e).1; omega
    · exact beq_eq_false_iff_ne.mpr fun e => by have := (List.cons.inj (List.cons.inj e).2).1; omega
  · unfold gx
    cases u
    · exact beq_eq_false_iff_ne.mpr fun e => by have := (List.cons.inj e).1; omega
    · rfl
end
end MP

set_option linter.all false
set_option autoImplicit false
set_option exponentiation.threshold 20000
namespace MP
open PySem
/-! M8: the decimal text of an exact number. -/
theorem numL_hd {n : Nat} (h : 0 < n) : ∃ c r, TL.numL n = c :: r ∧ 49 ≤ c ∧ c ≤ 57 := by
  induction n using Nat.strongRecOn with
  | _ n ih =>
    by_cases h9 : n < 10
    · exact ⟨48 + n, [], TL.numL_lt h9, by omega, by omega⟩
    · obtain ⟨c, r, e, c1, c2⟩ := ih (n / 10) (by omega) (by omega)
      refine ⟨c, r ++ [48 + n % 10], ?_, c1, c2⟩
      rw [TL.numL_step (by omega), e]
      rfl
theorem numL_last (n : Nat) : ∃ r, TL.numL n = r ++ [48 + n % 10] := by
  by_cases h9 : n < 10
  · exact ⟨[], by rw [TL.numL_lt h9, Nat.mod_eq_of_lt h9]; rfl⟩
  · exact ⟨TL.numL (n / 10), TL.numL_step (by omega)⟩
theorem zfill_ok {l : List Nat} (h : Fig l) {k : Nat} (hk : k ≤ 100000) : tmD .zfill (.str l) (.int (k : Int)) = .ok (.str (List.replicate (k - l.length) 48 ++ l)) := by
  have po : PadOk (k : Int) = true := by
    unfold PadOk
    rw [Bool.and_eq_true]
    constructor
    · unfold fitsSsize
      simp
      omega
    · show (!decide ((k : Int).toNat > sizeLine)) = true
      rw [decide_eq_false (by rw [Int.toNat_natCast, sizeLine_eq]; omega)]
      rfl
  show (if PadOk (k : Int) = true then R.ok (ofS (Txt.zfill (toS l) (k : Int))) else .no) = _
  rw [if_pos po]
  refine congrArg R.ok ?_
  have ln : (toS l).length = l.length := by simp [toS, Str.length]
  unfold Txt.zfill
  rw [ln]
  by_cases c : (k : Int) ≤ (l.length : Nat)
  · rw [if_pos c, show k - l.length = 0 by omega]
    rfl
  · rw [if_neg c, Int.toNat_natCast]
    have e : zfilled (toS l) (k - l.length) = Builtin.Str.padded (toS l) (k - l.length) 0 48 := by
      unfold zfilled
      cases l with
      | nil => rfl
      | cons d r =>
        have := h d (List.mem_cons_self ..)
        have e0 : (toS (d :: r)).cps[0]? = some d := rfl
        rw [e0]
        split
        · rename_i q; cases q; omega
        · rename_i q; cases q; omega
        · rfl
    rw [e]
    unfold Builtin.Str.padded ofS
    refine congrArg D.str ?_
    simp [toS]
/-- the figures of N with be of them behind the point -/
def zf (N be : Nat) : List Nat := List.replicate (be + 1 - (TL.numL N).length) 48 ++ TL.numL N
def zp (N be : Nat) : List Nat := (zf N be).take ((zf N be).length - be)
def zq (N be : Nat) : List Nat := (zf N be).drop ((zf N be).length - be)
theorem zf_len (N be : Nat) : be + 1 ≤ (zf N be).length ∧ ((zf N be).length = be + 1 ∨ (zf N be).length = (TL.numL N).length) := by
  unfold zf
  rw [List.length_append, List.length_replicate]
  omega
theorem zq_len (N be : Nat) : (zq N be).length = be := by
  have := zf_len N be
  unfold zq
  rw [List.length_drop]
  omega
theorem zp_len (N be : Nat) : (zp N be).length = (zf N be).length - be := by
  unfold zp
  rw [List.length_take]
  omega
section
variable {a b : Nat}
theorem and_sign (w : Wd a b) {x : Int} (x0 : 0 ≤ x) (x1 : x < 2 ^ (1 + a + b)) : Builtin.bitAnd x (2 ^ (a + b)) = if 2 ^ (a + b) ≤ x then 2 ^ (a + b) else 0 := by
  have sg := sgn_div w x0 x1
  have hb := high_bit (a := a) (b := b) x0 x1
  rw [PySem.W.kbt_bit, hb.1, sg]
  split <;> simp
theorem minus_ok (w : Wd a b) {x : Int} (x0 : 0 ≤ x) (x1 : x < 2 ^ (1 + a + b)) : F.minus_of [.tup [.int a, .int b], .int x] = .ok (.str (if decide (2 ^ (a + b) ≤ x) = true then [45] else [])) := by
  have pab := pow2_pos (a + b)
  have e := and_sign w x0 x1
  simp only [F.minus_of, F.b_minus_of]
  rw [run_eq (by rfl)]
  by_cases c : (2 : Int) ^ (a + b) ≤ x
  · rw [if_pos c] at e
    have ne : ¬ (2 : Int) ^ (a + b) = 0 := by omega
    simp only [evSs, evS, evT, evE, evEs, evSrc, getS0, getSs, set0, setS, R.bind_ok, R.bind_ex, bind_ite, withR_ok, withR_ex, withR_ite, thenO_nxt, thenO_ret, thenO_ex, thenO_ite, outR_nxt, outR_ret, outR_ex, outR_ite, bool_ok, int_ok, bin_add, bin_sub, bin_mul, bin_fdiv, bin_mod, bin_shl, bin_shr, bin_pow, bin_and, bin_or, bin_xor, cmp_eq, cmp_ne, cmp_lt, cmp_le, cmp_gt, cmp_ge, add_int, sub_int, and_int, or_int, xor_int, neg_int, len_lst, len_tup, abs_int, int_int, int_bl, max_int, min_int, bits_int, ix_tup0, ix_tup1, ix_tup2, List.map_cons, List.map_nil, List.replicate, List.cons_append, List.nil_append, List.append_nil, List.length_cons, List.length_nil, decide_eq_true_eq, Nat.reduceSub, Nat.reduceAdd, Int.reduceToNat, sign_ok w, e, ne, not_false_eq_true, decide_eq_true c, decide_true, decide_false, Bool.not_true, Bool.not_false, Bool.false_eq_true, if_true, if_false]
  · rw [if_neg c] at e
    simp only [evSs, evS, evT, evE, evEs, evSrc, getS0, getSs, set0, setS, R.bind_ok, R.bind_ex, bind_ite, withR_ok, withR_ex, withR_ite, thenO_nxt, thenO_ret, thenO_ex, thenO_ite, outR_nxt, outR_ret, outR_ex, outR_ite, bool_ok, int_ok, bin_add, bin_sub, bin_mul, bin_fdiv, bin_mod, bin_shl, bin_shr, bin_pow, bin_and, bin_or, bin_xor, cmp_eq, cmp_ne, cmp_lt, cmp_le, cmp_gt, cmp_ge, add_int, sub_int, and_int, or_int, xor_int, neg_int, len_lst, len_tup, abs_int, int_int, int_bl, max_int, min_int, bits_int, ix_tup0, ix_tup1, ix_tup2, List.map_cons, List.map_nil, List.replicate, List.cons_append, List.nil_append, List.append_nil, List.length_cons, List.length_nil, decide_eq_true_eq, Nat.reduceSub, Nat.reduceAdd, Int.reduceToNat, sign_ok w, e, not_true, decide_eq_false c, decide_true, decide_false, Bool.not_true, Bool.not_false, Bool.false_eq_true, if_true, if_false]
/-- the odd part of a size has at most b + 1 bits -/
theorem odd_part {s m : Int} {j : Nat} (s0 : 0 ≤ s) (hm : m % 2 = 1) (m0 : 0 < m) (h : st b s = m * 2 ^ j) : m < 2 ^ (b + 1) := by
  obtain ⟨q, P, q0, q1, e⟩ := st_form (b := b) s0
  rw [h] at e
  by_cases c : P ≤ j
  · have e2 : (2 : Int) ^ j = 2 ^ (j - P) * 2 ^ P := by rw [← Int.pow_add, show j - P + P = j by omega]
    rw [e2, ← Int.mul_assoc] at e
    have pP := pow2_pos P
    have e3 : m * 2 ^ (j - P) = q := Int.eq_of_mul_eq_mul_right (by omega) e
    have := Int.mul_le_mul_of_nonneg_left (show (1 : Int) ≤ 2 ^ (j - P) by have := pow2_pos (j - P); omega) (Int.le_of_lt m0)
    omega
  · exfalso
    have e2 : (2 : Int) ^ P = 2 ^ (P - j - 1) * 2 * 2 ^ j := by rw [← Int.pow_succ, ← Int.pow_add, show P - j - 1 + 1 + j = P by omega]
    rw [e2, ← Int.mul_assoc] at e
    have pj := pow2_pos j
    have e3 : m = q * (2 ^ (P - j - 1) * 2) := Int.eq_of_mul_eq_mul_right (by omega) e
    rw [← Int.mul_assoc] at e3
    generalize q * 2 ^ (P - j - 1) = z at *
    omega
theorem five_two (k : Nat) : (5 : Int) ^ k * 2 ^ k = 10 ^ k := by rw [← Int.mul_pow]; rfl
theorem bits_five (k : Nat) : bits ((5 : Int) ^ k) ≤ 3 * k + 1 := by
  refine Bd.iff.mpr ?_
  rw [Int.natAbs_pow]
  have h : (5 : Nat) ^ k ≤ 8 ^ k := Nat.pow_le_pow_left (by decide) k
  have e : (2 : Nat) ^ (3 * k + 1) = 2 * 8 ^ k := by rw [Nat.pow_succ, Nat.pow_mul, Nat.mul_comm]
  have p : 0 < (8 : Nat) ^ k := Nat.pow_pos (by decide)
  rw [e]
  show (5 : Nat) ^ k < _
  omega
theorem odd_five (k : Nat) : (5 : Nat) ^ k % 2 = 1 := by rw [Nat.pow_mod]; simp
theorem st_lim (w : Wd a b) {s : Int} (s0 : 0 ≤ s) (s1 : s < (2 ^ a - 1) * 2 ^ b) : st b s < 2 ^ (2 ^ (a - 1) + (-lpv a b).toNat) := by
  obtain ⟨l1, l2⟩ := w.lp
  have h1 := w.a1
  have pa := Nat.pow_le_pow_right (by decide : 0 < 2) h1
  have ea : (2 : Nat) ^ a = 2 * 2 ^ (a - 1) := by
    obtain ⟨c, rfl⟩ : ∃ c, a = c + 1 := ⟨a - 1, by omega⟩
    rw [Nat.add_sub_cancel, Nat.pow_succ, Nat.mul_comm]
  have ca : ((2 ^ (a - 1) : Nat) : Int) = (2 : Int) ^ (a - 1) := by rw [Int.natCast_pow]; rfl
  have ca2 : ((2 ^ a : Nat) : Int) = (2 : Int) ^ a := by rw [Int.natCast_pow]; rfl
  obtain ⟨P, hP⟩ : ∃ P : Nat, P = 2 ^ a - 2 := ⟨_, rfl⟩
  have eL : ((2 : Int) ^ a - 1) * 2 ^ b = (P : Int) * 2 ^ b + 2 ^ b := by
    rw [show (P : Int) = 2 ^ a - 2 by omega, Int.sub_mul, Int.sub_mul]
    omega
  have h := st_lt (b := b) s0 s1
  have pb := pow2_pos b
  rw [eL, st_at (.inr ⟨Int.le_refl _, by rw [Int.pow_succ]; omega⟩), ← Int.pow_add] at h
  have eX : b + P = 2 ^ (a - 1) + (-lpv a b).toNat := by unfold lpv at *; omega
  rw [eX] at h
  exact h
theorem two_1024 {n : Nat} (h : n < 2 ^ 1024) : n < 10 ^ 320 := Nat.lt_of_lt_of_le h (by decide +kernel)
theorem ten_12900 {n be : Nat} (hb : be ≤ 1083) (h : n < 10 ^ (be + 320)) : n < 2 ^ 12900 := Nat.lt_of_lt_of_le h (Nat.le_trans (nat_ten3 _) (Nat.pow_le_pow_right (by decide) (by omega)))
theorem dec_ex (w : Wd a b) {s : Int} (s0 : 0 ≤ s) (s1 : s < (2 ^ a - 1) * 2 ^ b) : ∃ (m e : Int) (N be : Nat), F.value_of [.tup [.int a, .int b], .int s] = .ok (.tup [.int m, .int e]) ∧ F.figures_of [.int m, .int e] = .ok (.tup [.str (TL.numL N), .int (be : Int)]) ∧
    (N : Int) * 2 ^ (-lpv a b).toNat = st b s * 10 ^ be ∧ be ≤ 1082 ∧ (0 < be → N % 2 = 1) ∧ N < 10 ^ (be + 320) ∧ (0 < N ↔ 0 < s) ∧ (s = 0 → be = 0) ∧ (0 < be → N < 10 ^ (be + 19)) := by
  obtain ⟨L, H, eL, eH, hL, hLH, eW⟩ := w.lh
  obtain ⟨l1, l2⟩ := w.lp
  have h4 := w.b2
  have h2 := w.a2
  have sm : s % 2 ^ (a + b) = s := Int.emod_eq_of_lt s0 (by omega)
  obtain ⟨m, e, ev, rp⟩ := value_rp w (x := s) s0 (by omega) (by rw [sm]; exact s1)
  have sv : sgv a b s = st b s := by
    unfold sgv
    rw [if_neg (by omega), sm]
  rw [sv] at rp
  have sn := st_nn (b := b) s0
  have z0 := st_eq0 (b := b) s0
  have bs := st_bits w s0 (by omega)
  have ge := rp.ge
  have pj := pow2_pos (e - lpv a b).toNat
  have m0 : 0 ≤ m := by
    by_cases c : 0 ≤ m
    · exact c
    · have := Int.mul_lt_mul_of_pos_right (show m < 0 by omega) pj
      have := rp.val
      omega
  have vz := rp.zero
  have lt1 := st_lim w s0 s1
  have a10 : (2 : Nat) ^ (a - 1) ≤ 1024 := Nat.pow_le_pow_right (by decide) (show a - 1 ≤ 10 by omega)
  have mle : m ≤ st b s := by
    rw [rp.val]
    have := Int.mul_le_mul_of_nonneg_left (show (1 : Int) ≤ 2 ^ (e - lpv a b).toNat by omega) m0
    omega
  have bm : bits m ≤ 2200 := bd_lt m0 mle bs
  generalize hD : (-lpv a b).toNat = dp at *
  by_cases c : 0 ≤ e
  · have e1 : (e - lpv a b).toNat = e.toNat + dp := by omega
    have v1 : st b s = m * 2 ^ e.toNat * 2 ^ dp := by rw [rp.val, e1, Int.pow_add, Int.mul_assoc]
    have pe := pow2_pos e.toNat
    have n0 : 0 ≤ m * 2 ^ e.toNat := Int.mul_nonneg m0 (Int.le_of_lt pe)
    have lt2 : m * 2 ^ e.toNat < 2 ^ (2 ^ (a - 1)) := by
      rw [v1, Int.pow_add] at lt1
      exact Int.lt_of_mul_lt_mul_right lt1 (Int.le_of_lt (pow2_pos _))
    obtain ⟨N, hN⟩ : ∃ N : Nat, (N : Int) = m * 2 ^ e.toNat := ⟨(m * 2 ^ e.toNat).toNat, by omega⟩
    have ltN : N < 10 ^ 320 := by
      refine two_1024 (Nat.lt_of_lt_of_le ?_ (Nat.pow_le_pow_right (by decide) a10))
      rw [← hN] at lt2
      have : ((2 ^ 2 ^ (a - 1) : Nat) : Int) = (2 : Int) ^ 2 ^ (a - 1) := by rw [Int.natCast_pow]; rfl
      omega
    have be2 : e ≤ 3000 := by
      have := rp.top (by omega)
      omega
    have sh : shlD (.int m) (.int e) = .ok (.int (m * 2 ^ e.toNat)) := shl_ok c (by omega)
    have sn := str_nat (n := N) (ten_12900 (be := 0) (by omega) (by rw [Nat.zero_add]; exact ltN))
    rw [hN] at sn
    refine ⟨m, e, N, 0, ev, ?_, ?_, by omega, fun q => absurd q (by omega), by rw [Nat.zero_add]; exact ltN, ?_, fun _ => rfl, fun q => absurd q (by omega)⟩
    · simp only [F.figures_of, F.b_figures_of]
      rw [run_eq (by rfl)]
      simp only [evSs, evS, evT, evE, evEs, evSrc, getS0, getSs, set0, setS, R.bind_ok, R.bind_ex, bind_ite, withR_ok, withR_ex, withR_ite, thenO_nxt, thenO_ret, thenO_ex, thenO_ite, outR_nxt, outR_ret, outR_ex, outR_ite, bool_ok, int_ok, bin_add, bin_sub, bin_mul, bin_fdiv, bin_mod, bin_shl, bin_shr, bin_pow, bin_and, bin_or, bin_xor, cmp_eq, cmp_ne, cmp_lt, cmp_le, cmp_gt, cmp_ge, add_int, sub_int, and_int, or_int, xor_int, neg_int, len_lst, len_tup, abs_int, int_int, int_bl, max_int, min_int, bits_int, ix_tup0, ix_tup1, ix_tup2, List.map_cons, List.map_nil, List.replicate, List.cons_append, List.nil_append, List.append_nil, List.length_cons, List.length_nil, decide_eq_true_eq, Nat.reduceSub, Nat.reduceAdd, Int.reduceToNat, c, sh, sn, decide_true, decide_false, Bool.not_true, Bool.not_false, Bool.false_eq_true, if_true, if_false]
      rfl
    · rw [hN, v1, Int.pow_zero, Int.mul_one]
    · have q : 0 < N ↔ ¬ (m * 2 ^ e.toNat = 0) := by omega
      rw [q, Int.mul_eq_zero]
      omega
  · obtain ⟨be, hbe⟩ : ∃ be : Nat, be = (-e).toNat := ⟨_, rfl⟩
    have m1 : m % 2 = 1 := by
      rcases rp.told with q | q
      · omega
      · exact q
    have mp : 0 < m := by omega
    have v1 := rp.val
    have ej : (e - lpv a b).toNat = dp - be := by omega
    rw [ej] at v1
    have mb := odd_part (b := b) s0 m1 mp v1
    have bt := base_to_ok (x := 5) (m := be) (by omega) (by rw [show bits 5 = 3 by decide]; omega)
    rw [show ((be : Nat) : Int) = 0 - e by omega] at bt
    have b5 := bits_five be
    have p5 : 0 < (5 : Int) ^ be := Int.pow_pos (by decide)
    have mm : mulD (.int m) (.int (5 ^ be)) = .ok (.int (m * 5 ^ be)) := mul_ok (by omega)
    have n0 : 0 < m * 5 ^ be := Int.mul_pos mp p5
    obtain ⟨N, hN⟩ : ∃ N : Nat, (N : Int) = m * 5 ^ be := ⟨(m * 5 ^ be).toNat, by omega⟩
    obtain ⟨mn, hm⟩ : ∃ mn : Nat, (mn : Int) = m := ⟨m.toNat, by omega⟩
    have hN2 : N = mn * 5 ^ be := by
      have : ((mn * 5 ^ be : Nat) : Int) = (N : Int) := by rw [hN, Int.natCast_mul, Int.natCast_pow, hm]; rfl
      omega
    have lt61 : mn < 2 ^ 61 := by
      have := pow_le_i (show b + 1 ≤ 61 by omega)
      have e61 : (2 : Int) ^ 61 = 2305843009213693952 := rfl
      have e62 : (2 : Nat) ^ 61 = 2305843009213693952 := rfl
      omega
    have ltN : N < 10 ^ (be + 320) := by
      rw [hN2, Nat.add_comm, Nat.pow_add]
      have q1 : mn < 10 ^ 320 := Nat.lt_of_lt_of_le lt61 (by decide +kernel)
      have q2 : (5 : Nat) ^ be ≤ 10 ^ be := Nat.pow_le_pow_left (by decide) be
      have q3 : 0 < (10 : Nat) ^ be := Nat.pow_pos (by decide)
      generalize (10 : Nat) ^ 320 = t320 at *
      exact Nat.lt_of_le_of_lt (Nat.mul_le_mul_left mn q2) (Nat.mul_lt_mul_of_pos_right q1 q3)
    have ltN2 : N < 10 ^ (be + 19) := by
      rw [hN2, Nat.add_comm, Nat.pow_add]
      have q1 : mn < 10 ^ 19 := Nat.lt_of_lt_of_le lt61 (by decide +kernel)
      have q2 : (5 : Nat) ^ be ≤ 10 ^ be := Nat.pow_le_pow_left (by decide) be
      have q3 : 0 < (10 : Nat) ^ be := Nat.pow_pos (by decide)
      exact Nat.lt_of_le_of_lt (Nat.mul_le_mul_left mn q2) (Nat.mul_lt_mul_of_pos_right q1 q3)
    have sn := str_nat (n := N) (ten_12900 (be := be) (by omega) ltN)
    rw [hN] at sn
    refine ⟨m, e, N, be, ev, ?_, ?_, by omega, fun _ => ?_, ltN, ?_, ?_, fun _ => ltN2⟩
    · simp only [F.figures_of, F.b_figures_of]
      rw [run_eq (by rfl)]
      simp only [evSs, evS, evT, evE, evEs, evSrc, getS0, getSs, set0, setS, R.bind_ok, R.bind_ex, bind_ite, withR_ok, withR_ex, withR_ite, thenO_nxt, thenO_ret, thenO_ex, thenO_ite, outR_nxt, outR_ret, outR_ex, outR_ite, bool_ok, int_ok, bin_add, bin_sub, bin_mul, bin_fdiv, bin_mod, bin_shl, bin_shr, bin_pow, bin_and, bin_or, bin_xor, cmp_eq, cmp_ne, cmp_lt, cmp_le, cmp_gt, cmp_ge, add_int, sub_int, and_int, or_int, xor_int, neg_int, len_lst, len_tup, abs_int, int_int, int_bl, max_int, min_int, bits_int, ix_tup0, ix_tup1, ix_tup2, List.map_cons, List.map_nil, List.replicate, List.cons_append, List.nil_append, List.append_nil, List.length_cons, List.length_nil, decide_eq_true_eq, Nat.reduceSub, Nat.reduceAdd, Int.reduceToNat, c, bt, mm, sn, decide_true, decide_false, Bool.not_true, Bool.not_false, Bool.false_eq_true, if_true, if_false]
      rw [show 0 - e = (be : Int) by omega]
    · rw [hN, v1]
      have ed : (2 : Int) ^ dp = 2 ^ be * 2 ^ (dp - be) := by rw [← Int.pow_add, show be + (dp - be) = dp by omega]
      rw [ed, ← five_two be]
      simp only [Int.mul_assoc, Int.mul_left_comm, Int.mul_comm]
    · rw [hN2, Nat.mul_mod, odd_five]
      omega
    · have : 0 < N := by omega
      have : s ≠ 0 := fun q => by
        have := z0.mpr q
        have := vz.mp this
        omega
      omega
    · intro q
      have := z0.mpr q
      have := vz.mp this
      omega
/-- the parts of the text -/
def pd (N be : Nat) : List Nat := if be = 0 then TL.numL N else zp N be
def qd (N be : Nat) : Option (List Nat) := if be = 0 then none else some (zq N be)
/-- exact_text of a number -/
theorem exact_num (w : Wd a b) {x : Int} (x0 : 0 ≤ x) (x1 : x < 2 ^ (1 + a + b)) (hx : x % 2 ^ (a + b) < (2 ^ a - 1) * 2 ^ b) : ∃ N be : Nat,
    F.exact_text [.tup [.int a, .int b], .int x] = .ok (.str (gx (decide (2 ^ (a + b) ≤ x)) (pd N be) (qd N be) none)) ∧
    (N : Int) * 2 ^ (-lpv a b).toNat = st b (x % 2 ^ (a + b)) * 10 ^ be ∧ be ≤ 1082 ∧ (0 < be → N % 2 = 1) ∧ N < 10 ^ (be + 320) ∧ (0 < N ↔ 0 < x % 2 ^ (a + b)) ∧ (x % 2 ^ (a + b) = 0 → be = 0) ∧ (0 < be → N < 10 ^ (be + 19)) := by
  obtain ⟨L, H, eL, eH, hL, hLH, eW⟩ := w.lh
  have pab := pow2_pos (a + b)
  have s0 := Int.emod_nonneg x (show (2 : Int) ^ (a + b) ≠ 0 by omega)
  have ku := kind_ok w x0 x1
  have un := unsigned_ok w x0 x1
  have mi := minus_ok w x0 x1
  generalize x % 2 ^ (a + b) = s at *
  obtain ⟨m, e, N, be, ev, fo, h1, h2, h3, h4, h5, h6, h7⟩ := dec_ex w s0 hx
  refine ⟨N, be, ?_, h1, h2, h3, h4, h5, h6, h7⟩
  have l4 : (if decide (2 ^ (a + b) ≤ x) = true then [45] else ([] : List Nat)).length ≤ 1 := by split <;> simp
  obtain ⟨lead, hlead⟩ : ∃ l : List Nat, (if decide (2 ^ (a + b) ≤ x) = true then [45] else []) = l := ⟨_, rfl⟩
  have nl := TL.numL_len (n := N) (k := be + 320) (by omega) h4
  have key : outR (evSs (.cons (.asgT [3, 4] (.call "value_of" F.value_of (.cons (.var 0) (.cons (.call "unsigned" F.unsigned (.cons (.var 0) (.cons (.var 1) .nil)) []) .nil)) []))
  (.cons (.asgT [5, 6] (.call "figures_of" F.figures_of (.cons (.var 3) (.cons (.var 4) .nil)) []))
  (.cons (.ifs (.cmp .eq (.var 6) (.int 0)) (.cons (.ret (.bin .add (.call "minus_of" F.minus_of (.cons (.var 0) (.cons (.var 1) .nil)) []) (.var 5)))
  .nil) .nil)
  (.cons (.asg 5 (.tm .zfill (.var 5) (.bin .add (.var 6) (.int 1))))
  (.cons (.ret (.bin .add (.bin .add (.bin .add (.call "minus_of" F.minus_of (.cons (.var 0) (.cons (.var 1) .nil)) []) (.slcH (.var 5) (.bin .sub (.f1 .len (.var 5)) (.var 6)))) (.str [46])) (.slcL (.var 5) (.bin .sub (.f1 .len (.var 5)) (.var 6)))))
  .nil))))) [.dat (.tup [.int a, .int b]), .dat (.int x), .dat (.str (kd a b s)), .un, .un, .un, .un]) = .ok (.str (gx (decide (2 ^ (a + b) ≤ x)) (pd N be) (qd N be) none)) := by
    refine seq (P := fun o => outR o = _) (by simp only [evSs, evS, evT, evE, evEs, evSrc, getS0, getSs, set0, setS, R.bind_ok, R.bind_ex, bind_ite, withR_ok, withR_ex, withR_ite, thenO_nxt, thenO_ret, thenO_ex, thenO_ite, outR_nxt, outR_ret, outR_ex, outR_ite, bool_ok, int_ok, bin_add, bin_sub, bin_mul, bin_fdiv, bin_mod, bin_shl, bin_shr, bin_pow, bin_and, bin_or, bin_xor, cmp_eq, cmp_ne, cmp_lt, cmp_le, cmp_gt, cmp_ge, add_int, sub_int, and_int, or_int, xor_int, neg_int, len_lst, len_tup, abs_int, int_int, int_bl, max_int, min_int, bits_int, ix_tup0, ix_tup1, ix_tup2, List.map_cons, List.map_nil, List.replicate, List.cons_append, List.nil_append, List.append_nil, List.length_cons, List.length_nil, decide_eq_true_eq, Nat.reduceSub, Nat.reduceAdd, Int.reduceToNat, setAll, Int.toNat_natCast, Int.one_mul, un, ev, decide_true, decide_false, Bool.not_true, Bool.not_false, Bool.false_eq_true, if_true, if_false]; rfl) ?_
    refine seq (P := fun o => outR o = _) (by simp only [evSs, evS, evT, evE, evEs, evSrc, getS0, getSs, set0, setS, R.bind_ok, R.bind_ex, bind_ite, withR_ok, withR_ex, withR_ite, thenO_nxt, thenO_ret, thenO_ex, thenO_ite, outR_nxt, outR_ret, outR_ex, outR_ite, bool_ok, int_ok, bin_add, bin_sub, bin_mul, bin_fdiv, bin_mod, bin_shl, bin_shr, bin_pow, bin_and, bin_or, bin_xor, cmp_eq, cmp_ne, cmp_lt, cmp_le, cmp_gt, cmp_ge, add_int, sub_int, and_int, or_int, xor_int, neg_int, len_lst, len_tup, abs_int, int_int, int_bl, max_int, min_int, bits_int, ix_tup0, ix_tup1, ix_tup2, List.map_cons, List.map_nil, List.replicate, List.cons_append, List.nil_append, List.append_nil, List.length_cons, List.length_nil, decide_eq_true_eq, Nat.reduceSub, Nat.reduceAdd, Int.reduceToNat, setAll, Int.toNat_natCast, Int.one_mul, fo, decide_true, decide_false, Bool.not_true, Bool.not_false, Bool.false_eq_true, if_true, if_false]; rfl) ?_
    by_cases c : be = 0
    · have c' : ((be : Nat) : Int) = 0 := by omega
      rw [hlead] at mi l4
      have ca := cat_str (l := lead) (m := TL.numL N) (by omega)
      have eg : gx (decide (2 ^ (a + b) ≤ x)) (pd N be) (qd N be) none = lead ++ TL.numL N := by
        unfold gx pd qd
        rw [if_pos c, if_pos c, hlead, ptq, pwT, List.append_nil, List.append_nil]
      rw [eg]
      refine seq_ret (P := fun o => outR o = _) (by simp (disch := first | assumption | omega | decide +kernel | exact bsum (by (repeat' first | assumption | apply Bd.mod | apply Bd.shlm | apply Bd.shl | apply Bd.mul | apply Bd.add | apply Bd.sub | apply Bd.neg | apply Bd.abs | apply Bd.fdiv | apply Bd.pow2 | exact Bd.lit _ | decide | omega)) (by (repeat' first | assumption | apply Bd.mod | apply Bd.shlm | apply Bd.shl | apply Bd.mul | apply Bd.add | apply Bd.sub | apply Bd.neg | apply Bd.abs | apply Bd.fdiv | apply Bd.pow2 | exact Bd.lit _ | decide | omega)) (by decide +kernel) | (have := bits_one; have := bits_two; have := bits_three; omega)) only [evSs, evS, evT, evE, evEs, evSrc, getS0, getSs, set0, setS, R.bind_ok, R.bind_ex, bind_ite, withR_ok, withR_ex, withR_ite, thenO_nxt, thenO_ret, thenO_ex, thenO_ite, outR_nxt, outR_ret, outR_ex, outR_ite, bool_ok, int_ok, bin_add, bin_sub, bin_mul, bin_fdiv, bin_mod, bin_shl, bin_shr, bin_pow, bin_and, bin_or, bin_xor, cmp_eq, cmp_ne, cmp_lt, cmp_le, cmp_gt, cmp_ge, add_int, sub_int, and_int, or_int, xor_int, neg_int, len_lst, len_tup, abs_int, int_int, int_bl, max_int, min_int, bits_int, ix_tup0, ix_tup1, ix_tup2, List.map_cons, List.map_nil, List.replicate, List.cons_append, List.nil_append, List.append_nil, List.length_cons, List.length_nil, decide_eq_true_eq, Nat.reduceSub, Nat.reduceAdd, Int.reduceToNat, setAll, Int.toNat_natCast, Int.one_mul, c', mi, ca, mul_ok, mod_ok, fdiv_ok, shl_ok, shr_ok, pow_ok, decide_true, decide_false, Bool.not_true, Bool.not_false, Bool.false_eq_true, if_true, if_false]; rfl) ?_
      rfl
    · have c' : ¬ ((be : Nat) : Int) = 0 := by omega
      rw [hlead] at mi l4
      have zo := zfill_ok (fig_num N) (k := be + 1) (by omega)
      have ez : List.replicate (be + 1 - (TL.numL N).length) 48 ++ TL.numL N = zf N be := rfl
      rw [ez] at zo
      have e1 : (be : Int) + 1 = ((be + 1 : Nat) : Int) := by omega
      have zl := zf_len N be
      have ll : (zf N be).length ≤ 2000 := by rcases zl.2 with q | q <;> omega
      have ln := len_str (l := zf N be) (by omega)
      have e2 : ((zf N be).length : Int) - (be : Int) = (((zf N be).length - be : Nat) : Int) := by omega
      have sh : slcD (.str (zf N be)) none (some (((zf N be).length - be : Nat) : Int)) = .ok (.str (zp N be)) := slH (l := zf N be) (by omega) _
      have sl : slcD (.str (zf N be)) (some (((zf N be).length - be : Nat) : Int)) none = .ok (.str (zq N be)) := slL (l := zf N be) (by omega) _
      have lp := zp_len N be
      have lq := zq_len N be
      have c1 := cat_str (l := lead) (m := zp N be) (by omega)
      have c2 := cat_str (l := lead ++ zp N be) (m := [46]) (by rw [List.length_append]; simp; omega)
      have c3 := cat_str (l := lead ++ zp N be ++ [46]) (m := zq N be) (by rw [List.length_append, List.length_append]; simp; omega)
      have eg : gx (decide (2 ^ (a + b) ≤ x)) (pd N be) (qd N be) none = lead ++ (zp N be ++ (46 :: zq N be)) := by
        unfold gx pd qd
        rw [if_neg c, if_neg c, hlead, ptq, pwT, List.append_nil]
      rw [eg]
      refine seq (P := fun o => outR o = _) (by simp only [evSs, evS, evT, evE, evEs, evSrc, getS0, getSs, set0, setS, R.bind_ok, R.bind_ex, bind_ite, withR_ok, withR_ex, withR_ite, thenO_nxt, thenO_ret, thenO_ex, thenO_ite, outR_nxt, outR_ret, outR_ex, outR_ite, bool_ok, int_ok, bin_add, bin_sub, bin_mul, bin_fdiv, bin_mod, bin_shl, bin_shr, bin_pow, bin_and, bin_or, bin_xor, cmp_eq, cmp_ne, cmp_lt, cmp_le, cmp_gt, cmp_ge, add_int, sub_int, and_int, or_int, xor_int, neg_int, len_lst, len_tup, abs_int, int_int, int_bl, max_int, min_int, bits_int, ix_tup0, ix_tup1, ix_tup2, List.map_cons, List.map_nil, List.replicate, List.cons_append, List.nil_append, List.append_nil, List.length_cons, List.length_nil, decide_eq_true_eq, Nat.reduceSub, Nat.reduceAdd, Int.reduceToNat, setAll, Int.toNat_natCast, Int.one_mul, c', decide_true, decide_false, Bool.not_true, Bool.not_false, Bool.false_eq_true, if_true, if_false]; rfl) ?_
      refine seq (P := fun o => outR o = _) (by simp only [evSs, evS, evT, evE, evEs, evSrc, getS0, getSs, set0, setS, R.bind_ok, R.bind_ex, bind_ite, withR_ok, withR_ex, withR_ite, thenO_nxt, thenO_ret, thenO_ex, thenO_ite, outR_nxt, outR_ret, outR_ex, outR_ite, bool_ok, int_ok, bin_add, bin_sub, bin_mul, bin_fdiv, bin_mod, bin_shl, bin_shr, bin_pow, bin_and, bin_or, bin_xor, cmp_eq, cmp_ne, cmp_lt, cmp_le, cmp_gt, cmp_ge, add_int, sub_int, and_int, or_int, xor_int, neg_int, len_lst, len_tup, abs_int, int_int, int_bl, max_int, min_int, bits_int, ix_tup0, ix_tup1, ix_tup2, List.map_cons, List.map_nil, List.replicate, List.cons_append, List.nil_append, List.append_nil, List.length_cons, List.length_nil, decide_eq_true_eq, Nat.reduceSub, Nat.reduceAdd, Int.reduceToNat, setAll, Int.toNat_natCast, Int.one_mul, strD, e1, zo, decide_true, decide_false, Bool.not_true, Bool.not_false, Bool.false_eq_true, if_true, if_false]; rfl) ?_
      simp only [evSs, evS, evT, evE, evEs, evSrc, getS0, getSs, set0, setS, R.bind_ok, R.bind_ex, bind_ite, withR_ok, withR_ex, withR_ite, thenO_nxt, thenO_ret, thenO_ex, thenO_ite, outR_nxt, outR_ret, outR_ex, outR_ite, bool_ok, int_ok, bin_add, bin_sub, bin_mul, bin_fdiv, bin_mod, bin_shl, bin_shr, bin_pow, bin_and, bin_or, bin_xor, cmp_eq, cmp_ne, cmp_lt, cmp_le, cmp_gt, cmp_ge, add_int, sub_int, and_int, or_int, xor_int, neg_int, len_lst, len_tup, abs_int, int_int, int_bl, max_int, min_int, bits_int, ix_tup0, ix_tup1, ix_tup2, List.map_cons, List.map_nil, List.replicate, List.cons_append, List.nil_append, List.append_nil, List.length_cons, List.length_nil, decide_eq_true_eq, Nat.reduceSub, Nat.reduceAdd, Int.reduceToNat, mi, ln, e2, sh, c1]
      rw [c2]
      simp only [evSs, evS, evT, evE, evEs, evSrc, getS0, getSs, set0, setS, R.bind_ok, R.bind_ex, bind_ite, withR_ok, withR_ex, withR_ite, thenO_nxt, thenO_ret, thenO_ex, thenO_ite, outR_nxt, outR_ret, outR_ex, outR_ite, bool_ok, int_ok, bin_add, bin_sub, bin_mul, bin_fdiv, bin_mod, bin_shl, bin_shr, bin_pow, bin_and, bin_or, bin_xor, cmp_eq, cmp_ne, cmp_lt, cmp_le, cmp_gt, cmp_ge, add_int, sub_int, and_int, or_int, xor_int, neg_int, len_lst, len_tup, abs_int, int_int, int_bl, max_int, min_int, bits_int, ix_tup0, ix_tup1, ix_tup2, List.map_cons, List.map_nil, List.replicate, List.cons_append, List.nil_append, List.append_nil, List.length_cons, List.length_nil, decide_eq_true_eq, Nat.reduceSub, Nat.reduceAdd, Int.reduceToNat, sl]
      rw [c3]
      simp only [evSs, evS, evT, evE, evEs, evSrc, getS0, getSs, set0, setS, R.bind_ok, R.bind_ex, bind_ite, withR_ok, withR_ex, withR_ite, thenO_nxt, thenO_ret, thenO_ex, thenO_ite, outR_nxt, outR_ret, outR_ex, outR_ite, bool_ok, int_ok, bin_add, bin_sub, bin_mul, bin_fdiv, bin_mod, bin_shl, bin_shr, bin_pow, bin_and, bin_or, bin_xor, cmp_eq, cmp_ne, cmp_lt, cmp_le, cmp_gt, cmp_ge, add_int, sub_int, and_int, or_int, xor_int, neg_int, len_lst, len_tup, abs_int, int_int, int_bl, max_int, min_int, bits_int, ix_tup0, ix_tup1, ix_tup2, List.map_cons, List.map_nil, List.replicate, List.cons_append, List.nil_append, List.append_nil, List.length_cons, List.length_nil, decide_eq_true_eq, Nat.reduceSub, Nat.reduceAdd, Int.reduceToNat, List.append_assoc, List.cons_append, List.nil_append]
  simp only [F.exact_text, F.b_exact_text]
  rw [run_eq (by rfl)]
  simp only [List.map_cons, List.map_nil, List.replicate, List.cons_append, List.nil_append, Nat.reduceSub]
  refine seq (P := fun o => outR o = _) (by simp only [evSs, evS, evT, evE, evEs, evSrc, getS0, getSs, set0, setS, R.bind_ok, R.bind_ex, bind_ite, withR_ok, withR_ex, withR_ite, thenO_nxt, thenO_ret, thenO_ex, thenO_ite, outR_nxt, outR_ret, outR_ex, outR_ite, bool_ok, int_ok, bin_add, bin_sub, bin_mul, bin_fdiv, bin_mod, bin_shl, bin_shr, bin_pow, bin_and, bin_or, bin_xor, cmp_eq, cmp_ne, cmp_lt, cmp_le, cmp_gt, cmp_ge, add_int, sub_int, and_int, or_int, xor_int, neg_int, len_lst, len_tup, abs_int, int_int, int_bl, max_int, min_int, bits_int, ix_tup0, ix_tup1, ix_tup2, List.map_cons, List.map_nil, List.replicate, List.cons_append, List.nil_append, List.append_nil, List.length_cons, List.length_nil, decide_eq_true_eq, Nat.reduceSub, Nat.reduceAdd, Int.reduceToNat, setAll, Int.toNat_natCast, Int.one_mul, ku, decide_true, decide_false, Bool.not_true, Bool.not_false, Bool.false_eq_true, if_true, if_false]; rfl) ?_
  rcases kd_num w (s := s) hx with ⟨q, _⟩ | ⟨q, _⟩ | ⟨q, _⟩
  · rw [q] at key ⊢
    refine seq (P := fun o => outR o = _) (by simp only [evSs, evS, evT, evE, evEs, evSrc, getS0, getSs, set0, setS, R.bind_ok, R.bind_ex, bind_ite, withR_ok, withR_ex, withR_ite, thenO_nxt, thenO_ret, thenO_ex, thenO_ite, outR_nxt, outR_ret, outR_ex, outR_ite, bool_ok, int_ok, bin_add, bin_sub, bin_mul, bin_fdiv, bin_mod, bin_shl, bin_shr, bin_pow, bin_and, bin_or, bin_xor, cmp_eq, cmp_ne, cmp_lt, cmp_le, cmp_gt, cmp_ge, add_int, sub_int, and_int, or_int, xor_int, neg_int, len_lst, len_tup, abs_int, int_int, int_bl, max_int, min_int, bits_int, ix_tup0, ix_tup1, ix_tup2, List.map_cons, List.map_nil, List.replicate, List.cons_append, List.nil_append, List.append_nil, List.length_cons, List.length_nil, decide_eq_true_eq, Nat.reduceSub, Nat.reduceAdd, Int.reduceToNat, setAll, Int.toNat_natCast, Int.one_mul, kk00, kk01, kk02, kk03, kk04, kk05, kk10, kk11, kk12, kk13, kk14, kk15, kk20, kk21, kk22, kk23, kk24, kk25, kk30, kk31, kk32, kk33, kk34, kk35, kk40, kk41, kk42, kk43, kk44, kk45, kk50, kk51, kk52, kk53, kk54, kk55, kn00, kn01, kn02, kn03, kn04, kn05, kn10, kn11, kn12, kn13, kn14, kn15, kn20, kn21, kn22, kn23, kn24, kn25, kn30, kn31, kn32, kn33, kn34, kn35, kn40, kn41, kn42, kn43, kn44, kn45, kn50, kn51, kn52, kn53, kn54, kn55, decide_true, decide_false, Bool.not_true, Bool.not_false, Bool.false_eq_true, if_true, if_false]; rfl) ?_
    refine seq (P := fun o => outR o = _) (by simp only [evSs, evS, evT, evE, evEs, evSrc, getS0, getSs, set0, setS, R.bind_ok, R.bind_ex, bind_ite, withR_ok, withR_ex, withR_ite, thenO_nxt, thenO_ret, thenO_ex, thenO_ite, outR_nxt, outR_ret, outR_ex, outR_ite, bool_ok, int_ok, bin_add, bin_sub, bin_mul, bin_fdiv, bin_mod, bin_shl, bin_shr, bin_pow, bin_and, bin_or, bin_xor, cmp_eq, cmp_ne, cmp_lt, cmp_le, cmp_gt, cmp_ge, add_int, sub_int, and_int, or_int, xor_int, neg_int, len_lst, len_tup, abs_int, int_int, int_bl, max_int, min_int, bits_int, ix_tup0, ix_tup1, ix_tup2, List.map_cons, List.map_nil, List.replicate, List.cons_append, List.nil_append, List.append_nil, List.length_cons, List.length_nil, decide_eq_true_eq, Nat.reduceSub, Nat.reduceAdd, Int.reduceToNat, setAll, Int.toNat_natCast, Int.one_mul, kk00, kk01, kk02, kk03, kk04, kk05, kk10, kk11, kk12, kk13, kk14, kk15, kk20, kk21, kk22, kk23, kk24, kk25, kk30, kk31, kk32, kk33, kk34, kk35, kk40, kk41, kk42, kk43, kk44, kk45, kk50, kk51, kk52, kk53, kk54, kk55, kn00, kn01, kn02, kn03, kn04, kn05, kn10, kn11, kn12, kn13, kn14, kn15, kn20, kn21, kn22, kn23, kn24, kn25, kn30, kn31, kn32, kn33, kn34, kn35, kn40, kn41, kn42, kn43, kn44, kn45, kn50, kn51, kn52, kn53, kn54, kn55, decide_true, decide_false, Bool.not_true, Bool.not_false, Bool.false_eq_true, if_true, if_false]; rfl) ?_
    exact key
  · rw [q] at key ⊢
    refine seq (P := fun o => outR o = _) (by simp only [evSs, evS, evT, evE, evEs, evSrc, getS0, getSs, set0, setS, R.bind_ok, R.bind_ex, bind_ite, withR_ok, withR_ex, withR_ite, thenO_nxt, thenO_ret, thenO_ex, thenO_ite, outR_nxt, outR_ret, outR_ex, outR_ite, bool_ok, int_ok, bin_add, bin_sub, bin_mul, bin_fdiv, bin_mod, bin_shl, bin_shr, bin_pow, bin_and, bin_or, bin_xor, cmp_eq, cmp_ne, cmp_lt, cmp_le, cmp_gt, cmp_ge, add_int, sub_int, and_int, or_int, xor_int, neg_int, len_lst, len_tup, abs_int, int_int, int_bl, max_int, min_int, bits_int, ix_tup0, ix_tup1, ix_tup2, List.map_cons, List.map_nil, List.replicate, List.cons_append, List.nil_append, List.append_nil, List.length_cons, List.length_nil, decide_eq_true_eq, Nat.reduceSub, Nat.reduceAdd, Int.reduceToNat, setAll, Int.toNat_natCast, Int.one_mul, kk00, kk01, kk02, kk03, kk04, kk05, kk10, kk11, kk12, kk13, kk14, kk15, kk20, kk21, kk22, kk23, kk24, kk25, kk30, kk31, kk32, kk33, kk34, kk35, kk40, kk41, kk42, kk43, kk44, kk45, kk50, kk51, kk52, kk53, kk54, kk55, kn00, kn01, kn02, kn03, kn04, kn05, kn10, kn11, kn12, kn13, kn14, kn15, kn20, kn21, kn22, kn23, kn24, kn25, kn30, kn31, kn32, kn33, kn34, kn35, kn40, kn41, kn42, kn43, kn44, kn45, kn50, kn51, kn52, kn53, kn54, kn55, decide_true, decide_false, Bool.not_true, Bool.not_false, Bool.false_eq_true, if_true, if_false]; rfl) ?_
    refine seq (P := fun o => outR o = _) (by simp only [evSs, evS, evT, evE, evEs, evSrc, getS0, getSs, set0, setS, R.bind_ok, R.bind_ex, bind_ite, withR_ok, withR_ex, withR_ite, thenO_nxt, thenO_ret, thenO_ex, thenO_ite, outR_nxt, outR_ret, outR_ex, outR_ite, bool_ok, int_ok, bin_add, bin_sub, bin_mul, bin_fdiv, bin_mod, bin_shl, bin_shr, bin_pow, bin_and, bin_or, bin_xor, cmp_eq, cmp_ne, cmp_lt, cmp_le, cmp_gt, cmp_ge, add_int, sub_int, and_int, or_int, xor_int, neg_int, len_lst, len_tup, abs_int, int_int, int_bl, max_int, min_int, bits_int, ix_tup0, ix_tup1, ix_tup2, List.map_cons, List.map_nil, List.replicate, List.cons_append, List.nil_append, List.append_nil, List.length_cons, List.length_nil, decide_eq_true_eq, Nat.reduceSub, Nat.reduceAdd, Int.reduceToNat, setAll, Int.toNat_natCast, Int.one_mul, kk00, kk01, kk02, kk03, kk04, kk05, kk10, kk11, kk12, kk13, kk14, kk15, kk20, kk21, kk22, kk23, kk24, kk25, kk30, kk31, kk32, kk33, kk34, kk35, kk40, kk41, kk42, kk43, kk44, kk45, kk50, kk51, kk52, kk53, kk54, kk55, kn00, kn01, kn02, kn03, kn04, kn05, kn10, kn11, kn12, kn13, kn14, kn15, kn20, kn21, kn22, kn23, kn24, kn25, kn30, kn31, kn32, kn33, kn34, kn35, kn40, kn41, kn42, kn43, kn44, kn45, kn50, kn51, kn52, kn53, kn54, kn55, decide_true, decide_false, Bool.not_true, Bool.not_false, Bool.false_eq_true, if_true, if_false]; rfl) ?_
    exact key
  · rw [q] at key ⊢
    refine seq (P := fun o => outR o = _) (by simp only [evSs, evS, evT, evE, evEs, evSrc, getS0, getSs, set0, setS, R.bind_ok, R.bind_ex, bind_ite, withR_ok, withR_ex, withR_ite, thenO_nxt, thenO_ret, thenO_ex, thenO_ite, outR_nxt, outR_ret, outR_ex, outR_ite, bool_ok, int_ok, bin_add, bin_sub, bin_mul, bin_fdiv, bin_mod, bin_shl, bin_shr, bin_pow, bin_and, bin_or, bin_xor, cmp_eq, cmp_ne, cmp_lt, cmp_le, cmp_gt, cmp_ge, add_int, sub_int, and_int, or_int, xor_int, neg_int, len_lst, len_tup, abs_int, int_int, int_bl, max_int, min_int, bits_int, ix_tup0, ix_tup1, ix_tup2, List.map_cons, List.map_nil, List.replicate, List.cons_append, List.nil_append, List.append_nil, List.length_cons, List.length_nil, decide_eq_true_eq, Nat.reduceSub, Nat.reduceAdd, Int.reduceToNat, setAll, Int.toNat_natCast, Int.one_mul, kk00, kk01, kk02, kk03, kk04, kk05, kk10, kk11, kk12, kk13, kk14, kk15, kk20, kk21, kk22, kk23, kk24, kk25, kk30, kk31, kk32, kk33, kk34, kk35, kk40, kk41, kk42, kk43, kk44, kk45, kk50, kk51, kk52, kk53, kk54, kk55, kn00, kn01, kn02, kn03, kn04, kn05, kn10, kn11, kn12, kn13, kn14, kn15, kn20, kn21, kn22, kn23, kn24, kn25, kn30, kn31, kn32, kn33, kn34, kn35, kn40, kn41, kn42, kn43, kn44, kn45, kn50, kn51, kn52, kn53, kn54, kn55, decide_true, decide_false, Bool.not_true, Bool.not_false, Bool.false_eq_true, if_true, if_false]; rfl) ?_
    refine seq (P := fun o => outR o = _) (by simp only [evSs, evS, evT, evE, evEs, evSrc, getS0, getSs, set0, setS, R.bind_ok, R.bind_ex, bind_ite, withR_ok, withR_ex, withR_ite, thenO_nxt, thenO_ret, thenO_ex, thenO_ite, outR_nxt, outR_ret, outR_ex, outR_ite, bool_ok, int_ok, bin_add, bin_sub, bin_mul, bin_fdiv, bin_mod, bin_shl, bin_shr, bin_pow, bin_and, bin_or, bin_xor, cmp_eq, cmp_ne, cmp_lt, cmp_le, cmp_gt, cmp_ge, add_int, sub_int, and_int, or_int, xor_int, neg_int, len_lst, len_tup, abs_int, int_int, int_bl, max_int, min_int, bits_int, ix_tup0, ix_tup1, ix_tup2, List.map_cons, List.map_nil, List.replicate, List.cons_append, List.nil_append, List.append_nil, List.length_cons, List.length_nil, decide_eq_true_eq, Nat.reduceSub, Nat.reduceAdd, Int.reduceToNat, setAll, Int.toNat_natCast, Int.one_mul, kk00, kk01, kk02, kk03, kk04, kk05, kk10, kk11, kk12, kk13, kk14, kk15, kk20, kk21, kk22, kk23, kk24, kk25, kk30, kk31, kk32, kk33, kk34, kk35, kk40, kk41, kk42, kk43, kk44, kk45, kk50, kk51, kk52, kk53, kk54, kk55, kn00, kn01, kn02, kn03, kn04, kn05, kn10, kn11, kn12, kn13, kn14, kn15, kn20, kn21, kn22, kn23, kn24, kn25, kn30, kn31, kn32, kn33, kn34, kn35, kn40, kn41, kn42, kn43, kn44, kn45, kn50, kn51, kn52, kn53, kn54, kn55, decide_true, decide_false, Bool.not_true, Bool.not_false, Bool.false_eq_true, if_true, if_false]; rfl) ?_
    exact key
end
end MP

set_option linter.all false
set_option autoImplicit false
set_option exponentiation.threshold 20000
namespace MP
open PySem
/-! M9: the number of fewest figures. -/
theorem div_ratio {X Y X' Y' : Int} (h : 0 < Y) (h' : 0 < Y') (e : X * Y' = X' * Y) : X / Y = X' / Y' := by
  have key : ∀ {X Y X' Y' : Int}, 0 < Y → 0 < Y' → X * Y' = X' * Y → X / Y ≤ X' / Y' := fun {X Y X' Y'} h h' e => by
    refine Int.le_ediv_of_mul_le h' ?_
    have h1 := Int.ediv_mul_le X (show Y ≠ 0 by omega)
    have h2 := Int.mul_le_mul_of_nonneg_right h1 (Int.le_of_lt h')
    rw [e, Int.mul_right_comm] at h2
    exact Int.le_of_mul_le_mul_right h2 h
  exact Int.le_antisymm (key h h' e) (key h' h e.symm)
/-- whether more than half is left -/
theorem half_ratio {X Y X' Y' : Int} (h : 0 < Y) (h' : 0 < Y') (e : X * Y' = X' * Y) : Y < 2 * (X % Y) ↔ Y' < 2 * (X' % Y') := by
  have q := div_ratio h h' e
  have key : ∀ {X Y X' Y' : Int}, 0 < Y → 0 < Y' → X * Y' = X' * Y → X / Y = X' / Y' → Y < 2 * (X % Y) → Y' < 2 * (X' % Y') := fun {X Y X' Y'} h h' e q c => by
    have d1 := Int.mul_ediv_add_emod X Y
    have d2 := Int.mul_ediv_add_emod X' Y'
    rw [q] at d1
    generalize X' / Y' = k at *
    have r1 : X % Y = X - Y * k := by omega
    have r2 : X' % Y' = X' - Y' * k := by omega
    rw [r1] at c
    rw [r2]
    have c2 := Int.mul_lt_mul_of_pos_right c h'
    rw [Int.mul_assoc, Int.sub_mul, e, Int.mul_sub] at c2
    have e1 : Y * k * Y' = Y' * k * Y := by simp only [Int.mul_assoc, Int.mul_left_comm, Int.mul_comm]
    rw [e1, ← Int.mul_sub, ← Int.sub_mul, ← Int.mul_assoc, Int.mul_comm Y Y'] at c2
    exact Int.lt_of_mul_lt_mul_right c2 (Int.le_of_lt h)
  exact ⟨key h h' e q, key h' h e.symm q.symm⟩
def tpv (S t : Int) : Int := S * 10 ^ (-t).toNat
def btv (D : Nat) (t : Int) : Int := 10 ^ t.toNat * 2 ^ D
def lov (S : Int) (D : Nat) (t : Int) : Int := tpv S t / btv D t
def hgv (S : Int) (D : Nat) (t : Int) : Prop := btv D t < 2 * (tpv S t % btv D t)
theorem p10 (k : Nat) : 0 < (10 : Int) ^ k := Int.pow_pos (by decide)
theorem p10_le {i j : Nat} (h : i ≤ j) : (10 : Int) ^ i ≤ 10 ^ j := by
  have e : ∀ k : Nat, ((10 ^ k : Nat) : Int) = (10 : Int) ^ k := fun k => by rw [Int.natCast_pow]; rfl
  have := Nat.pow_le_pow_right (show 0 < 10 by decide) h
  rw [← e, ← e]
  exact Int.ofNat_le.mpr this
theorem btv_pos (D : Nat) (t : Int) : 0 < btv D t := Int.mul_pos (p10 _) (pow2_pos _)
theorem sc (S : Int) (D i : Nat) (t : Int) : tpv S (t - i) * btv D t = 10 ^ i * tpv S t * btv D (t - i) := by
  unfold tpv btv
  have e : (10 : Int) ^ (-(t - i)).toNat * 10 ^ t.toNat = 10 ^ i * 10 ^ (-t).toNat * 10 ^ (t - i).toNat := by
    rw [← Int.pow_add, ← Int.pow_add, ← Int.pow_add]
    congr 1
    omega
  calc S * 10 ^ (-(t - i)).toNat * (10 ^ t.toNat * 2 ^ D) = S * (10 ^ (-(t - i)).toNat * 10 ^ t.toNat) * 2 ^ D := by simp only [Int.mul_assoc]
    _ = S * (10 ^ i * 10 ^ (-t).toNat * 10 ^ (t - i).toNat) * 2 ^ D := by rw [e]
    _ = 10 ^ i * (S * 10 ^ (-t).toNat) * (10 ^ (t - i).toNat * 2 ^ D) := by simp only [Int.mul_assoc, Int.mul_left_comm, Int.mul_comm]
/-- one figure more -/
theorem lo_ten (S : Int) (D : Nat) (t : Int) : lov S D t = lov S D (t - 1) / 10 := by
  have h := sc S D 1 t
  have e1 : ((1 : Nat) : Int) = 1 := rfl
  rw [e1] at h
  have p1 := btv_pos D t
  have p2 := btv_pos D (t - 1)
  have e : lov S D (t - 1) = 10 * tpv S t / btv D t := by
    unfold lov
    refine div_ratio p2 p1 ?_
    rw [h]
    rfl
  rw [e, Int.ediv_ediv_of_nonneg (Int.le_of_lt p1), Int.mul_comm (btv D t) 10, Int.mul_ediv_mul_of_pos _ _ (by decide)]
  rfl
/-- the figures of the lower number -/
theorem lo_rng {S : Int} {D : Nat} {p : Int} (h1 : btv D p ≤ tpv S p) (h2 : tpv S p < 10 * btv D p) : ∀ i : Nat, (10 : Int) ^ i ≤ lov S D (p - i) ∧ lov S D (p - i) < 10 ^ (i + 1)
  | 0 => by
    have pp := btv_pos D p
    rw [Int.natCast_zero, Int.sub_zero, Int.pow_zero]
    unfold lov
    refine ⟨Int.le_ediv_of_mul_le pp (by omega), Int.ediv_lt_of_lt_mul pp ?_⟩
    show tpv S p < 10 ^ 1 * btv D p
    omega
  | i + 1 => by
    have ih := lo_rng h1 h2 i
    have e := lo_ten S D (p - i)
    rw [e, show p - (i : Int) - 1 = p - ((i + 1 : Nat) : Int) by omega] at ih
    have e1 : (10 : Int) ^ (i + 1) = 10 * 10 ^ i := by rw [Int.pow_succ, Int.mul_comm]
    have e2 : (10 : Int) ^ (i + 1 + 1) = 10 * 10 ^ (i + 1) := by rw [Int.pow_succ, Int.mul_comm]
    generalize lov S D (p - ((i + 1 : Nat) : Int)) = x at *
    omega
section
variable {a b : Nat}
/-- what is taken to s by even -/
def Rds (a b : Nat) (s M N : Int) : Prop := ∃ s', AtS' b M N s' ∧ tkW a b 0 false s' (side b M N s') = s
theorem Rds.ratio {s M N M' N' : Int} (h : 0 < N) (h' : 0 < N') (e : M * N' = M' * N) (r : Rds a b s M N) : Rds a b s M' N' := by
  obtain ⟨s', at1, tk⟩ := r
  refine ⟨s', at_ratio h h' e at1, ?_⟩
  rw [← side_ratio (b := b) (s := s') h h' e]
  exact tk
theorem Rds.at {s s' M N : Int} (h : 0 < N) (at1 : AtS' b M N s') : Rds a b s M N ↔ tkW a b 0 false s' (side b M N s') = s := by
  constructor
  · rintro ⟨s2, at2, tk⟩
    rw [at_uniq h at1 at2]
    exact tk
  · exact fun tk => ⟨s', at1, tk⟩
theorem tkW_lt {c : Nat} {u : Bool} {s z : Int} (h : tkG c u s z < (2 ^ a - 1) * 2 ^ b) : tkW a b c u s z = tkG c u s z + if u = true then 2 ^ (a + b) else 0 := by
  unfold tkW
  rw [if_neg (by omega)]
/-- a little below, or just there -/
theorem Rds.below {s M N : Int} (h : 0 < N) (s1 : 1 ≤ s) (sL : s < (2 ^ a - 1) * 2 ^ b) (lo : (st b (s - 1) + st b s) * N < 2 * M) (hi : M ≤ st b s * N) : Rds a b s M N := by
  rw [Int.add_mul] at lo
  by_cases c : M = st b s * N
  · have l1 := Int.mul_lt_mul_of_pos_right (st_lt1 (b := b) (show 0 ≤ s by omega)) h
    refine ⟨s, ⟨by omega, by omega, by omega⟩, ?_⟩
    have z0 : side b M N s = 0 := by unfold side sd; rw [if_pos (by omega)]
    have g : tkG 0 false s 0 = s := by unfold tkG; rw [if_neg (by omega)]
    rw [z0, tkW_lt (by rw [g]; exact sL), g]
    simp
  · have e1 : s - 1 + 1 = s := by omega
    have l1 := Int.mul_lt_mul_of_pos_right (st_lt1 (b := b) (show 0 ≤ s - 1 by omega)) h
    rw [e1] at l1
    refine ⟨s - 1, ⟨by omega, by omega, by rw [e1]; omega⟩, ?_⟩
    have z3 : side b M N (s - 1) = 3 := by
      unfold side sd
      rw [e1, Int.sub_mul, if_neg (by omega), if_neg (by omega), if_neg (by omega)]
    have g : tkG 0 false (s - 1) 3 = s := by
      unfold tkG
      rw [if_pos ⟨by decide, by simp [gw]⟩]
      omega
    rw [z3, tkW_lt (by rw [g]; exact sL), g]
    simp
abbrev RdN (a b : Nat) (s n t : Int) : Prop := Rds a b s (n * 10 ^ t.toNat * 2 ^ (-lpv a b).toNat) (10 ^ (-t).toNat)
theorem RdN.shift {s n t : Int} {z : Nat} (r : RdN a b s (n * 10 ^ z) t) : RdN a b s n (t + z) := by
  refine Rds.ratio (p10 _) (p10 _) ?_ r
  have e : (10 : Int) ^ z * 10 ^ t.toNat * 10 ^ (-(t + z)).toNat = 10 ^ (t + z).toNat * 10 ^ (-t).toNat := by
    rw [← Int.pow_add, ← Int.pow_add, ← Int.pow_add]
    congr 1
    omega
  calc n * 10 ^ z * 10 ^ t.toNat * 2 ^ (-lpv a b).toNat * 10 ^ (-(t + z)).toNat = n * (10 ^ z * 10 ^ t.toNat * 10 ^ (-(t + z)).toNat) * 2 ^ (-lpv a b).toNat := by simp only [Int.mul_assoc, Int.mul_left_comm, Int.mul_comm]
    _ = n * (10 ^ (t + z).toNat * 10 ^ (-t).toNat) * 2 ^ (-lpv a b).toNat := by rw [e]
    _ = n * 10 ^ (t + z).toNat * 2 ^ (-lpv a b).toNat * 10 ^ (-t).toNat := by simp only [Int.mul_assoc, Int.mul_left_comm, Int.mul_comm]
/-- with nineteen figures more it is read to the word -/
theorem stop_at (w : Wd a b) {s p : Int} (s1 : 1 ≤ s) (sL : s < (2 ^ a - 1) * 2 ^ b) (h1 : btv (-lpv a b).toNat p ≤ tpv (st b s) p) : RdN a b s (lov (st b s) (-lpv a b).toNat (p - 19)) (p - 19) := by
  have h4 := w.b2
  generalize hD : (-lpv a b).toNat = dp at *
  have pb := btv_pos dp (p - 19)
  have pb0 := btv_pos dp p
  have pN := p10 (-(p - 19)).toNat
  -- the gap below
  obtain ⟨P, q, es, q1, q2⟩ := size_form (b := b) (s := s - 1) (by omega)
  have q0 : 0 ≤ q := by have := pow2_pos b; omega
  have pbb := pow2_pos b
  have hs2 : (2 : Int) ^ (b + 1) = 2 * 2 ^ b := by rw [Int.pow_succ]; omega
  have st1 : st b (s - 1) = q * 2 ^ P := by rw [es, st_at (by omega)]
  have st2 : st b s = (q + 1) * 2 ^ P := by
    have e : s = (P : Int) * 2 ^ b + (q + 1) := by omega
    rw [e, st_at (by omega)]
  have pP := pow2_pos P
  have hs := sc (st b s) dp 19 p
  have e19 : ((19 : Nat) : Int) = 19 := rfl
  rw [e19] at hs
  generalize hT : tpv (st b s) (p - 19) = T at *
  generalize hB : btv dp (p - 19) = B at *
  have hTN : T = st b s * 10 ^ (-(p - 19)).toNat := by rw [← hT]; rfl
  -- ten ^ 19 steps at least
  have big : 10 ^ 19 * B ≤ T := by
    have x1 := Int.mul_le_mul_of_nonneg_left h1 (show (0 : Int) ≤ 10 ^ 19 by decide)
    have x2 := Int.mul_le_mul_of_nonneg_right x1 (Int.le_of_lt pb)
    rw [← hs] at x2
    have x3 : 10 ^ 19 * btv dp p * B = 10 ^ 19 * B * btv dp p := by simp only [Int.mul_assoc, Int.mul_left_comm, Int.mul_comm]
    rw [x3] at x2
    exact Int.le_of_mul_le_mul_right x2 pb0
  have gN : 2 * B ≤ 2 ^ P * 10 ^ (-(p - 19)).toNat := by
    have k1 : st b s ≤ 2 ^ (b + 1) * 2 ^ P := by
      rw [st2]
      exact Int.mul_le_mul_of_nonneg_right (by omega) (Int.le_of_lt pP)
    have k2 := Int.mul_le_mul_of_nonneg_right k1 (Int.le_of_lt pN)
    rw [← hTN] at k2
    have k3 : (2 : Int) ^ (b + 2) ≤ 10 ^ 19 := by
      have := pow_le_i (show b + 2 ≤ 62 by omega)
      have e : (2 : Int) ^ 62 ≤ 10 ^ 19 := by decide +kernel
      omega
    have k4 := Int.mul_le_mul_of_nonneg_right k3 (Int.le_of_lt pb)
    have k5 : (2 : Int) ^ (b + 2) * B = 2 ^ (b + 1) * (2 * B) := by rw [Int.pow_succ, Int.mul_assoc]
    rw [k5] at k4
    have k6 : 2 ^ (b + 1) * (2 * B) ≤ 2 ^ (b + 1) * (2 ^ P * 10 ^ (-(p - 19)).toNat) := by
      rw [Int.mul_assoc (2 ^ (b + 1)) (2 ^ P)] at k2
      omega
    exact Int.le_of_mul_le_mul_left k6 (pow2_pos _)
  have dm := Int.mul_ediv_add_emod T B
  have m0 := Int.emod_nonneg T (show B ≠ 0 by omega)
  have m1 := Int.emod_lt_of_pos T pb
  have el : lov (st b s) dp (p - 19) = T / B := by unfold lov; rw [hT, hB]
  have eM : lov (st b s) dp (p - 19) * 10 ^ (p - 19).toNat * 2 ^ dp = B * (T / B) := by
    have hB2 : B = 10 ^ (p - 19).toNat * 2 ^ dp := hB.symm
    rw [el]
    generalize T / B = x
    rw [hB2]
    simp only [Int.mul_assoc, Int.mul_left_comm, Int.mul_comm]
  unfold RdN
  rw [hD, eM]
  refine Rds.below pN s1 sL ?_ ?_
  · have e : (st b (s - 1) + st b s) * 10 ^ (-(p - 19)).toNat = 2 * T - 2 ^ P * 10 ^ (-(p - 19)).toNat := by
      rw [hTN, st1, st2]
      have : (q * 2 ^ P + (q + 1) * 2 ^ P) * (10 : Int) ^ (-(p - 19)).toNat = (2 * ((q + 1) * 2 ^ P) - 2 ^ P) * 10 ^ (-(p - 19)).toNat := by
        congr 1
        rw [Int.add_mul, Int.one_mul]
        omega
      rw [this, Int.sub_mul, Int.mul_assoc]
    rw [e]
    omega
  · rw [← hTN]
    omega
def fwB : Ss := (.cons (.asgT [7, 8] (.call "over_and_under" F.over_and_under (.cons (.bin .shl (.var 2) (.f2 .max (.var 3) (.int 0))) (.cons (.bin .sub (.int 0) (.var 6)) .nil)) []))
  (.cons (.asg 8 (.bin .shl (.var 8) (.f2 .max (.bin .sub (.int 0) (.var 3)) (.int 0))))
  (.cons (.asgT [9, 10] (.f2 .divmod (.var 7) (.var 8)))
  (.cons (.asg 11 (.var 9))
  (.cons (.asg 12 (.bin .add (.var 9) (.int 1)))
  (.cons (.ifs (.cmp .gt (.bin .mul (.int 2) (.var 10)) (.var 8)) (.cons (.asg 11 (.bin .add (.var 9) (.int 1)))
  (.cons (.asg 12 (.var 9))
  .nil)) .nil)
  (.cons (.ifs (.call "reads_to" F.reads_to (.cons (.var 0) (.cons (.var 1) (.cons (.var 11) (.cons (.var 6) .nil)))) []) (.cons (.ret (.tup (.cons (.var 11) (.cons (.var 6) .nil))))
  .nil) .nil)
  (.cons (.ifs (.call "reads_to" F.reads_to (.cons (.var 0) (.cons (.var 1) (.cons (.var 12) (.cons (.var 6) .nil)))) []) (.cons (.ret (.tup (.cons (.var 12) (.cons (.var 6) .nil))))
  .nil) .nil)
  (.cons (.asg 6 (.bin .sub (.var 6) (.int 1)))
  .nil)))))))))
theorem divmod_big {i j : Int} (h : 0 < j) (h2 : bits j ≤ 8000) : f2D .divmod (.int i) (.int j) = .ok (.tup [.int (i / j), .int (i % j)]) := by
  refine if_pos ⟨h, PyProof.noPylong_of_log2 ?_⟩
  have h3 : j.natAbs < 2 ^ 8000 := Bd.iff.mp h2
  exact (Nat.log2_lt (by omega)).mpr (Nat.lt_of_lt_of_le h3 (Nat.pow_le_pow_right (by decide) (by decide)))
theorem reads_to_ok (w : Wd a b) {s n t : Int} (n1 : 1 ≤ n) (bn : bits n ≤ 120) (t1 : -400 ≤ t) (t2 : t ≤ 400) : ∃ β : Bool, F.reads_to [.tup [.int a, .int b], .int s, .int n, .int t] = .ok (.bl β) ∧ (β = true ↔ RdN a b s n t) := by
  obtain ⟨l1, l2⟩ := w.lp
  have ou := over_under_ok (n := n) (t := t) (by omega) (by omega)
  have p1 := p10 t.toNat
  have p2 := p10 (-t).toNat
  have b1 := bits_ten t.toNat
  have b2 := bits_ten (-t).toNat
  have b3 : bits (n * 10 ^ t.toNat) ≤ bits n + bits ((10 : Int) ^ t.toNat) := Bd.mul (Nat.le_refl _) (Nat.le_refl _)
  have q0 : 0 < n * 10 ^ t.toNat := Int.mul_pos (by omega) p1
  obtain ⟨s', at1⟩ := at_ex (b := b) (M := n * 10 ^ t.toNat * 2 ^ (-lpv a b).toNat) (N := 10 ^ (-t).toNat) (Int.mul_nonneg (Int.le_of_lt q0) (Int.le_of_lt (pow2_pos _))) p2
  have rd := Rds.at (a := a) (s := s) p2 at1
  unfold RdN
  generalize n * 10 ^ t.toNat = Q at *
  generalize (10 : Int) ^ (-t).toNat = Y at *
  have tk := taken_at w (c := 0) (by decide) (n := Q) (k := 0) (d := Y) (M := Q * 2 ^ (-lpv a b).toNat) (N := Y) (s := s') (by omega) (by omega) p2 (by omega) (by omega) (by omega) (by omega) p2 (by
    rw [show ((Q.natAbs : Nat) : Int) = Q by omega, show (lpv a b - 0).toNat = 0 by omega, Int.pow_zero, Int.mul_one, Int.zero_sub]) at1
  rw [decide_eq_false (show ¬ Q < 0 by omega)] at tk
  have tk : F.taken [.tup [.int a, .int b], .int Q, .int 0, .int Y, .str [101, 118, 101, 110]] = _ := tk
  refine ⟨decide (tkW a b 0 false s' (side b (Q * 2 ^ (-lpv a b).toNat) Y s') = s), ?_, ?_⟩
  · simp only [F.reads_to, F.b_reads_to]
    rw [run_eq (by rfl)]
    simp only [List.map_cons, List.map_nil, List.replicate, List.cons_append, List.nil_append, Nat.reduceSub]
    refine seq (P := fun o => outR o = _) (by simp only [evSs, evS, evT, evE, evEs, evSrc, getS0, getSs, set0, setS, R.bind_ok, R.bind_ex, bind_ite, withR_ok, withR_ex, withR_ite, thenO_nxt, thenO_ret, thenO_ex, thenO_ite, outR_nxt, outR_ret, outR_ex, outR_ite, bool_ok, int_ok, bin_add, bin_sub, bin_mul, bin_fdiv, bin_mod, bin_shl, bin_shr, bin_pow, bin_and, bin_or, bin_xor, cmp_eq, cmp_ne, cmp_lt, cmp_le, cmp_gt, cmp_ge, add_int, sub_int, and_int, or_int, xor_int, neg_int, len_lst, len_tup, abs_int, int_int, int_bl, max_int, min_int, bits_int, ix_tup0, ix_tup1, ix_tup2, List.map_cons, List.map_nil, List.replicate, List.cons_append, List.nil_append, List.append_nil, List.length_cons, List.length_nil, decide_eq_true_eq, Nat.reduceSub, Nat.reduceAdd, Int.reduceToNat, setAll, Int.toNat_natCast, Int.one_mul, ou, decide_true, decide_false, Bool.not_true, Bool.not_false, Bool.false_eq_true, if_true, if_false]; rfl) ?_
    refine seq_ret (P := fun o => outR o = _) (by simp (disch := first | assumption | omega | decide +kernel | exact bsum (by (repeat' first | assumption | apply Bd.mod | apply Bd.shlm | apply Bd.shl | apply Bd.mul | apply Bd.add | apply Bd.sub | apply Bd.neg | apply Bd.abs | apply Bd.fdiv | apply Bd.pow2 | exact Bd.lit _ | decide | omega)) (by (repeat' first | assumption | apply Bd.mod | apply Bd.shlm | apply Bd.shl | apply Bd.mul | apply Bd.add | apply Bd.sub | apply Bd.neg | apply Bd.abs | apply Bd.fdiv | apply Bd.pow2 | exact Bd.lit _ | decide | omega)) (by decide +kernel) | (have := bits_one; have := bits_two; have := bits_three; omega)) only [evSs, evS, evT, evE, evEs, evSrc, getS0, getSs, set0, setS, R.bind_ok, R.bind_ex, bind_ite, withR_ok, withR_ex, withR_ite, thenO_nxt, thenO_ret, thenO_ex, thenO_ite, outR_nxt, outR_ret, outR_ex, outR_ite, bool_ok, int_ok, bin_add, bin_sub, bin_mul, bin_fdiv, bin_mod, bin_shl, bin_shr, bin_pow, bin_and, bin_or, bin_xor, cmp_eq, cmp_ne, cmp_lt, cmp_le, cmp_gt, cmp_ge, add_int, sub_int, and_int, or_int, xor_int, neg_int, len_lst, len_tup, abs_int, int_int, int_bl, max_int, min_int, bits_int, ix_tup0, ix_tup1, ix_tup2, List.map_cons, List.map_nil, List.replicate, List.cons_append, List.nil_append, List.append_nil, List.length_cons, List.length_nil, decide_eq_true_eq, Nat.reduceSub, Nat.reduceAdd, Int.reduceToNat, setAll, Int.toNat_natCast, Int.one_mul, tk, mul_ok, mod_ok, fdiv_ok, shl_ok, shr_ok, pow_ok, decide_true, decide_false, Bool.not_true, Bool.not_false, Bool.false_eq_true, if_true, if_false]; rfl) ?_
    rfl
  · rw [decide_eq_true_eq]
    exact rd.symm
/-- a word's size, its parts and its decade -/
structure Fw (a b : Nat) (s m e p : Int) : Prop where
  s1 : 1 ≤ s
  sL : s < (2 ^ a - 1) * 2 ^ b
  val : st b s = m * 2 ^ (e - lpv a b).toNat
  ge : lpv a b ≤ e
  le : e ≤ 3000
  m1 : 1 ≤ m
  bm : bits m ≤ 2200
  lo : btv (-lpv a b).toNat p ≤ tpv (st b s) p
  hi : tpv (st b s) p < 10 * btv (-lpv a b).toNat p
  p1 : -340 ≤ p
  p2 : p ≤ 330
def Fnd (a b : Nat) (s n t : Int) : Prop := RdN a b s n t ∧ ((n = lov (st b s) (-lpv a b).toNat t ∧ (¬ hgv (st b s) (-lpv a b).toNat t ∨ ¬ RdN a b s (lov (st b s) (-lpv a b).toNat t + 1) t)) ∨ (n = lov (st b s) (-lpv a b).toNat t + 1 ∧ (hgv (st b s) (-lpv a b).toNat t ∨ ¬ RdN a b s (lov (st b s) (-lpv a b).toNat t) t)))
theorem big_num {x : Int} (h0 : 0 ≤ x) (h : x ≤ 10 ^ 20) : bits x ≤ 120 := by
  refine Bd.iff.mpr ?_
  have e : (10 : Int) ^ 20 = 100000000000000000000 := rfl
  have e2 : (2 : Nat) ^ 120 = 1329227995784915872903807060280344576 := rfl
  omega
theorem fw_step (w : Wd a b) {s m e p : Int} (f : Fw a b s m e p) {i : Nat} (i19 : i ≤ 19) {t : Int} (ht : t = p - i) {x4 x5 s7 s8 s9 s10 s11 s12 : Slot} :
    ∃ nr fr : Int, ((hgv (st b s) (-lpv a b).toNat t ∧ nr = lov (st b s) (-lpv a b).toNat t + 1 ∧ fr = lov (st b s) (-lpv a b).toNat t) ∨ (¬ hgv (st b s) (-lpv a b).toNat t ∧ nr = lov (st b s) (-lpv a b).toNat t ∧ fr = lov (st b s) (-lpv a b).toNat t + 1)) ∧
      (RdN a b s nr t → evSs fwB [.dat (.tup [.int a, .int b]), .dat (.int s), .dat (.int m), .dat (.int e), x4, x5, .dat (.int t), s7, s8, s9, s10, s11, s12] = .ret (.tup [.int nr, .int t])) ∧
      (¬ RdN a b s nr t → RdN a b s fr t → evSs fwB [.dat (.tup [.int a, .int b]), .dat (.int s), .dat (.int m), .dat (.int e), x4, x5, .dat (.int t), s7, s8, s9, s10, s11, s12] = .ret (.tup [.int fr, .int t])) ∧
      (¬ RdN a b s nr t → ¬ RdN a b s fr t → ∃ s7' s8' s9' s10' s11' s12', evSs fwB [.dat (.tup [.int a, .int b]), .dat (.int s), .dat (.int m), .dat (.int e), x4, x5, .dat (.int t), s7, s8, s9, s10, s11, s12] = .nxt [.dat (.tup [.int a, .int b]), .dat (.int s), .dat (.int m), .dat (.int e), x4, x5, .dat (.int (t - 1)), s7', s8', s9', s10', s11', s12']) := by
  obtain ⟨l1, l2⟩ := w.lp
  obtain ⟨lo1, lo2⟩ := lo_rng f.lo f.hi i
  rw [← ht] at lo1 lo2
  have ge := f.ge; have le := f.le; have bm := f.bm; have fp1 := f.p1; have fp2 := f.p2; have m1 := f.m1
  have i20 : (10 : Int) ^ (i + 1) ≤ 10 ^ 20 := p10_le (by omega)
  have i0 : (1 : Int) ≤ 10 ^ i := by have := p10 i; omega
  -- the fraction
  have mx1 : max e 0 = ((e.toNat : Nat) : Int) := by omega
  have mx2 : max (0 - e) 0 = (((-e).toNat : Nat) : Int) := by omega
  have sh1 : shlD (.int m) (.int ((e.toNat : Nat) : Int)) = .ok (.int (m * 2 ^ e.toNat)) := shlN (by omega)
  have b1 : bits (m * 2 ^ e.toNat) ≤ 6000 := Nat.le_trans (Bd.shl _ bm) (by omega)
  have ou := over_under_ok (n := m * 2 ^ e.toNat) (t := 0 - t) (by omega) (by omega)
  have et1 : (0 - t).toNat = (-t).toNat := by omega
  have et2 : (-(0 - t)).toNat = t.toNat := by omega
  rw [et1, et2] at ou
  have b2 := bits_ten t.toNat
  have b3 := bits_ten (-t).toNat
  have sh2 : shlD (.int (10 ^ t.toNat)) (.int (((-e).toNat : Nat) : Int)) = .ok (.int (10 ^ t.toNat * 2 ^ (-e).toNat)) := shlN (by omega)
  have bY : bits ((10 : Int) ^ t.toNat * 2 ^ (-e).toNat) ≤ 8000 := Nat.le_trans (Bd.shl _ (Nat.le_refl _)) (by omega)
  have Y0 : 0 < (10 : Int) ^ t.toNat * 2 ^ (-e).toNat := Int.mul_pos (p10 _) (pow2_pos _)
  have rat : m * 2 ^ e.toNat * 10 ^ (-t).toNat * btv (-lpv a b).toNat t = tpv (st b s) t * (10 ^ t.toNat * 2 ^ (-e).toNat) := by
    unfold tpv btv
    rw [f.val]
    have ee : (2 : Int) ^ e.toNat * 2 ^ (-lpv a b).toNat = 2 ^ (e - lpv a b).toNat * 2 ^ (-e).toNat := by
      rw [← Int.pow_add, ← Int.pow_add]
      congr 1
      omega
    calc m * 2 ^ e.toNat * 10 ^ (-t).toNat * (10 ^ t.toNat * 2 ^ (-lpv a b).toNat) = m * (2 ^ e.toNat * 2 ^ (-lpv a b).toNat) * 10 ^ (-t).toNat * 10 ^ t.toNat := by simp only [Int.mul_assoc, Int.mul_left_comm, Int.mul_comm]
      _ = m * (2 ^ (e - lpv a b).toNat * 2 ^ (-e).toNat) * 10 ^ (-t).toNat * 10 ^ t.toNat := by rw [ee]
      _ = m * 2 ^ (e - lpv a b).toNat * 10 ^ (-t).toNat * (10 ^ t.toNat * 2 ^ (-e).toNat) := by simp only [Int.mul_assoc, Int.mul_left_comm, Int.mul_comm]
  have dv1 := div_ratio Y0 (btv_pos _ t) rat
  have hv1 := half_ratio Y0 (btv_pos _ t) rat
  generalize hX : m * 2 ^ e.toNat * 10 ^ (-t).toNat = X at *
  generalize hY : (10 : Int) ^ t.toNat * 2 ^ (-e).toNat = Y at *
  have el : lov (st b s) (-lpv a b).toNat t = X / Y := dv1.symm
  have eh : hgv (st b s) (-lpv a b).toNat t ↔ Y < 2 * (X % Y) := hv1.symm
  have dmq := divmod_big (i := X) Y0 bY
  have r0 := Int.emod_nonneg X (show Y ≠ 0 by omega)
  have r1 := Int.emod_lt_of_pos X Y0
  have bR : bits (X % Y) ≤ 8000 := bd_lt r0 (Int.le_of_lt r1) bY
  have m2 : mulD (.int 2) (.int (X % Y)) = .ok (.int (2 * (X % Y))) := mul_ok (by have := bits_two; omega)
  rw [el] at lo1 lo2
  rw [el, eh]
  generalize hq : X / Y = lw at *
  generalize hr : X % Y = rs at *
  obtain ⟨β0, rt0, hb0⟩ := reads_to_ok w (s := s) (n := lw) (t := t) (by omega) (big_num (by omega) (by omega)) (by omega) (by omega)
  obtain ⟨β1, rt1, hb1⟩ := reads_to_ok w (s := s) (n := lw + 1) (t := t) (by omega) (big_num (by omega) (by omega)) (by omega) (by omega)
  have fF : ∀ {β : Bool} {p : Prop}, (β = true ↔ p) → ¬ p → β = false := fun h hn => by
    rename_i β p
    cases β
    · rfl
    · exact absurd (h.mp rfl) hn
  by_cases c : Y < 2 * rs
  · refine ⟨lw + 1, lw, .inl ⟨c, rfl, rfl⟩, fun h => ?_, fun h h' => ?_, fun h h' => ⟨.dat (.int X), .dat (.int Y), .dat (.int lw), .dat (.int rs), .dat (.int (lw + 1)), .dat (.int lw), ?_⟩⟩
    · have k1 := hb1.mpr h
      rw [k1] at rt1
      simp only [fwB, evSs, evS, evT, evE, evEs, evSrc, getS0, getSs, set0, setS, R.bind_ok, R.bind_ex, bind_ite, withR_ok, withR_ex, withR_ite, thenO_nxt, thenO_ret, thenO_ex, thenO_ite, outR_nxt, outR_ret, outR_ex, outR_ite, bool_ok, int_ok, bin_add, bin_sub, bin_mul, bin_fdiv, bin_mod, bin_shl, bin_shr, bin_pow, bin_and, bin_or, bin_xor, cmp_eq, cmp_ne, cmp_lt, cmp_le, cmp_gt, cmp_ge, add_int, sub_int, and_int, or_int, xor_int, neg_int, len_lst, len_tup, abs_int, int_int, int_bl, max_int, min_int, bits_int, ix_tup0, ix_tup1, ix_tup2, List.map_cons, List.map_nil, List.replicate, List.cons_append, List.nil_append, List.append_nil, List.length_cons, List.length_nil, decide_eq_true_eq, Nat.reduceSub, Nat.reduceAdd, Int.reduceToNat, mx1, sh1, ou, mx2, setAll, sh2, dmq, m2, c, rt1, decide_true, decide_false, Bool.not_true, Bool.not_false, Bool.false_eq_true, if_true, if_false]
    · have k1 := fF hb1 h
      have k0 := hb0.mpr h'
      rw [k1] at rt1
      rw [k0] at rt0
      simp only [fwB, evSs, evS, evT, evE, evEs, evSrc, getS0, getSs, set0, setS, R.bind_ok, R.bind_ex, bind_ite, withR_ok, withR_ex, withR_ite, thenO_nxt, thenO_ret, thenO_ex, thenO_ite, outR_nxt, outR_ret, outR_ex, outR_ite, bool_ok, int_ok, bin_add, bin_sub, bin_mul, bin_fdiv, bin_mod, bin_shl, bin_shr, bin_pow, bin_and, bin_or, bin_xor, cmp_eq, cmp_ne, cmp_lt, cmp_le, cmp_gt, cmp_ge, add_int, sub_int, and_int, or_int, xor_int, neg_int, len_lst, len_tup, abs_int, int_int, int_bl, max_int, min_int, bits_int, ix_tup0, ix_tup1, ix_tup2, List.map_cons, List.map_nil, List.replicate, List.cons_append, List.nil_append, List.append_nil, List.length_cons, List.length_nil, decide_eq_true_eq, Nat.reduceSub, Nat.reduceAdd, Int.reduceToNat, mx1, sh1, ou, mx2, setAll, sh2, dmq, m2, c, rt1, rt0, decide_true, decide_false, Bool.not_true, Bool.not_false, Bool.false_eq_true, if_true, if_false]
    · have k1 := fF hb1 h
      have k0 := fF hb0 h'
      rw [k1] at rt1
      rw [k0] at rt0
      simp only [fwB, evSs, evS, evT, evE, evEs, evSrc, getS0, getSs, set0, setS, R.bind_ok, R.bind_ex, bind_ite, withR_ok, withR_ex, withR_ite, thenO_nxt, thenO_ret, thenO_ex, thenO_ite, outR_nxt, outR_ret, outR_ex, outR_ite, bool_ok, int_ok, bin_add, bin_sub, bin_mul, bin_fdiv, bin_mod, bin_shl, bin_shr, bin_pow, bin_and, bin_or, bin_xor, cmp_eq, cmp_ne, cmp_lt, cmp_le, cmp_gt, cmp_ge, add_int, sub_int, and_int, or_int, xor_int, neg_int, len_lst, len_tup, abs_int, int_int, int_bl, max_int, min_int, bits_int, ix_tup0, ix_tup1, ix_tup2, List.map_cons, List.map_nil, List.replicate, List.cons_append, List.nil_append, List.append_nil, List.length_cons, List.length_nil, decide_eq_true_eq, Nat.reduceSub, Nat.reduceAdd, Int.reduceToNat, mx1, sh1, ou, mx2, setAll, sh2, dmq, m2, c, rt1, rt0, decide_true, decide_false, Bool.not_true, Bool.not_false, Bool.false_eq_true, if_true, if_false]
  · refine ⟨lw, lw + 1, .inr ⟨c, rfl, rfl⟩, fun h => ?_, fun h h' => ?_, fun h h' => ⟨.dat (.int X), .dat (.int Y), .dat (.int lw), .dat (.int rs), .dat (.int lw), .dat (.int (lw + 1)), ?_⟩⟩
    · have k0 := hb0.mpr h
      rw [k0] at rt0
      simp only [fwB, evSs, evS, evT, evE, evEs, evSrc, getS0, getSs, set0, setS, R.bind_ok, R.bind_ex, bind_ite, withR_ok, withR_ex, withR_ite, thenO_nxt, thenO_ret, thenO_ex, thenO_ite, outR_nxt, outR_ret, outR_ex, outR_ite, bool_ok, int_ok, bin_add, bin_sub, bin_mul, bin_fdiv, bin_mod, bin_shl, bin_shr, bin_pow, bin_and, bin_or, bin_xor, cmp_eq, cmp_ne, cmp_lt, cmp_le, cmp_gt, cmp_ge, add_int, sub_int, and_int, or_int, xor_int, neg_int, len_lst, len_tup, abs_int, int_int, int_bl, max_int, min_int, bits_int, ix_tup0, ix_tup1, ix_tup2, List.map_cons, List.map_nil, List.replicate, List.cons_append, List.nil_append, List.append_nil, List.length_cons, List.length_nil, decide_eq_true_eq, Nat.reduceSub, Nat.reduceAdd, Int.reduceToNat, mx1, sh1, ou, mx2, setAll, sh2, dmq, m2, c, rt0, decide_true, decide_false, Bool.not_true, Bool.not_false, Bool.false_eq_true, if_true, if_false]
    · have k0 := fF hb0 h
      have k1 := hb1.mpr h'
      rw [k1] at rt1
      rw [k0] at rt0
      simp only [fwB, evSs, evS, evT, evE, evEs, evSrc, getS0, getSs, set0, setS, R.bind_ok, R.bind_ex, bind_ite, withR_ok, withR_ex, withR_ite, thenO_nxt, thenO_ret, thenO_ex, thenO_ite, outR_nxt, outR_ret, outR_ex, outR_ite, bool_ok, int_ok, bin_add, bin_sub, bin_mul, bin_fdiv, bin_mod, bin_shl, bin_shr, bin_pow, bin_and, bin_or, bin_xor, cmp_eq, cmp_ne, cmp_lt, cmp_le, cmp_gt, cmp_ge, add_int, sub_int, and_int, or_int, xor_int, neg_int, len_lst, len_tup, abs_int, int_int, int_bl, max_int, min_int, bits_int, ix_tup0, ix_tup1, ix_tup2, List.map_cons, List.map_nil, List.replicate, List.cons_append, List.nil_append, List.append_nil, List.length_cons, List.length_nil, decide_eq_true_eq, Nat.reduceSub, Nat.reduceAdd, Int.reduceToNat, mx1, sh1, ou, mx2, setAll, sh2, dmq, m2, c, rt1, rt0, decide_true, decide_false, Bool.not_true, Bool.not_false, Bool.false_eq_true, if_true, if_false]
    · have k0 := fF hb0 h
      have k1 := fF hb1 h'
      rw [k1] at rt1
      rw [k0] at rt0
      simp only [fwB, evSs, evS, evT, evE, evEs, evSrc, getS0, getSs, set0, setS, R.bind_ok, R.bind_ex, bind_ite, withR_ok, withR_ex, withR_ite, thenO_nxt, thenO_ret, thenO_ex, thenO_ite, outR_nxt, outR_ret, outR_ex, outR_ite, bool_ok, int_ok, bin_add, bin_sub, bin_mul, bin_fdiv, bin_mod, bin_shl, bin_shr, bin_pow, bin_and, bin_or, bin_xor, cmp_eq, cmp_ne, cmp_lt, cmp_le, cmp_gt, cmp_ge, add_int, sub_int, and_int, or_int, xor_int, neg_int, len_lst, len_tup, abs_int, int_int, int_bl, max_int, min_int, bits_int, ix_tup0, ix_tup1, ix_tup2, List.map_cons, List.map_nil, List.replicate, List.cons_append, List.nil_append, List.append_nil, List.length_cons, List.length_nil, decide_eq_true_eq, Nat.reduceSub, Nat.reduceAdd, Int.reduceToNat, mx1, sh1, ou, mx2, setAll, sh2, dmq, m2, c, rt1, rt0, decide_true, decide_false, Bool.not_true, Bool.not_false, Bool.false_eq_true, if_true, if_false]
theorem fw_loop (w : Wd a b) {s m e p : Int} (f : Fw a b s m e p) {x4 x5 : Slot} : ∀ (j i fu : Nat) (t : Int), i + j = 19 → t = p - i → j < fu → ∀ (s7 s8 s9 s10 s11 s12 : Slot),
    ∃ n t' : Int, whGo (fun ρ' => evT (.bl true) ρ') (fun ρ' => evSs fwB ρ') fu [.dat (.tup [.int a, .int b]), .dat (.int s), .dat (.int m), .dat (.int e), x4, x5, .dat (.int t), s7, s8, s9, s10, s11, s12] = .ret (.tup [.int n, .int t']) ∧
      Fnd a b s n t' ∧ p - 19 ≤ t' ∧ t' ≤ t ∧ ∀ t2, t' < t2 → t2 ≤ t → ¬ RdN a b s (lov (st b s) (-lpv a b).toNat t2) t2 ∧ ¬ RdN a b s (lov (st b s) (-lpv a b).toNat t2 + 1) t2 := by
  intro j
  induction j with
  | zero =>
    intro i fu t hi ht hf s7 s8 s9 s10 s11 s12
    obtain ⟨fu, rfl⟩ : ∃ f, fu = f + 1 := ⟨fu - 1, by omega⟩
    obtain ⟨nr, fr, h1, h2, h3, _⟩ := fw_step w f (i := i) (by omega) ht (x4 := x4) (x5 := x5) (s7 := s7) (s8 := s8) (s9 := s9) (s10 := s10) (s11 := s11) (s12 := s12)
    have stp := stop_at w f.s1 f.sL f.lo
    have et : p - 19 = t := by omega
    rw [et] at stp
    have tt : evT (.bl true) [.dat (.tup [.int a, .int b]), .dat (.int s), .dat (.int m), .dat (.int e), x4, x5, .dat (.int t), s7, s8, s9, s10, s11, s12] = .ok true := rfl
    by_cases c : RdN a b s nr t
    · refine ⟨nr, t, ?_, ⟨c, ?_⟩, by omega, Int.le_refl _, fun t2 q1 q2 => by omega⟩
      · rw [whGo]
        simp only [tt, h2 c, withR_ok, if_true, thenO_ret]
      · rcases h1 with ⟨g1, g2, _⟩ | ⟨g1, g2, _⟩
        · exact .inr ⟨g2, .inl g1⟩
        · exact .inl ⟨g2, .inl g1⟩
    · rcases h1 with ⟨g1, g2, g3⟩ | ⟨g1, g2, g3⟩
      · have cf : RdN a b s fr t := by rw [g3]; exact stp
        refine ⟨fr, t, ?_, ⟨cf, .inl ⟨g3, .inr (by rw [← g2]; exact c)⟩⟩, by omega, Int.le_refl _, fun t2 q1 q2 => by omega⟩
        rw [whGo]
        simp only [tt, h3 c cf, withR_ok, if_true, thenO_ret]
      · exact absurd (by rw [g2]; exact stp) c
  | succ j ih =>
    intro i fu t hi ht hf s7 s8 s9 s10 s11 s12
    obtain ⟨fu, rfl⟩ : ∃ f, fu = f + 1 := ⟨fu - 1, by omega⟩
    obtain ⟨nr, fr, h1, h2, h3, h4⟩ := fw_step w f (i := i) (by omega) ht (x4 := x4) (x5 := x5) (s7 := s7) (s8 := s8) (s9 := s9) (s10 := s10) (s11 := s11) (s12 := s12)
    have tt : evT (.bl true) [.dat (.tup [.int a, .int b]), .dat (.int s), .dat (.int m), .dat (.int e), x4, x5, .dat (.int t), s7, s8, s9, s10, s11, s12] = .ok true := rfl
    by_cases c : RdN a b s nr t
    · refine ⟨nr, t, ?_, ⟨c, ?_⟩, by omega, Int.le_refl _, fun t2 q1 q2 => by omega⟩
      · rw [whGo]
        simp only [tt, h2 c, withR_ok, if_true, thenO_ret]
      · rcases h1 with ⟨g1, g2, _⟩ | ⟨g1, g2, _⟩
        · exact .inr ⟨g2, .inl g1⟩
        · exact .inl ⟨g2, .inl g1⟩
    · by_cases cf : RdN a b s fr t
      · refine ⟨fr, t, ?_, ⟨cf, ?_⟩, by omega, Int.le_refl _, fun t2 q1 q2 => by omega⟩
        · rw [whGo]
          simp only [tt, h3 c cf, withR_ok, if_true, thenO_ret]
        · rcases h1 with ⟨g1, g2, g3⟩ | ⟨g1, g2, g3⟩
          · exact .inl ⟨g3, .inr (by rw [← g2]; exact c)⟩
          · exact .inr ⟨g3, .inr (by rw [← g2]; exact c)⟩
      · obtain ⟨s7', s8', s9', s10', s11', s12', ev⟩ := h4 c cf
        obtain ⟨n, t', e1, e2, e3, e4, e5⟩ := ih (i + 1) fu (t - 1) (by omega) (by omega) (by omega) s7' s8' s9' s10' s11' s12'
        refine ⟨n, t', ?_, e2, e3, by omega, fun t2 q1 q2 => ?_⟩
        · rw [whGo]
          simp only [tt, ev, withR_ok, if_true, thenO_nxt]
          exact e1
        · by_cases q : t2 ≤ t - 1
          · exact e5 t2 q1 q
          · have et : t2 = t := by omega
            rw [et]
            rcases h1 with ⟨g1, g2, g3⟩ | ⟨g1, g2, g3⟩
            · exact ⟨by rw [← g3]; exact cf, by rw [← g2]; exact c⟩
            · exact ⟨by rw [← g2]; exact c, by rw [← g3]; exact cf⟩
end
end MP

namespace MP
def K76.b_law_l1 : Ss := (.cons (.ifs (.not (.call "_law_told" G.told_76 (.cons (.var 1) (.cons (.call "_law_word" G.word_02 (.cons (.var 1) (.cons (.var 4) .nil)) []) .nil)) [])) (.cons (.ret (.bl false))
  .nil) .nil)
  .nil)
def K76.b_law : Ss := (.cons (.asg 1 (.call "_law_wide" G.wide_14 (.cons (.call "_law_cell_at" G.cell_at_01 (.cons (.var 0) (.cons (.int 0) .nil)) []) .nil) []))
  (.cons (.asg 2 (.call "width_of" F.width_of (.cons (.ix (.var 1) (.int 0)) (.cons (.ix (.var 1) (.int 1)) .nil)) []))
  (.cons (.asg 3 (.bin .shl (.int 1) (.bin .add (.ix (.var 1) (.int 0)) (.ix (.var 1) (.int 1)))))
  (.cons (.fors 4 (.e (.slc (.var 0) (.int 1) (.int 5))) K76.b_law_l1)
  (.cons (.asg 5 (.bin .add (.str [49, 101]) (.f1 .str (.bin .sub (.bin .mod (.bin .mod (.bin .mul (.call "_law_cell_at" G.cell_at_01 (.cons (.var 0) (.cons (.int 1) .nil)) []) (.int 48271)) (.int 1000003)) (.int 41)) (.int 20)))))
  (.cons (.ifs (.not (.call "_law_told" G.told_76 (.cons (.var 1) (.cons (.ix (.call "read" F.read (.cons (.var 2) (.cons (.var 5) (.cons (.str [100, 111, 119, 110]) .nil))) []) (.int 0)) .nil)) [])) (.cons (.ret (.bl false))
  .nil) .nil)
  (.cons (.ret (.cmp .eq (.call "shortest" F.shortest (.cons (.var 2) (.cons (.int 1) .nil)) []) (.slcL (.call "shortest" F.shortest (.cons (.var 2) (.cons (.bin .add (.var 3) (.int 1)) .nil)) []) (.int 1))))
  .nil)))))))
def K76.law (a : List D) : R D := run 6 1 K76.b_law a
end MP

set_option linter.all false
set_option autoImplicit false
set_option exponentiation.threshold 20000
namespace MP
open PySem
section
variable {a b : Nat}
theorem len_num {N : Nat} (h : 0 < N) : ∃ k, (TL.numL N).length = k + 1 ∧ 10 ^ k ≤ N ∧ N < 10 ^ (k + 1) := by
  have h1 : N < 10 ^ (TL.numL N).length := by
    have := dv_lt (fig_num N)
    rw [show dv (TL.numL N) = N from TL.numL_val N] at this
    exact this
  have h0 : (TL.numL N).length ≠ 0 := fun q => TL.numL_ne N (List.eq_nil_of_length_eq_zero q)
  obtain ⟨k, hk⟩ : ∃ k, (TL.numL N).length = k + 1 := ⟨(TL.numL N).length - 1, by omega⟩
  refine ⟨k, hk, ?_, by rw [← hk]; exact h1⟩
  by_cases c : k = 0
  · rw [c, Nat.pow_zero]; omega
  · by_cases d : 10 ^ k ≤ N
    · exact d
    · have := TL.numL_len (n := N) (k := k) (by omega) (by omega)
      omega
theorem fewest_ok (w : Wd a b) {s : Int} (s1 : 1 ≤ s) (sL : s < (2 ^ a - 1) * 2 ^ b) : ∃ n t p m e : Int, F.fewest [.tup [.int a, .int b], .int s] = .ok (.tup [.int n, .int t]) ∧ Fw a b s m e p ∧ Fnd a b s n t ∧ p - 19 ≤ t ∧ t ≤ p ∧
    ∀ t2, t < t2 → t2 ≤ p → ¬ RdN a b s (lov (st b s) (-lpv a b).toNat t2) t2 ∧ ¬ RdN a b s (lov (st b s) (-lpv a b).toNat t2 + 1) t2 := by
  obtain ⟨L, H, eL, eH, hL, hLH, eW⟩ := w.lh
  obtain ⟨l1, l2⟩ := w.lp
  have sm : s % 2 ^ (a + b) = s := Int.emod_eq_of_lt (by omega) (by omega)
  obtain ⟨m, e, N, be, ev, fo, h1, h2, h3, h4, h5, h6, h7⟩ := dec_ex w (by omega) sL
  obtain ⟨m', e', ev', rp⟩ := value_rp w (x := s) (by omega) (by omega) (by rw [sm]; exact sL)
  have emm : m' = m ∧ e' = e := by
    rw [ev] at ev'
    injection ev' with q
    injection q with q
    injection q with q1 q2
    injection q1 with q1
    injection q2 with q2 q3
    injection q2 with q2
    exact ⟨q1.symm, q2.symm⟩
  obtain ⟨rfl, rfl⟩ := emm
  have sv : sgv a b s = st b s := by
    unfold sgv
    rw [if_neg (by omega), sm]
  rw [sv] at rp
  have sn := st_nn (b := b) (show 0 ≤ s by omega)
  have z0 := st_eq0 (b := b) (show 0 ≤ s by omega)
  have bs := st_bits w (show 0 ≤ s by omega) (by omega)
  have pj := pow2_pos (e' - lpv a b).toNat
  have val := rp.val
  have mp : 1 ≤ m' := by
    by_cases c : 1 ≤ m'
    · exact c
    · have := Int.mul_le_mul_of_nonneg_right (show m' ≤ 0 by omega) (Int.le_of_lt pj)
      omega
  have mle : m' ≤ st b s := by
    rw [val]
    have := Int.mul_le_mul_of_nonneg_left (show (1 : Int) ≤ 2 ^ (e' - lpv a b).toNat by omega) (show 0 ≤ m' by omega)
    omega
  have bm : bits m' ≤ 2200 := bd_lt (by omega) mle bs
  have el : e' ≤ 3000 := by have := rp.top (by omega); omega
  obtain ⟨k, hk, k1, k2⟩ := len_num (N := N) (by omega)
  obtain ⟨p, hp⟩ : ∃ p : Int, p = (k : Int) - be := ⟨_, rfl⟩
  have c1 : ((10 ^ k : Nat) : Int) = (10 : Int) ^ k := by rw [Int.natCast_pow]; rfl
  have c2 : ((10 ^ (k + 1) : Nat) : Int) = (10 : Int) ^ (k + 1) := by rw [Int.natCast_pow]; rfl
  have kN : (10 : Int) ^ k ≤ N := by rw [← c1]; omega
  have kN2 : (N : Int) < 10 ^ (k + 1) := by rw [← c2]; omega
  have pq := p10 (-p).toNat
  have pbe := p10 be
  have pD := pow2_pos (-lpv a b).toNat
  have ex : (10 : Int) ^ p.toNat * 10 ^ be = 10 ^ k * 10 ^ (-p).toNat := by
    rw [← Int.pow_add, ← Int.pow_add]
    congr 1
    omega
  have tN : tpv (st b s) p * 10 ^ be = N * 10 ^ (-p).toNat * 2 ^ (-lpv a b).toNat := by
    unfold tpv
    calc st b s * 10 ^ (-p).toNat * 10 ^ be = st b s * 10 ^ be * 10 ^ (-p).toNat := by simp only [Int.mul_assoc, Int.mul_left_comm, Int.mul_comm]
      _ = (N : Int) * 2 ^ (-lpv a b).toNat * 10 ^ (-p).toNat := by rw [h1]
      _ = _ := by simp only [Int.mul_assoc, Int.mul_left_comm, Int.mul_comm]
  have bN : btv (-lpv a b).toNat p * 10 ^ be = 10 ^ k * 10 ^ (-p).toNat * 2 ^ (-lpv a b).toNat := by
    unfold btv
    calc (10 : Int) ^ p.toNat * 2 ^ (-lpv a b).toNat * 10 ^ be = 10 ^ p.toNat * 10 ^ be * 2 ^ (-lpv a b).toNat := by simp only [Int.mul_assoc, Int.mul_left_comm, Int.mul_comm]
      _ = _ := by rw [ex]
  have lo : btv (-lpv a b).toNat p ≤ tpv (st b s) p := by
    refine Int.le_of_mul_le_mul_right ?_ pbe
    rw [tN, bN]
    exact Int.mul_le_mul_of_nonneg_right (Int.mul_le_mul_of_nonneg_right kN (Int.le_of_lt pq)) (Int.le_of_lt pD)
  have hi : tpv (st b s) p < 10 * btv (-lpv a b).toNat p := by
    refine Int.lt_of_mul_lt_mul_right (a := 10 ^ be) ?_ (Int.le_of_lt pbe)
    rw [tN, Int.mul_assoc 10, bN]
    have e1 : 10 * ((10 : Int) ^ k * 10 ^ (-p).toNat * 2 ^ (-lpv a b).toNat) = 10 ^ (k + 1) * 10 ^ (-p).toNat * 2 ^ (-lpv a b).toNat := by
      rw [Int.pow_succ, Int.mul_comm (10 ^ k) 10]
      simp only [Int.mul_assoc]
    rw [e1]
    exact Int.mul_lt_mul_of_pos_right (Int.mul_lt_mul_of_pos_right kN2 pq) pD
  have nl := TL.numL_len (n := N) (k := be + 320) (by omega) h4
  have pl : -340 ≤ p := by
    by_cases c : -340 ≤ p
    · exact c
    · exfalso
      have q1 : p.toNat = 0 := by omega
      unfold tpv btv at hi
      rw [q1, Int.pow_zero, Int.one_mul] at hi
      have q2 := p10_le (show 341 ≤ (-p).toNat by omega)
      have q3 := pow_le_i (show (-lpv a b).toNat ≤ 1082 by omega)
      have q4 : 10 * (2 : Int) ^ 1082 < 10 ^ 341 := by decide +kernel
      have q5 := Int.mul_le_mul_of_nonneg_right (show (1 : Int) ≤ st b s by omega) (Int.le_of_lt pq)
      generalize (2 : Int) ^ 1082 = u1 at *
      generalize (10 : Int) ^ 341 = u2 at *
      omega
  have fw : Fw a b s m' e' p := ⟨s1, sL, val, rp.ge, el, mp, bm, lo, hi, pl, by omega⟩
  have ln := len_str (l := TL.numL N) (by omega)
  obtain ⟨n, t, e1, e2, e3, e4, e5⟩ := fw_loop w fw (x4 := .dat (.str (TL.numL N))) (x5 := .dat (.int (be : Int))) 19 0 fuel p (by omega) (by simp) (by decide) .un .un .un .un .un .un
  refine ⟨n, t, p, m', e', ?_, fw, e2, e3, e4, e5⟩
  simp only [F.fewest, F.b_fewest]
  rw [run_eq (by rfl)]
  simp only [List.map_cons, List.map_nil, List.replicate, List.cons_append, List.nil_append, Nat.reduceSub]
  refine seq (P := fun o => outR o = R.ok (D.tup [D.int n, D.int t])) (by simp only [evSs, evS, evT, evE, evEs, evSrc, getS0, getSs, set0, setS, R.bind_ok, R.bind_ex, bind_ite, withR_ok, withR_ex, withR_ite, thenO_nxt, thenO_ret, thenO_ex, thenO_ite, outR_nxt, outR_ret, outR_ex, outR_ite, bool_ok, int_ok, bin_add, bin_sub, bin_mul, bin_fdiv, bin_mod, bin_shl, bin_shr, bin_pow, bin_and, bin_or, bin_xor, cmp_eq, cmp_ne, cmp_lt, cmp_le, cmp_gt, cmp_ge, add_int, sub_int, and_int, or_int, xor_int, neg_int, len_lst, len_tup, abs_int, int_int, int_bl, max_int, min_int, bits_int, ix_tup0, ix_tup1, ix_tup2, List.map_cons, List.map_nil, List.replicate, List.cons_append, List.nil_append, List.append_nil, List.length_cons, List.length_nil, decide_eq_true_eq, Nat.reduceSub, Nat.reduceAdd, Int.reduceToNat, setAll, Int.toNat_natCast, Int.one_mul, ev, decide_true, decide_false, Bool.not_true, Bool.not_false, Bool.false_eq_true, if_true, if_false]; rfl) ?_
  refine seq (P := fun o => outR o = R.ok (D.tup [D.int n, D.int t])) (by simp only [evSs, evS, evT, evE, evEs, evSrc, getS0, getSs, set0, setS, R.bind_ok, R.bind_ex, bind_ite, withR_ok, withR_ex, withR_ite, thenO_nxt, thenO_ret, thenO_ex, thenO_ite, outR_nxt, outR_ret, outR_ex, outR_ite, bool_ok, int_ok, bin_add, bin_sub, bin_mul, bin_fdiv, bin_mod, bin_shl, bin_shr, bin_pow, bin_and, bin_or, bin_xor, cmp_eq, cmp_ne, cmp_lt, cmp_le, cmp_gt, cmp_ge, add_int, sub_int, and_int, or_int, xor_int, neg_int, len_lst, len_tup, abs_int, int_int, int_bl, max_int, min_int, bits_int, ix_tup0, ix_tup1, ix_tup2, List.map_cons, List.map_nil, List.replicate, List.cons_append, List.nil_append, List.append_nil, List.length_cons, List.length_nil, decide_eq_true_eq, Nat.reduceSub, Nat.reduceAdd, Int.reduceToNat, setAll, Int.toNat_natCast, Int.one_mul, fo, decide_true, decide_false, Bool.not_true, Bool.not_false, Bool.false_eq_true, if_true, if_false]; rfl) ?_
  have ep : ((TL.numL N).length : Int) - (be : Int) - 1 = p := by omega
  refine seq (P := fun o => outR o = R.ok (D.tup [D.int n, D.int t])) (by simp only [evSs, evS, evT, evE, evEs, evSrc, getS0, getSs, set0, setS, R.bind_ok, R.bind_ex, bind_ite, withR_ok, withR_ex, withR_ite, thenO_nxt, thenO_ret, thenO_ex, thenO_ite, outR_nxt, outR_ret, outR_ex, outR_ite, bool_ok, int_ok, bin_add, bin_sub, bin_mul, bin_fdiv, bin_mod, bin_shl, bin_shr, bin_pow, bin_and, bin_or, bin_xor, cmp_eq, cmp_ne, cmp_lt, cmp_le, cmp_gt, cmp_ge, add_int, sub_int, and_int, or_int, xor_int, neg_int, len_lst, len_tup, abs_int, int_int, int_bl, max_int, min_int, bits_int, ix_tup0, ix_tup1, ix_tup2, List.map_cons, List.map_nil, List.replicate, List.cons_append, List.nil_append, List.append_nil, List.length_cons, List.length_nil, decide_eq_true_eq, Nat.reduceSub, Nat.reduceAdd, Int.reduceToNat, setAll, Int.toNat_natCast, Int.one_mul, ln, ep, decide_true, decide_false, Bool.not_true, Bool.not_false, Bool.false_eq_true, if_true, if_false]; rfl) ?_
  refine seq_ret (P := fun o => outR o = R.ok (D.tup [D.int n, D.int t])) (show evS (.whl _ fwB) _ = _ from e1) ?_
  rfl
/-! ### the shortest text -/
theorem rstrip_id {l r : List Nat} {d : Nat} (e : l = r ++ [d]) (hd : d ≠ 48) (hl : l.length ≤ 1000) : tmD .rstrip (.str l) (.str [48]) = .ok (.str l) := by
  show (if l.length ≤ line then R.ok (ofS (Txt.rstripChars (toS l) (toS [48]))) else .no) = _
  rw [if_pos (Nat.le_trans hl (by decide))]
  have e2 : ((toS l).cps.toList.drop 0).reverse.takeWhile (toS [48]).cps.contains = [] := by
    show l.reverse.takeWhile _ = []
    rw [e, List.reverse_append]
    show (d :: r.reverse).takeWhile _ = []
    rw [List.takeWhile_cons, if_neg]
    show ¬ (#[48].contains d = true)
    simp
    exact hd
  have e0 : stripLo (toS [48]).cps.contains false (toS l) = 0 := rfl
  have e3 : stripHi (toS [48]).cps.contains true (toS l) 0 = (toS l).length := by
    unfold stripHi
    rw [if_pos rfl, e2]
    rfl
  have e4 : Txt.rstripChars (toS l) (toS [48]) = toS l := by
    unfold Txt.rstripChars Txt.stripBy stripSame
    rw [e0, e3]
    exact if_pos (by simp)
  rw [e4]
  rfl
theorem rstrip_ten : tmD .rstrip (.str [49, 48]) (.str [48]) = .ok (.str [49]) := by
  show (if [49, 48].length ≤ line then R.ok (ofS (Txt.rstripChars (toS [49, 48]) (toS [48]))) else .no) = _
  rw [if_pos (by decide)]
  have e4 : (Txt.rstripChars (toS [49, 48]) (toS [48])).cps.toList = [49] := by decide +kernel
  unfold ofS
  rw [e4]
/-- the figures told, and where they stand -/
structure Sh (a b : Nat) (s : Int) (c : Nat) (r : List Nat) (P p : Int) : Prop where
  c1 : 49 ≤ c
  c2 : c ≤ 57
  fr : Fig r
  last : r ≠ [] → ∃ r' d, r = r' ++ [d] ∧ d ≠ 48
  len : r.length ≤ 19
  fw : ∃ m e, Fw a b s m e p
  P2 : P = p ∨ P = p + 1 ∧ r = []
  fnd : Fnd a b s ((dv (c :: r) : Nat) * 10 ^ (P - p).toNat) (p - r.length)
  rd : RdN a b s (dv (c :: r) : Nat) (P - r.length)
  mn : ∀ t2, p - r.length < t2 → t2 ≤ p → ¬ RdN a b s (lov (st b s) (-lpv a b).toNat t2) t2 ∧ ¬ RdN a b s (lov (st b s) (-lpv a b).toNat t2 + 1) t2
def qr (r : List Nat) : Option (List Nat) := if r = [] then none else some r
def pwP (P : Int) : Pw := some (decide (P < 0), TL.numL P.natAbs)
theorem pwT_P (P : Int) : pwT (pwP P) = 101 :: pwL P := by
  unfold pwP pwT pwL
  by_cases c : P < 0
  · rw [decide_eq_true c, if_pos c]; rfl
  · rw [decide_eq_false c, if_neg c]; rfl
theorem pwV_P (P : Int) : pwV (pwP P) = P := by
  have e : dv (TL.numL P.natAbs) = P.natAbs := TL.numL_val _
  unfold pwP pwV
  simp only [e]
  by_cases c : P < 0
  · rw [decide_eq_true c, if_pos rfl]; omega
  · rw [decide_eq_false c, if_neg (by simp)]; omega
theorem pw_ok {P : Int} (h : P.natAbs < 1000) : PwOk (pwP P) := fun v f hv => by
  cases hv
  exact ⟨fig_num _, TL.numL_ne _, TL.numL_len (n := P.natAbs) (k := 3) (by decide) h⟩
theorem str_pw {P : Int} (h : P.natAbs < 1000) : f1D .str (.int P) = .ok (.str (pwL P)) := str_int (Nat.lt_trans h (Nat.lt_of_lt_of_le (by decide : 1000 < 2 ^ 10) (Nat.pow_le_pow_right (by decide) (by decide))))
theorem short_ex (w : Wd a b) {s : Int} (s1 : 1 ≤ s) (sL : s < (2 ^ a - 1) * 2 ^ b) : ∃ (c : Nat) (r : List Nat) (P p : Int), Sh a b s c r P p ∧ ∀ x : Int, 0 ≤ x → x < 2 ^ (1 + a + b) → x % 2 ^ (a + b) = s →
    F.shortest [.tup [.int a, .int b], .int x] = .ok (.str (gx (decide (2 ^ (a + b) ≤ x)) [c] (qr r) (some (decide (P < 0), TL.numL P.natAbs)))) := by
  obtain ⟨n, t, p, m, e, ef, fw, fnd, t1, t2, mn⟩ := fewest_ok w s1 sL
  have fp1 := fw.p1; have fp2 := fw.p2
  obtain ⟨i, hi⟩ : ∃ i : Nat, t = p - i := ⟨(p - t).toNat, by omega⟩
  obtain ⟨lo1, lo2⟩ := lo_rng fw.lo fw.hi i
  rw [← hi] at lo1 lo2
  have i20 : (10 : Int) ^ (i + 1) ≤ 10 ^ 20 := p10_le (by omega)
  have i0 := p10 i
  have nlo : lov (st b s) (-lpv a b).toNat t ≤ n ∧ n ≤ lov (st b s) (-lpv a b).toNat t + 1 := by
    rcases fnd.2 with ⟨q, _⟩ | ⟨q, _⟩ <;> omega
  obtain ⟨nn, hnn⟩ : ∃ nn : Nat, (nn : Int) = n := ⟨n.toNat, by omega⟩
  have nb : n ≤ 10 ^ 20 := by omega
  have e20 : (10 : Int) ^ 20 = 100000000000000000000 := rfl
  have nst : f1D .str (.int n) = .ok (.str (TL.numL nn)) := by
    rw [← hnn]
    exact str_nat (Nat.lt_trans (show nn < 2 ^ 70 by have : (2 : Nat) ^ 70 = 1180591620717411303424 := rfl; omega) (Nat.pow_lt_pow_right (by decide) (by decide)))
  have key : ∃ (c : Nat) (r : List Nat) (P : Int), Sh a b s c r P p ∧ tmD .rstrip (.str (TL.numL nn)) (.str [48]) = .ok (.str (c :: r)) ∧ t + (TL.numL nn).length - 1 = P := by
    by_cases c10 : n % 10 = 0
    · -- ten, at the first place
      have tp : t = p := by
        by_cases q : t = p
        · exact q
        · exfalso
          obtain ⟨m1, m2⟩ := mn (t + 1) (by omega) (by omega)
          have l10 := lo_ten (st b s) (-lpv a b).toNat (t + 1)
          rw [show t + 1 - 1 = t by omega] at l10
          have sh : RdN a b s (n / 10) (t + 1) := by
            have r := fnd.1
            have en : n = n / 10 * 10 ^ 1 := by rw [show (10 : Int) ^ 1 = 10 from rfl]; omega
            rw [en] at r
            exact RdN.shift (z := 1) r
          rcases fnd.2 with ⟨q1, _⟩ | ⟨q1, _⟩
          · exact m1 (by rw [l10, ← q1]; exact sh)
          · refine m2 ?_
            have : lov (st b s) (-lpv a b).toNat (t + 1) + 1 = n / 10 := by rw [l10]; omega
            rw [this]
            exact sh
      have i00 : i = 0 := by omega
      rw [i00] at lo1 lo2
      have e1 : (10 : Int) ^ (0 + 1) = 10 := rfl
      have e0 : (10 : Int) ^ 0 = 1 := rfl
      have n10 : n = 10 := by omega
      have nn10 : nn = 10 := by omega
      have f10 : TL.numL 10 = [49, 48] := by decide +kernel
      refine ⟨49, [], p + 1, ⟨by decide, by decide, Fig.nil, fun q => absurd rfl q, by simp, ⟨m, e, fw⟩, .inr ⟨rfl, rfl⟩, ?_, ?_, fun t2 q1 q2 => by simp at q1; omega⟩, ?_, ?_⟩
      · have d1 : ((dv [49] : Nat) : Int) * 10 ^ (p + 1 - p).toNat = n := by
          rw [show (p + 1 - p).toNat = 1 by omega, n10]
          rfl
        have d2 : p - (([] : List Nat).length : Nat) = t := by simp; omega
        rw [d1, d2]
        exact fnd
      · have d2 : p + 1 - (([] : List Nat).length : Nat) = t + (1 : Nat) := by simp; omega
        rw [d2]
        refine RdN.shift (z := 1) ?_
        have d1 : ((dv [49] : Nat) : Int) * 10 ^ 1 = n := by rw [n10]; rfl
        rw [d1]
        exact fnd.1
      · rw [nn10, f10]
        exact rstrip_ten
      · rw [nn10, f10]
        simp
        omega
    · have lt : n < 10 ^ (i + 1) := by
        by_cases q : n < 10 ^ (i + 1)
        · exact q
        · exfalso
          have : n = 10 ^ (i + 1) := by omega
          rw [this, Int.pow_succ] at c10
          omega
      obtain ⟨k, hk, k1, k2⟩ := len_num (N := nn) (by omega)
      have cc1 : ((10 ^ k : Nat) : Int) = (10 : Int) ^ k := by rw [Int.natCast_pow]; rfl
      have cc2 : ((10 ^ (k + 1) : Nat) : Int) = (10 : Int) ^ (k + 1) := by rw [Int.natCast_pow]; rfl
      have ki : k = i := by
        by_cases q : k < i
        · have := p10_le (show k + 1 ≤ i by omega)
          rw [← cc2] at this
          omega
        · by_cases q2 : i < k
          · have := p10_le (show i + 1 ≤ k by omega)
            rw [← cc1] at this
            omega
          · omega
      obtain ⟨c, r, ec, c1, c2⟩ := numL_hd (n := nn) (by omega)
      have lr : r.length = i := by rw [ec, List.length_cons] at hk; omega
      obtain ⟨r0, er⟩ := numL_last nn
      have dvn : dv (c :: r) = nn := by rw [← ec]; exact TL.numL_val nn
      have d9 : 48 + nn % 10 ≠ 48 := by omega
      refine ⟨c, r, p, ⟨c1, c2, fun d hd => (fig_num nn) d (by rw [ec]; exact List.mem_cons_of_mem _ hd), fun q => ?_, by omega, ⟨m, e, fw⟩, .inl rfl, ?_, ?_, ?_⟩, ?_, by omega⟩
      · rw [ec] at er
        cases r0 with
        | nil =>
          rw [List.nil_append] at er
          exact absurd (List.cons.inj er).2 q
        | cons x y =>
          rw [List.cons_append] at er
          exact ⟨y, _, (List.cons.inj er).2, d9⟩
      · have d1 : ((dv (c :: r) : Nat) : Int) * 10 ^ (p - p).toNat = n := by rw [dvn, show (p - p).toNat = 0 by omega, Int.pow_zero, Int.mul_one, hnn]
        have d2 : p - (r.length : Nat) = t := by omega
        rw [d1, d2]
        exact fnd
      · have d2 : p - (r.length : Nat) = t := by omega
        rw [dvn, hnn, d2]
        exact fnd.1
      · intro t2 q1 q2
        exact mn t2 (by omega) q2
      · rw [← ec]
        exact rstrip_id er d9 (by omega)
  obtain ⟨c, r, P, sh, rs, eP⟩ := key
  refine ⟨c, r, P, p, sh, fun x x0 x1 hx => ?_⟩
  have ku := kind_ok w x0 x1
  have un := unsigned_ok w x0 x1
  have mi := minus_ok w x0 x1
  rw [hx] at ku un
  have Pb : P.natAbs < 1000 := by rcases sh.P2 with q | ⟨q, _⟩ <;> omega
  have ps := str_pw Pb
  have nl : (TL.numL nn).length ≤ 1000 := by
    have := TL.numL_len (n := nn) (k := 21) (by decide) (by have : (10 : Nat) ^ 21 = 1000000000000000000000 := rfl; omega)
    omega
  have ln := len_str (l := TL.numL nn) (by omega)
  have len := sh.len
  have lcr := len_str (l := c :: r) (by simp; omega)
  obtain ⟨lead, hlead⟩ : ∃ l : List Nat, (if decide (2 ^ (a + b) ≤ x) = true then [45] else []) = l := ⟨_, rfl⟩
  have l4 : lead.length ≤ 1 := by rw [← hlead]; split <;> simp
  rw [hlead] at mi
  have lpw : (pwL P).length ≤ 4 := by
    have := TL.numL_len (n := P.natAbs) (k := 3) (by decide) Pb
    unfold pwL
    split
    · rw [List.length_cons]; omega
    · omega
  have sh1 : slcD (.str (c :: r)) none (some 1) = .ok (.str [c]) := slH (l := c :: r) (by simp; omega) 1
  have sl1 := slL1 (c := c) (l := r) (by omega)
  have k1 := cat_str (l := lead) (m := [c]) (by simp; omega)
  have eg : gx (decide (2 ^ (a + b) ≤ x)) [c] (qr r) (some (decide (P < 0), TL.numL P.natAbs)) = (lead ++ [c] ++ ptq (qr r)) ++ (101 :: pwL P) := by
    unfold gx
    have := pwT_P P
    unfold pwP at this
    rw [this, hlead]
    simp only [List.append_assoc]
  rw [eg]
  have body : outR (evSs (.cons (.asgT [3, 4] (.call "fewest" F.fewest (.cons (.var 0) (.cons (.call "unsigned" F.unsigned (.cons (.var 0) (.cons (.var 1) .nil)) []) .nil)) []))
  (.cons (.asg 5 (.f1 .str (.var 3)))
  (.cons (.asg 6 (.bin .sub (.bin .add (.var 4) (.f1 .len (.var 5))) (.int 1)))
  (.cons (.asg 5 (.tm .rstrip (.var 5) (.str [48])))
  (.cons (.asg 7 (.bin .add (.call "minus_of" F.minus_of (.cons (.var 0) (.cons (.var 1) .nil)) []) (.slcH (.var 5) (.int 1))))
  (.cons (.ifs (.cmp .gt (.f1 .len (.var 5)) (.int 1)) (.cons (.asg 7 (.bin .add (.bin .add (.var 7) (.str [46])) (.slcL (.var 5) (.int 1))))
  .nil) .nil)
  (.cons (.ret (.bin .add (.bin .add (.var 7) (.str [101])) (.f1 .str (.var 6))))
  .nil))))))) [.dat (.tup [.int a, .int b]), .dat (.int x), .dat (.str (kd a b s)), .un, .un, .un, .un, .un]) = .ok (.str ((lead ++ [c] ++ ptq (qr r)) ++ (101 :: pwL P))) := by
    refine seq (P := fun o => outR o = R.ok (D.str ((lead ++ [c] ++ ptq (qr r)) ++ (101 :: pwL P)))) (by simp only [evSs, evS, evT, evE, evEs, evSrc, getS0, getSs, set0, setS, R.bind_ok, R.bind_ex, bind_ite, withR_ok, withR_ex, withR_ite, thenO_nxt, thenO_ret, thenO_ex, thenO_ite, outR_nxt, outR_ret, outR_ex, outR_ite, bool_ok, int_ok, bin_add, bin_sub, bin_mul, bin_fdiv, bin_mod, bin_shl, bin_shr, bin_pow, bin_and, bin_or, bin_xor, cmp_eq, cmp_ne, cmp_lt, cmp_le, cmp_gt, cmp_ge, add_int, sub_int, and_int, or_int, xor_int, neg_int, len_lst, len_tup, abs_int, int_int, int_bl, max_int, min_int, bits_int, ix_tup0, ix_tup1, ix_tup2, List.map_cons, List.map_nil, List.replicate, List.cons_append, List.nil_append, List.append_nil, List.length_cons, List.length_nil, decide_eq_true_eq, Nat.reduceSub, Nat.reduceAdd, Int.reduceToNat, setAll, Int.toNat_natCast, Int.one_mul, un, ef, decide_true, decide_false, Bool.not_true, Bool.not_false, Bool.false_eq_true, if_true, if_false]; rfl) ?_
    refine seq (P := fun o => outR o = R.ok (D.str ((lead ++ [c] ++ ptq (qr r)) ++ (101 :: pwL P)))) (by simp only [evSs, evS, evT, evE, evEs, evSrc, getS0, getSs, set0, setS, R.bind_ok, R.bind_ex, bind_ite, withR_ok, withR_ex, withR_ite, thenO_nxt, thenO_ret, thenO_ex, thenO_ite, outR_nxt, outR_ret, outR_ex, outR_ite, bool_ok, int_ok, bin_add, bin_sub, bin_mul, bin_fdiv, bin_mod, bin_shl, bin_shr, bin_pow, bin_and, bin_or, bin_xor, cmp_eq, cmp_ne, cmp_lt, cmp_le, cmp_gt, cmp_ge, add_int, sub_int, and_int, or_int, xor_int, neg_int, len_lst, len_tup, abs_int, int_int, int_bl, max_int, min_int, bits_int, ix_tup0, ix_tup1, ix_tup2, List.map_cons, List.map_nil, List.replicate, List.cons_append, List.nil_append, List.append_nil, List.length_cons, List.length_nil, decide_eq_true_eq, Nat.reduceSub, Nat.reduceAdd, Int.reduceToNat, setAll, Int.toNat_natCast, Int.one_mul, nst, decide_true, decide_false, Bool.not_true, Bool.not_false, Bool.false_eq_true, if_true, if_false]; rfl) ?_
    refine seq (P := fun o => outR o = R.ok (D.str ((lead ++ [c] ++ ptq (qr r)) ++ (101 :: pwL P)))) (by simp only [evSs, evS, evT, evE, evEs, evSrc, getS0, getSs, set0, setS, R.bind_ok, R.bind_ex, bind_ite, withR_ok, withR_ex, withR_ite, thenO_nxt, thenO_ret, thenO_ex, thenO_ite, outR_nxt, outR_ret, outR_ex, outR_ite, bool_ok, int_ok, bin_add, bin_sub, bin_mul, bin_fdiv, bin_mod, bin_shl, bin_shr, bin_pow, bin_and, bin_or, bin_xor, cmp_eq, cmp_ne, cmp_lt, cmp_le, cmp_gt, cmp_ge, add_int, sub_int, and_int, or_int, xor_int, neg_int, len_lst, len_tup, abs_int, int_int, int_bl, max_int, min_int, bits_int, ix_tup0, ix_tup1, ix_tup2, List.map_cons, List.map_nil, List.replicate, List.cons_append, List.nil_append, List.append_nil, List.length_cons, List.length_nil, decide_eq_true_eq, Nat.reduceSub, Nat.reduceAdd, Int.reduceToNat, setAll, Int.toNat_natCast, Int.one_mul, ln, eP, decide_true, decide_false, Bool.not_true, Bool.not_false, Bool.false_eq_true, if_true, if_false]; rfl) ?_
    refine seq (P := fun o => outR o = R.ok (D.str ((lead ++ [c] ++ ptq (qr r)) ++ (101 :: pwL P)))) (by simp only [evSs, evS, evT, evE, evEs, evSrc, getS0, getSs, set0, setS, R.bind_ok, R.bind_ex, bind_ite, withR_ok, withR_ex, withR_ite, thenO_nxt, thenO_ret, thenO_ex, thenO_ite, outR_nxt, outR_ret, outR_ex, outR_ite, bool_ok, int_ok, bin_add, bin_sub, bin_mul, bin_fdiv, bin_mod, bin_shl, bin_shr, bin_pow, bin_and, bin_or, bin_xor, cmp_eq, cmp_ne, cmp_lt, cmp_le, cmp_gt, cmp_ge, add_int, sub_int, and_int, or_int, xor_int, neg_int, len_lst, len_tup, abs_int, int_int, int_bl, max_int, min_int, bits_int, ix_tup0, ix_tup1, ix_tup2, List.map_cons, List.map_nil, List.replicate, List.cons_append, List.nil_append, List.append_nil, List.length_cons, List.length_nil, decide_eq_true_eq, Nat.reduceSub, Nat.reduceAdd, Int.reduceToNat, setAll, Int.toNat_natCast, Int.one_mul, strD, rs, decide_true, decide_false, Bool.not_true, Bool.not_false, Bool.false_eq_true, if_true, if_false]; rfl) ?_
    refine seq (P := fun o => outR o = R.ok (D.str ((lead ++ [c] ++ ptq (qr r)) ++ (101 :: pwL P)))) (by simp only [evSs, evS, evT, evE, evEs, evSrc, getS0, getSs, set0, setS, R.bind_ok, R.bind_ex, bind_ite, withR_ok, withR_ex, withR_ite, thenO_nxt, thenO_ret, thenO_ex, thenO_ite, outR_nxt, outR_ret, outR_ex, outR_ite, bool_ok, int_ok, bin_add, bin_sub, bin_mul, bin_fdiv, bin_mod, bin_shl, bin_shr, bin_pow, bin_and, bin_or, bin_xor, cmp_eq, cmp_ne, cmp_lt, cmp_le, cmp_gt, cmp_ge, add_int, sub_int, and_int, or_int, xor_int, neg_int, len_lst, len_tup, abs_int, int_int, int_bl, max_int, min_int, bits_int, ix_tup0, ix_tup1, ix_tup2, List.map_cons, List.map_nil, List.replicate, List.cons_append, List.nil_append, List.append_nil, List.length_cons, List.length_nil, decide_eq_true_eq, Nat.reduceSub, Nat.reduceAdd, Int.reduceToNat, setAll, Int.toNat_natCast, Int.one_mul, mi, sh1, k1, decide_true, decide_false, Bool.not_true, Bool.not_false, Bool.false_eq_true, if_true, if_false]; rfl) ?_
    have lp : (ptq (qr r)).length ≤ 20 := by
      unfold qr
      split
      · simp [ptq]
      · simp [ptq]; omega
    refine seqs (P := fun o => outR o = R.ok (D.str ((lead ++ [c] ++ ptq (qr r)) ++ (101 :: pwL P)))) (i := 7) (sl := .dat (.str (lead ++ [c] ++ ptq (qr r)))) (by
      by_cases q : r = []
      · have g : ¬ (1 : Int) < ((c :: r).length : Nat) := by rw [q]; simp
        have eq : qr r = none := by unfold qr; rw [if_pos q]
        rw [eq]
        simp only [ptq, List.append_nil]
        simp only [evS, evT, evE, getS0, getSs, R.bind_ok, lcr, cmp_gt, bool_ok, withR_ok, g, decide_false, Bool.false_eq_true, if_false, evSs]
        rfl
      · have g : (1 : Int) < ((c :: r).length : Nat) := by
          have : r.length ≠ 0 := fun q' => q (List.eq_nil_of_length_eq_zero q')
          rw [List.length_cons]
          omega
        have eq : qr r = some r := by unfold qr; rw [if_neg q]
        have k2 := cat_str (l := lead ++ [c]) (m := [46]) (by rw [List.length_append]; simp; omega)
        have k3 := cat_str (l := lead ++ [c] ++ [46]) (m := r) (by rw [List.length_append, List.length_append]; simp; omega)
        have ep : lead ++ [c] ++ [46] ++ r = lead ++ [c] ++ (46 :: r) := by simp
        rw [ep] at k3
        rw [eq]
        simp only [ptq]
        have hc : evT (.cmp .gt (.f1 .len (.var 5)) (.int 1)) [.dat (.tup [.int a, .int b]), .dat (.int x), .dat (.str (kd a b s)), .dat (.int n), .dat (.int t), .dat (.str (c :: r)), .dat (.int P), .dat (.str (lead ++ [c]))] = .ok true := by
          simp only [evT, evE, getS0, getSs, R.bind_ok, lcr, cmp_gt, bool_ok, g, decide_true]
        simp only [evS, hc, withR_ok, if_true, evSs, evE, getS0, getSs, R.bind_ok, bin_add, k2, k3, sl1, int_ok, set0, setS, thenO_nxt]) ?_
    simp only [set0, setS]
    have k5 := cat_str (l := lead ++ [c] ++ ptq (qr r)) (m := [101]) (by rw [List.length_append, List.length_append]; simp; omega)
    have k6 := cat_str (l := lead ++ [c] ++ ptq (qr r) ++ [101]) (m := pwL P) (by rw [List.length_append, List.length_append, List.length_append]; simp; omega)
    have e6 : lead ++ [c] ++ ptq (qr r) ++ [101] ++ pwL P = lead ++ [c] ++ ptq (qr r) ++ (101 :: pwL P) := by simp
    rw [e6] at k6
    generalize lead ++ [c] ++ ptq (qr r) = X1 at *
    have k6 : addD (.str (X1 ++ [101])) (.str (pwL P)) = .ok (.str (X1 ++ 101 :: pwL P)) := k6
    refine seq_ret (P := fun o => outR o = R.ok (D.str (X1 ++ (101 :: pwL P)))) (by simp (disch := first | assumption | omega | decide +kernel | exact bsum (by (repeat' first | assumption | apply Bd.mod | apply Bd.shlm | apply Bd.shl | apply Bd.mul | apply Bd.add | apply Bd.sub | apply Bd.neg | apply Bd.abs | apply Bd.fdiv | apply Bd.pow2 | exact Bd.lit _ | decide | omega)) (by (repeat' first | assumption | apply Bd.mod | apply Bd.shlm | apply Bd.shl | apply Bd.mul | apply Bd.add | apply Bd.sub | apply Bd.neg | apply Bd.abs | apply Bd.fdiv | apply Bd.pow2 | exact Bd.lit _ | decide | omega)) (by decide +kernel) | (have := bits_one; have := bits_two; have := bits_three; omega)) only [evSs, evS, evT, evE, evEs, evSrc, getS0, getSs, set0, setS, R.bind_ok, R.bind_ex, bind_ite, withR_ok, withR_ex, withR_ite, thenO_nxt, thenO_ret, thenO_ex, thenO_ite, outR_nxt, outR_ret, outR_ex, outR_ite, bool_ok, int_ok, bin_add, bin_sub, bin_mul, bin_fdiv, bin_mod, bin_shl, bin_shr, bin_pow, bin_and, bin_or, bin_xor, cmp_eq, cmp_ne, cmp_lt, cmp_le, cmp_gt, cmp_ge, add_int, sub_int, and_int, or_int, xor_int, neg_int, len_lst, len_tup, abs_int, int_int, int_bl, max_int, min_int, bits_int, ix_tup0, ix_tup1, ix_tup2, List.map_cons, List.map_nil, List.replicate, List.cons_append, List.nil_append, List.append_nil, List.length_cons, List.length_nil, decide_eq_true_eq, Nat.reduceSub, Nat.reduceAdd, Int.reduceToNat, setAll, Int.toNat_natCast, Int.one_mul, k5, ps, k6, mul_ok, mod_ok, fdiv_ok, shl_ok, shr_ok, pow_ok, decide_true, decide_false, Bool.not_true, Bool.not_false, Bool.false_eq_true, if_true, if_false]; rfl) ?_
    rfl
  simp only [F.shortest, F.b_shortest]
  rw [run_eq (by rfl)]
  simp only [List.map_cons, List.map_nil, List.replicate, List.cons_append, List.nil_append, Nat.reduceSub]
  refine seq (P := fun o => outR o = R.ok (D.str ((lead ++ [c] ++ ptq (qr r)) ++ (101 :: pwL P)))) (by simp only [evSs, evS, evT, evE, evEs, evSrc, getS0, getSs, set0, setS, R.bind_ok, R.bind_ex, bind_ite, withR_ok, withR_ex, withR_ite, thenO_nxt, thenO_ret, thenO_ex, thenO_ite, outR_nxt, outR_ret, outR_ex, outR_ite, bool_ok, int_ok, bin_add, bin_sub, bin_mul, bin_fdiv, bin_mod, bin_shl, bin_shr, bin_pow, bin_and, bin_or, bin_xor, cmp_eq, cmp_ne, cmp_lt, cmp_le, cmp_gt, cmp_ge, add_int, sub_int, and_int, or_int, xor_int, neg_int, len_lst, len_tup, abs_int, int_int, int_bl, max_int, min_int, bits_int, ix_tup0, ix_tup1, ix_tup2, List.map_cons, List.map_nil, List.replicate, List.cons_append, List.nil_append, List.append_nil, List.length_cons, List.length_nil, decide_eq_true_eq, Nat.reduceSub, Nat.reduceAdd, Int.reduceToNat, setAll, Int.toNat_natCast, Int.one_mul, ku, decide_true, decide_false, Bool.not_true, Bool.not_false, Bool.false_eq_true, if_true, if_false]; rfl) ?_
  rcases kd_num w (s := s) sL with ⟨q, q0⟩ | ⟨q, _⟩ | ⟨q, _⟩
  · omega
  · rw [q] at body ⊢
    refine seq (P := fun o => outR o = R.ok (D.str ((lead ++ [c] ++ ptq (qr r)) ++ (101 :: pwL P)))) (by simp only [evSs, evS, evT, evE, evEs, evSrc, getS0, getSs, set0, setS, R.bind_ok, R.bind_ex, bind_ite, withR_ok, withR_ex, withR_ite, thenO_nxt, thenO_ret, thenO_ex, thenO_ite, outR_nxt, outR_ret, outR_ex, outR_ite, bool_ok, int_ok, bin_add, bin_sub, bin_mul, bin_fdiv, bin_mod, bin_shl, bin_shr, bin_pow, bin_and, bin_or, bin_xor, cmp_eq, cmp_ne, cmp_lt, cmp_le, cmp_gt, cmp_ge, add_int, sub_int, and_int, or_int, xor_int, neg_int, len_lst, len_tup, abs_int, int_int, int_bl, max_int, min_int, bits_int, ix_tup0, ix_tup1, ix_tup2, List.map_cons, List.map_nil, List.replicate, List.cons_append, List.nil_append, List.append_nil, List.length_cons, List.length_nil, decide_eq_true_eq, Nat.reduceSub, Nat.reduceAdd, Int.reduceToNat, setAll, Int.toNat_natCast, Int.one_mul, kk00, kk01, kk02, kk03, kk04, kk05, kk10, kk11, kk12, kk13, kk14, kk15, kk20, kk21, kk22, kk23, kk24, kk25, kk30, kk31, kk32, kk33, kk34, kk35, kk40, kk41, kk42, kk43, kk44, kk45, kk50, kk51, kk52, kk53, kk54, kk55, kn00, kn01, kn02, kn03, kn04, kn05, kn10, kn11, kn12, kn13, kn14, kn15, kn20, kn21, kn22, kn23, kn24, kn25, kn30, kn31, kn32, kn33, kn34, kn35, kn40, kn41, kn42, kn43, kn44, kn45, kn50, kn51, kn52, kn53, kn54, kn55, decide_true, decide_false, Bool.not_true, Bool.not_false, Bool.false_eq_true, if_true, if_false]; rfl) ?_
    exact body
  · rw [q] at body ⊢
    refine seq (P := fun o => outR o = R.ok (D.str ((lead ++ [c] ++ ptq (qr r)) ++ (101 :: pwL P)))) (by simp only [evSs, evS, evT, evE, evEs, evSrc, getS0, getSs, set0, setS, R.bind_ok, R.bind_ex, bind_ite, withR_ok, withR_ex, withR_ite, thenO_nxt, thenO_ret, thenO_ex, thenO_ite, outR_nxt, outR_ret, outR_ex, outR_ite, bool_ok, int_ok, bin_add, bin_sub, bin_mul, bin_fdiv, bin_mod, bin_shl, bin_shr, bin_pow, bin_and, bin_or, bin_xor, cmp_eq, cmp_ne, cmp_lt, cmp_le, cmp_gt, cmp_ge, add_int, sub_int, and_int, or_int, xor_int, neg_int, len_lst, len_tup, abs_int, int_int, int_bl, max_int, min_int, bits_int, ix_tup0, ix_tup1, ix_tup2, List.map_cons, List.map_nil, List.replicate, List.cons_append, List.nil_append, List.append_nil, List.length_cons, List.length_nil, decide_eq_true_eq, Nat.reduceSub, Nat.reduceAdd, Int.reduceToNat, setAll, Int.toNat_natCast, Int.one_mul, kk00, kk01, kk02, kk03, kk04, kk05, kk10, kk11, kk12, kk13, kk14, kk15, kk20, kk21, kk22, kk23, kk24, kk25, kk30, kk31, kk32, kk33, kk34, kk35, kk40, kk41, kk42, kk43, kk44, kk45, kk50, kk51, kk52, kk53, kk54, kk55, kn00, kn01, kn02, kn03, kn04, kn05, kn10, kn11, kn12, kn13, kn14, kn15, kn20, kn21, kn22, kn23, kn24, kn25, kn30, kn31, kn32, kn33, kn34, kn35, kn40, kn41, kn42, kn43, kn44, kn45, kn50, kn51, kn52, kn53, kn54, kn55, decide_true, decide_false, Bool.not_true, Bool.not_false, Bool.false_eq_true, if_true, if_false]; rfl) ?_
    exact body
/-! ### the law's own parts -/
def tnB : Ss := (.cons (.ifs (.cmp .eq (.bin .mod (.var 0) (.int 2)) (.int 1)) (.cons (.asg 1 (.bin .mul (.var 1) (.var 2)))
  .nil) .nil)
  (.cons (.asg 2 (.bin .mul (.var 2) (.var 2)))
  (.cons (.asg 0 (.bin .fdiv (.var 0) (.int 2)))
  .nil)))
theorem tn_loop : ∀ (k fu : Nat) (x f : Int) (m : Nat), m < 2 ^ k → k < fu → bits f + bits x * m ≤ 60000000 →
    ∃ x', whGo (fun ρ' => evT (.cmp .gt (.var 0) (.int 0)) ρ') (fun ρ' => evSs tnB ρ') fu [.dat (.int m), .dat (.int f), .dat (.int x)] = .nxt [.dat (.int 0), .dat (.int (f * x ^ m)), .dat (.int x')] := by
  have stop : ∀ (fu : Nat) (x f : Int), 0 < fu → ∃ x', whGo (fun ρ' => evT (.cmp .gt (.var 0) (.int 0)) ρ') (fun ρ' => evSs tnB ρ') fu [.dat (.int ((0 : Nat) : Int)), .dat (.int f), .dat (.int x)] = .nxt [.dat (.int 0), .dat (.int (f * x ^ 0)), .dat (.int x')] := by
    intro fu x f hf
    obtain ⟨fu, rfl⟩ : ∃ f, fu = f + 1 := ⟨fu - 1, by omega⟩
    refine ⟨x, ?_⟩
    unfold whGo
    simp only [evSs, evS, evT, evE, evEs, evSrc, getS0, getSs, set0, setS, R.bind_ok, R.bind_ex, bind_ite, withR_ok, withR_ex, withR_ite, thenO_nxt, thenO_ret, thenO_ex, thenO_ite, outR_nxt, outR_ret, outR_ex, outR_ite, bool_ok, int_ok, bin_add, bin_sub, bin_mul, bin_fdiv, bin_mod, bin_shl, bin_shr, bin_pow, bin_and, bin_or, bin_xor, cmp_eq, cmp_ne, cmp_lt, cmp_le, cmp_gt, cmp_ge, add_int, sub_int, and_int, or_int, xor_int, neg_int, len_lst, len_tup, abs_int, int_int, int_bl, max_int, min_int, bits_int, ix_tup0, ix_tup1, ix_tup2, List.map_cons, List.map_nil, List.replicate, List.cons_append, List.nil_append, List.append_nil, List.length_cons, List.length_nil, decide_eq_true_eq, Nat.reduceSub, Nat.reduceAdd, Int.reduceToNat, Int.natCast_zero, Int.lt_irrefl, Int.pow_zero, Int.mul_one, decide_true, decide_false, Bool.not_true, Bool.not_false, Bool.false_eq_true, if_true, if_false]
  intro k
  induction k with
  | zero =>
    intro fu x f m hm hf _
    obtain rfl : m = 0 := by omega
    exact stop fu x f (by omega)
  | succ k ih =>
    intro fu x f m hm hf hb
    by_cases m0 : m = 0
    · subst m0
      exact stop fu x f (by omega)
    · obtain ⟨fu, rfl⟩ : ∃ f, fu = f + 1 := ⟨fu - 1, by omega⟩
      obtain ⟨b1, b2, b3⟩ := bits_half hb (by omega)
      have b4 : bits x ≤ bits x * m := Nat.le_mul_of_pos_right _ (by omega)
      have t1 : evT (.cmp .gt (.var 0) (.int 0)) [.dat (.int (m : Int)), .dat (.int f), .dat (.int x)] = .ok true := by
        simp only [evSs, evS, evT, evE, evEs, evSrc, getS0, getSs, set0, setS, R.bind_ok, R.bind_ex, bind_ite, withR_ok, withR_ex, withR_ite, thenO_nxt, thenO_ret, thenO_ex, thenO_ite, outR_nxt, outR_ret, outR_ex, outR_ite, bool_ok, int_ok, bin_add, bin_sub, bin_mul, bin_fdiv, bin_mod, bin_shl, bin_shr, bin_pow, bin_and, bin_or, bin_xor, cmp_eq, cmp_ne, cmp_lt, cmp_le, cmp_gt, cmp_ge, add_int, sub_int, and_int, or_int, xor_int, neg_int, len_lst, len_tup, abs_int, int_int, int_bl, max_int, min_int, bits_int, ix_tup0, ix_tup1, ix_tup2, List.map_cons, List.map_nil, List.replicate, List.cons_append, List.nil_append, List.append_nil, List.length_cons, List.length_nil, decide_eq_true_eq, Nat.reduceSub, Nat.reduceAdd, Int.reduceToNat, show (0 : Int) < (m : Int) by omega, decide_true, decide_false, Bool.not_true, Bool.not_false, Bool.false_eq_true, if_true, if_false]
      have mx : mulD (.int x) (.int x) = .ok (.int (x * x)) := mul_ok (by omega)
      have mf : mulD (.int f) (.int x) = .ok (.int (f * x)) := mul_ok (by omega)
      have md : modD (.int (m : Int)) (.int 2) = .ok (.int ((m % 2 : Nat) : Int)) := by rw [mod_ok (by decide)]; rfl
      have fd : fdivD (.int (m : Int)) (.int 2) = .ok (.int ((m / 2 : Nat) : Int)) := by rw [fdiv_ok (by decide) (by decide)]; rfl
      by_cases p : m % 2 = 1
      · have t2 : evSs tnB [.dat (.int (m : Int)), .dat (.int f), .dat (.int x)] = .nxt [.dat (.int ((m / 2 : Nat) : Int)), .dat (.int (f * x)), .dat (.int (x * x))] := by
          simp only [tnB, evSs, evS, evT, evE, evEs, evSrc, getS0, getSs, set0, setS, R.bind_ok, R.bind_ex, bind_ite, withR_ok, withR_ex, withR_ite, thenO_nxt, thenO_ret, thenO_ex, thenO_ite, outR_nxt, outR_ret, outR_ex, outR_ite, bool_ok, int_ok, bin_add, bin_sub, bin_mul, bin_fdiv, bin_mod, bin_shl, bin_shr, bin_pow, bin_and, bin_or, bin_xor, cmp_eq, cmp_ne, cmp_lt, cmp_le, cmp_gt, cmp_ge, add_int, sub_int, and_int, or_int, xor_int, neg_int, len_lst, len_tup, abs_int, int_int, int_bl, max_int, min_int, bits_int, ix_tup0, ix_tup1, ix_tup2, List.map_cons, List.map_nil, List.replicate, List.cons_append, List.nil_append, List.append_nil, List.length_cons, List.length_nil, decide_eq_true_eq, Nat.reduceSub, Nat.reduceAdd, Int.reduceToNat, md, fd, mx, mf, p, show (((1 : Nat) : Int) = 1) = True by simp, decide_true, decide_false, Bool.not_true, Bool.not_false, Bool.false_eq_true, if_true, if_false]
        obtain ⟨x', e⟩ := ih fu (x * x) (f * x) (m / 2) (by rw [Nat.pow_succ] at hm; omega) (by omega) (b2 p)
        refine ⟨x', ?_⟩
        rw [whGo]
        simp only [t1, t2, withR_ok, if_true, thenO_nxt]
        rw [e, pow_half.1 p]
      · have p0 : m % 2 = 0 := by omega
        have t2 : evSs tnB [.dat (.int (m : Int)), .dat (.int f), .dat (.int x)] = .nxt [.dat (.int ((m / 2 : Nat) : Int)), .dat (.int f), .dat (.int (x * x))] := by
          simp only [tnB, evSs, evS, evT, evE, evEs, evSrc, getS0, getSs, set0, setS, R.bind_ok, R.bind_ex, bind_ite, withR_ok, withR_ex, withR_ite, thenO_nxt, thenO_ret, thenO_ex, thenO_ite, outR_nxt, outR_ret, outR_ex, outR_ite, bool_ok, int_ok, bin_add, bin_sub, bin_mul, bin_fdiv, bin_mod, bin_shl, bin_shr, bin_pow, bin_and, bin_or, bin_xor, cmp_eq, cmp_ne, cmp_lt, cmp_le, cmp_gt, cmp_ge, add_int, sub_int, and_int, or_int, xor_int, neg_int, len_lst, len_tup, abs_int, int_int, int_bl, max_int, min_int, bits_int, ix_tup0, ix_tup1, ix_tup2, List.map_cons, List.map_nil, List.replicate, List.cons_append, List.nil_append, List.append_nil, List.length_cons, List.length_nil, decide_eq_true_eq, Nat.reduceSub, Nat.reduceAdd, Int.reduceToNat, md, fd, mx, mf, p0, show ¬ ((((0 : Nat) : Int)) = 1) by simp, decide_true, decide_false, Bool.not_true, Bool.not_false, Bool.false_eq_true, if_true, if_false]
        obtain ⟨x', e⟩ := ih fu (x * x) f (m / 2) (by rw [Nat.pow_succ] at hm; omega) (by omega) (b3 p0)
        refine ⟨x', ?_⟩
        rw [whGo]
        simp only [t1, t2, withR_ok, if_true, thenO_nxt]
        rw [e, pow_half.2 p0]
theorem tens_74_ok {m : Nat} (hm : m < 100000) : G.tens_74 [.int m] = .ok (.int (10 ^ m)) := by
  have b1 := bits_one
  have b10 : bits 10 = 4 := by decide
  obtain ⟨x', e⟩ := tn_loop 17 fuel 10 1 m (Nat.lt_of_lt_of_le hm (by decide)) (by decide) (by rw [b10]; omega)
  simp only [G.tens_74, G.b_tens_74]
  rw [run_eq (by rfl)]
  simp only [List.map_cons, List.map_nil, List.replicate, List.cons_append, List.nil_append, Nat.reduceSub]
  refine seq (P := fun o => outR o = _) (by simp only [evSs, evS, evT, evE, evEs, evSrc, getS0, getSs, set0, setS, R.bind_ok, R.bind_ex, bind_ite, withR_ok, withR_ex, withR_ite, thenO_nxt, thenO_ret, thenO_ex, thenO_ite, outR_nxt, outR_ret, outR_ex, outR_ite, bool_ok, int_ok, bin_add, bin_sub, bin_mul, bin_fdiv, bin_mod, bin_shl, bin_shr, bin_pow, bin_and, bin_or, bin_xor, cmp_eq, cmp_ne, cmp_lt, cmp_le, cmp_gt, cmp_ge, add_int, sub_int, and_int, or_int, xor_int, neg_int, len_lst, len_tup, abs_int, int_int, int_bl, max_int, min_int, bits_int, ix_tup0, ix_tup1, ix_tup2, List.map_cons, List.map_nil, List.replicate, List.cons_append, List.nil_append, List.append_nil, List.length_cons, List.length_nil, decide_eq_true_eq, Nat.reduceSub, Nat.reduceAdd, Int.reduceToNat, setAll, Int.toNat_natCast, Int.one_mul, decide_true, decide_false, Bool.not_true, Bool.not_false, Bool.false_eq_true, if_true, if_false]; rfl) ?_
  refine seq (P := fun o => outR o = _) (by simp only [evSs, evS, evT, evE, evEs, evSrc, getS0, getSs, set0, setS, R.bind_ok, R.bind_ex, bind_ite, withR_ok, withR_ex, withR_ite, thenO_nxt, thenO_ret, thenO_ex, thenO_ite, outR_nxt, outR_ret, outR_ex, outR_ite, bool_ok, int_ok, bin_add, bin_sub, bin_mul, bin_fdiv, bin_mod, bin_shl, bin_shr, bin_pow, bin_and, bin_or, bin_xor, cmp_eq, cmp_ne, cmp_lt, cmp_le, cmp_gt, cmp_ge, add_int, sub_int, and_int, or_int, xor_int, neg_int, len_lst, len_tup, abs_int, int_int, int_bl, max_int, min_int, bits_int, ix_tup0, ix_tup1, ix_tup2, List.map_cons, List.map_nil, List.replicate, List.cons_append, List.nil_append, List.append_nil, List.length_cons, List.length_nil, decide_eq_true_eq, Nat.reduceSub, Nat.reduceAdd, Int.reduceToNat, setAll, Int.toNat_natCast, Int.one_mul, decide_true, decide_false, Bool.not_true, Bool.not_false, Bool.false_eq_true, if_true, if_false]; rfl) ?_
  refine seq (P := fun o => outR o = _) (show evS (.whl _ tnB) _ = _ from e) ?_
  refine seq_ret (P := fun o => outR o = _) (by simp (disch := first | assumption | omega | decide +kernel | exact bsum (by (repeat' first | assumption | apply Bd.mod | apply Bd.shlm | apply Bd.shl | apply Bd.mul | apply Bd.add | apply Bd.sub | apply Bd.neg | apply Bd.abs | apply Bd.fdiv | apply Bd.pow2 | exact Bd.lit _ | decide | omega)) (by (repeat' first | assumption | apply Bd.mod | apply Bd.shlm | apply Bd.shl | apply Bd.mul | apply Bd.add | apply Bd.sub | apply Bd.neg | apply Bd.abs | apply Bd.fdiv | apply Bd.pow2 | exact Bd.lit _ | decide | omega)) (by decide +kernel) | (have := bits_one; have := bits_two; have := bits_three; omega)) only [evSs, evS, evT, evE, evEs, evSrc, getS0, getSs, set0, setS, R.bind_ok, R.bind_ex, bind_ite, withR_ok, withR_ex, withR_ite, thenO_nxt, thenO_ret, thenO_ex, thenO_ite, outR_nxt, outR_ret, outR_ex, outR_ite, bool_ok, int_ok, bin_add, bin_sub, bin_mul, bin_fdiv, bin_mod, bin_shl, bin_shr, bin_pow, bin_and, bin_or, bin_xor, cmp_eq, cmp_ne, cmp_lt, cmp_le, cmp_gt, cmp_ge, add_int, sub_int, and_int, or_int, xor_int, neg_int, len_lst, len_tup, abs_int, int_int, int_bl, max_int, min_int, bits_int, ix_tup0, ix_tup1, ix_tup2, List.map_cons, List.map_nil, List.replicate, List.cons_append, List.nil_append, List.append_nil, List.length_cons, List.length_nil, decide_eq_true_eq, Nat.reduceSub, Nat.reduceAdd, Int.reduceToNat, setAll, Int.toNat_natCast, Int.one_mul, mul_ok, mod_ok, fdiv_ok, shl_ok, shr_ok, pow_ok, decide_true, decide_false, Bool.not_true, Bool.not_false, Bool.false_eq_true, if_true, if_false]; rfl) ?_
  simp only [outR, Int.one_mul]
theorem exact_none (w : Wd a b) {x : Int} (x0 : 0 ≤ x) (x1 : x < 2 ^ (1 + a + b)) (hx : (2 ^ a - 1) * 2 ^ b < x % 2 ^ (a + b)) : F.exact_text [.tup [.int a, .int b], .int x] = .ok (.str [110, 111, 110, 101]) := by
  have ku := kind_ok w x0 x1
  simp only [F.exact_text, F.b_exact_text]
  rw [run_eq (by rfl)]
  by_cases c : x % 2 ^ (a + b) < (2 ^ a - 1) * 2 ^ b + 2 ^ (b - 1)
  · rw [kd_loud w hx c] at ku
    simp only [evSs, evS, evT, evE, evEs, evSrc, getS0, getSs, set0, setS, R.bind_ok, R.bind_ex, bind_ite, withR_ok, withR_ex, withR_ite, thenO_nxt, thenO_ret, thenO_ex, thenO_ite, outR_nxt, outR_ret, outR_ex, outR_ite, bool_ok, int_ok, bin_add, bin_sub, bin_mul, bin_fdiv, bin_mod, bin_shl, bin_shr, bin_pow, bin_and, bin_or, bin_xor, cmp_eq, cmp_ne, cmp_lt, cmp_le, cmp_gt, cmp_ge, add_int, sub_int, and_int, or_int, xor_int, neg_int, len_lst, len_tup, abs_int, int_int, int_bl, max_int, min_int, bits_int, ix_tup0, ix_tup1, ix_tup2, List.map_cons, List.map_nil, List.replicate, List.cons_append, List.nil_append, List.append_nil, List.length_cons, List.length_nil, decide_eq_true_eq, Nat.reduceSub, Nat.reduceAdd, Int.reduceToNat, ku, kk00, kk01, kk02, kk03, kk04, kk05, kk10, kk11, kk12, kk13, kk14, kk15, kk20, kk21, kk22, kk23, kk24, kk25, kk30, kk31, kk32, kk33, kk34, kk35, kk40, kk41, kk42, kk43, kk44, kk45, kk50, kk51, kk52, kk53, kk54, kk55, kn00, kn01, kn02, kn03, kn04, kn05, kn10, kn11, kn12, kn13, kn14, kn15, kn20, kn21, kn22, kn23, kn24, kn25, kn30, kn31, kn32, kn33, kn34, kn35, kn40, kn41, kn42, kn43, kn44, kn45, kn50, kn51, kn52, kn53, kn54, kn55, decide_true, decide_false, Bool.not_true, Bool.not_false, Bool.false_eq_true, if_true, if_false]
  · rw [kd_still w (by omega)] at ku
    simp only [evSs, evS, evT, evE, evEs, evSrc, getS0, getSs, set0, setS, R.bind_ok, R.bind_ex, bind_ite, withR_ok, withR_ex, withR_ite, thenO_nxt, thenO_ret, thenO_ex, thenO_ite, outR_nxt, outR_ret, outR_ex, outR_ite, bool_ok, int_ok, bin_add, bin_sub, bin_mul, bin_fdiv, bin_mod, bin_shl, bin_shr, bin_pow, bin_and, bin_or, bin_xor, cmp_eq, cmp_ne, cmp_lt, cmp_le, cmp_gt, cmp_ge, add_int, sub_int, and_int, or_int, xor_int, neg_int, len_lst, len_tup, abs_int, int_int, int_bl, max_int, min_int, bits_int, ix_tup0, ix_tup1, ix_tup2, List.map_cons, List.map_nil, List.replicate, List.cons_append, List.nil_append, List.append_nil, List.length_cons, List.length_nil, decide_eq_true_eq, Nat.reduceSub, Nat.reduceAdd, Int.reduceToNat, ku, kk00, kk01, kk02, kk03, kk04, kk05, kk10, kk11, kk12, kk13, kk14, kk15, kk20, kk21, kk22, kk23, kk24, kk25, kk30, kk31, kk32, kk33, kk34, kk35, kk40, kk41, kk42, kk43, kk44, kk45, kk50, kk51, kk52, kk53, kk54, kk55, kn00, kn01, kn02, kn03, kn04, kn05, kn10, kn11, kn12, kn13, kn14, kn15, kn20, kn21, kn22, kn23, kn24, kn25, kn30, kn31, kn32, kn33, kn34, kn35, kn40, kn41, kn42, kn43, kn44, kn45, kn50, kn51, kn52, kn53, kn54, kn55, decide_true, decide_false, Bool.not_true, Bool.not_false, Bool.false_eq_true, if_true, if_false]
theorem exact_endless (w : Wd a b) {x : Int} (x0 : 0 ≤ x) (x1 : x < 2 ^ (1 + a + b)) (hx : x % 2 ^ (a + b) = (2 ^ a - 1) * 2 ^ b) : F.exact_text [.tup [.int a, .int b], .int x] = .ok (.str ((if decide (2 ^ (a + b) ≤ x) = true then [45] else []) ++ [101, 110, 100, 108, 101, 115, 115])) := by
  have ku := kind_ok w x0 x1
  rw [hx, kd_end w] at ku
  have mi := minus_ok w x0 x1
  have l4 : (if decide (2 ^ (a + b) ≤ x) = true then [45] else ([] : List Nat)).length ≤ 1 := by split <;> simp
  obtain ⟨lead, hlead⟩ : ∃ l : List Nat, (if decide (2 ^ (a + b) ≤ x) = true then [45] else []) = l := ⟨_, rfl⟩
  rw [hlead] at mi l4 ⊢
  have ca := cat_str (l := lead) (m := [101, 110, 100, 108, 101, 115, 115]) (by simp; omega)
  simp only [F.exact_text, F.b_exact_text]
  rw [run_eq (by rfl)]
  simp only [evSs, evS, evT, evE, evEs, evSrc, getS0, getSs, set0, setS, R.bind_ok, R.bind_ex, bind_ite, withR_ok, withR_ex, withR_ite, thenO_nxt, thenO_ret, thenO_ex, thenO_ite, outR_nxt, outR_ret, outR_ex, outR_ite, bool_ok, int_ok, bin_add, bin_sub, bin_mul, bin_fdiv, bin_mod, bin_shl, bin_shr, bin_pow, bin_and, bin_or, bin_xor, cmp_eq, cmp_ne, cmp_lt, cmp_le, cmp_gt, cmp_ge, add_int, sub_int, and_int, or_int, xor_int, neg_int, len_lst, len_tup, abs_int, int_int, int_bl, max_int, min_int, bits_int, ix_tup0, ix_tup1, ix_tup2, List.map_cons, List.map_nil, List.replicate, List.cons_append, List.nil_append, List.append_nil, List.length_cons, List.length_nil, decide_eq_true_eq, Nat.reduceSub, Nat.reduceAdd, Int.reduceToNat, ku, kk00, kk01, kk02, kk03, kk04, kk05, kk10, kk11, kk12, kk13, kk14, kk15, kk20, kk21, kk22, kk23, kk24, kk25, kk30, kk31, kk32, kk33, kk34, kk35, kk40, kk41, kk42, kk43, kk44, kk45, kk50, kk51, kk52, kk53, kk54, kk55, kn00, kn01, kn02, kn03, kn04, kn05, kn10, kn11, kn12, kn13, kn14, kn15, kn20, kn21, kn22, kn23, kn24, kn25, kn30, kn31, kn32, kn33, kn34, kn35, kn40, kn41, kn42, kn43, kn44, kn45, kn50, kn51, kn52, kn53, kn54, kn55, decide_true, decide_false, Bool.not_true, Bool.not_false, Bool.false_eq_true, if_true, if_false, mi, ca]

def HdOk (p : List Nat) : Prop := p = [48] ∨ ∃ c r, p = c :: r ∧ c ≠ 48
theorem txt_take' {l : List Nat} (h : TXT l) {k : Nat} : TXT (l.take k) := List.all_eq_true.mpr fun c hc => List.all_eq_true.mp h c (List.mem_of_mem_take hc)
theorem figures_76_ok {l : List Nat} (h : Fig l) (hne : l ≠ []) (hl : l.length ≤ 1000) (hd : HdOk l) : G.all_figures_76 [.str l] = .ok (.bl true) := by
  have e := ne_str h.txt (m := []) rfl
  have e2 : (!(l == [])) = true := by cases l <;> first | exact absurd rfl hne | rfl
  rw [e2] at e
  have sh : slcD (.str l) none (some 1) = .ok (.str (l.take 1)) := slH (l := l) (by omega) 1
  simp only [G.all_figures_76, G.b_all_figures_76]
  rw [run_eq (by rfl)]
  simp -implicitDefEqProofs only [evSs, evS, evT, evSrc, evE, evEs, getS0, getSs, set0, setS, R.bind_ok, withR_ok, thenO_nxt, List.map_cons, List.map_nil, List.replicate, List.cons_append, List.nil_append, List.append_nil, Nat.reduceSub, itemsD]
  refine forGo_P (I := fun ρ => ∃ s, ρ = [.dat (.str l), s]) (P := fun o => outR (thenO o _) = _) ⟨_, rfl⟩ ?_ fun ρ' h' => ?_
  · rintro x hx ρ ⟨s, rfl⟩
    obtain ⟨c, hc, rfl⟩ := List.mem_map.mp hx
    refine ⟨[.dat (.str l), .dat (.str [c])], ?_, .dat (.str [c]), rfl⟩
    simp only [evSs, evS, evT, evE, evEs, evSrc, getS0, getSs, set0, setS, R.bind_ok, R.bind_ex, bind_ite, withR_ok, withR_ex, withR_ite, thenO_nxt, thenO_ret, thenO_ex, thenO_ite, outR_nxt, outR_ret, outR_ex, outR_ite, bool_ok, int_ok, bin_add, bin_sub, bin_mul, bin_fdiv, bin_mod, bin_shl, bin_shr, bin_pow, bin_and, bin_or, bin_xor, cmp_eq, cmp_ne, cmp_lt, cmp_le, cmp_gt, cmp_ge, add_int, sub_int, and_int, or_int, xor_int, neg_int, len_lst, len_tup, abs_int, int_int, int_bl, max_int, min_int, bits_int, ix_tup0, ix_tup1, ix_tup2, List.map_cons, List.map_nil, List.replicate, List.cons_append, List.nil_append, List.append_nil, List.length_cons, List.length_nil, decide_eq_true_eq, Nat.reduceSub, Nat.reduceAdd, Int.reduceToNat, fig_in (h c hc), decide_true, decide_false, Bool.not_true, Bool.not_false, Bool.false_eq_true, if_true, if_false]
  · obtain ⟨s, rfl⟩ := h'
    rcases hd with q | ⟨c, r, q, hc⟩
    · have e0 : cmpD .eq (.str l) (.str [48]) = .ok true := by rw [q]; rfl
      simp only [evSs, evS, evT, evE, evEs, evSrc, getS0, getSs, set0, setS, R.bind_ok, R.bind_ex, bind_ite, withR_ok, withR_ex, withR_ite, thenO_nxt, thenO_ret, thenO_ex, thenO_ite, outR_nxt, outR_ret, outR_ex, outR_ite, bool_ok, int_ok, bin_add, bin_sub, bin_mul, bin_fdiv, bin_mod, bin_shl, bin_shr, bin_pow, bin_and, bin_or, bin_xor, cmp_eq, cmp_ne, cmp_lt, cmp_le, cmp_gt, cmp_ge, add_int, sub_int, and_int, or_int, xor_int, neg_int, len_lst, len_tup, abs_int, int_int, int_bl, max_int, min_int, bits_int, ix_tup0, ix_tup1, ix_tup2, List.map_cons, List.map_nil, List.replicate, List.cons_append, List.nil_append, List.append_nil, List.length_cons, List.length_nil, decide_eq_true_eq, Nat.reduceSub, Nat.reduceAdd, Int.reduceToNat, e, e0, decide_true, decide_false, Bool.not_true, Bool.not_false, Bool.false_eq_true, if_true, if_false]
    · have e0 : cmpD .eq (.str l) (.str [48]) = .ok false := by
        rw [eq_str h.txt rfl, q]
        exact congrArg R.ok (beq_eq_false_iff_ne.mpr fun e => hc (List.cons.inj e).1)
      have e1 : cmpD .ne (.str (l.take 1)) (.str [48]) = .ok true := by
        rw [ne_str (h.take 1).txt rfl, q]
        refine congrArg R.ok ?_
        have : ((c :: r).take 1 == [48]) = false := beq_eq_false_iff_ne.mpr fun e => hc (List.cons.inj e).1
        rw [this]
        rfl
      simp only [evSs, evS, evT, evE, evEs, evSrc, getS0, getSs, set0, setS, R.bind_ok, R.bind_ex, bind_ite, withR_ok, withR_ex, withR_ite, thenO_nxt, thenO_ret, thenO_ex, thenO_ite, outR_nxt, outR_ret, outR_ex, outR_ite, bool_ok, int_ok, bin_add, bin_sub, bin_mul, bin_fdiv, bin_mod, bin_shl, bin_shr, bin_pow, bin_and, bin_or, bin_xor, cmp_eq, cmp_ne, cmp_lt, cmp_le, cmp_gt, cmp_ge, add_int, sub_int, and_int, or_int, xor_int, neg_int, len_lst, len_tup, abs_int, int_int, int_bl, max_int, min_int, bits_int, ix_tup0, ix_tup1, ix_tup2, List.map_cons, List.map_nil, List.replicate, List.cons_append, List.nil_append, List.append_nil, List.length_cons, List.length_nil, decide_eq_true_eq, Nat.reduceSub, Nat.reduceAdd, Int.reduceToNat, e, e0, sh, e1, decide_true, decide_false, Bool.not_true, Bool.not_false, Bool.false_eq_true, if_true, if_false]
theorem int_pw {P : Int} (h : P.natAbs < 1000) : f1D .int (.str (pwL P)) = .ok (.int P) := by
  have nl := TL.numL_len (n := P.natAbs) (k := 3) (by decide) h
  have dn : dv (TL.numL P.natAbs) = P.natAbs := TL.numL_val _
  unfold pwL
  by_cases c : P < 0
  · rw [if_pos c]
    show (if (45 :: TL.numL P.natAbs).length ≤ 640 then _ else _) = _
    rw [if_pos (by rw [List.length_cons]; omega)]
    have e := intText_neg (x := toS (45 :: TL.numL P.natAbs)) (cs := TL.numL P.natAbs) rfl (fig_num _) (TL.numL_ne _) (by simp [toS, Str.length]; omega)
    rw [e]
    have e2 : -((NumText.digitsVal (TL.numL P.natAbs) : Nat) : Int) = P := by
      rw [show NumText.digitsVal (TL.numL P.natAbs) = P.natAbs from dn]
      omega
    simp only [e2]
  · rw [if_neg c, int_dig (fig_num _) (TL.numL_ne _) (by omega), dn]
    rw [show ((P.natAbs : Nat) : Int) = P by omega]
theorem num_hdok (n : Nat) : HdOk (TL.numL n) := by
  by_cases h : n = 0
  · subst h
    exact .inl (TL.numL_lt (by decide))
  · obtain ⟨c, r, e, c1, c2⟩ := numL_hd (n := n) (by omega)
    exact .inr ⟨c, r, e, by omega⟩
theorem parts_76_ok {c : Nat} {r : List Nat} {P : Int} (c1 : 49 ≤ c) (c2 : c ≤ 57) (fr : Fig r) (last : r ≠ [] → ∃ r' d, r = r' ++ [d] ∧ d ≠ 48) (len : r.length ≤ 19) (hP : P.natAbs < 1000) :
    G.parts_76 [.str ([c] ++ ptq (qr r) ++ 101 :: pwL P)] = .ok (.tup [.int (dv (c :: r) : Nat), .int P, .int (1 + (r.length : Nat))]) := by
  have fc : Fig [c] := fun d hd => by rw [List.mem_singleton.mp hd]; omega
  have nl := TL.numL_len (n := P.natAbs) (k := 3) (by decide) hP
  have lpw : (pwL P).length ≤ 4 := by
    unfold pwL
    split
    · rw [List.length_cons]; omega
    · omega
  have lq : (ptq (qr r)).length ≤ 20 := by
    unfold qr
    split
    · simp [ptq]
    · simp [ptq]; omega
  have f101 : 101 ∉ [c] ++ ptq (qr r) := by
    intro hm
    rcases List.mem_append.mp hm with hm | hm
    · exact fc.free (s := 101) (by omega) hm
    · unfold qr at hm
      split at hm
      · simp [ptq] at hm
      · rcases List.mem_cons.mp hm with hm | hm
        · exact absurd hm (by decide)
        · exact fr.free (s := 101) (by omega) hm
  have pa1 := part_app (p := [c] ++ ptq (qr r)) (q := pwL P) (c := 101) f101 (by rw [List.length_append]; simp; omega)
  -- the power
  have fn := fig_num P.natAbs
  have f76 := figures_76_ok fn (TL.numL_ne _) (by omega) (num_hdok P.natAbs)
  have shp : slcD (.str (pwL P)) none (some 1) = .ok (.str ((pwL P).take 1)) := slH (by omega) 1
  have tp : TXT (pwL P) := pwL_txt P
  have e45 := eq_str (l := (pwL P).take 1) (txt_take' tp) (m := [45]) rfl
  have em0 := eq_str tp (m := [45, 48]) rfl
  have lnp := len_str (l := TL.numL P.natAbs) (by omega)
  have g3 : ¬ (3 : Int) < ((TL.numL P.natAbs).length : Nat) := by omega
  have ip := int_pw hP
  have nm0 : (pwL P == [45, 48]) = false := by
    refine beq_eq_false_iff_ne.mpr fun e => ?_
    unfold pwL at e
    by_cases q : P < 0
    · rw [if_pos q] at e
      obtain ⟨d, y, ed, d1, d2⟩ := numL_hd (n := P.natAbs) (by omega)
      rw [ed] at e
      have := (List.cons.inj (List.cons.inj e).2).1
      omega
    · rw [if_neg q] at e
      obtain ⟨d, y, ed, d1, d2⟩ := num_hd P.natAbs
      rw [ed] at e
      have := (List.cons.inj e).1
      omega
  rw [nm0] at em0
  have s7 : ∀ ρ : Env, True := fun _ => trivial
  -- the point
  have hq : ∃ mk tl : List Nat, tmD .partition (.str ([c] ++ ptq (qr r))) (.str [46]) = .ok (.tup [.str [c], .str mk, .str tl]) ∧ tl = r ∧ ((mk = [] ∧ r = []) ∨ (mk = [46] ∧ r ≠ [])) := by
    by_cases q : r = []
    · refine ⟨[], [], ?_, q.symm, .inl ⟨rfl, q⟩⟩
      unfold qr
      rw [if_pos q, ptq, List.append_nil]
      exact part_none (fc.free (by omega)) (by simp)
    · refine ⟨[46], r, ?_, rfl, .inr ⟨rfl, q⟩⟩
      unfold qr
      rw [if_neg q, ptq]
      exact part_app (fc.free (by omega)) (by simp; omega)
  obtain ⟨mk, tl, pa2, rfl, hmk⟩ := hq
  have l1 := len_str (l := [c]) (by simp)
  have n9 : cmpD .nin (.str [c]) (.str [49, 50, 51, 52, 53, 54, 55, 56, 57]) = .ok false := by
    show notR (.ok (decide (c ∈ [49, 50, 51, 52, 53, 54, 55, 56, 57]))) = _
    rw [decide_eq_true (by simp only [List.mem_cons, List.not_mem_nil, or_false]; omega)]
    rfl
  have ca := cat_str (l := [c]) (m := tl) (by simp; omega)
  have fi := int_dig (l := c :: tl) (fc.app fr) (by simp) (by simp; omega)
  have lt := len_str (l := tl) (by omega)
  have e101 : cmpD .ne (.str [101]) (.str [101]) = .ok false := by rfl
  simp only [G.parts_76, G.b_parts_76]
  rw [run_eq (by rfl)]
  generalize hB : [c] ++ ptq (qr tl) = B at *
  simp only [List.map_cons, List.map_nil, List.replicate, List.cons_append, List.nil_append, Nat.reduceSub]
  refine seq (P := fun o => outR o = R.ok (D.tup [.int (dv (c :: tl) : Nat), .int P, .int (1 + (tl.length : Nat))])) (by simp only [evSs, evS, evT, evE, evEs, evSrc, getS0, getSs, set0, setS, R.bind_ok, R.bind_ex, bind_ite, withR_ok, withR_ex, withR_ite, thenO_nxt, thenO_ret, thenO_ex, thenO_ite, outR_nxt, outR_ret, outR_ex, outR_ite, bool_ok, int_ok, bin_add, bin_sub, bin_mul, bin_fdiv, bin_mod, bin_shl, bin_shr, bin_pow, bin_and, bin_or, bin_xor, cmp_eq, cmp_ne, cmp_lt, cmp_le, cmp_gt, cmp_ge, add_int, sub_int, and_int, or_int, xor_int, neg_int, len_lst, len_tup, abs_int, int_int, int_bl, max_int, min_int, bits_int, ix_tup0, ix_tup1, ix_tup2, List.map_cons, List.map_nil, List.replicate, List.cons_append, List.nil_append, List.append_nil, List.length_cons, List.length_nil, decide_eq_true_eq, Nat.reduceSub, Nat.reduceAdd, Int.reduceToNat, setAll, Int.toNat_natCast, Int.one_mul, strD, pa1, decide_true, decide_false, Bool.not_true, Bool.not_false, Bool.false_eq_true, if_true, if_false]; rfl) ?_
  refine seq (P := fun o => outR o = R.ok (D.tup [.int (dv (c :: tl) : Nat), .int P, .int (1 + (tl.length : Nat))])) (by simp only [evSs, evS, evT, evE, evEs, evSrc, getS0, getSs, set0, setS, R.bind_ok, R.bind_ex, bind_ite, withR_ok, withR_ex, withR_ite, thenO_nxt, thenO_ret, thenO_ex, thenO_ite, outR_nxt, outR_ret, outR_ex, outR_ite, bool_ok, int_ok, bin_add, bin_sub, bin_mul, bin_fdiv, bin_mod, bin_shl, bin_shr, bin_pow, bin_and, bin_or, bin_xor, cmp_eq, cmp_ne, cmp_lt, cmp_le, cmp_gt, cmp_ge, add_int, sub_int, and_int, or_int, xor_int, neg_int, len_lst, len_tup, abs_int, int_int, int_bl, max_int, min_int, bits_int, ix_tup0, ix_tup1, ix_tup2, List.map_cons, List.map_nil, List.replicate, List.cons_append, List.nil_append, List.append_nil, List.length_cons, List.length_nil, decide_eq_true_eq, Nat.reduceSub, Nat.reduceAdd, Int.reduceToNat, setAll, Int.toNat_natCast, Int.one_mul, strD, pa2, decide_true, decide_false, Bool.not_true, Bool.not_false, Bool.false_eq_true, if_true, if_false]; rfl) ?_
  refine seq (P := fun o => outR o = R.ok (D.tup [.int (dv (c :: tl) : Nat), .int P, .int (1 + (tl.length : Nat))])) (by simp only [evSs, evS, evT, evE, evEs, evSrc, getS0, getSs, set0, setS, R.bind_ok, R.bind_ex, bind_ite, withR_ok, withR_ex, withR_ite, thenO_nxt, thenO_ret, thenO_ex, thenO_ite, outR_nxt, outR_ret, outR_ex, outR_ite, bool_ok, int_ok, bin_add, bin_sub, bin_mul, bin_fdiv, bin_mod, bin_shl, bin_shr, bin_pow, bin_and, bin_or, bin_xor, cmp_eq, cmp_ne, cmp_lt, cmp_le, cmp_gt, cmp_ge, add_int, sub_int, and_int, or_int, xor_int, neg_int, len_lst, len_tup, abs_int, int_int, int_bl, max_int, min_int, bits_int, ix_tup0, ix_tup1, ix_tup2, List.map_cons, List.map_nil, List.replicate, List.cons_append, List.nil_append, List.append_nil, List.length_cons, List.length_nil, decide_eq_true_eq, Nat.reduceSub, Nat.reduceAdd, Int.reduceToNat, setAll, Int.toNat_natCast, Int.one_mul, decide_true, decide_false, Bool.not_true, Bool.not_false, Bool.false_eq_true, if_true, if_false]; rfl) ?_
  refine seqs (P := fun o => outR o = R.ok (D.tup [.int (dv (c :: tl) : Nat), .int P, .int (1 + (tl.length : Nat))])) (i := 7) (sl := .dat (.str (TL.numL P.natAbs))) (by
    by_cases q : P < 0
    · have eP : pwL P = 45 :: TL.numL P.natAbs := by unfold pwL; rw [if_pos q]
      have e1 : ((pwL P).take 1 == [45]) = true := by rw [eP]; rfl
      rw [e1] at e45
      have sl : slcD (.str (pwL P)) (some 1) none = .ok (.str (TL.numL P.natAbs)) := by rw [eP]; exact slL1 (by omega)
      simp only [evSs, evS, evT, evE, evEs, evSrc, getS0, getSs, set0, setS, R.bind_ok, R.bind_ex, bind_ite, withR_ok, withR_ex, withR_ite, thenO_nxt, thenO_ret, thenO_ex, thenO_ite, outR_nxt, outR_ret, outR_ex, outR_ite, bool_ok, int_ok, bin_add, bin_sub, bin_mul, bin_fdiv, bin_mod, bin_shl, bin_shr, bin_pow, bin_and, bin_or, bin_xor, cmp_eq, cmp_ne, cmp_lt, cmp_le, cmp_gt, cmp_ge, add_int, sub_int, and_int, or_int, xor_int, neg_int, len_lst, len_tup, abs_int, int_int, int_bl, max_int, min_int, bits_int, ix_tup0, ix_tup1, ix_tup2, List.map_cons, List.map_nil, List.replicate, List.cons_append, List.nil_append, List.append_nil, List.length_cons, List.length_nil, decide_eq_true_eq, Nat.reduceSub, Nat.reduceAdd, Int.reduceToNat, shp, e45, sl, decide_true, decide_false, Bool.not_true, Bool.not_false, Bool.false_eq_true, if_true, if_false]
    · have eP : pwL P = TL.numL P.natAbs := by unfold pwL; rw [if_neg q]
      have e1 : ((pwL P).take 1 == [45]) = false := by
        rw [eP]
        obtain ⟨d, y, ed, d1, d2⟩ := num_hd P.natAbs
        rw [ed]
        refine beq_eq_false_iff_ne.mpr fun e => ?_
        have := (List.cons.inj e).1
        omega
      rw [e1] at e45
      simp only [evSs, evS, evT, evE, evEs, evSrc, getS0, getSs, set0, setS, R.bind_ok, R.bind_ex, bind_ite, withR_ok, withR_ex, withR_ite, thenO_nxt, thenO_ret, thenO_ex, thenO_ite, outR_nxt, outR_ret, outR_ex, outR_ite, bool_ok, int_ok, bin_add, bin_sub, bin_mul, bin_fdiv, bin_mod, bin_shl, bin_shr, bin_pow, bin_and, bin_or, bin_xor, cmp_eq, cmp_ne, cmp_lt, cmp_le, cmp_gt, cmp_ge, add_int, sub_int, and_int, or_int, xor_int, neg_int, len_lst, len_tup, abs_int, int_int, int_bl, max_int, min_int, bits_int, ix_tup0, ix_tup1, ix_tup2, List.map_cons, List.map_nil, List.replicate, List.cons_append, List.nil_append, List.append_nil, List.length_cons, List.length_nil, decide_eq_true_eq, Nat.reduceSub, Nat.reduceAdd, Int.reduceToNat, shp, e45, decide_true, decide_false, Bool.not_true, Bool.not_false, Bool.false_eq_true, if_true, if_false]
      rw [eP]) ?_
  simp only [set0, setS]
  refine seq (P := fun o => outR o = R.ok (D.tup [.int (dv (c :: tl) : Nat), .int P, .int (1 + (tl.length : Nat))])) (by simp only [evSs, evS, evT, evE, evEs, evSrc, getS0, getSs, set0, setS, R.bind_ok, R.bind_ex, bind_ite, withR_ok, withR_ex, withR_ite, thenO_nxt, thenO_ret, thenO_ex, thenO_ite, outR_nxt, outR_ret, outR_ex, outR_ite, bool_ok, int_ok, bin_add, bin_sub, bin_mul, bin_fdiv, bin_mod, bin_shl, bin_shr, bin_pow, bin_and, bin_or, bin_xor, cmp_eq, cmp_ne, cmp_lt, cmp_le, cmp_gt, cmp_ge, add_int, sub_int, and_int, or_int, xor_int, neg_int, len_lst, len_tup, abs_int, int_int, int_bl, max_int, min_int, bits_int, ix_tup0, ix_tup1, ix_tup2, List.map_cons, List.map_nil, List.replicate, List.cons_append, List.nil_append, List.append_nil, List.length_cons, List.length_nil, decide_eq_true_eq, Nat.reduceSub, Nat.reduceAdd, Int.reduceToNat, setAll, Int.toNat_natCast, Int.one_mul, e101, f76, em0, lnp, g3, decide_true, decide_false, Bool.not_true, Bool.not_false, Bool.false_eq_true, if_true, if_false]; rfl) ?_
  have g1 : ¬ ¬ ((([c].length : Nat) : Int) = 1) := by simp
  refine seq (P := fun o => outR o = R.ok (D.tup [.int (dv (c :: tl) : Nat), .int P, .int (1 + (tl.length : Nat))])) (by simp only [evSs, evS, evT, evE, evEs, evSrc, getS0, getSs, set0, setS, R.bind_ok, R.bind_ex, bind_ite, withR_ok, withR_ex, withR_ite, thenO_nxt, thenO_ret, thenO_ex, thenO_ite, outR_nxt, outR_ret, outR_ex, outR_ite, bool_ok, int_ok, bin_add, bin_sub, bin_mul, bin_fdiv, bin_mod, bin_shl, bin_shr, bin_pow, bin_and, bin_or, bin_xor, cmp_eq, cmp_ne, cmp_lt, cmp_le, cmp_gt, cmp_ge, add_int, sub_int, and_int, or_int, xor_int, neg_int, len_lst, len_tup, abs_int, int_int, int_bl, max_int, min_int, bits_int, ix_tup0, ix_tup1, ix_tup2, List.map_cons, List.map_nil, List.replicate, List.cons_append, List.nil_append, List.append_nil, List.length_cons, List.length_nil, decide_eq_true_eq, Nat.reduceSub, Nat.reduceAdd, Int.reduceToNat, setAll, Int.toNat_natCast, Int.one_mul, l1, List.length_cons, List.length_nil, n9, not_true, decide_true, decide_true, decide_false, Bool.not_true, Bool.not_false, Bool.false_eq_true, if_true, if_false]; rfl) ?_
  have fin : ∀ (ρ1 : Env), True := fun _ => trivial
  rcases hmk with ⟨rfl, _⟩ | ⟨rfl, nt⟩
  · have e46 : cmpD .eq (.str []) (.str [46]) = .ok false := by rfl
    refine seq (P := fun o => outR o = R.ok (D.tup [.int (dv (c :: tl) : Nat), .int P, .int (1 + (tl.length : Nat))])) (by simp only [evSs, evS, evT, evE, evEs, evSrc, getS0, getSs, set0, setS, R.bind_ok, R.bind_ex, bind_ite, withR_ok, withR_ex, withR_ite, thenO_nxt, thenO_ret, thenO_ex, thenO_ite, outR_nxt, outR_ret, outR_ex, outR_ite, bool_ok, int_ok, bin_add, bin_sub, bin_mul, bin_fdiv, bin_mod, bin_shl, bin_shr, bin_pow, bin_and, bin_or, bin_xor, cmp_eq, cmp_ne, cmp_lt, cmp_le, cmp_gt, cmp_ge, add_int, sub_int, and_int, or_int, xor_int, neg_int, len_lst, len_tup, abs_int, int_int, int_bl, max_int, min_int, bits_int, ix_tup0, ix_tup1, ix_tup2, List.map_cons, List.map_nil, List.replicate, List.cons_append, List.nil_append, List.append_nil, List.length_cons, List.length_nil, decide_eq_true_eq, Nat.reduceSub, Nat.reduceAdd, Int.reduceToNat, setAll, Int.toNat_natCast, Int.one_mul, e46, decide_true, decide_false, Bool.not_true, Bool.not_false, Bool.false_eq_true, if_true, if_false]; rfl) ?_
    refine seq_ret (P := fun o => outR o = R.ok (D.tup [.int (dv (c :: tl) : Nat), .int P, .int (1 + (tl.length : Nat))])) (by simp (disch := first | assumption | omega | decide +kernel | exact bsum (by (repeat' first | assumption | apply Bd.mod | apply Bd.shlm | apply Bd.shl | apply Bd.mul | apply Bd.add | apply Bd.sub | apply Bd.neg | apply Bd.abs | apply Bd.fdiv | apply Bd.pow2 | exact Bd.lit _ | decide | omega)) (by (repeat' first | assumption | apply Bd.mod | apply Bd.shlm | apply Bd.shl | apply Bd.mul | apply Bd.add | apply Bd.sub | apply Bd.neg | apply Bd.abs | apply Bd.fdiv | apply Bd.pow2 | exact Bd.lit _ | decide | omega)) (by decide +kernel) | (have := bits_one; have := bits_two; have := bits_three; omega)) only [evSs, evS, evT, evE, evEs, evSrc, getS0, getSs, set0, setS, R.bind_ok, R.bind_ex, bind_ite, withR_ok, withR_ex, withR_ite, thenO_nxt, thenO_ret, thenO_ex, thenO_ite, outR_nxt, outR_ret, outR_ex, outR_ite, bool_ok, int_ok, bin_add, bin_sub, bin_mul, bin_fdiv, bin_mod, bin_shl, bin_shr, bin_pow, bin_and, bin_or, bin_xor, cmp_eq, cmp_ne, cmp_lt, cmp_le, cmp_gt, cmp_ge, add_int, sub_int, and_int, or_int, xor_int, neg_int, len_lst, len_tup, abs_int, int_int, int_bl, max_int, min_int, bits_int, ix_tup0, ix_tup1, ix_tup2, List.map_cons, List.map_nil, List.replicate, List.cons_append, List.nil_append, List.append_nil, List.length_cons, List.length_nil, decide_eq_true_eq, Nat.reduceSub, Nat.reduceAdd, Int.reduceToNat, setAll, Int.toNat_natCast, Int.one_mul, ca, fi, ip, lt, mul_ok, mod_ok, fdiv_ok, shl_ok, shr_ok, pow_ok, decide_true, decide_false, Bool.not_true, Bool.not_false, Bool.false_eq_true, if_true, if_false]; rfl) ?_
    rfl
  · have e46 : cmpD .eq (.str [46]) (.str [46]) = .ok true := by rfl
    obtain ⟨r', d, er, hd⟩ := last nt
    have k1 := cat_str (l := [49]) (m := tl) (by simp; omega)
    have f1 : Fig ([49] ++ tl) := Fig.app (fun d hd => by rw [List.mem_singleton.mp hd]; omega) fr
    have f2 := figures_76_ok f1 (by simp) (by simp; omega) (.inr ⟨49, tl, rfl, by decide⟩)
    have et := eq_str fr.txt (m := []) rfl
    have et0 : (tl == []) = false := by
      cases tl with
      | nil => exact absurd rfl nt
      | cons => rfl
    rw [et0] at et
    have lr : r'.length + 1 = tl.length := by rw [er, List.length_append]; rfl
    have sl : slcD (.str tl) (some ((tl.length : Int) - 1)) none = .ok (.str [d]) := by
      rw [show (tl.length : Int) - 1 = ((r'.length : Nat) : Int) by omega]
      have := slL (l := tl) (by omega) r'.length
      rw [show tl.drop r'.length = [d] by rw [er, List.drop_left]] at this
      exact this
    have hdd := fr d (by rw [er]; exact List.mem_append_right _ (List.mem_singleton.mpr rfl))
    have ed : cmpD .eq (.str [d]) (.str [48]) = .ok false := by
      rw [eq_str (by simp; omega) rfl]
      exact congrArg R.ok (beq_eq_false_iff_ne.mpr fun e => hd (List.cons.inj e).1)
    have k1' : addD (.str [49]) (.str tl) = .ok (.str (49 :: tl)) := k1
    have f2' : G.all_figures_76 [.str (49 :: tl)] = .ok (.bl true) := f2
    refine seq (P := fun o => outR o = R.ok (D.tup [.int (dv (c :: tl) : Nat), .int P, .int (1 + (tl.length : Nat))])) (by simp only [evSs, evS, evT, evE, evEs, evSrc, getS0, getSs, set0, setS, R.bind_ok, R.bind_ex, bind_ite, withR_ok, withR_ex, withR_ite, thenO_nxt, thenO_ret, thenO_ex, thenO_ite, outR_nxt, outR_ret, outR_ex, outR_ite, bool_ok, int_ok, bin_add, bin_sub, bin_mul, bin_fdiv, bin_mod, bin_shl, bin_shr, bin_pow, bin_and, bin_or, bin_xor, cmp_eq, cmp_ne, cmp_lt, cmp_le, cmp_gt, cmp_ge, add_int, sub_int, and_int, or_int, xor_int, neg_int, len_lst, len_tup, abs_int, int_int, int_bl, max_int, min_int, bits_int, ix_tup0, ix_tup1, ix_tup2, List.map_cons, List.map_nil, List.replicate, List.cons_append, List.nil_append, List.append_nil, List.length_cons, List.length_nil, decide_eq_true_eq, Nat.reduceSub, Nat.reduceAdd, Int.reduceToNat, setAll, Int.toNat_natCast, Int.one_mul, e46, k1', f2', et, lt, sl, ed, decide_true, decide_false, Bool.not_true, Bool.not_false, Bool.false_eq_true, if_true, if_false]; rfl) ?_
    refine seq_ret (P := fun o => outR o = R.ok (D.tup [.int (dv (c :: tl) : Nat), .int P, .int (1 + (tl.length : Nat))])) (by simp (disch := first | assumption | omega | decide +kernel | exact bsum (by (repeat' first | assumption | apply Bd.mod | apply Bd.shlm | apply Bd.shl | apply Bd.mul | apply Bd.add | apply Bd.sub | apply Bd.neg | apply Bd.abs | apply Bd.fdiv | apply Bd.pow2 | exact Bd.lit _ | decide | omega)) (by (repeat' first | assumption | apply Bd.mod | apply Bd.shlm | apply Bd.shl | apply Bd.mul | apply Bd.add | apply Bd.sub | apply Bd.neg | apply Bd.abs | apply Bd.fdiv | apply Bd.pow2 | exact Bd.lit _ | decide | omega)) (by decide +kernel) | (have := bits_one; have := bits_two; have := bits_three; omega)) only [evSs, evS, evT, evE, evEs, evSrc, getS0, getSs, set0, setS, R.bind_ok, R.bind_ex, bind_ite, withR_ok, withR_ex, withR_ite, thenO_nxt, thenO_ret, thenO_ex, thenO_ite, outR_nxt, outR_ret, outR_ex, outR_ite, bool_ok, int_ok, bin_add, bin_sub, bin_mul, bin_fdiv, bin_mod, bin_shl, bin_shr, bin_pow, bin_and, bin_or, bin_xor, cmp_eq, cmp_ne, cmp_lt, cmp_le, cmp_gt, cmp_ge, add_int, sub_int, and_int, or_int, xor_int, neg_int, len_lst, len_tup, abs_int, int_int, int_bl, max_int, min_int, bits_int, ix_tup0, ix_tup1, ix_tup2, List.map_cons, List.map_nil, List.replicate, List.cons_append, List.nil_append, List.append_nil, List.length_cons, List.length_nil, decide_eq_true_eq, Nat.reduceSub, Nat.reduceAdd, Int.reduceToNat, setAll, Int.toNat_natCast, Int.one_mul, ca, fi, ip, lt, mul_ok, mod_ok, fdiv_ok, shl_ok, shr_ok, pow_ok, decide_true, decide_false, Bool.not_true, Bool.not_false, Bool.false_eq_true, if_true, if_false]; rfl) ?_
    rfl
theorem deep_76 (w : Wd a b) : (b : Int) + 2 ^ (a - 1) - 2 = (((-lpv a b).toNat : Nat) : Int) := by
  obtain ⟨l1, l2⟩ := w.lp
  unfold lpv at *
  omega
theorem tpv_bits {S : Int} (hS : bits S ≤ 2200) {t : Int} (h : -400 ≤ t) : bits (tpv S t) ≤ 4000 := by
  have := bits_ten (-t).toNat
  have : bits (tpv S t) ≤ bits S + bits ((10 : Int) ^ (-t).toNat) := Bd.mul (Nat.le_refl _) (Nat.le_refl _)
  omega
theorem btv_bits {D : Nat} (hD : D ≤ 1100) {t : Int} (h : t ≤ 400) : bits (btv D t) ≤ 4000 := by
  have := bits_ten t.toNat
  exact Nat.le_trans (Bd.shl D (Nat.le_refl (bits ((10 : Int) ^ t.toNat)))) (by omega)
theorem tops_76 (w : Wd a b) {s t : Int} (s0 : 0 ≤ s) (sH : s < 2 ^ (a + b)) (t1 : -400 ≤ t) (t2 : t ≤ 400) : G.tens_74 [.int (max (0 - t) 0)] = .ok (.int (10 ^ (-t).toNat)) ∧ mulD (.int (st b s)) (.int (10 ^ (-t).toNat)) = .ok (.int (tpv (st b s) t)) ∧
    G.tens_74 [.int (max t 0)] = .ok (.int (10 ^ t.toNat)) ∧ shlD (.int (10 ^ t.toNat)) (.int (((-lpv a b).toNat : Nat) : Int)) = .ok (.int (btv (-lpv a b).toNat t)) := by
  obtain ⟨l1, l2⟩ := w.lp
  have bs := st_bits w s0 sH
  have b1 := bits_ten t.toNat
  have b2 := bits_ten (-t).toNat
  refine ⟨?_, mul_ok (by omega), ?_, shlN (by omega)⟩
  · rw [show max (0 - t) 0 = (((-t).toNat : Nat) : Int) by omega]
    exact tens_74_ok (by omega)
  · rw [show max t 0 = ((t.toNat : Nat) : Int) by omega]
    exact tens_74_ok (by omega)
theorem decade_76_ok (w : Wd a b) {s m e p P : Int} (f : Fw a b s m e p) (hP : P = p ∨ P = p + 1) : G.decade_76 [.tup [.int a, .int b], .int s, .int P] = .ok (.tup [.int p, .bl true]) := by
  obtain ⟨L, H, eL, eH, hL, hLH, eW⟩ := w.lh
  obtain ⟨l1, l2⟩ := w.lp
  have s1 := f.s1; have sL := f.sL; have fp1 := f.p1; have fp2 := f.p2
  obtain ⟨a1, a2, a3, a4⟩ := tops_76 w (s := s) (t := P) (by omega) (by omega) (by omega) (by omega)
  have ss := steps_of_33_ok w (s := s) (by omega) (by omega)
  have bi := bias2 w
  have em := deep_76 w
  have bs := st_bits w (show 0 ≤ s by omega) (by omega)
  have tb := tpv_bits bs (t := P) (by omega)
  have bb := btv_bits (D := (-lpv a b).toNat) (by omega) (t := P) (by omega)
  have b10 : bits 10 = 4 := by decide
  have m1 : mulD (.int 10) (.int (tpv (st b s) P)) = .ok (.int (10 * tpv (st b s) P)) := mul_ok (by omega)
  have m2 : mulD (.int 10) (.int (btv (-lpv a b).toNat P)) = .ok (.int (10 * btv (-lpv a b).toNat P)) := mul_ok (by omega)
  have lo := f.lo; have hi := f.hi
  simp only [G.decade_76, G.b_decade_76]
  rw [run_eq (by rfl)]
  simp only [List.map_cons, List.map_nil, List.replicate, List.cons_append, List.nil_append, Nat.reduceSub]
  refine seq (P := fun o => outR o = R.ok (D.tup [.int p, .bl true])) (by simp only [evSs, evS, evT, evE, evEs, evSrc, getS0, getSs, set0, setS, R.bind_ok, R.bind_ex, bind_ite, withR_ok, withR_ex, withR_ite, thenO_nxt, thenO_ret, thenO_ex, thenO_ite, outR_nxt, outR_ret, outR_ex, outR_ite, bool_ok, int_ok, bin_add, bin_sub, bin_mul, bin_fdiv, bin_mod, bin_shl, bin_shr, bin_pow, bin_and, bin_or, bin_xor, cmp_eq, cmp_ne, cmp_lt, cmp_le, cmp_gt, cmp_ge, add_int, sub_int, and_int, or_int, xor_int, neg_int, len_lst, len_tup, abs_int, int_int, int_bl, max_int, min_int, bits_int, ix_tup0, ix_tup1, ix_tup2, List.map_cons, List.map_nil, List.replicate, List.cons_append, List.nil_append, List.append_nil, List.length_cons, List.length_nil, decide_eq_true_eq, Nat.reduceSub, Nat.reduceAdd, Int.reduceToNat, setAll, Int.toNat_natCast, Int.one_mul, bi, em, decide_true, decide_false, Bool.not_true, Bool.not_false, Bool.false_eq_true, if_true, if_false]; rfl) ?_
  refine seq (P := fun o => outR o = R.ok (D.tup [.int p, .bl true])) (by simp only [evSs, evS, evT, evE, evEs, evSrc, getS0, getSs, set0, setS, R.bind_ok, R.bind_ex, bind_ite, withR_ok, withR_ex, withR_ite, thenO_nxt, thenO_ret, thenO_ex, thenO_ite, outR_nxt, outR_ret, outR_ex, outR_ite, bool_ok, int_ok, bin_add, bin_sub, bin_mul, bin_fdiv, bin_mod, bin_shl, bin_shr, bin_pow, bin_and, bin_or, bin_xor, cmp_eq, cmp_ne, cmp_lt, cmp_le, cmp_gt, cmp_ge, add_int, sub_int, and_int, or_int, xor_int, neg_int, len_lst, len_tup, abs_int, int_int, int_bl, max_int, min_int, bits_int, ix_tup0, ix_tup1, ix_tup2, List.map_cons, List.map_nil, List.replicate, List.cons_append, List.nil_append, List.append_nil, List.length_cons, List.length_nil, decide_eq_true_eq, Nat.reduceSub, Nat.reduceAdd, Int.reduceToNat, setAll, Int.toNat_natCast, Int.one_mul, ss, a1, a2, decide_true, decide_false, Bool.not_true, Bool.not_false, Bool.false_eq_true, if_true, if_false]; rfl) ?_
  refine seq (P := fun o => outR o = R.ok (D.tup [.int p, .bl true])) (by simp only [evSs, evS, evT, evE, evEs, evSrc, getS0, getSs, set0, setS, R.bind_ok, R.bind_ex, bind_ite, withR_ok, withR_ex, withR_ite, thenO_nxt, thenO_ret, thenO_ex, thenO_ite, outR_nxt, outR_ret, outR_ex, outR_ite, bool_ok, int_ok, bin_add, bin_sub, bin_mul, bin_fdiv, bin_mod, bin_shl, bin_shr, bin_pow, bin_and, bin_or, bin_xor, cmp_eq, cmp_ne, cmp_lt, cmp_le, cmp_gt, cmp_ge, add_int, sub_int, and_int, or_int, xor_int, neg_int, len_lst, len_tup, abs_int, int_int, int_bl, max_int, min_int, bits_int, ix_tup0, ix_tup1, ix_tup2, List.map_cons, List.map_nil, List.replicate, List.cons_append, List.nil_append, List.append_nil, List.length_cons, List.length_nil, decide_eq_true_eq, Nat.reduceSub, Nat.reduceAdd, Int.reduceToNat, setAll, Int.toNat_natCast, Int.one_mul, a3, a4, decide_true, decide_false, Bool.not_true, Bool.not_false, Bool.false_eq_true, if_true, if_false]; rfl) ?_
  rcases hP with rfl | rfl
  · have n1 : ¬ tpv (st b s) P < btv (-lpv a b).toNat P := by omega
    simp only [evSs, evS, evT, evE, evEs, evSrc, getS0, getSs, set0, setS, R.bind_ok, R.bind_ex, bind_ite, withR_ok, withR_ex, withR_ite, thenO_nxt, thenO_ret, thenO_ex, thenO_ite, outR_nxt, outR_ret, outR_ex, outR_ite, bool_ok, int_ok, bin_add, bin_sub, bin_mul, bin_fdiv, bin_mod, bin_shl, bin_shr, bin_pow, bin_and, bin_or, bin_xor, cmp_eq, cmp_ne, cmp_lt, cmp_le, cmp_gt, cmp_ge, add_int, sub_int, and_int, or_int, xor_int, neg_int, len_lst, len_tup, abs_int, int_int, int_bl, max_int, min_int, bits_int, ix_tup0, ix_tup1, ix_tup2, List.map_cons, List.map_nil, List.replicate, List.cons_append, List.nil_append, List.append_nil, List.length_cons, List.length_nil, decide_eq_true_eq, Nat.reduceSub, Nat.reduceAdd, Int.reduceToNat, n1, m2, hi, decide_true, decide_false, Bool.not_true, Bool.not_false, Bool.false_eq_true, if_true, if_false]
  · have h := sc (st b s) (-lpv a b).toNat 1 (p + 1)
    rw [show p + 1 - ((1 : Nat) : Int) = p by omega, show (10 : Int) ^ 1 = 10 from rfl] at h
    have p1 := btv_pos (-lpv a b).toNat p
    have p2 := btv_pos (-lpv a b).toNat (p + 1)
    have c1 : tpv (st b s) (p + 1) < btv (-lpv a b).toNat (p + 1) := by
      have q := Int.mul_lt_mul_of_pos_right hi p2
      rw [h, Int.mul_assoc, Int.mul_assoc] at q
      have q2 : tpv (st b s) (p + 1) * btv (-lpv a b).toNat p < btv (-lpv a b).toNat p * btv (-lpv a b).toNat (p + 1) := by omega
      rw [Int.mul_comm (btv (-lpv a b).toNat p)] at q2
      exact Int.lt_of_mul_lt_mul_right q2 (Int.le_of_lt p1)
    have c2 : btv (-lpv a b).toNat (p + 1) ≤ 10 * tpv (st b s) (p + 1) := by
      have q := Int.mul_le_mul_of_nonneg_right lo (Int.le_of_lt p2)
      rw [h, Int.mul_comm (btv (-lpv a b).toNat p)] at q
      exact Int.le_of_mul_le_mul_right q p1
    have ep : p + 1 - 1 = p := by omega
    simp only [evSs, evS, evT, evE, evEs, evSrc, getS0, getSs, set0, setS, R.bind_ok, R.bind_ex, bind_ite, withR_ok, withR_ex, withR_ite, thenO_nxt, thenO_ret, thenO_ex, thenO_ite, outR_nxt, outR_ret, outR_ex, outR_ite, bool_ok, int_ok, bin_add, bin_sub, bin_mul, bin_fdiv, bin_mod, bin_shl, bin_shr, bin_pow, bin_and, bin_or, bin_xor, cmp_eq, cmp_ne, cmp_lt, cmp_le, cmp_gt, cmp_ge, add_int, sub_int, and_int, or_int, xor_int, neg_int, len_lst, len_tup, abs_int, int_int, int_bl, max_int, min_int, bits_int, ix_tup0, ix_tup1, ix_tup2, List.map_cons, List.map_nil, List.replicate, List.cons_append, List.nil_append, List.append_nil, List.length_cons, List.length_nil, decide_eq_true_eq, Nat.reduceSub, Nat.reduceAdd, Int.reduceToNat, c1, m1, c2, ep, decide_true, decide_false, Bool.not_true, Bool.not_false, Bool.false_eq_true, if_true, if_false]
theorem next_two_76_ok (w : Wd a b) {s k p t : Int} (s1 : 1 ≤ s) (sL : s < (2 ^ a - 1) * 2 ^ b) (ht : p - k + 1 = t) (t1 : -400 ≤ t) (t2 : t ≤ 400) : G.next_two_76 [.tup [.int a, .int b], .int s, .int k, .int p] = .ok (.tup [.int (lov (st b s) (-lpv a b).toNat t), .int (lov (st b s) (-lpv a b).toNat t + 1), .int t, .int (2 * (tpv (st b s) t % btv (-lpv a b).toNat t) - btv (-lpv a b).toNat t)]) := by
  obtain ⟨L, H, eL, eH, hL, hLH, eW⟩ := w.lh
  obtain ⟨l1, l2⟩ := w.lp
  obtain ⟨a1, a2, a3, a4⟩ := tops_76 w (s := s) (t := t) (by omega) (by omega) (by omega) (by omega)
  have ss := steps_of_33_ok w (s := s) (by omega) (by omega)
  have bi := bias2 w
  have em := deep_76 w
  have bb := btv_bits (D := (-lpv a b).toNat) (by omega) (t := t) (by omega)
  have bp := btv_pos (-lpv a b).toNat t
  have dm := divmod_big (i := tpv (st b s) t) bp (by omega)
  have r0 := Int.emod_nonneg (tpv (st b s) t) (show btv (-lpv a b).toNat t ≠ 0 by omega)
  have r1 := Int.emod_lt_of_pos (tpv (st b s) t) bp
  have bR := bd_lt r0 (Int.le_of_lt r1) bb
  have m2 : mulD (.int 2) (.int (tpv (st b s) t % btv (-lpv a b).toNat t)) = .ok (.int (2 * (tpv (st b s) t % btv (-lpv a b).toNat t))) := mul_ok (by have := bits_two; omega)
  have el : tpv (st b s) t / btv (-lpv a b).toNat t = lov (st b s) (-lpv a b).toNat t := rfl
  rw [el] at dm
  simp only [G.next_two_76, G.b_next_two_76]
  rw [run_eq (by rfl)]
  simp only [List.map_cons, List.map_nil, List.replicate, List.cons_append, List.nil_append, Nat.reduceSub]
  refine seq (P := fun o => outR o = R.ok (D.tup [.int (lov (st b s) (-lpv a b).toNat t), .int (lov (st b s) (-lpv a b).toNat t + 1), .int t, .int (2 * (tpv (st b s) t % btv (-lpv a b).toNat t) - btv (-lpv a b).toNat t)])) (by simp only [evSs, evS, evT, evE, evEs, evSrc, getS0, getSs, set0, setS, R.bind_ok, R.bind_ex, bind_ite, withR_ok, withR_ex, withR_ite, thenO_nxt, thenO_ret, thenO_ex, thenO_ite, outR_nxt, outR_ret, outR_ex, outR_ite, bool_ok, int_ok, bin_add, bin_sub, bin_mul, bin_fdiv, bin_mod, bin_shl, bin_shr, bin_pow, bin_and, bin_or, bin_xor, cmp_eq, cmp_ne, cmp_lt, cmp_le, cmp_gt, cmp_ge, add_int, sub_int, and_int, or_int, xor_int, neg_int, len_lst, len_tup, abs_int, int_int, int_bl, max_int, min_int, bits_int, ix_tup0, ix_tup1, ix_tup2, List.map_cons, List.map_nil, List.replicate, List.cons_append, List.nil_append, List.append_nil, List.length_cons, List.length_nil, decide_eq_true_eq, Nat.reduceSub, Nat.reduceAdd, Int.reduceToNat, setAll, Int.toNat_natCast, Int.one_mul, bi, em, decide_true, decide_false, Bool.not_true, Bool.not_false, Bool.false_eq_true, if_true, if_false]; rfl) ?_
  refine seq (P := fun o => outR o = R.ok (D.tup [.int (lov (st b s) (-lpv a b).toNat t), .int (lov (st b s) (-lpv a b).toNat t + 1), .int t, .int (2 * (tpv (st b s) t % btv (-lpv a b).toNat t) - btv (-lpv a b).toNat t)])) (by simp only [evSs, evS, evT, evE, evEs, evSrc, getS0, getSs, set0, setS, R.bind_ok, R.bind_ex, bind_ite, withR_ok, withR_ex, withR_ite, thenO_nxt, thenO_ret, thenO_ex, thenO_ite, outR_nxt, outR_ret, outR_ex, outR_ite, bool_ok, int_ok, bin_add, bin_sub, bin_mul, bin_fdiv, bin_mod, bin_shl, bin_shr, bin_pow, bin_and, bin_or, bin_xor, cmp_eq, cmp_ne, cmp_lt, cmp_le, cmp_gt, cmp_ge, add_int, sub_int, and_int, or_int, xor_int, neg_int, len_lst, len_tup, abs_int, int_int, int_bl, max_int, min_int, bits_int, ix_tup0, ix_tup1, ix_tup2, List.map_cons, List.map_nil, List.replicate, List.cons_append, List.nil_append, List.append_nil, List.length_cons, List.length_nil, decide_eq_true_eq, Nat.reduceSub, Nat.reduceAdd, Int.reduceToNat, setAll, Int.toNat_natCast, Int.one_mul, ht, decide_true, decide_false, Bool.not_true, Bool.not_false, Bool.false_eq_true, if_true, if_false]; rfl) ?_
  refine seq (P := fun o => outR o = R.ok (D.tup [.int (lov (st b s) (-lpv a b).toNat t), .int (lov (st b s) (-lpv a b).toNat t + 1), .int t, .int (2 * (tpv (st b s) t % btv (-lpv a b).toNat t) - btv (-lpv a b).toNat t)])) (by simp only [evSs, evS, evT, evE, evEs, evSrc, getS0, getSs, set0, setS, R.bind_ok, R.bind_ex, bind_ite, withR_ok, withR_ex, withR_ite, thenO_nxt, thenO_ret, thenO_ex, thenO_ite, outR_nxt, outR_ret, outR_ex, outR_ite, bool_ok, int_ok, bin_add, bin_sub, bin_mul, bin_fdiv, bin_mod, bin_shl, bin_shr, bin_pow, bin_and, bin_or, bin_xor, cmp_eq, cmp_ne, cmp_lt, cmp_le, cmp_gt, cmp_ge, add_int, sub_int, and_int, or_int, xor_int, neg_int, len_lst, len_tup, abs_int, int_int, int_bl, max_int, min_int, bits_int, ix_tup0, ix_tup1, ix_tup2, List.map_cons, List.map_nil, List.replicate, List.cons_append, List.nil_append, List.append_nil, List.length_cons, List.length_nil, decide_eq_true_eq, Nat.reduceSub, Nat.reduceAdd, Int.reduceToNat, setAll, Int.toNat_natCast, Int.one_mul, ss, a1, a2, decide_true, decide_false, Bool.not_true, Bool.not_false, Bool.false_eq_true, if_true, if_false]; rfl) ?_
  refine seq (P := fun o => outR o = R.ok (D.tup [.int (lov (st b s) (-lpv a b).toNat t), .int (lov (st b s) (-lpv a b).toNat t + 1), .int t, .int (2 * (tpv (st b s) t % btv (-lpv a b).toNat t) - btv (-lpv a b).toNat t)])) (by simp only [evSs, evS, evT, evE, evEs, evSrc, getS0, getSs, set0, setS, R.bind_ok, R.bind_ex, bind_ite, withR_ok, withR_ex, withR_ite, thenO_nxt, thenO_ret, thenO_ex, thenO_ite, outR_nxt, outR_ret, outR_ex, outR_ite, bool_ok, int_ok, bin_add, bin_sub, bin_mul, bin_fdiv, bin_mod, bin_shl, bin_shr, bin_pow, bin_and, bin_or, bin_xor, cmp_eq, cmp_ne, cmp_lt, cmp_le, cmp_gt, cmp_ge, add_int, sub_int, and_int, or_int, xor_int, neg_int, len_lst, len_tup, abs_int, int_int, int_bl, max_int, min_int, bits_int, ix_tup0, ix_tup1, ix_tup2, List.map_cons, List.map_nil, List.replicate, List.cons_append, List.nil_append, List.append_nil, List.length_cons, List.length_nil, decide_eq_true_eq, Nat.reduceSub, Nat.reduceAdd, Int.reduceToNat, setAll, Int.toNat_natCast, Int.one_mul, a3, a4, decide_true, decide_false, Bool.not_true, Bool.not_false, Bool.false_eq_true, if_true, if_false]; rfl) ?_
  refine seq (P := fun o => outR o = R.ok (D.tup [.int (lov (st b s) (-lpv a b).toNat t), .int (lov (st b s) (-lpv a b).toNat t + 1), .int t, .int (2 * (tpv (st b s) t % btv (-lpv a b).toNat t) - btv (-lpv a b).toNat t)])) (by simp only [evSs, evS, evT, evE, evEs, evSrc, getS0, getSs, set0, setS, R.bind_ok, R.bind_ex, bind_ite, withR_ok, withR_ex, withR_ite, thenO_nxt, thenO_ret, thenO_ex, thenO_ite, outR_nxt, outR_ret, outR_ex, outR_ite, bool_ok, int_ok, bin_add, bin_sub, bin_mul, bin_fdiv, bin_mod, bin_shl, bin_shr, bin_pow, bin_and, bin_or, bin_xor, cmp_eq, cmp_ne, cmp_lt, cmp_le, cmp_gt, cmp_ge, add_int, sub_int, and_int, or_int, xor_int, neg_int, len_lst, len_tup, abs_int, int_int, int_bl, max_int, min_int, bits_int, ix_tup0, ix_tup1, ix_tup2, List.map_cons, List.map_nil, List.replicate, List.cons_append, List.nil_append, List.append_nil, List.length_cons, List.length_nil, decide_eq_true_eq, Nat.reduceSub, Nat.reduceAdd, Int.reduceToNat, setAll, Int.toNat_natCast, Int.one_mul, dm, decide_true, decide_false, Bool.not_true, Bool.not_false, Bool.false_eq_true, if_true, if_false]; rfl) ?_
  simp only [evSs, evS, evT, evE, evEs, evSrc, getS0, getSs, set0, setS, R.bind_ok, R.bind_ex, bind_ite, withR_ok, withR_ex, withR_ite, thenO_nxt, thenO_ret, thenO_ex, thenO_ite, outR_nxt, outR_ret, outR_ex, outR_ite, bool_ok, int_ok, bin_add, bin_sub, bin_mul, bin_fdiv, bin_mod, bin_shl, bin_shr, bin_pow, bin_and, bin_or, bin_xor, cmp_eq, cmp_ne, cmp_lt, cmp_le, cmp_gt, cmp_ge, add_int, sub_int, and_int, or_int, xor_int, neg_int, len_lst, len_tup, abs_int, int_int, int_bl, max_int, min_int, bits_int, ix_tup0, ix_tup1, ix_tup2, List.map_cons, List.map_nil, List.replicate, List.cons_append, List.nil_append, List.append_nil, List.length_cons, List.length_nil, decide_eq_true_eq, Nat.reduceSub, Nat.reduceAdd, Int.reduceToNat, m2]
theorem reads_76_ok (w : Wd a b) {s n t : Int} (n1 : 1 ≤ n) (bn : bits n ≤ 120) (nb : n < 10 ^ 40) (t1 : -400 ≤ t) (t2 : t ≤ 400) : ∃ β : Bool, G.reads_76 [.tup [.int a, .int b], .int s, .int n, .int t] = .ok (.bl β) ∧ (β = true ↔ RdN a b s n t) := by
  obtain ⟨l1, l2⟩ := w.lp
  obtain ⟨nn, rfl⟩ : ∃ nn : Nat, n = nn := ⟨n.toNat, by omega⟩
  have hN : nn < 10 ^ 40 := by
    have : ((10 ^ 40 : Nat) : Int) = (10 : Int) ^ 40 := by rw [Int.natCast_pow]; rfl
    omega
  have nl := TL.numL_len (n := nn) (k := 40) (by decide) hN
  have sn := str_nat (n := nn) (Nat.lt_trans hN (Nat.lt_of_lt_of_le (by decide +kernel : 10 ^ 40 < 2 ^ 140) (Nat.pow_le_pow_right (by decide) (by decide))))
  have tP : t.natAbs < 1000 := by omega
  have spw := str_pw tP
  have lpw : (pwL t).length ≤ 4 := by
    have := TL.numL_len (n := t.natAbs) (k := 3) (by decide) tP
    unfold pwL
    split
    · rw [List.length_cons]; omega
    · omega
  have k1 := cat_str (l := TL.numL nn) (m := [101]) (by simp; omega)
  have k2 := cat_str (l := TL.numL nn ++ [101]) (m := pwL t) (by rw [List.length_append]; simp; omega)
  have eT : TL.numL nn ++ [101] ++ pwL t = gx false (TL.numL nn) none (pwP t) := by
    unfold gx
    rw [pwT_P]
    simp [ptq]
  rw [eT] at k2
  have lT : (gx false (TL.numL nn) none (pwP t)).length ≤ 1200 := by
    rw [← eT, List.length_append, List.length_append]
    simp
    omega
  have po := parts_of_gen (u := false) (fig_num nn) (TL.numL_ne nn) (q := none) (fun r h => by cases h) (pw_ok tP) lT
  have nnx := (nn_gx (u := false) (fig_num nn) (TL.numL_ne nn) (q := none) (fun r h => by cases h) (pw_ok tP)).1
  rw [pwV_P] at po
  simp only [tlq, List.append_nil, List.length_nil] at po
  rw [show dv (TL.numL nn) = nn from TL.numL_val nn, show t - ((0 : Nat) : Int) = t by omega] at po
  have p1 := p10 t.toNat
  have p2 := p10 (-t).toNat
  have b1 := bits_ten t.toNat
  have b2 := bits_ten (-t).toNat
  obtain ⟨s', at1⟩ := at_ex (b := b) (M := (nn : Int) * 10 ^ t.toNat * 2 ^ (-lpv a b).toNat) (N := 10 ^ (-t).toNat) (Int.mul_nonneg (Int.mul_nonneg (by omega) (Int.le_of_lt p1)) (Int.le_of_lt (pow2_pos _))) p2
  have rd := Rds.at (a := a) (s := s) p2 at1
  have rn := read_num w (c := 0) (by decide) nnx po (by omega) (by omega) (by omega) (by omega) at1
  have rn : F.read [.tup [.int a, .int b], .str (gx false (TL.numL nn) none (pwP t)), .str [101, 118, 101, 110]] = _ := rn
  generalize gx false (TL.numL nn) none (pwP t) = T at *
  refine ⟨decide (tkW a b 0 false s' (side b ((nn : Int) * 10 ^ t.toNat * 2 ^ (-lpv a b).toNat) (10 ^ (-t).toNat) s') = s), ?_, ?_⟩
  · simp only [G.reads_76, G.b_reads_76]
    rw [run_eq (by rfl)]
    simp only [evSs, evS, evT, evE, evEs, evSrc, getS0, getSs, set0, setS, R.bind_ok, R.bind_ex, bind_ite, withR_ok, withR_ex, withR_ite, thenO_nxt, thenO_ret, thenO_ex, thenO_ite, outR_nxt, outR_ret, outR_ex, outR_ite, bool_ok, int_ok, bin_add, bin_sub, bin_mul, bin_fdiv, bin_mod, bin_shl, bin_shr, bin_pow, bin_and, bin_or, bin_xor, cmp_eq, cmp_ne, cmp_lt, cmp_le, cmp_gt, cmp_ge, add_int, sub_int, and_int, or_int, xor_int, neg_int, len_lst, len_tup, abs_int, int_int, int_bl, max_int, min_int, bits_int, ix_tup0, ix_tup1, ix_tup2, List.map_cons, List.map_nil, List.replicate, List.cons_append, List.nil_append, List.append_nil, List.length_cons, List.length_nil, decide_eq_true_eq, Nat.reduceSub, Nat.reduceAdd, Int.reduceToNat, sn, k1, spw]
    rw [k2]
    simp only [evSs, evS, evT, evE, evEs, evSrc, getS0, getSs, set0, setS, R.bind_ok, R.bind_ex, bind_ite, withR_ok, withR_ex, withR_ite, thenO_nxt, thenO_ret, thenO_ex, thenO_ite, outR_nxt, outR_ret, outR_ex, outR_ite, bool_ok, int_ok, bin_add, bin_sub, bin_mul, bin_fdiv, bin_mod, bin_shl, bin_shr, bin_pow, bin_and, bin_or, bin_xor, cmp_eq, cmp_ne, cmp_lt, cmp_le, cmp_gt, cmp_ge, add_int, sub_int, and_int, or_int, xor_int, neg_int, len_lst, len_tup, abs_int, int_int, int_bl, max_int, min_int, bits_int, ix_tup0, ix_tup1, ix_tup2, List.map_cons, List.map_nil, List.replicate, List.cons_append, List.nil_append, List.append_nil, List.length_cons, List.length_nil, decide_eq_true_eq, Nat.reduceSub, Nat.reduceAdd, Int.reduceToNat, rn]
  · rw [decide_eq_true_eq]
    exact rd.symm
theorem fewest_76_ok (w : Wd a b) {s : Int} {c : Nat} {r : List Nat} {P p : Int} (h : Sh a b s c r P p) : G.fewest_76 [.tup [.int a, .int b], .int s, .tup [.int (dv (c :: r) : Nat), .int P, .int (1 + (r.length : Nat))]] = .ok (.bl true) := by
  obtain ⟨m, e, fw⟩ := h.fw
  have s1 := fw.s1; have sL := fw.sL; have fp1 := fw.p1; have fp2 := fw.p2; have len := h.len
  have wd := width_ok w
  have dc := decade_76_ok w fw (P := P) (by rcases h.P2 with q | ⟨q, _⟩ <;> omega)
  obtain ⟨t, ht⟩ : ∃ t : Int, t = p - r.length := ⟨_, rfl⟩
  have n2 := next_two_76_ok w (k := 1 + (r.length : Nat)) (p := p) (t := t) s1 sL (by omega) (by omega) (by omega)
  have n2' := next_two_76_ok w (k := 1 + (r.length : Nat) - 1) (p := p) (t := t + 1) s1 sL (by omega) (by omega) (by omega)
  obtain ⟨lo1, lo2⟩ := lo_rng fw.lo fw.hi r.length
  rw [← ht] at lo1 lo2
  have i20 : (10 : Int) ^ (r.length + 1) ≤ 10 ^ 20 := p10_le (by omega)
  have i0 := p10 r.length
  have e20 : (10 : Int) ^ 20 = 100000000000000000000 := rfl
  have e40 : (10 : Int) ^ 40 = 10000000000000000000000000000000000000000 := rfl
  obtain ⟨β0, rt0, hb0⟩ := reads_76_ok w (s := s) (n := lov (st b s) (-lpv a b).toNat t) (t := t) (by omega) (big_num (by omega) (by omega)) (by omega) (by omega) (by omega)
  obtain ⟨β1, rt1, hb1⟩ := reads_76_ok w (s := s) (n := lov (st b s) (-lpv a b).toNat t + 1) (t := t) (by omega) (big_num (by omega) (by omega)) (by omega) (by omega) (by omega)
  have fF : ∀ {β : Bool} {p : Prop}, (β = true ↔ p) → ¬ p → β = false := fun h hn => by
    rename_i β p
    cases β
    · rfl
    · exact absurd (h.mp rfl) hn
  have fnd := h.fnd
  rw [← ht] at fnd
  have eexp : P - (1 + (r.length : Nat)) + 1 - t = (((P - p).toNat : Nat) : Int) := by rcases h.P2 with q | ⟨q, _⟩ <;> omega
  have tn := tens_74_ok (m := (P - p).toNat) (by rcases h.P2 with q | ⟨q, _⟩ <;> omega)
  have bP := bits_ten (P - p).toNat
  have P1 : (P - p).toNat ≤ 1 := by rcases h.P2 with q | ⟨q, _⟩ <;> omega
  have fr : Fig (c :: r) := fun d hd => by
    rcases List.mem_cons.mp hd with q | q
    · have := h.c1; have := h.c2; omega
    · exact h.fr d q
  have bd := dv_bits fr
  rw [List.length_cons] at bd
  have mm : mulD (.int (dv (c :: r) : Nat)) (.int (10 ^ (P - p).toNat)) = .ok (.int ((dv (c :: r) : Nat) * 10 ^ (P - p).toNat)) := mul_ok (by omega)
  generalize ((dv (c :: r) : Nat) : Int) * 10 ^ (P - p).toNat = num at *
  have hside : hgv (st b s) (-lpv a b).toNat t ↔ 0 < 2 * (tpv (st b s) t % btv (-lpv a b).toNat t) - btv (-lpv a b).toNat t := by unfold hgv; omega
  generalize 2 * (tpv (st b s) t % btv (-lpv a b).toNat t) - btv (-lpv a b).toNat t = sd at *
  have mn := h.mn
  simp only [G.fewest_76, G.b_fewest_76]
  rw [run_eq (by rfl)]
  simp only [List.map_cons, List.map_nil, List.replicate, List.cons_append, List.nil_append, Nat.reduceSub]
  refine seq (P := fun o => outR o = R.ok (D.bl true)) (by simp only [evSs, evS, evT, evE, evEs, evSrc, getS0, getSs, set0, setS, R.bind_ok, R.bind_ex, bind_ite, withR_ok, withR_ex, withR_ite, thenO_nxt, thenO_ret, thenO_ex, thenO_ite, outR_nxt, outR_ret, outR_ex, outR_ite, bool_ok, int_ok, bin_add, bin_sub, bin_mul, bin_fdiv, bin_mod, bin_shl, bin_shr, bin_pow, bin_and, bin_or, bin_xor, cmp_eq, cmp_ne, cmp_lt, cmp_le, cmp_gt, cmp_ge, add_int, sub_int, and_int, or_int, xor_int, neg_int, len_lst, len_tup, abs_int, int_int, int_bl, max_int, min_int, bits_int, ix_tup0, ix_tup1, ix_tup2, List.map_cons, List.map_nil, List.replicate, List.cons_append, List.nil_append, List.append_nil, List.length_cons, List.length_nil, decide_eq_true_eq, Nat.reduceSub, Nat.reduceAdd, Int.reduceToNat, setAll, Int.toNat_natCast, Int.one_mul, wd, decide_true, decide_false, Bool.not_true, Bool.not_false, Bool.false_eq_true, if_true, if_false]; rfl) ?_
  refine seq (P := fun o => outR o = R.ok (D.bl true)) (by simp only [evSs, evS, evT, evE, evEs, evSrc, getS0, getSs, set0, setS, R.bind_ok, R.bind_ex, bind_ite, withR_ok, withR_ex, withR_ite, thenO_nxt, thenO_ret, thenO_ex, thenO_ite, outR_nxt, outR_ret, outR_ex, outR_ite, bool_ok, int_ok, bin_add, bin_sub, bin_mul, bin_fdiv, bin_mod, bin_shl, bin_shr, bin_pow, bin_and, bin_or, bin_xor, cmp_eq, cmp_ne, cmp_lt, cmp_le, cmp_gt, cmp_ge, add_int, sub_int, and_int, or_int, xor_int, neg_int, len_lst, len_tup, abs_int, int_int, int_bl, max_int, min_int, bits_int, ix_tup0, ix_tup1, ix_tup2, List.map_cons, List.map_nil, List.replicate, List.cons_append, List.nil_append, List.append_nil, List.length_cons, List.length_nil, decide_eq_true_eq, Nat.reduceSub, Nat.reduceAdd, Int.reduceToNat, setAll, Int.toNat_natCast, Int.one_mul, dc, decide_true, decide_false, Bool.not_true, Bool.not_false, Bool.false_eq_true, if_true, if_false]; rfl) ?_
  refine seq (P := fun o => outR o = R.ok (D.bl true)) (by simp only [evSs, evS, evT, evE, evEs, evSrc, getS0, getSs, set0, setS, R.bind_ok, R.bind_ex, bind_ite, withR_ok, withR_ex, withR_ite, thenO_nxt, thenO_ret, thenO_ex, thenO_ite, outR_nxt, outR_ret, outR_ex, outR_ite, bool_ok, int_ok, bin_add, bin_sub, bin_mul, bin_fdiv, bin_mod, bin_shl, bin_shr, bin_pow, bin_and, bin_or, bin_xor, cmp_eq, cmp_ne, cmp_lt, cmp_le, cmp_gt, cmp_ge, add_int, sub_int, and_int, or_int, xor_int, neg_int, len_lst, len_tup, abs_int, int_int, int_bl, max_int, min_int, bits_int, ix_tup0, ix_tup1, ix_tup2, List.map_cons, List.map_nil, List.replicate, List.cons_append, List.nil_append, List.append_nil, List.length_cons, List.length_nil, decide_eq_true_eq, Nat.reduceSub, Nat.reduceAdd, Int.reduceToNat, setAll, Int.toNat_natCast, Int.one_mul, decide_true, decide_false, Bool.not_true, Bool.not_false, Bool.false_eq_true, if_true, if_false]; rfl) ?_
  have pass : ∃ x6 x7 x8 x9 : Slot, ∀ rest : Ss, evSs (.cons (.ifs (.cmp .gt (.ix (.var 2) (.int 2)) (.int 1)) (.cons (.asgT [6, 7, 8, 9] (.call "_law_next_two" G.next_two_76 (.cons (.var 0) (.cons (.var 1) (.cons (.bin .sub (.ix (.var 2) (.int 2)) (.int 1)) (.cons (.var 4) .nil)))) []))
  (.cons (.ifs (.or (.call "_law_reads" G.reads_76 (.cons (.var 3) (.cons (.var 1) (.cons (.var 6) (.cons (.var 8) .nil)))) []) (.call "_law_reads" G.reads_76 (.cons (.var 3) (.cons (.var 1) (.cons (.var 7) (.cons (.var 8) .nil)))) [])) (.cons (.ret (.bl false))
  .nil) .nil)
  .nil)) .nil) rest) [.dat (.tup [.int a, .int b]), .dat (.int s), .dat (.tup [.int (dv (c :: r) : Nat), .int P, .int (1 + (r.length : Nat))]), .dat (.tup [.int a, .int b]), .dat (.int p), .dat (.bl true), .un, .un, .un, .un, .un] = evSs rest [.dat (.tup [.int a, .int b]), .dat (.int s), .dat (.tup [.int (dv (c :: r) : Nat), .int P, .int (1 + (r.length : Nat))]), .dat (.tup [.int a, .int b]), .dat (.int p), .dat (.bl true), x6, x7, x8, x9, .un] := by
    by_cases q : r.length = 0
    · refine ⟨.un, .un, .un, .un, fun rest => ?_⟩
      have g : ¬ (1 : Int) < 1 + ((r.length : Nat) : Int) := by omega
      simp only [evSs, evS, evT, evE, evEs, evSrc, getS0, getSs, set0, setS, R.bind_ok, R.bind_ex, bind_ite, withR_ok, withR_ex, withR_ite, thenO_nxt, thenO_ret, thenO_ex, thenO_ite, outR_nxt, outR_ret, outR_ex, outR_ite, bool_ok, int_ok, bin_add, bin_sub, bin_mul, bin_fdiv, bin_mod, bin_shl, bin_shr, bin_pow, bin_and, bin_or, bin_xor, cmp_eq, cmp_ne, cmp_lt, cmp_le, cmp_gt, cmp_ge, add_int, sub_int, and_int, or_int, xor_int, neg_int, len_lst, len_tup, abs_int, int_int, int_bl, max_int, min_int, bits_int, ix_tup0, ix_tup1, ix_tup2, List.map_cons, List.map_nil, List.replicate, List.cons_append, List.nil_append, List.append_nil, List.length_cons, List.length_nil, decide_eq_true_eq, Nat.reduceSub, Nat.reduceAdd, Int.reduceToNat, g, decide_true, decide_false, Bool.not_true, Bool.not_false, Bool.false_eq_true, if_true, if_false]
    · have g : (1 : Int) < 1 + ((r.length : Nat) : Int) := by omega
      obtain ⟨m1, m2⟩ := mn (t + 1) (by omega) (by omega)
      obtain ⟨lo3, lo4⟩ := lo_rng fw.lo fw.hi (r.length - 1)
      rw [show p - ((r.length - 1 : Nat) : Int) = t + 1 by omega] at lo3 lo4
      have i21 : (10 : Int) ^ (r.length - 1 + 1) ≤ 10 ^ 20 := p10_le (by omega)
      have i1 := p10 (r.length - 1)
      obtain ⟨γ0, ru0, hc0⟩ := reads_76_ok w (s := s) (n := lov (st b s) (-lpv a b).toNat (t + 1)) (t := t + 1) (by omega) (big_num (by omega) (by omega)) (by omega) (by omega) (by omega)
      obtain ⟨γ1, ru1, hc1⟩ := reads_76_ok w (s := s) (n := lov (st b s) (-lpv a b).toNat (t + 1) + 1) (t := t + 1) (by omega) (big_num (by omega) (by omega)) (by omega) (by omega) (by omega)
      rw [fF hc0 m1] at ru0
      rw [fF hc1 m2] at ru1
      refine ⟨.dat (.int (lov (st b s) (-lpv a b).toNat (t + 1))), .dat (.int (lov (st b s) (-lpv a b).toNat (t + 1) + 1)), .dat (.int (t + 1)), .dat (.int (2 * (tpv (st b s) (t + 1) % btv (-lpv a b).toNat (t + 1)) - btv (-lpv a b).toNat (t + 1))), fun rest => ?_⟩
      simp only [evSs, evS, evT, evE, evEs, evSrc, getS0, getSs, set0, setS, R.bind_ok, R.bind_ex, bind_ite, withR_ok, withR_ex, withR_ite, thenO_nxt, thenO_ret, thenO_ex, thenO_ite, outR_nxt, outR_ret, outR_ex, outR_ite, bool_ok, int_ok, bin_add, bin_sub, bin_mul, bin_fdiv, bin_mod, bin_shl, bin_shr, bin_pow, bin_and, bin_or, bin_xor, cmp_eq, cmp_ne, cmp_lt, cmp_le, cmp_gt, cmp_ge, add_int, sub_int, and_int, or_int, xor_int, neg_int, len_lst, len_tup, abs_int, int_int, int_bl, max_int, min_int, bits_int, ix_tup0, ix_tup1, ix_tup2, List.map_cons, List.map_nil, List.replicate, List.cons_append, List.nil_append, List.append_nil, List.length_cons, List.length_nil, decide_eq_true_eq, Nat.reduceSub, Nat.reduceAdd, Int.reduceToNat, g, decide_true, decide_false, Bool.not_true, Bool.not_false, Bool.false_eq_true, if_true, if_false, n2', setAll, ru0, ru1]
  obtain ⟨x6, x7, x8, x9, pa⟩ := pass
  rw [pa]
  refine seq (P := fun o => outR o = R.ok (D.bl true)) (by simp only [evSs, evS, evT, evE, evEs, evSrc, getS0, getSs, set0, setS, R.bind_ok, R.bind_ex, bind_ite, withR_ok, withR_ex, withR_ite, thenO_nxt, thenO_ret, thenO_ex, thenO_ite, outR_nxt, outR_ret, outR_ex, outR_ite, bool_ok, int_ok, bin_add, bin_sub, bin_mul, bin_fdiv, bin_mod, bin_shl, bin_shr, bin_pow, bin_and, bin_or, bin_xor, cmp_eq, cmp_ne, cmp_lt, cmp_le, cmp_gt, cmp_ge, add_int, sub_int, and_int, or_int, xor_int, neg_int, len_lst, len_tup, abs_int, int_int, int_bl, max_int, min_int, bits_int, ix_tup0, ix_tup1, ix_tup2, List.map_cons, List.map_nil, List.replicate, List.cons_append, List.nil_append, List.append_nil, List.length_cons, List.length_nil, decide_eq_true_eq, Nat.reduceSub, Nat.reduceAdd, Int.reduceToNat, setAll, Int.toNat_natCast, Int.one_mul, n2, decide_true, decide_false, Bool.not_true, Bool.not_false, Bool.false_eq_true, if_true, if_false]; rfl) ?_
  refine seq (P := fun o => outR o = R.ok (D.bl true)) (by simp only [evSs, evS, evT, evE, evEs, evSrc, getS0, getSs, set0, setS, R.bind_ok, R.bind_ex, bind_ite, withR_ok, withR_ex, withR_ite, thenO_nxt, thenO_ret, thenO_ex, thenO_ite, outR_nxt, outR_ret, outR_ex, outR_ite, bool_ok, int_ok, bin_add, bin_sub, bin_mul, bin_fdiv, bin_mod, bin_shl, bin_shr, bin_pow, bin_and, bin_or, bin_xor, cmp_eq, cmp_ne, cmp_lt, cmp_le, cmp_gt, cmp_ge, add_int, sub_int, and_int, or_int, xor_int, neg_int, len_lst, len_tup, abs_int, int_int, int_bl, max_int, min_int, bits_int, ix_tup0, ix_tup1, ix_tup2, List.map_cons, List.map_nil, List.replicate, List.cons_append, List.nil_append, List.append_nil, List.length_cons, List.length_nil, decide_eq_true_eq, Nat.reduceSub, Nat.reduceAdd, Int.reduceToNat, setAll, Int.toNat_natCast, Int.one_mul, eexp, tn, mm, decide_true, decide_false, Bool.not_true, Bool.not_false, Bool.false_eq_true, if_true, if_false]; rfl) ?_
  by_cases q : num = lov (st b s) (-lpv a b).toNat t
  · have ok : ¬ 0 < sd ∨ ¬ RdN a b s (lov (st b s) (-lpv a b).toNat t + 1) t := by
      rcases fnd.2 with ⟨_, k⟩ | ⟨k, _⟩
      · rcases k with k | k
        · exact .inl (fun z => k (hside.mpr z))
        · exact .inr k
      · omega
    by_cases z : sd ≤ 0
    · simp only [evSs, evS, evT, evE, evEs, evSrc, getS0, getSs, set0, setS, R.bind_ok, R.bind_ex, bind_ite, withR_ok, withR_ex, withR_ite, thenO_nxt, thenO_ret, thenO_ex, thenO_ite, outR_nxt, outR_ret, outR_ex, outR_ite, bool_ok, int_ok, bin_add, bin_sub, bin_mul, bin_fdiv, bin_mod, bin_shl, bin_shr, bin_pow, bin_and, bin_or, bin_xor, cmp_eq, cmp_ne, cmp_lt, cmp_le, cmp_gt, cmp_ge, add_int, sub_int, and_int, or_int, xor_int, neg_int, len_lst, len_tup, abs_int, int_int, int_bl, max_int, min_int, bits_int, ix_tup0, ix_tup1, ix_tup2, List.map_cons, List.map_nil, List.replicate, List.cons_append, List.nil_append, List.append_nil, List.length_cons, List.length_nil, decide_eq_true_eq, Nat.reduceSub, Nat.reduceAdd, Int.reduceToNat, q, z, decide_true, decide_false, Bool.not_true, Bool.not_false, Bool.false_eq_true, if_true, if_false]
    · have k1 := fF hb1 (by rcases ok with k | k; · omega
                            · exact k)
      rw [k1] at rt1
      simp only [evSs, evS, evT, evE, evEs, evSrc, getS0, getSs, set0, setS, R.bind_ok, R.bind_ex, bind_ite, withR_ok, withR_ex, withR_ite, thenO_nxt, thenO_ret, thenO_ex, thenO_ite, outR_nxt, outR_ret, outR_ex, outR_ite, bool_ok, int_ok, bin_add, bin_sub, bin_mul, bin_fdiv, bin_mod, bin_shl, bin_shr, bin_pow, bin_and, bin_or, bin_xor, cmp_eq, cmp_ne, cmp_lt, cmp_le, cmp_gt, cmp_ge, add_int, sub_int, and_int, or_int, xor_int, neg_int, len_lst, len_tup, abs_int, int_int, int_bl, max_int, min_int, bits_int, ix_tup0, ix_tup1, ix_tup2, List.map_cons, List.map_nil, List.replicate, List.cons_append, List.nil_append, List.append_nil, List.length_cons, List.length_nil, decide_eq_true_eq, Nat.reduceSub, Nat.reduceAdd, Int.reduceToNat, q, z, rt1, decide_true, decide_false, Bool.not_true, Bool.not_false, Bool.false_eq_true, if_true, if_false]
  · have q1 : num = lov (st b s) (-lpv a b).toNat t + 1 := by
      rcases fnd.2 with ⟨k, _⟩ | ⟨k, _⟩
      · exact absurd k q
      · exact k
    have ok : 0 < sd ∨ ¬ RdN a b s (lov (st b s) (-lpv a b).toNat t) t := by
      rcases fnd.2 with ⟨k, _⟩ | ⟨_, k⟩
      · exact absurd k q
      · rcases k with k | k
        · exact .inl (hside.mp k)
        · exact .inr k
    have nq : ¬ lov (st b s) (-lpv a b).toNat t + 1 = lov (st b s) (-lpv a b).toNat t := by omega
    by_cases z : 0 < sd
    · simp only [evSs, evS, evT, evE, evEs, evSrc, getS0, getSs, set0, setS, R.bind_ok, R.bind_ex, bind_ite, withR_ok, withR_ex, withR_ite, thenO_nxt, thenO_ret, thenO_ex, thenO_ite, outR_nxt, outR_ret, outR_ex, outR_ite, bool_ok, int_ok, bin_add, bin_sub, bin_mul, bin_fdiv, bin_mod, bin_shl, bin_shr, bin_pow, bin_and, bin_or, bin_xor, cmp_eq, cmp_ne, cmp_lt, cmp_le, cmp_gt, cmp_ge, add_int, sub_int, and_int, or_int, xor_int, neg_int, len_lst, len_tup, abs_int, int_int, int_bl, max_int, min_int, bits_int, ix_tup0, ix_tup1, ix_tup2, List.map_cons, List.map_nil, List.replicate, List.cons_append, List.nil_append, List.append_nil, List.length_cons, List.length_nil, decide_eq_true_eq, Nat.reduceSub, Nat.reduceAdd, Int.reduceToNat, q1, nq, z, decide_true, decide_false, Bool.not_true, Bool.not_false, Bool.false_eq_true, if_true, if_false]
    · have k0 := fF hb0 (by rcases ok with k | k; · omega
                            · exact k)
      rw [k0] at rt0
      simp only [evSs, evS, evT, evE, evEs, evSrc, getS0, getSs, set0, setS, R.bind_ok, R.bind_ex, bind_ite, withR_ok, withR_ex, withR_ite, thenO_nxt, thenO_ret, thenO_ex, thenO_ite, outR_nxt, outR_ret, outR_ex, outR_ite, bool_ok, int_ok, bin_add, bin_sub, bin_mul, bin_fdiv, bin_mod, bin_shl, bin_shr, bin_pow, bin_and, bin_or, bin_xor, cmp_eq, cmp_ne, cmp_lt, cmp_le, cmp_gt, cmp_ge, add_int, sub_int, and_int, or_int, xor_int, neg_int, len_lst, len_tup, abs_int, int_int, int_bl, max_int, min_int, bits_int, ix_tup0, ix_tup1, ix_tup2, List.map_cons, List.map_nil, List.replicate, List.cons_append, List.nil_append, List.append_nil, List.length_cons, List.length_nil, decide_eq_true_eq, Nat.reduceSub, Nat.reduceAdd, Int.reduceToNat, q1, nq, z, rt0, decide_true, decide_false, Bool.not_true, Bool.not_false, Bool.false_eq_true, if_true, if_false]
/-- the text read again -/
theorem read_short (w : Wd a b) {x s : Int} {c : Nat} {r : List Nat} {P p : Int} (x0 : 0 ≤ x) (x1 : x < 2 ^ (1 + a + b)) (hx : x % 2 ^ (a + b) = s) (h : Sh a b s c r P p) :
    F.read [.tup [.int a, .int b], .str (gx (decide (2 ^ (a + b) ≤ x)) [c] (qr r) (pwP P)), .str [101, 118, 101, 110]] = .ok (.tup [.int x, .int (tkM a b 0 (decide (2 ^ (a + b) ≤ x)) (Classical.choose h.rd) (side b ((dv (c :: r) : Nat) * 10 ^ (P - r.length).toNat * 2 ^ (-lpv a b).toNat) (10 ^ (-(P - r.length)).toNat) (Classical.choose h.rd)))]) := by
  obtain ⟨m, e, fw⟩ := h.fw
  have s1 := fw.s1; have sL := fw.sL; have fp1 := fw.p1; have fp2 := fw.p2; have len := h.len
  have hs := Classical.choose_spec h.rd
  generalize Classical.choose h.rd = s' at *
  obtain ⟨at1, tk⟩ := hs
  have Pb : -341 ≤ P ∧ P ≤ 331 := by rcases h.P2 with q | ⟨q, _⟩ <;> omega
  have fc : Fig [c] := fun d hd => by rw [List.mem_singleton.mp hd]; have := h.c1; have := h.c2; omega
  have qo : QOk (qr r) := fun R hR => by
    unfold qr at hR
    split at hR
    · cases hR
    · cases hR
      rename_i nr
      exact ⟨h.fr, nr⟩
  have tq : tlq (qr r) = r := by
    unfold qr
    split
    · rename_i q; rw [q]; rfl
    · rfl
  have lT : (gx (decide (2 ^ (a + b) ≤ x)) [c] (qr r) (pwP P)).length ≤ 1200 := by
    have l4 : (if decide (2 ^ (a + b) ≤ x) = true then [45] else ([] : List Nat)).length ≤ 1 := by split <;> simp
    have l5 : (ptq (qr r)).length ≤ (tlq (qr r)).length + 1 := by cases qr r <;> simp [ptq, tlq]
    rw [tq] at l5
    have l6 := pwT_len (pw_ok (P := P) (by omega))
    unfold gx
    rw [List.length_append, List.length_append, List.length_append, List.length_cons, List.length_nil]
    omega
  have po := parts_of_gen (u := decide (2 ^ (a + b) ≤ x)) fc (by simp) qo (pw_ok (P := P) (by omega)) lT
  have nn := (nn_gx (u := decide (2 ^ (a + b) ≤ x)) fc (by simp) qo (pw_ok (P := P) (by omega))).1
  rw [tq, pwV_P, show [c] ++ r = c :: r from rfl] at po
  have fr : Fig (c :: r) := fc.app h.fr
  have bd := dv_bits fr
  rw [List.length_cons] at bd
  have d0 : 0 < dv (c :: r) := by
    have g : ∀ (l : List Nat) (n : Nat), n ≤ l.foldl (fun acc c => acc * 10 + (c - 48)) n := fun l => by
      induction l with
      | nil => exact fun n => Nat.le_refl n
      | cons d y ih => exact fun n => by
                        rw [List.foldl_cons]
                        have := ih (n * 10 + (d - 48))
                        omega
    show 0 < r.foldl (fun acc c => acc * 10 + (c - 48)) (0 * 10 + (c - 48))
    exact Nat.lt_of_lt_of_le (show 0 < 0 * 10 + (c - 48) by have := h.c1; omega) (g r _)
  have b1 := bits_ten (P - r.length).toNat
  have b2 := bits_ten (-(P - r.length)).toNat
  have rn := read_num w (c := 0) (by decide) nn po d0 (by omega) (by omega) (by omega) at1
  rw [show wn 0 = [101, 118, 101, 110] from rfl] at rn
  rw [rn]
  generalize side b ((dv (c :: r) : Nat) * 10 ^ (P - r.length).toNat * 2 ^ (-lpv a b).toNat) (10 ^ (-(P - r.length)).toNat) s' = z at *
  have gg : ∀ u, tkG 0 u s' z = tkG 0 false s' z := fun u => rfl
  have g3 : ∀ u, gw 0 true 3 u = true := fun u => rfl
  have gl : tkG 0 false s' z < (2 ^ a - 1) * 2 ^ b := by
    by_cases q : tkG 0 false s' z < (2 ^ a - 1) * 2 ^ b
    · exact q
    · exfalso
      unfold tkW at tk
      rw [if_pos (by omega), if_pos (g3 false)] at tk
      simp at tk
      omega
  have gs : tkG 0 false s' z = s := by
    rw [tkW_lt gl] at tk
    simpa using tk
  have ex : tkW a b 0 (decide (2 ^ (a + b) ≤ x)) s' z = x := by
    rw [tkW_lt (by rw [gg]; exact gl), gg, gs, ← hx]
    have sg := sgn_div w x0 x1
    have dm := Int.mul_ediv_add_emod x (2 ^ (a + b))
    rw [sg] at dm
    by_cases c : (2 : Int) ^ (a + b) ≤ x
    · rw [if_pos c, Int.mul_one] at dm
      rw [decide_eq_true c, if_pos rfl]
      omega
    · rw [if_neg c, Int.mul_zero] at dm
      rw [decide_eq_false c, if_neg (by simp)]
      omega
  rw [ex]
theorem due_75 (w : Wd a b) {x : Int} (x0 : 0 ≤ x) (x1 : x < 2 ^ (1 + a + b)) :
    ((2 ^ a - 1) * 2 ^ b < x % 2 ^ (a + b) → G.due_76 [.tup [.int a, .int b], .int x] = .ok (.str [110, 111, 110, 101])) ∧
    (x % 2 ^ (a + b) = (2 ^ a - 1) * 2 ^ b → G.due_76 [.tup [.int a, .int b], .int x] = .ok (.str ((if decide (2 ^ (a + b) ≤ x) = true then [45] else []) ++ [101, 110, 100, 108, 101, 115, 115]))) ∧
    (x % 2 ^ (a + b) = 0 → G.due_76 [.tup [.int a, .int b], .int x] = .ok (.str ((if decide (2 ^ (a + b) ≤ x) = true then [45] else []) ++ [48]))) ∧
    (0 < x % 2 ^ (a + b) → x % 2 ^ (a + b) < (2 ^ a - 1) * 2 ^ b → G.due_76 [.tup [.int a, .int b], .int x] = .ok (.str [])) := by
  obtain ⟨L, H, eL, eH, hL, hLH, eW⟩ := w.lh
  have pab := pow2_pos (a + b)
  have mx : modD (.int x) (.int (2 ^ (a + b))) = .ok (.int (x % 2 ^ (a + b))) := mod_ok pab
  have dx : fdivD (.int x) (.int (2 ^ (a + b))) = .ok (.int (x / 2 ^ (a + b))) := fdiv_big pab (by have := w.bh; omega)
  have sg := sgn_div w x0 x1
  have s0 := Int.emod_nonneg x (show (2 : Int) ^ (a + b) ≠ 0 by omega)
  have sa : shlD (.int 1) (.int (a : Int)) = .ok (.int (2 ^ a)) := shl1 (by have := w.a2; omega)
  rw [eL]
  generalize hs : x % 2 ^ (a + b) = s at *
  rw [sg] at dx
  refine ⟨fun c => ?_, fun c => ?_, fun c => ?_, fun c c' => ?_⟩
  · simp only [G.due_76, G.b_due_76]
    rw [run_eq (by rfl)]
    simp only [evSs, evS, evT, evE, evEs, evSrc, getS0, getSs, set0, setS, R.bind_ok, R.bind_ex, bind_ite, withR_ok, withR_ex, withR_ite, thenO_nxt, thenO_ret, thenO_ex, thenO_ite, outR_nxt, outR_ret, outR_ex, outR_ite, bool_ok, int_ok, bin_add, bin_sub, bin_mul, bin_fdiv, bin_mod, bin_shl, bin_shr, bin_pow, bin_and, bin_or, bin_xor, cmp_eq, cmp_ne, cmp_lt, cmp_le, cmp_gt, cmp_ge, add_int, sub_int, and_int, or_int, xor_int, neg_int, len_lst, len_tup, abs_int, int_int, int_bl, max_int, min_int, bits_int, ix_tup0, ix_tup1, ix_tup2, List.map_cons, List.map_nil, List.replicate, List.cons_append, List.nil_append, List.append_nil, List.length_cons, List.length_nil, decide_eq_true_eq, Nat.reduceSub, Nat.reduceAdd, Int.reduceToNat, Wd.c2, half_ok w, sa, last_ok2 w, eL, mx, c, decide_true, decide_false, Bool.not_true, Bool.not_false, Bool.false_eq_true, if_true, if_false]
  · have n1 : ¬ L < s := by omega
    simp only [G.due_76, G.b_due_76]
    rw [run_eq (by rfl)]
    by_cases u : (2 : Int) ^ (a + b) ≤ x
    · rw [if_pos u] at dx
      rw [decide_eq_true u]
      simp only [evSs, evS, evT, evE, evEs, evSrc, getS0, getSs, set0, setS, R.bind_ok, R.bind_ex, bind_ite, withR_ok, withR_ex, withR_ite, thenO_nxt, thenO_ret, thenO_ex, thenO_ite, outR_nxt, outR_ret, outR_ex, outR_ite, bool_ok, int_ok, bin_add, bin_sub, bin_mul, bin_fdiv, bin_mod, bin_shl, bin_shr, bin_pow, bin_and, bin_or, bin_xor, cmp_eq, cmp_ne, cmp_lt, cmp_le, cmp_gt, cmp_ge, add_int, sub_int, and_int, or_int, xor_int, neg_int, len_lst, len_tup, abs_int, int_int, int_bl, max_int, min_int, bits_int, ix_tup0, ix_tup1, ix_tup2, List.map_cons, List.map_nil, List.replicate, List.cons_append, List.nil_append, List.append_nil, List.length_cons, List.length_nil, decide_eq_true_eq, Nat.reduceSub, Nat.reduceAdd, Int.reduceToNat, Wd.c2, half_ok w, sa, last_ok2 w, eL, mx, c, Int.lt_irrefl, dx, ix_lst1, decide_true, decide_false, Bool.not_true, Bool.not_false, Bool.false_eq_true, if_true, if_false]
    · rw [if_neg u] at dx
      rw [decide_eq_false u]
      simp only [evSs, evS, evT, evE, evEs, evSrc, getS0, getSs, set0, setS, R.bind_ok, R.bind_ex, bind_ite, withR_ok, withR_ex, withR_ite, thenO_nxt, thenO_ret, thenO_ex, thenO_ite, outR_nxt, outR_ret, outR_ex, outR_ite, bool_ok, int_ok, bin_add, bin_sub, bin_mul, bin_fdiv, bin_mod, bin_shl, bin_shr, bin_pow, bin_and, bin_or, bin_xor, cmp_eq, cmp_ne, cmp_lt, cmp_le, cmp_gt, cmp_ge, add_int, sub_int, and_int, or_int, xor_int, neg_int, len_lst, len_tup, abs_int, int_int, int_bl, max_int, min_int, bits_int, ix_tup0, ix_tup1, ix_tup2, List.map_cons, List.map_nil, List.replicate, List.cons_append, List.nil_append, List.append_nil, List.length_cons, List.length_nil, decide_eq_true_eq, Nat.reduceSub, Nat.reduceAdd, Int.reduceToNat, Wd.c2, half_ok w, sa, last_ok2 w, eL, mx, c, Int.lt_irrefl, dx, ix_lst0, decide_true, decide_false, Bool.not_true, Bool.not_false, Bool.false_eq_true, if_true, if_false]
  · have n1 : ¬ L < s := by omega
    have n2 : ¬ s = L := by omega
    have n1' : ¬ L < 0 := by omega
    have n2' : ¬ (0 : Int) = L := by omega
    simp only [G.due_76, G.b_due_76]
    rw [run_eq (by rfl)]
    by_cases u : (2 : Int) ^ (a + b) ≤ x
    · rw [if_pos u] at dx
      rw [decide_eq_true u]
      simp only [evSs, evS, evT, evE, evEs, evSrc, getS0, getSs, set0, setS, R.bind_ok, R.bind_ex, bind_ite, withR_ok, withR_ex, withR_ite, thenO_nxt, thenO_ret, thenO_ex, thenO_ite, outR_nxt, outR_ret, outR_ex, outR_ite, bool_ok, int_ok, bin_add, bin_sub, bin_mul, bin_fdiv, bin_mod, bin_shl, bin_shr, bin_pow, bin_and, bin_or, bin_xor, cmp_eq, cmp_ne, cmp_lt, cmp_le, cmp_gt, cmp_ge, add_int, sub_int, and_int, or_int, xor_int, neg_int, len_lst, len_tup, abs_int, int_int, int_bl, max_int, min_int, bits_int, ix_tup0, ix_tup1, ix_tup2, List.map_cons, List.map_nil, List.replicate, List.cons_append, List.nil_append, List.append_nil, List.length_cons, List.length_nil, decide_eq_true_eq, Nat.reduceSub, Nat.reduceAdd, Int.reduceToNat, Wd.c2, half_ok w, sa, last_ok2 w, eL, mx, c, n1', n2', dx, ix_lst1, decide_true, decide_false, Bool.not_true, Bool.not_false, Bool.false_eq_true, if_true, if_false]
    · rw [if_neg u] at dx
      rw [decide_eq_false u]
      simp only [evSs, evS, evT, evE, evEs, evSrc, getS0, getSs, set0, setS, R.bind_ok, R.bind_ex, bind_ite, withR_ok, withR_ex, withR_ite, thenO_nxt, thenO_ret, thenO_ex, thenO_ite, outR_nxt, outR_ret, outR_ex, outR_ite, bool_ok, int_ok, bin_add, bin_sub, bin_mul, bin_fdiv, bin_mod, bin_shl, bin_shr, bin_pow, bin_and, bin_or, bin_xor, cmp_eq, cmp_ne, cmp_lt, cmp_le, cmp_gt, cmp_ge, add_int, sub_int, and_int, or_int, xor_int, neg_int, len_lst, len_tup, abs_int, int_int, int_bl, max_int, min_int, bits_int, ix_tup0, ix_tup1, ix_tup2, List.map_cons, List.map_nil, List.replicate, List.cons_append, List.nil_append, List.append_nil, List.length_cons, List.length_nil, decide_eq_true_eq, Nat.reduceSub, Nat.reduceAdd, Int.reduceToNat, Wd.c2, half_ok w, sa, last_ok2 w, eL, mx, c, n1', n2', dx, ix_lst0, decide_true, decide_false, Bool.not_true, Bool.not_false, Bool.false_eq_true, if_true, if_false]
  · have n1 : ¬ L < s := by omega
    have n2 : ¬ s = L := by omega
    have n3 : ¬ s = 0 := by omega
    simp only [G.due_76, G.b_due_76]
    rw [run_eq (by rfl)]
    simp only [evSs, evS, evT, evE, evEs, evSrc, getS0, getSs, set0, setS, R.bind_ok, R.bind_ex, bind_ite, withR_ok, withR_ex, withR_ite, thenO_nxt, thenO_ret, thenO_ex, thenO_ite, outR_nxt, outR_ret, outR_ex, outR_ite, bool_ok, int_ok, bin_add, bin_sub, bin_mul, bin_fdiv, bin_mod, bin_shl, bin_shr, bin_pow, bin_and, bin_or, bin_xor, cmp_eq, cmp_ne, cmp_lt, cmp_le, cmp_gt, cmp_ge, add_int, sub_int, and_int, or_int, xor_int, neg_int, len_lst, len_tup, abs_int, int_int, int_bl, max_int, min_int, bits_int, ix_tup0, ix_tup1, ix_tup2, List.map_cons, List.map_nil, List.replicate, List.cons_append, List.nil_append, List.append_nil, List.length_cons, List.length_nil, decide_eq_true_eq, Nat.reduceSub, Nat.reduceAdd, Int.reduceToNat, Wd.c2, half_ok w, sa, last_ok2 w, eL, mx, n1, n2, n3, decide_true, decide_false, Bool.not_true, Bool.not_false, Bool.false_eq_true, if_true, if_false]
theorem told_76_ok (w : Wd a b) {x : Int} (x0 : 0 ≤ x) (x1 : x < 2 ^ (1 + a + b)) : G.told_76 [.tup [.int a, .int b], .int x] = .ok (.bl true) := by
  obtain ⟨L, H, eL, eH, hL, hLH, eW⟩ := w.lh
  have pab := pow2_pos (a + b)
  have s0 := Int.emod_nonneg x (show (2 : Int) ^ (a + b) ≠ 0 by omega)
  have wd := width_ok w
  obtain ⟨d1, d2, d3, d4⟩ := due_75 w x0 x1
  have ku := kind_ok w x0 x1
  -- a text that is due
  have fin : ∀ T : List Nat, TXT T → T ≠ [] → F.shortest [.tup [.int a, .int b], .int x] = .ok (.str T) → G.due_76 [.tup [.int a, .int b], .int x] = .ok (.str T) → G.told_76 [.tup [.int a, .int b], .int x] = .ok (.bl true) := fun T tt nt h1 h2 => by
    have e1 := ne_str tt (m := []) rfl
    have e2 : (!(T == [])) = true := by cases T <;> first | exact absurd rfl nt | rfl
    rw [e2] at e1
    have e3 := eq_str tt tt
    rw [beq_self_eq_true] at e3
    simp only [G.told_76, G.b_told_76]
    rw [run_eq (by rfl)]
    simp only [evSs, evS, evT, evE, evEs, evSrc, getS0, getSs, set0, setS, R.bind_ok, R.bind_ex, bind_ite, withR_ok, withR_ex, withR_ite, thenO_nxt, thenO_ret, thenO_ex, thenO_ite, outR_nxt, outR_ret, outR_ex, outR_ite, bool_ok, int_ok, bin_add, bin_sub, bin_mul, bin_fdiv, bin_mod, bin_shl, bin_shr, bin_pow, bin_and, bin_or, bin_xor, cmp_eq, cmp_ne, cmp_lt, cmp_le, cmp_gt, cmp_ge, add_int, sub_int, and_int, or_int, xor_int, neg_int, len_lst, len_tup, abs_int, int_int, int_bl, max_int, min_int, bits_int, ix_tup0, ix_tup1, ix_tup2, List.map_cons, List.map_nil, List.replicate, List.cons_append, List.nil_append, List.append_nil, List.length_cons, List.length_nil, decide_eq_true_eq, Nat.reduceSub, Nat.reduceAdd, Int.reduceToNat, wd, Wd.c2, half_ok w, h1, isI, h2, e1, e3, decide_true, decide_false, Bool.not_true, Bool.not_false, Bool.false_eq_true, if_true, if_false]
  have ex : ∀ T : List Nat, (kd a b (x % 2 ^ (a + b)) = [110, 111, 117, 103, 104, 116] ∨ kd a b (x % 2 ^ (a + b)) = [101, 110, 100, 108, 101, 115, 115] ∨ kd a b (x % 2 ^ (a + b)) = [108, 111, 117, 100] ∨ kd a b (x % 2 ^ (a + b)) = [115, 116, 105, 108, 108]) → F.exact_text [.tup [.int a, .int b], .int x] = .ok (.str T) → F.shortest [.tup [.int a, .int b], .int x] = .ok (.str T) := fun T hk he => by
    simp only [F.shortest, F.b_shortest]
    rw [run_eq (by rfl)]
    rcases hk with q | q | q | q <;> rw [q] at ku <;> simp only [evSs, evS, evT, evE, evEs, evSrc, getS0, getSs, set0, setS, R.bind_ok, R.bind_ex, bind_ite, withR_ok, withR_ex, withR_ite, thenO_nxt, thenO_ret, thenO_ex, thenO_ite, outR_nxt, outR_ret, outR_ex, outR_ite, bool_ok, int_ok, bin_add, bin_sub, bin_mul, bin_fdiv, bin_mod, bin_shl, bin_shr, bin_pow, bin_and, bin_or, bin_xor, cmp_eq, cmp_ne, cmp_lt, cmp_le, cmp_gt, cmp_ge, add_int, sub_int, and_int, or_int, xor_int, neg_int, len_lst, len_tup, abs_int, int_int, int_bl, max_int, min_int, bits_int, ix_tup0, ix_tup1, ix_tup2, List.map_cons, List.map_nil, List.replicate, List.cons_append, List.nil_append, List.append_nil, List.length_cons, List.length_nil, decide_eq_true_eq, Nat.reduceSub, Nat.reduceAdd, Int.reduceToNat, ku, kk00, kk01, kk02, kk03, kk04, kk05, kk10, kk11, kk12, kk13, kk14, kk15, kk20, kk21, kk22, kk23, kk24, kk25, kk30, kk31, kk32, kk33, kk34, kk35, kk40, kk41, kk42, kk43, kk44, kk45, kk50, kk51, kk52, kk53, kk54, kk55, kn00, kn01, kn02, kn03, kn04, kn05, kn10, kn11, kn12, kn13, kn14, kn15, kn20, kn21, kn22, kn23, kn24, kn25, kn30, kn31, kn32, kn33, kn34, kn35, kn40, kn41, kn42, kn43, kn44, kn45, kn50, kn51, kn52, kn53, kn54, kn55, decide_true, decide_false, Bool.not_true, Bool.not_false, Bool.false_eq_true, if_true, if_false, he]
  by_cases c1 : (2 ^ a - 1) * 2 ^ b < x % 2 ^ (a + b)
  · refine fin _ rfl (by simp) (ex _ ?_ (exact_none w x0 x1 c1)) (d1 c1)
    by_cases c : x % 2 ^ (a + b) < (2 ^ a - 1) * 2 ^ b + 2 ^ (b - 1)
    · exact .inr (.inr (.inl (kd_loud w c1 c)))
    · exact .inr (.inr (.inr (kd_still w (by omega))))
  by_cases c2 : x % 2 ^ (a + b) = (2 ^ a - 1) * 2 ^ b
  · refine fin _ (txt_app (by split <;> rfl) rfl) (by simp) (ex _ ?_ (exact_endless w x0 x1 c2)) (d2 c2)
    rw [c2]
    exact .inr (.inl (kd_end w))
  by_cases c3 : x % 2 ^ (a + b) = 0
  · obtain ⟨N, be, et, h1, h2, h3, h4, h5, h6, h7⟩ := exact_num w x0 x1 (by omega)
    have be0 := h6 c3
    have N0 : N = 0 := by omega
    subst be0 N0
    have eT : gx (decide (2 ^ (a + b) ≤ x)) (pd 0 0) (qd 0 0) none = (if decide (2 ^ (a + b) ≤ x) = true then [45] else []) ++ [48] := by
      unfold gx pd qd
      rw [if_pos rfl, if_pos rfl, ptq, pwT, TL.numL_lt (by decide)]
      simp
    rw [eT] at et
    refine fin _ (txt_app (by split <;> rfl) rfl) (by simp) (ex _ ?_ et) (d3 c3)
    rcases kd_num w (s := x % 2 ^ (a + b)) (by omega) with ⟨q, _⟩ | ⟨_, q⟩ | ⟨_, q⟩
    · exact .inl q
    · exact absurd c3 q
    · exact absurd c3 (by first | exact q | exact q.1 | (have := pow2_pos b; omega))
  · have hs : 1 ≤ x % 2 ^ (a + b) := by omega
    obtain ⟨c, r, P, p, sh, hsh⟩ := short_ex w hs (by omega)
    have h1 := hsh x x0 x1 rfl
    have h2 := d4 (by omega) (by omega)
    have rd := read_short w x0 x1 rfl sh
    have fc : Fig [c] := fun d hd => by rw [List.mem_singleton.mp hd]; have := sh.c1; have := sh.c2; omega
    obtain ⟨m, e, fw⟩ := sh.fw
    have fp1 := fw.p1; have fp2 := fw.p2
    have Pb : P.natAbs < 1000 := by rcases sh.P2 with q | ⟨q, _⟩ <;> omega
    have qo : QOk (qr r) := fun R hR => by
      unfold qr at hR
      split at hR
      · cases hR
      · cases hR
        rename_i nr
        exact ⟨sh.fr, nr⟩
    obtain ⟨nn, tt, tk⟩ := nn_gx (u := decide (2 ^ (a + b) ≤ x)) fc (by simp) qo (pw_ok Pb)
    have lT : (gx (decide (2 ^ (a + b) ≤ x)) [c] (qr r) (pwP P)).length ≤ 1200 := by
      have l4 : (if decide (2 ^ (a + b) ≤ x) = true then [45] else ([] : List Nat)).length ≤ 1 := by split <;> simp
      have l5 : (ptq (qr r)).length ≤ r.length + 1 := by unfold qr; split <;> simp [ptq]
      have l6 := pwT_len (pw_ok Pb)
      have := sh.len
      unfold gx
      rw [List.length_append, List.length_append, List.length_append, List.length_cons, List.length_nil]
      omega
    have shT : slcD (.str (gx (decide (2 ^ (a + b) ≤ x)) [c] (qr r) (pwP P))) none (some 1) = .ok (.str ((gx (decide (2 ^ (a + b) ≤ x)) [c] (qr r) (pwP P)).take 1)) := slH (by omega) 1
    have q1 := eq_str (l := (gx (decide (2 ^ (a + b) ≤ x)) [c] (qr r) (pwP P)).take 1) (m := [45]) (txt_take' tt) rfl
    rw [tk] at q1
    have sl : slcD (.str (gx (decide (2 ^ (a + b) ≤ x)) [c] (qr r) (pwP P))) (some (if 2 ^ (a + b) ≤ x then 1 else 0)) none = .ok (.str ([c] ++ ptq (qr r) ++ 101 :: pwL P)) := by
      by_cases u : (2 : Int) ^ (a + b) ≤ x
      · have eT : gx (decide (2 ^ (a + b) ≤ x)) [c] (qr r) (pwP P) = 45 :: ([c] ++ ptq (qr r) ++ 101 :: pwL P) := by
          unfold gx
          rw [decide_eq_true u, if_pos rfl, pwT_P]
          rfl
        rw [eT] at lT ⊢
        rw [List.length_cons] at lT
        rw [if_pos u]
        exact slL1 (c := 45) (by omega)
      · have eT : gx (decide (2 ^ (a + b) ≤ x)) [c] (qr r) (pwP P) = [c] ++ ptq (qr r) ++ 101 :: pwL P := by
          unfold gx
          rw [decide_eq_false u, if_neg (by simp), pwT_P]
          rfl
        rw [eT] at lT ⊢
        rw [if_neg u]
        have := slL (l := [c] ++ ptq (qr r) ++ 101 :: pwL P) (by omega) 0
        rw [List.drop_zero] at this
        exact this
    have pt := parts_76_ok (P := P) sh.c1 sh.c2 sh.fr sh.last sh.len Pb
    have fe := fewest_76_ok w sh
    have h1 : F.shortest [.tup [.int a, .int b], .int x] = .ok (.str (gx (decide (2 ^ (a + b) ≤ x)) [c] (qr r) (pwP P))) := h1
    have mx : modD (.int x) (.int (2 ^ (a + b))) = .ok (.int (x % 2 ^ (a + b))) := mod_ok pab
    have e0 : cmpD .ne (.str []) (.str []) = .ok false := by rfl
    have bb : ∀ u : Bool, (!(u == u)) = false := fun u => by cases u <;> rfl
    generalize tkM a b 0 (decide (2 ^ (a + b) ≤ x)) (Classical.choose sh.rd) (side b ((dv (c :: r) : Nat) * 10 ^ (P - r.length).toNat * 2 ^ (-lpv a b).toNat) (10 ^ (-(P - r.length)).toNat) (Classical.choose sh.rd)) = mk at rd
    generalize [c] ++ ptq (qr r) ++ 101 :: pwL P = B at *
    generalize gx (decide (2 ^ (a + b) ≤ x)) [c] (qr r) (pwP P) = T at *
    have isn : cmpD .isn (.tup [.int (dv (c :: r) : Nat), .int P, .int (1 + (r.length : Nat))]) .non = .ok true := by rfl
    simp only [G.told_76, G.b_told_76]
    rw [run_eq (by rfl)]
    simp only [List.map_cons, List.map_nil, List.replicate, List.cons_append, List.nil_append, Nat.reduceSub]
    refine seq (P := fun o => outR o = R.ok (D.bl true)) (by simp only [evSs, evS, evT, evE, evEs, evSrc, getS0, getSs, set0, setS, R.bind_ok, R.bind_ex, bind_ite, withR_ok, withR_ex, withR_ite, thenO_nxt, thenO_ret, thenO_ex, thenO_ite, outR_nxt, outR_ret, outR_ex, outR_ite, bool_ok, int_ok, bin_add, bin_sub, bin_mul, bin_fdiv, bin_mod, bin_shl, bin_shr, bin_pow, bin_and, bin_or, bin_xor, cmp_eq, cmp_ne, cmp_lt, cmp_le, cmp_gt, cmp_ge, add_int, sub_int, and_int, or_int, xor_int, neg_int, len_lst, len_tup, abs_int, int_int, int_bl, max_int, min_int, bits_int, ix_tup0, ix_tup1, ix_tup2, List.map_cons, List.map_nil, List.replicate, List.cons_append, List.nil_append, List.append_nil, List.length_cons, List.length_nil, decide_eq_true_eq, Nat.reduceSub, Nat.reduceAdd, Int.reduceToNat, setAll, Int.toNat_natCast, Int.one_mul, wd, decide_true, decide_false, Bool.not_true, Bool.not_false, Bool.false_eq_true, if_true, if_false]; rfl) ?_
    refine seq (P := fun o => outR o = R.ok (D.bl true)) (by simp only [evSs, evS, evT, evE, evEs, evSrc, getS0, getSs, set0, setS, R.bind_ok, R.bind_ex, bind_ite, withR_ok, withR_ex, withR_ite, thenO_nxt, thenO_ret, thenO_ex, thenO_ite, outR_nxt, outR_ret, outR_ex, outR_ite, bool_ok, int_ok, bin_add, bin_sub, bin_mul, bin_fdiv, bin_mod, bin_shl, bin_shr, bin_pow, bin_and, bin_or, bin_xor, cmp_eq, cmp_ne, cmp_lt, cmp_le, cmp_gt, cmp_ge, add_int, sub_int, and_int, or_int, xor_int, neg_int, len_lst, len_tup, abs_int, int_int, int_bl, max_int, min_int, bits_int, ix_tup0, ix_tup1, ix_tup2, List.map_cons, List.map_nil, List.replicate, List.cons_append, List.nil_append, List.append_nil, List.length_cons, List.length_nil, decide_eq_true_eq, Nat.reduceSub, Nat.reduceAdd, Int.reduceToNat, setAll, Int.toNat_natCast, Int.one_mul, Wd.c2, half_ok w, decide_true, decide_false, Bool.not_true, Bool.not_false, Bool.false_eq_true, if_true, if_false]; rfl) ?_
    refine seq (P := fun o => outR o = R.ok (D.bl true)) (by simp only [evSs, evS, evT, evE, evEs, evSrc, getS0, getSs, set0, setS, R.bind_ok, R.bind_ex, bind_ite, withR_ok, withR_ex, withR_ite, thenO_nxt, thenO_ret, thenO_ex, thenO_ite, outR_nxt, outR_ret, outR_ex, outR_ite, bool_ok, int_ok, bin_add, bin_sub, bin_mul, bin_fdiv, bin_mod, bin_shl, bin_shr, bin_pow, bin_and, bin_or, bin_xor, cmp_eq, cmp_ne, cmp_lt, cmp_le, cmp_gt, cmp_ge, add_int, sub_int, and_int, or_int, xor_int, neg_int, len_lst, len_tup, abs_int, int_int, int_bl, max_int, min_int, bits_int, ix_tup0, ix_tup1, ix_tup2, List.map_cons, List.map_nil, List.replicate, List.cons_append, List.nil_append, List.append_nil, List.length_cons, List.length_nil, decide_eq_true_eq, Nat.reduceSub, Nat.reduceAdd, Int.reduceToNat, setAll, Int.toNat_natCast, Int.one_mul, h1, decide_true, decide_false, Bool.not_true, Bool.not_false, Bool.false_eq_true, if_true, if_false]; rfl) ?_
    refine seq (P := fun o => outR o = R.ok (D.bl true)) (by simp only [evSs, evS, evT, evE, evEs, evSrc, getS0, getSs, set0, setS, R.bind_ok, R.bind_ex, bind_ite, withR_ok, withR_ex, withR_ite, thenO_nxt, thenO_ret, thenO_ex, thenO_ite, outR_nxt, outR_ret, outR_ex, outR_ite, bool_ok, int_ok, bin_add, bin_sub, bin_mul, bin_fdiv, bin_mod, bin_shl, bin_shr, bin_pow, bin_and, bin_or, bin_xor, cmp_eq, cmp_ne, cmp_lt, cmp_le, cmp_gt, cmp_ge, add_int, sub_int, and_int, or_int, xor_int, neg_int, len_lst, len_tup, abs_int, int_int, int_bl, max_int, min_int, bits_int, ix_tup0, ix_tup1, ix_tup2, List.map_cons, List.map_nil, List.replicate, List.cons_append, List.nil_append, List.append_nil, List.length_cons, List.length_nil, decide_eq_true_eq, Nat.reduceSub, Nat.reduceAdd, Int.reduceToNat, setAll, Int.toNat_natCast, Int.one_mul, isI, decide_true, decide_false, Bool.not_true, Bool.not_false, Bool.false_eq_true, if_true, if_false]; rfl) ?_
    refine seq (P := fun o => outR o = R.ok (D.bl true)) (by simp only [evSs, evS, evT, evE, evEs, evSrc, getS0, getSs, set0, setS, R.bind_ok, R.bind_ex, bind_ite, withR_ok, withR_ex, withR_ite, thenO_nxt, thenO_ret, thenO_ex, thenO_ite, outR_nxt, outR_ret, outR_ex, outR_ite, bool_ok, int_ok, bin_add, bin_sub, bin_mul, bin_fdiv, bin_mod, bin_shl, bin_shr, bin_pow, bin_and, bin_or, bin_xor, cmp_eq, cmp_ne, cmp_lt, cmp_le, cmp_gt, cmp_ge, add_int, sub_int, and_int, or_int, xor_int, neg_int, len_lst, len_tup, abs_int, int_int, int_bl, max_int, min_int, bits_int, ix_tup0, ix_tup1, ix_tup2, List.map_cons, List.map_nil, List.replicate, List.cons_append, List.nil_append, List.append_nil, List.length_cons, List.length_nil, decide_eq_true_eq, Nat.reduceSub, Nat.reduceAdd, Int.reduceToNat, setAll, Int.toNat_natCast, Int.one_mul, h2, e0, decide_true, decide_false, Bool.not_true, Bool.not_false, Bool.false_eq_true, if_true, if_false]; rfl) ?_
    refine seq (P := fun o => outR o = R.ok (D.bl true)) (by simp only [evSs, evS, evT, evE, evEs, evSrc, getS0, getSs, set0, setS, R.bind_ok, R.bind_ex, bind_ite, withR_ok, withR_ex, withR_ite, thenO_nxt, thenO_ret, thenO_ex, thenO_ite, outR_nxt, outR_ret, outR_ex, outR_ite, bool_ok, int_ok, bin_add, bin_sub, bin_mul, bin_fdiv, bin_mod, bin_shl, bin_shr, bin_pow, bin_and, bin_or, bin_xor, cmp_eq, cmp_ne, cmp_lt, cmp_le, cmp_gt, cmp_ge, add_int, sub_int, and_int, or_int, xor_int, neg_int, len_lst, len_tup, abs_int, int_int, int_bl, max_int, min_int, bits_int, ix_tup0, ix_tup1, ix_tup2, List.map_cons, List.map_nil, List.replicate, List.cons_append, List.nil_append, List.append_nil, List.length_cons, List.length_nil, decide_eq_true_eq, Nat.reduceSub, Nat.reduceAdd, Int.reduceToNat, setAll, Int.toNat_natCast, Int.one_mul, shT, q1, ne_bl2, bb, rd, not_true, decide_true, decide_false, Bool.not_true, Bool.not_false, Bool.false_eq_true, if_true, if_false]; rfl) ?_
    refine seq (P := fun o => outR o = R.ok (D.bl true)) (by simp only [evSs, evS, evT, evE, evEs, evSrc, getS0, getSs, set0, setS, R.bind_ok, R.bind_ex, bind_ite, withR_ok, withR_ex, withR_ite, thenO_nxt, thenO_ret, thenO_ex, thenO_ite, outR_nxt, outR_ret, outR_ex, outR_ite, bool_ok, int_ok, bin_add, bin_sub, bin_mul, bin_fdiv, bin_mod, bin_shl, bin_shr, bin_pow, bin_and, bin_or, bin_xor, cmp_eq, cmp_ne, cmp_lt, cmp_le, cmp_gt, cmp_ge, add_int, sub_int, and_int, or_int, xor_int, neg_int, len_lst, len_tup, abs_int, int_int, int_bl, max_int, min_int, bits_int, ix_tup0, ix_tup1, ix_tup2, List.map_cons, List.map_nil, List.replicate, List.cons_append, List.nil_append, List.append_nil, List.length_cons, List.length_nil, decide_eq_true_eq, Nat.reduceSub, Nat.reduceAdd, Int.reduceToNat, setAll, Int.toNat_natCast, Int.one_mul, int_bl, decide_eq_true_eq, sl, pt, decide_true, decide_false, Bool.not_true, Bool.not_false, Bool.false_eq_true, if_true, if_false]; rfl) ?_
    simp only [evSs, evS, evT, evE, evEs, evSrc, getS0, getSs, set0, setS, R.bind_ok, R.bind_ex, bind_ite, withR_ok, withR_ex, withR_ite, thenO_nxt, thenO_ret, thenO_ex, thenO_ite, outR_nxt, outR_ret, outR_ex, outR_ite, bool_ok, int_ok, bin_add, bin_sub, bin_mul, bin_fdiv, bin_mod, bin_shl, bin_shr, bin_pow, bin_and, bin_or, bin_xor, cmp_eq, cmp_ne, cmp_lt, cmp_le, cmp_gt, cmp_ge, add_int, sub_int, and_int, or_int, xor_int, neg_int, len_lst, len_tup, abs_int, int_int, int_bl, max_int, min_int, bits_int, ix_tup0, ix_tup1, ix_tup2, List.map_cons, List.map_nil, List.replicate, List.cons_append, List.nil_append, List.append_nil, List.length_cons, List.length_nil, decide_eq_true_eq, Nat.reduceSub, Nat.reduceAdd, Int.reduceToNat, isn, mx, fe, decide_true, decide_false, Bool.not_true, Bool.not_false, Bool.false_eq_true, if_true, if_false]
def I76 (ns : List Int) (a b : Nat) (ρ : Env) : Prop := ∃ s4 : Slot, ρ = [Slot.dat (.lst (ns.map .int)), .dat (.tup [.int a, .int b]), .dat (.tup [.int a, .int b]), .dat (.int (2 ^ (a + b))), s4, .un]
end
theorem slc5_items'' {ns : List Int} : ∃ ys, slcD (.lst (ns.map .int)) (some 1) (some 5) = .ok (.lst ys) ∧ (∀ y ∈ ys, ∃ z ∈ ns, y = .int z) := by
  refine ⟨_, rfl, fun y hy => ?_⟩
  unfold cutL at hy
  obtain ⟨z, hz, rfl⟩ := List.mem_map.mp (List.mem_of_mem_drop (List.mem_of_mem_take hy))
  exact ⟨z, hz, rfl⟩
theorem K76.law_ok : ∀ ns : List Int, ns.length ≤ 63 → (∀ z ∈ ns, PySem.Builtin.Int.intBits z ≤ 1048576) → K76.law [.lst (ns.map .int)] = .ok (.bl true) := by
  intro ns hl hb
  obtain ⟨v, ev, hv⟩ := cell_at_ok (ns := ns) (k := 0) (by omega)
  obtain ⟨v1, ev1, hv1⟩ := cell_at_ok (ns := ns) (k := 1) (by omega)
  obtain ⟨a, b, ew, w⟩ := wide_14_ok (cell_b hb hv)
  obtain ⟨ys, ey, hy⟩ := slc5_items'' (ns := ns)
  obtain ⟨L, H, eL, eH, hL, hLH, eW⟩ := w.lh
  have wd := width_ok w
  have ho := half_ok w
  have c2 := Wd.c2 (a := a) (b := b)
  simp only [K76.law, K76.b_law]
  rw [run_eq (by rfl)]
  simp -implicitDefEqProofs only [evSs, evS, evT, evSrc, evE, evEs, getS0, getSs, set0, setS, R.bind_ok, withR_ok, thenO_nxt, List.map_cons, List.map_nil, List.replicate, List.cons_append, List.nil_append, List.append_nil, Nat.reduceSub, ev, ew, ix_tup0, ix_tup1, int_ok, wd, bin_add, add_int, bin_shl, c2, ho, ey, itemsD]
  have step : ∀ x ∈ ys, ∀ ρ : Env, I76 ns a b ρ → Goes (I76 ns a b) ((fun x (ρ' : Env) => evSs K76.b_law_l1 (ρ'.set 4 (.dat x))) x ρ) := by
    rintro x hxm ρ ⟨s4, rfl⟩
    obtain ⟨z, hz, rfl⟩ := hy x hxm
    have hzb : bits z ≤ 4000000 := cell_b hb (.inr hz)
    show Goes (I76 ns a b) (evSs K76.b_law_l1 (List.set [_, _, _, _, s4, _] 4 _))
    simp only [setS, set0]
    unfold K76.b_law_l1
    obtain ⟨x, ex, x0, x1⟩ := word_02_ok w hzb
    refine seq (P := Goes (I76 ns a b)) (by simp only [evSs, evS, evT, evE, evEs, evSrc, getS0, getSs, set0, setS, R.bind_ok, R.bind_ex, bind_ite, withR_ok, withR_ex, withR_ite, thenO_nxt, thenO_ret, thenO_ex, thenO_ite, outR_nxt, outR_ret, outR_ex, outR_ite, bool_ok, int_ok, bin_add, bin_sub, bin_mul, bin_fdiv, bin_mod, bin_shl, bin_shr, bin_pow, bin_and, bin_or, bin_xor, cmp_eq, cmp_ne, cmp_lt, cmp_le, cmp_gt, cmp_ge, add_int, sub_int, and_int, or_int, xor_int, neg_int, len_lst, len_tup, abs_int, int_int, int_bl, max_int, min_int, bits_int, ix_tup0, ix_tup1, ix_tup2, List.map_cons, List.map_nil, List.replicate, List.cons_append, List.nil_append, List.append_nil, List.length_cons, List.length_nil, decide_eq_true_eq, Nat.reduceSub, Nat.reduceAdd, Int.reduceToNat, setAll, Int.toNat_natCast, Int.one_mul, ex, told_76_ok w x0 x1, decide_true, decide_false, Bool.not_true, Bool.not_false, Bool.false_eq_true, if_true, if_false]; rfl) ?_
    exact seq_nil ⟨_, rfl, _, rfl⟩
  refine forGo_P (I := I76 ns a b) (P := fun o => outR (thenO o _) = _) ⟨_, rfl⟩ step fun ρ' h => ?_
  obtain ⟨s4, rfl⟩ := h
  have b1 : bits v1 ≤ 4000000 := cell_b hb hv1
  have b48 : bits 48271 ≤ 20 := by decide +kernel
  have m48 : mulD (.int v1) (.int 48271) = .ok (.int (v1 * 48271)) := mul_ok (by omega)
  have r1 : modD (.int (v1 * 48271)) (.int 1000003) = .ok (.int (v1 * 48271 % 1000003)) := mod_ok (by decide)
  have r2 : modD (.int (v1 * 48271 % 1000003)) (.int 41) = .ok (.int (v1 * 48271 % 1000003 % 41)) := mod_ok (by decide)
  obtain ⟨t, ht⟩ : ∃ t : Int, t = v1 * 48271 % 1000003 % 41 - 20 := ⟨_, rfl⟩
  have tb : -20 ≤ t ∧ t ≤ 20 := by omega
  have spw := str_pw (P := t) (by omega)
  have lpw : (pwL t).length ≤ 4 := by
    have := TL.numL_len (n := t.natAbs) (k := 3) (by decide) (by omega)
    unfold pwL
    split
    · rw [List.length_cons]; omega
    · omega
  have k1 := cat_str (l := [49, 101]) (m := pwL t) (by simp; omega)
  have f1 : Fig [49] := fun d hd => by rw [List.mem_singleton.mp hd]; omega
  have eT : [49, 101] ++ pwL t = gx false [49] none (pwP t) := by
    unfold gx
    rw [pwT_P]
    simp [ptq]
  rw [eT] at k1
  have po := parts_of_gen (u := false) f1 (by simp) (q := none) (fun r h => by cases h) (pw_ok (P := t) (by omega)) (by rw [← eT, List.length_append]; simp; omega)
  have nn := (nn_gx (u := false) f1 (by simp) (q := none) (fun r h => by cases h) (pw_ok (P := t) (by omega))).1
  rw [pwV_P] at po
  simp only [tlq, List.append_nil, List.length_nil] at po
  rw [show dv [49] = 1 from rfl, show t - ((0 : Nat) : Int) = t by omega] at po
  have p1 := p10 t.toNat
  have p2 := p10 (-t).toNat
  have bt1 := bits_ten t.toNat
  have bt2 := bits_ten (-t).toNat
  have bn1 : bits ((1 : Nat) : Int) = 1 := by decide
  obtain ⟨s', at1⟩ := at_ex (b := b) (M := ((1 : Nat) : Int) * 10 ^ t.toNat * 2 ^ (-lpv a b).toNat) (N := 10 ^ (-t).toNat) (Int.mul_nonneg (Int.mul_nonneg (by omega) (Int.le_of_lt p1)) (Int.le_of_lt (pow2_pos _))) p2
  have rn := read_num w (c := 4) (by decide) nn po (by decide) (by omega) (by omega) (by omega) at1
  have wr : 0 ≤ tkW a b 4 false s' (side b (((1 : Nat) : Int) * 10 ^ t.toNat * 2 ^ (-lpv a b).toNat) (10 ^ (-t).toNat) s') ∧ tkW a b 4 false s' (side b (((1 : Nat) : Int) * 10 ^ t.toNat * 2 ^ (-lpv a b).toNat) (10 ^ (-t).toNat) s') < H := by
    have gn := tkG_nn (c := 4) (lo := false) (z := side b (((1 : Nat) : Int) * 10 ^ t.toNat * 2 ^ (-lpv a b).toNat) (10 ^ (-t).toNat) s') at1.s0
    generalize side b (((1 : Nat) : Int) * 10 ^ t.toNat * 2 ^ (-lpv a b).toNat) (10 ^ (-t).toNat) s' = z at *
    unfold tkW
    rw [eL]
    simp only [Bool.false_eq_true, if_false, Int.add_zero]
    split
    · split <;> omega
    · omega
  generalize tkW a b 4 false s' (side b (((1 : Nat) : Int) * 10 ^ t.toNat * 2 ^ (-lpv a b).toNat) (10 ^ (-t).toNat) s') = x at *
  generalize tkM a b 4 false s' (side b (((1 : Nat) : Int) * 10 ^ t.toNat * 2 ^ (-lpv a b).toNat) (10 ^ (-t).toNat) s') = y at *
  have rn : F.read [.tup [.int a, .int b], .str (gx false [49] none (pwP t)), .str [100, 111, 119, 110]] = .ok (.tup [.int x, .int y]) := rn
  have to := told_76_ok w (x := x) wr.1 (by omega)
  -- the least small word, of either sign
  have bL := w.bL
  rw [eL] at bL
  obtain ⟨c, r, P, p, sh, hsh⟩ := short_ex w (s := 1) (by decide) (by rw [eL]; omega)
  have h1 := hsh 1 (by decide) (by omega) (by rw [eH]; exact Int.emod_eq_of_lt (by decide) (by omega))
  have h2 := hsh (H + 1) (by omega) (by omega) (by rw [eH, Int.add_emod_left]; exact Int.emod_eq_of_lt (by decide) (by omega))
  rw [decide_eq_false (by rw [eH]; omega)] at h1
  rw [decide_eq_true (by rw [eH]; omega)] at h2
  obtain ⟨m, e, fw⟩ := sh.fw
  have fp1 := fw.p1; have fp2 := fw.p2
  have Pb : P.natAbs < 1000 := by rcases sh.P2 with q | ⟨q, _⟩ <;> omega
  have fc : Fig [c] := fun d hd => by rw [List.mem_singleton.mp hd]; have := sh.c1; have := sh.c2; omega
  have qo : QOk (qr r) := fun R hR => by
    unfold qr at hR
    split at hR
    · cases hR
    · cases hR
      rename_i nr
      exact ⟨sh.fr, nr⟩
  obtain ⟨_, tt, _⟩ := nn_gx (u := false) fc (by simp) qo (pw_ok Pb)
  have eg : gx true [c] (qr r) (pwP P) = 45 :: gx false [c] (qr r) (pwP P) := rfl
  have h1 : F.shortest [.tup [.int a, .int b], .int 1] = .ok (.str (gx false [c] (qr r) (pwP P))) := h1
  have h2 : F.shortest [.tup [.int a, .int b], .int (H + 1)] = .ok (.str (45 :: gx false [c] (qr r) (pwP P))) := h2
  have lT : (gx false [c] (qr r) (pwP P)).length ≤ 1200 := by
    have l5 : (ptq (qr r)).length ≤ r.length + 1 := by unfold qr; split <;> simp [ptq]
    have l6 := pwT_len (pw_ok Pb)
    have := sh.len
    unfold gx
    rw [List.length_append, List.length_append, List.length_append, List.length_cons, List.length_nil]
    simp only [Bool.false_eq_true, if_false, List.length_nil]
    omega
  generalize gx false [c] (qr r) (pwP P) = T at *
  have sl := slL1 (c := 45) (l := T) (by omega)
  have e3 := eq_str tt tt
  rw [beq_self_eq_true] at e3
  rw [thenO_nxt, eH]
  simp only [evSs, evS, evT, evE, evEs, evSrc, getS0, getSs, set0, setS, R.bind_ok, R.bind_ex, bind_ite, withR_ok, withR_ex, withR_ite, thenO_nxt, thenO_ret, thenO_ex, thenO_ite, outR_nxt, outR_ret, outR_ex, outR_ite, bool_ok, int_ok, bin_add, bin_sub, bin_mul, bin_fdiv, bin_mod, bin_shl, bin_shr, bin_pow, bin_and, bin_or, bin_xor, cmp_eq, cmp_ne, cmp_lt, cmp_le, cmp_gt, cmp_ge, add_int, sub_int, and_int, or_int, xor_int, neg_int, len_lst, len_tup, abs_int, int_int, int_bl, max_int, min_int, bits_int, ix_tup0, ix_tup1, ix_tup2, List.map_cons, List.map_nil, List.replicate, List.cons_append, List.nil_append, List.append_nil, List.length_cons, List.length_nil, decide_eq_true_eq, Nat.reduceSub, Nat.reduceAdd, Int.reduceToNat, ev1, m48, r1, r2, ← ht, spw, k1, rn, to, h1, h2, sl, e3, not_true, decide_true, decide_false, Bool.not_true, Bool.not_false, Bool.false_eq_true, if_true, if_false]
end MP

namespace MP.LK76
open PySem L2
open PyProof.Rows hiding St
def top (i : Nat) : Stmt := PySem.Challenge.pw_floatforge_k76_whole_shortest.main.body.getD i (.Pass ⟨0, 0, 0, 0⟩)
abbrev s_law_wide : Stmt := top 63
theorem sc_law_wide : FnScope ["_law_cell", "_law_mixed"] ["_law_cell"] (defScope s_law_wide) := ⟨rfl, rfl, rfl, by decide +kernel, rfl, by decide +kernel, by decide +kernel⟩
theorem ck_law_wide : chkSs ["_law_cell", "_law_mixed"] (defScope s_law_wide) G.b_wide_14 (defBody s_law_wide) = true := by decide +kernel
abbrev s_law_cell_at : Stmt := top 62
theorem sc_law_cell_at : FnScope ["_law_script", "_law_k"] ["_law_script", "_law_k"] (defScope s_law_cell_at) := ⟨rfl, rfl, rfl, by decide +kernel, rfl, by decide +kernel, by decide +kernel⟩
theorem ck_law_cell_at : chkSs ["_law_script", "_law_k"] (defScope s_law_cell_at) G.b_cell_at_01 (defBody s_law_cell_at) = true := by decide +kernel
abbrev s_is_whole : Stmt := top 8
theorem sc_is_whole : FnScope ["thing"] ["thing"] (defScope s_is_whole) := ⟨rfl, rfl, rfl, by decide +kernel, rfl, by decide +kernel, by decide +kernel⟩
theorem ck_is_whole : chkSs ["thing"] (defScope s_is_whole) F.b_is_whole (defBody s_is_whole) = true := by decide +kernel
abbrev s_width_of : Stmt := top 9
theorem sc_width_of : FnScope ["e", "f"] ["e", "f"] (defScope s_width_of) := ⟨rfl, rfl, rfl, by decide +kernel, rfl, by decide +kernel, by decide +kernel⟩
theorem ck_width_of : chkSs ["e", "f"] (defScope s_width_of) F.b_width_of (defBody s_width_of) = true := by decide +kernel
abbrev s_many_words : Stmt := top 10
theorem sc_many_words : FnScope ["width"] ["width"] (defScope s_many_words) := ⟨rfl, rfl, rfl, by decide +kernel, rfl, by decide +kernel, by decide +kernel⟩
theorem ck_many_words : chkSs ["width"] (defScope s_many_words) F.b_many_words (defBody s_many_words) = true := by decide +kernel
abbrev s_asked_word : Stmt := top 14
theorem sc_asked_word : FnScope ["width", "word"] ["width", "word"] (defScope s_asked_word) := ⟨rfl, rfl, rfl, by decide +kernel, rfl, by decide +kernel, by decide +kernel⟩
theorem ck_asked_word : chkSs ["width", "word"] (defScope s_asked_word) F.b_asked_word (defBody s_asked_word) = true := by decide +kernel
abbrev s_last_exponent : Stmt := top 16
theorem sc_last_exponent : FnScope ["width"] ["width"] (defScope s_last_exponent) := ⟨rfl, rfl, rfl, by decide +kernel, rfl, by decide +kernel, by decide +kernel⟩
theorem ck_last_exponent : chkSs ["width"] (defScope s_last_exponent) F.b_last_exponent (defBody s_last_exponent) = true := by decide +kernel
abbrev s_cut : Stmt := top 17
theorem sc_cut : FnScope ["width", "word", "sign", "exponent"] ["width", "word"] (defScope s_cut) := ⟨rfl, rfl, rfl, by decide +kernel, rfl, by decide +kernel, by decide +kernel⟩
theorem ck_cut : chkSs ["width", "word", "sign", "exponent"] (defScope s_cut) F.b_cut (defBody s_cut) = true := by decide +kernel
abbrev s_kind_of : Stmt := top 20
theorem sc_kind_of : FnScope ["width", "word", "sign", "exponent", "fraction"] ["width", "word"] (defScope s_kind_of) := ⟨rfl, rfl, rfl, by decide +kernel, rfl, by decide +kernel, by decide +kernel⟩
theorem ck_kind_of : chkSs ["width", "word", "sign", "exponent", "fraction"] (defScope s_kind_of) F.b_kind_of (defBody s_kind_of) = true := by decide +kernel
abbrev s_sign_bit : Stmt := top 15
theorem sc_sign_bit : FnScope ["width"] ["width"] (defScope s_sign_bit) := ⟨rfl, rfl, rfl, by decide +kernel, rfl, by decide +kernel, by decide +kernel⟩
theorem ck_sign_bit : chkSs ["width"] (defScope s_sign_bit) F.b_sign_bit (defBody s_sign_bit) = true := by decide +kernel
abbrev s_minus_of : Stmt := top 55
theorem sc_minus_of : FnScope ["width", "word"] ["width", "word"] (defScope s_minus_of) := ⟨rfl, rfl, rfl, by decide +kernel, rfl, by decide +kernel, by decide +kernel⟩
theorem ck_minus_of : chkSs ["width", "word"] (defScope s_minus_of) F.b_minus_of (defBody s_minus_of) = true := by decide +kernel
abbrev s_exact : Stmt := top 25
theorem sc_exact : FnScope ["n", "k", "spare"] ["n", "k"] (defScope s_exact) := ⟨rfl, rfl, rfl, by decide +kernel, rfl, by decide +kernel, by decide +kernel⟩
theorem ck_exact : chkSs ["n", "k", "spare"] (defScope s_exact) F.b_exact (defBody s_exact) = true := by decide +kernel
abbrev s_bias_of : Stmt := top 11
theorem sc_bias_of : FnScope ["width"] ["width"] (defScope s_bias_of) := ⟨rfl, rfl, rfl, by decide +kernel, rfl, by decide +kernel, by decide +kernel⟩
theorem ck_bias_of : chkSs ["width"] (defScope s_bias_of) F.b_bias_of (defBody s_bias_of) = true := by decide +kernel
abbrev s_least_power : Stmt := top 12
theorem sc_least_power : FnScope ["width"] ["width"] (defScope s_least_power) := ⟨rfl, rfl, rfl, by decide +kernel, rfl, by decide +kernel, by decide +kernel⟩
theorem ck_least_power : chkSs ["width"] (defScope s_least_power) F.b_least_power (defBody s_least_power) = true := by decide +kernel
abbrev s_value_of : Stmt := top 26
theorem sc_value_of : FnScope ["width", "word", "sign", "exponent", "fraction"] ["width", "word"] (defScope s_value_of) := ⟨rfl, rfl, rfl, by decide +kernel, rfl, by decide +kernel, by decide +kernel⟩
theorem ck_value_of : chkSs ["width", "word", "sign", "exponent", "fraction"] (defScope s_value_of) F.b_value_of (defBody s_value_of) = true := by decide +kernel
abbrev s_unsigned : Stmt := top 23
theorem sc_unsigned : FnScope ["width", "word"] ["width", "word"] (defScope s_unsigned) := ⟨rfl, rfl, rfl, by decide +kernel, rfl, by decide +kernel, by decide +kernel⟩
theorem ck_unsigned : chkSs ["width", "word"] (defScope s_unsigned) F.b_unsigned (defBody s_unsigned) = true := by decide +kernel
abbrev s_base_to : Stmt := top 32
theorem sc_base_to : FnScope ["base", "many", "found"] ["base", "many"] (defScope s_base_to) := ⟨rfl, rfl, rfl, by decide +kernel, rfl, by decide +kernel, by decide +kernel⟩
theorem ck_base_to : chkSs ["base", "many", "found"] (defScope s_base_to) F.b_base_to (defBody s_base_to) = true := by decide +kernel
abbrev s_figures_of : Stmt := top 56
theorem sc_figures_of : FnScope ["n", "k"] ["n", "k"] (defScope s_figures_of) := ⟨rfl, rfl, rfl, by decide +kernel, rfl, by decide +kernel, by decide +kernel⟩
theorem ck_figures_of : chkSs ["n", "k"] (defScope s_figures_of) F.b_figures_of (defBody s_figures_of) = true := by decide +kernel
abbrev s_exact_text : Stmt := top 57
theorem sc_exact_text : FnScope ["width", "word", "kind", "n", "k", "figures", "behind"] ["width", "word"] (defScope s_exact_text) := ⟨rfl, rfl, rfl, by decide +kernel, rfl, by decide +kernel, by decide +kernel⟩
theorem ck_exact_text : chkSs ["width", "word", "kind", "n", "k", "figures", "behind"] (defScope s_exact_text) F.b_exact_text (defBody s_exact_text) = true := by decide +kernel
abbrev s_over_and_under : Stmt := top 33
theorem sc_over_and_under : FnScope ["number", "ten"] ["number", "ten"] (defScope s_over_and_under) := ⟨rfl, rfl, rfl, by decide +kernel, rfl, by decide +kernel, by decide +kernel⟩
theorem ck_over_and_under : chkSs ["number", "ten"] (defScope s_over_and_under) F.b_over_and_under (defBody s_over_and_under) = true := by decide +kernel
abbrev s_way_of : Stmt := top 47
theorem sc_way_of : FnScope ["name"] ["name"] (defScope s_way_of) := ⟨rfl, rfl, rfl, by decide +kernel, rfl, by decide +kernel, by decide +kernel⟩
theorem ck_way_of : chkSs ["name"] (defScope s_way_of) F.b_way_of (defBody s_way_of) = true := by decide +kernel
abbrev s_height_of : Stmt := top 35
theorem sc_height_of : FnScope ["n", "k", "d", "size", "height", "low"] ["n", "k", "d"] (defScope s_height_of) := ⟨rfl, rfl, rfl, by decide +kernel, rfl, by decide +kernel, by decide +kernel⟩
theorem ck_height_of : chkSs ["n", "k", "d", "size", "height", "low"] (defScope s_height_of) F.b_height_of (defBody s_height_of) = true := by decide +kernel
abbrev s_in_steps : Stmt := top 36
theorem sc_in_steps : FnScope ["n", "k", "d", "g", "low", "unit", "steps", "rest"] ["n", "k", "d", "g"] (defScope s_in_steps) := ⟨rfl, rfl, rfl, by decide +kernel, rfl, by decide +kernel, by decide +kernel⟩
theorem ck_in_steps : chkSs ["n", "k", "d", "g", "low", "unit", "steps", "rest"] (defScope s_in_steps) F.b_in_steps (defBody s_in_steps) = true := by decide +kernel
abbrev s_Even_grows : Stmt := inClass (top 42) 0
theorem sc_Even_grows : FnScope ["self", "odd", "side", "below"] ["self", "odd", "side", "below"] (defScope s_Even_grows) := ⟨rfl, rfl, rfl, by decide +kernel, rfl, by decide +kernel, by decide +kernel⟩
theorem ck_Even_grows : chkSs ["self", "odd", "side", "below"] (defScope s_Even_grows) F.b_Even_grows (defBody s_Even_grows) = true := by decide +kernel
abbrev s_Away_grows : Stmt := inClass (top 43) 0
theorem sc_Away_grows : FnScope ["self", "odd", "side", "below"] ["self", "odd", "side", "below"] (defScope s_Away_grows) := ⟨rfl, rfl, rfl, by decide +kernel, rfl, by decide +kernel, by decide +kernel⟩
theorem ck_Away_grows : chkSs ["self", "odd", "side", "below"] (defScope s_Away_grows) F.b_Away_grows (defBody s_Away_grows) = true := by decide +kernel
abbrev s_Way_grows : Stmt := inClass (top 41) 0
theorem sc_Way_grows : FnScope ["self", "odd", "side", "below"] ["self", "odd", "side", "below"] (defScope s_Way_grows) := ⟨rfl, rfl, rfl, by decide +kernel, rfl, by decide +kernel, by decide +kernel⟩
theorem ck_Way_grows : chkSs ["self", "odd", "side", "below"] (defScope s_Way_grows) F.b_Way_grows (defBody s_Way_grows) = true := by decide +kernel
abbrev s_Upward_grows : Stmt := inClass (top 45) 0
theorem sc_Upward_grows : FnScope ["self", "odd", "side", "below"] ["self", "odd", "side", "below"] (defScope s_Upward_grows) := ⟨rfl, rfl, rfl, by decide +kernel, rfl, by decide +kernel, by decide +kernel⟩
theorem ck_Upward_grows : chkSs ["self", "odd", "side", "below"] (defScope s_Upward_grows) F.b_Upward_grows (defBody s_Upward_grows) = true := by decide +kernel
abbrev s_Downward_grows : Stmt := inClass (top 46) 0
theorem sc_Downward_grows : FnScope ["self", "odd", "side", "below"] ["self", "odd", "side", "below"] (defScope s_Downward_grows) := ⟨rfl, rfl, rfl, by decide +kernel, rfl, by decide +kernel, by decide +kernel⟩
theorem ck_Downward_grows : chkSs ["self", "odd", "side", "below"] (defScope s_Downward_grows) F.b_Downward_grows (defBody s_Downward_grows) = true := by decide +kernel
abbrev s_is_part : Stmt := top 18
theorem sc_is_part : FnScope ["part", "many"] ["part", "many"] (defScope s_is_part) := ⟨rfl, rfl, rfl, by decide +kernel, rfl, by decide +kernel, by decide +kernel⟩
theorem ck_is_part : chkSs ["part", "many"] (defScope s_is_part) F.b_is_part (defBody s_is_part) = true := by decide +kernel
abbrev s_joined : Stmt := top 19
theorem sc_joined : FnScope ["width", "sign", "exponent", "fraction"] ["width", "sign", "exponent", "fraction"] (defScope s_joined) := ⟨rfl, rfl, rfl, by decide +kernel, rfl, by decide +kernel, by decide +kernel⟩
theorem ck_joined : chkSs ["width", "sign", "exponent", "fraction"] (defScope s_joined) F.b_joined (defBody s_joined) = true := by decide +kernel
abbrev s_endless_of : Stmt := top 21
theorem sc_endless_of : FnScope ["width", "below"] ["width", "below"] (defScope s_endless_of) := ⟨rfl, rfl, rfl, by decide +kernel, rfl, by decide +kernel, by decide +kernel⟩
theorem ck_endless_of : chkSs ["width", "below"] (defScope s_endless_of) F.b_endless_of (defBody s_endless_of) = true := by decide +kernel
abbrev s_with_sign : Stmt := top 49
theorem sc_with_sign : FnScope ["width", "size", "below"] ["width", "size", "below"] (defScope s_with_sign) := ⟨rfl, rfl, rfl, by decide +kernel, rfl, by decide +kernel, by decide +kernel⟩
theorem ck_with_sign : chkSs ["width", "size", "below"] (defScope s_with_sign) F.b_with_sign (defBody s_with_sign) = true := by decide +kernel
abbrev s_beyond : Stmt := top 50
theorem sc_beyond : FnScope ["width", "by", "below", "size"] ["width", "by", "below"] (defScope s_beyond) := ⟨rfl, rfl, rfl, by decide +kernel, rfl, by decide +kernel, by decide +kernel⟩
theorem ck_beyond : chkSs ["width", "by", "below", "size"] (defScope s_beyond) F.b_beyond (defBody s_beyond) = true := by decide +kernel
abbrev s_due_marks : Stmt := top 51
theorem sc_due_marks : FnScope ["width", "side", "high"] ["width", "side", "high"] (defScope s_due_marks) := ⟨rfl, rfl, rfl, by decide +kernel, rfl, by decide +kernel, by decide +kernel⟩
theorem ck_due_marks : chkSs ["width", "side", "high"] (defScope s_due_marks) F.b_due_marks (defBody s_due_marks) = true := by decide +kernel
abbrev s_taken : Stmt := top 52
theorem sc_taken : FnScope ["width", "n", "k", "d", "way", "by", "high", "least", "power", "many", "side", "size"] ["width", "n", "k", "d", "way"] (defScope s_taken) := ⟨rfl, rfl, rfl, by decide +kernel, rfl, by decide +kernel, by decide +kernel⟩
theorem ck_taken : chkSs ["width", "n", "k", "d", "way", "by", "high", "least", "power", "many", "side", "size"] (defScope s_taken) F.b_taken (defBody s_taken) = true := by decide +kernel
abbrev s_reads_to : Stmt := top 58
theorem sc_reads_to : FnScope ["width", "size", "number", "ten", "top", "bottom"] ["width", "size", "number", "ten"] (defScope s_reads_to) := ⟨rfl, rfl, rfl, by decide +kernel, rfl, by decide +kernel, by decide +kernel⟩
theorem ck_reads_to : chkSs ["width", "size", "number", "ten", "top", "bottom"] (defScope s_reads_to) F.b_reads_to (defBody s_reads_to) = true := by decide +kernel
abbrev s_fewest : Stmt := top 59
theorem sc_fewest : FnScope ["width", "size", "n", "k", "figures", "behind", "ten", "top", "bottom", "lower", "rest", "nearer", "farther"] ["width", "size"] (defScope s_fewest) := ⟨rfl, rfl, rfl, by decide +kernel, rfl, by decide +kernel, by decide +kernel⟩
theorem ck_fewest : chkSs ["width", "size", "n", "k", "figures", "behind", "ten", "top", "bottom", "lower", "rest", "nearer", "farther"] (defScope s_fewest) F.b_fewest (defBody s_fewest) = true := by decide +kernel
abbrev s_shortest : Stmt := top 60
theorem sc_shortest : FnScope ["width", "word", "kind", "number", "ten", "figures", "power", "text"] ["width", "word"] (defScope s_shortest) := ⟨rfl, rfl, rfl, by decide +kernel, rfl, by decide +kernel, by decide +kernel⟩
theorem ck_shortest : chkSs ["width", "word", "kind", "number", "ten", "figures", "power", "text"] (defScope s_shortest) F.b_shortest (defBody s_shortest) = true := by decide +kernel
abbrev s_law_due : Stmt := top 73
theorem sc_law_due : FnScope ["_law_wide_here", "_law_word_here", "_law_half", "_law_last"] ["_law_wide_here", "_law_word_here"] (defScope s_law_due) := ⟨rfl, rfl, rfl, by decide +kernel, rfl, by decide +kernel, by decide +kernel⟩
theorem ck_law_due : chkSs ["_law_wide_here", "_law_word_here", "_law_half", "_law_last"] (defScope s_law_due) G.b_due_76 (defBody s_law_due) = true := by decide +kernel
abbrev s_none_of : Stmt := top 22
theorem sc_none_of : FnScope ["width"] ["width"] (defScope s_none_of) := ⟨rfl, rfl, rfl, by decide +kernel, rfl, by decide +kernel, by decide +kernel⟩
theorem ck_none_of : chkSs ["width"] (defScope s_none_of) F.b_none_of (defBody s_none_of) = true := by decide +kernel
abbrev s_all_figures : Stmt := top 29
theorem sc_all_figures : FnScope ["text", "sign"] ["text"] (defScope s_all_figures) := ⟨rfl, rfl, rfl, by decide +kernel, rfl, by decide +kernel, by decide +kernel⟩
theorem ck_all_figures : chkSs ["text", "sign"] (defScope s_all_figures) F.b_all_figures (defBody s_all_figures) = true := by decide +kernel
abbrev s_power_told : Stmt := top 30
theorem sc_power_told : FnScope ["text", "figures"] ["text"] (defScope s_power_told) := ⟨rfl, rfl, rfl, by decide +kernel, rfl, by decide +kernel, by decide +kernel⟩
theorem ck_power_told : chkSs ["text", "figures"] (defScope s_power_told) F.b_power_told (defBody s_power_told) = true := by decide +kernel
abbrev s_parts_of : Stmt := top 31
theorem sc_parts_of : FnScope ["text", "below", "body", "figures", "mark", "behind", "ten", "ahead", "point", "tail"] ["text"] (defScope s_parts_of) := ⟨rfl, rfl, rfl, by decide +kernel, rfl, by decide +kernel, by decide +kernel⟩
theorem ck_parts_of : chkSs ["text", "below", "body", "figures", "mark", "behind", "ten", "ahead", "point", "tail"] (defScope s_parts_of) F.b_parts_of (defBody s_parts_of) = true := by decide +kernel
abbrev s_read : Stmt := top 54
theorem sc_read : FnScope ["width", "text", "way", "below", "number", "ten", "top", "bottom"] ["width", "text", "way"] (defScope s_read) := ⟨rfl, rfl, rfl, by decide +kernel, rfl, by decide +kernel, by decide +kernel⟩
theorem ck_read : chkSs ["width", "text", "way", "below", "number", "ten", "top", "bottom"] (defScope s_read) F.b_read (defBody s_read) = true := by decide +kernel
abbrev s_law_all_figures : Stmt := top 67
theorem sc_law_all_figures : FnScope ["_law_text", "_law_sign"] ["_law_text"] (defScope s_law_all_figures) := ⟨rfl, rfl, rfl, by decide +kernel, rfl, by decide +kernel, by decide +kernel⟩
theorem ck_law_all_figures : chkSs ["_law_text", "_law_sign"] (defScope s_law_all_figures) G.b_all_figures_76 (defBody s_law_all_figures) = true := by decide +kernel
abbrev s_law_parts : Stmt := top 68
theorem sc_law_parts : FnScope ["_law_text", "_law_body", "_law_mark", "_law_behind", "_law_first", "_law_point", "_law_tail", "_law_figures"] ["_law_text"] (defScope s_law_parts) := ⟨rfl, rfl, rfl, by decide +kernel, rfl, by decide +kernel, by decide +kernel⟩
theorem ck_law_parts : chkSs ["_law_text", "_law_body", "_law_mark", "_law_behind", "_law_first", "_law_point", "_law_tail", "_law_figures"] (defScope s_law_parts) G.b_parts_76 (defBody s_law_parts) = true := by decide +kernel
abbrev s_law_steps_of : Stmt := top 65
theorem sc_law_steps_of : FnScope ["_law_wide_here", "_law_size"] ["_law_wide_here", "_law_size"] (defScope s_law_steps_of) := ⟨rfl, rfl, rfl, by decide +kernel, rfl, by decide +kernel, by decide +kernel⟩
theorem ck_law_steps_of : chkSs ["_law_wide_here", "_law_size"] (defScope s_law_steps_of) G.b_steps_of_33 (defBody s_law_steps_of) = true := by decide +kernel
abbrev s_law_tens : Stmt := top 66
theorem sc_law_tens : FnScope ["_law_many", "_law_found", "_law_base"] ["_law_many"] (defScope s_law_tens) := ⟨rfl, rfl, rfl, by decide +kernel, rfl, by decide +kernel, by decide +kernel⟩
theorem ck_law_tens : chkSs ["_law_many", "_law_found", "_law_base"] (defScope s_law_tens) G.b_tens_74 (defBody s_law_tens) = true := by decide +kernel
abbrev s_law_decade : Stmt := top 71
theorem sc_law_decade : FnScope ["_law_wide_here", "_law_size", "_law_power", "_law_deep", "_law_top", "_law_bottom"] ["_law_wide_here", "_law_size", "_law_power"] (defScope s_law_decade) := ⟨rfl, rfl, rfl, by decide +kernel, rfl, by decide +kernel, by decide +kernel⟩
theorem ck_law_decade : chkSs ["_law_wide_here", "_law_size", "_law_power", "_law_deep", "_law_top", "_law_bottom"] (defScope s_law_decade) G.b_decade_76 (defBody s_law_decade) = true := by decide +kernel
abbrev s_law_next_two : Stmt := top 69
theorem sc_law_next_two : FnScope ["_law_wide_here", "_law_size", "_law_many", "_law_power", "_law_deep", "_law_ten", "_law_top", "_law_bottom", "_law_lower", "_law_rest"] ["_law_wide_here", "_law_size", "_law_many", "_law_power"] (defScope s_law_next_two) := ⟨rfl, rfl, rfl, by decide +kernel, rfl, by decide +kernel, by decide +kernel⟩
theorem ck_law_next_two : chkSs ["_law_wide_here", "_law_size", "_law_many", "_law_power", "_law_deep", "_law_ten", "_law_top", "_law_bottom", "_law_lower", "_law_rest"] (defScope s_law_next_two) G.b_next_two_76 (defBody s_law_next_two) = true := by decide +kernel
abbrev s_law_reads : Stmt := top 70
theorem sc_law_reads : FnScope ["_law_width", "_law_size", "_law_number", "_law_ten"] ["_law_width", "_law_size", "_law_number", "_law_ten"] (defScope s_law_reads) := ⟨rfl, rfl, rfl, by decide +kernel, rfl, by decide +kernel, by decide +kernel⟩
theorem ck_law_reads : chkSs ["_law_width", "_law_size", "_law_number", "_law_ten"] (defScope s_law_reads) G.b_reads_76 (defBody s_law_reads) = true := by decide +kernel
abbrev s_law_fewest : Stmt := top 72
theorem sc_law_fewest : FnScope ["_law_wide_here", "_law_size", "_law_told_here", "_law_width", "_law_power", "_law_right", "_law_lower", "_law_upper", "_law_ten", "_law_side", "_law_number"] ["_law_wide_here", "_law_size", "_law_told_here"] (defScope s_law_fewest) := ⟨rfl, rfl, rfl, by decide +kernel, rfl, by decide +kernel, by decide +kernel⟩
theorem ck_law_fewest : chkSs ["_law_wide_here", "_law_size", "_law_told_here", "_law_width", "_law_power", "_law_right", "_law_lower", "_law_upper", "_law_ten", "_law_side", "_law_number"] (defScope s_law_fewest) G.b_fewest_76 (defBody s_law_fewest) = true := by decide +kernel
abbrev s_law_told : Stmt := top 74
theorem sc_law_told : FnScope ["_law_wide_here", "_law_word_here", "_law_width", "_law_half", "_law_text", "_law_told_here"] ["_law_wide_here", "_law_word_here"] (defScope s_law_told) := ⟨rfl, rfl, rfl, by decide +kernel, rfl, by decide +kernel, by decide +kernel⟩
theorem ck_law_told : chkSs ["_law_wide_here", "_law_word_here", "_law_width", "_law_half", "_law_text", "_law_told_here"] (defScope s_law_told) G.b_told_76 (defBody s_law_told) = true := by decide +kernel
abbrev s_law_word : Stmt := top 64
theorem sc_law_word : FnScope ["_law_wide_here", "_law_cell", "_law_many", "_law_mixed", "_law_last", "_law_some", "_law_pick"] ["_law_wide_here", "_law_cell"] (defScope s_law_word) := ⟨rfl, rfl, rfl, by decide +kernel, rfl, by decide +kernel, by decide +kernel⟩
theorem ck_law_word : chkSs ["_law_wide_here", "_law_cell", "_law_many", "_law_mixed", "_law_last", "_law_some", "_law_pick"] (defScope s_law_word) G.b_word_02 (defBody s_law_word) = true := by decide +kernel
abbrev s_law : Stmt := top 75
theorem sc_law : FnScope ["_law_script", "_law_wide_here", "_law_width", "_law_half", "_law_cell", "_law_text"] ["_law_script"] (defScope s_law) := ⟨rfl, rfl, rfl, by decide +kernel, rfl, by decide +kernel, by decide +kernel⟩
theorem ck_law : chkSs ["_law_script", "_law_wide_here", "_law_width", "_law_half", "_law_cell", "_law_text"] (defScope s_law) K76.b_law (defBody s_law) = true := by decide +kernel
def tab (K : PySem.W.Frag) (e0 e1 e2 e3 e5 o0 o1 o2 o3 o4 ef : Addr) : Tab := ⟨K, fun c => match c with | 0 => e0 | 1 => e1 | 2 => e2 | 3 => e3 | 5 => e5 | _ => 0, fun c => match c with | 0 => o0 | 1 => o1 | 2 => o2 | 3 => o3 | 4 => o4 | _ => 0, [0, 1, 2, 3, 5], [0, 1, 2, 3, 4], ef⟩
theorem all_mk {w : World} {K : PySem.W.Frag} {h : Heap} {mg : Str → Option Value} {fa f1 f2 f3 f4 f5 f6 f7 f8 f9 f10 f11 f12 f13 f14 f15 f16 f17 f18 f19 f20 f21 f22 f23 f24 f25 f26 f27 f28 f30 f31 f32 f33 f34 f35 f36 f37 f38 f39 f40 f41 f42 f43 f44 f45 f46 f47 f48 f49 f50 f51 f52 f53 f54 f55 f56 e0 e1 e2 e3 e5 ef o0 o1 o2 o3 o4 dT36 dT45 : Addr} {t0 : Tok} {t1 : Tok} {t2 : Tok} {t3 : Tok} {tc36 tc45 : Value} {td36 td45 : Option Addr} {tn36 tn45 : Nat} {ts36 ts45 : Array (Option Value)} {tk36_0 tk45_0 : Tok} (X : K.In h) (hG : h.Ns mainGlobals mg) (hfa : mg "law" = some (.ref fa))
    {od1 an1 od2 an2 od3 an3 od4 an4 od5 an5 od6 an6 od7 an7 od8 an8 od9 an9 od10 an10 od11 an11 od12 an12 od13 an13 od14 an14 od15 an15 od16 an16 od17 an17 od18 an18 od19 an19 od20 an20 od21 an21 od22 an22 od23 an23 od24 an24 od25 an25 od26 an26 od27 an27 od28 an28 od30 an30 od31 an31 od32 an32 od33 an33 od34 an34 od35 an35 od36 an36 od37 an37 od38 an38 od39 an39 od40 an40 od41 an41 od42 an42 od43 an43 od44 an44 od45 an45 od46 an46 od47 an47 od48 an48 od49 an49 od50 an50 od51 an51 od52 an52 od53 an53 od54 an54 od55 an55 od56 an56 : Option Addr} {sl1 sl2 sl3 sl4 sl5 sl6 sl7 sl8 sl9 sl10 sl11 sl12 sl13 sl14 sl15 sl16 sl17 sl18 sl19 sl20 sl21 sl22 sl23 sl24 sl25 sl26 sl27 sl28 sl30 sl31 sl32 sl33 sl34 sl35 sl36 sl37 sl38 sl39 sl40 sl41 sl42 sl43 sl44 sl45 sl46 sl47 sl48 sl49 sl50 sl51 sl52 sl53 sl54 sl55 sl56 : Array (Option Value)} {oc1 kV1 dc1 pm1 cd1 ct1 oc2 kV2 dc2 pm2 cd2 ct2 oc3 kV3 dc3 pm3 cd3 ct3 oc4 kV4 dc4 pm4 cd4 ct4 oc5 kV5 dc5 pm5 cd5 ct5 oc6 kV6 dc6 pm6 cd6 ct6 oc7 kV7 dc7 pm7 cd7 ct7 oc8 kV8 dc8 pm8 cd8 ct8 oc9 kV9 dc9 pm9 cd9 ct9 oc10 kV10 dc10 pm10 cd10 ct10 oc11 kV11 dc11 pm11 cd11 ct11 oc12 kV12 dc12 pm12 cd12 ct12 oc13 kV13 dc13 pm13 cd13 ct13 oc14 kV14 dc14 pm14 cd14 ct14 oc15 kV15 dc15 pm15 cd15 ct15 oc16 kV16 dc16 pm16 cd16 ct16 oc17 kV17 dc17 pm17 cd17 ct17 oc18 kV18 dc18 pm18 cd18 ct18 oc19 kV19 dc19 pm19 cd19 ct19 oc20 kV20 dc20 pm20 cd20 ct20 oc21 kV21 dc21 pm21 cd21 ct21 oc22 kV22 dc22 pm22 cd22 ct22 oc23 kV23 dc23 pm23 cd23 ct23 oc24 kV24 dc24 pm24 cd24 ct24 oc25 kV25 dc25 pm25 cd25 ct25 oc26 kV26 dc26 pm26 cd26 ct26 oc27 kV27 dc27 pm27 cd27 ct27 oc28 kV28 dc28 pm28 cd28 ct28 oc30 kV30 dc30 pm30 cd30 ct30 oc31 kV31 dc31 pm31 cd31 ct31 oc32 kV32 dc32 pm32 cd32 ct32 oc33 kV33 dc33 pm33 cd33 ct33 oc34 kV34 dc34 pm34 cd34 ct34 oc35 kV35 dc35 pm35 cd35 ct35 oc36 kV36 dc36 pm36 cd36 ct36 oc37 kV37 dc37 pm37 cd37 ct37 oc38 kV38 dc38 pm38 cd38 ct38 oc39 kV39 dc39 pm39 cd39 ct39 oc40 kV40 dc40 pm40 cd40 ct40 oc41 kV41 dc41 pm41 cd41 ct41 oc42 kV42 dc42 pm42 cd42 ct42 oc43 kV43 dc43 pm43 cd43 ct43 oc44 kV44 dc44 pm44 cd44 ct44 oc45 kV45 dc45 pm45 cd45 ct45 oc46 kV46 dc46 pm46 cd46 ct46 oc47 kV47 dc47 pm47 cd47 ct47 oc48 kV48 dc48 pm48 cd48 ct48 oc49 kV49 dc49 pm49 cd49 ct49 oc50 kV50 dc50 pm50 cd50 ct50 oc51 kV51 dc51 pm51 cd51 ct51 oc52 kV52 dc52 pm52 cd52 ct52 oc53 kV53 dc53 pm53 cd53 ct53 oc54 kV54 dc54 pm54 cd54 ct54 oc55 kV55 dc55 pm55 cd55 ct55 oc56 kV56 dc56 pm56 cd56 ct56 : Value}
    (a1 : PySem.W.nsIn K mainGlobals "_law_wide" = some (some (.ref f1))) (l1 : K.lookup f1 = some ⟨oc1, od1, .func (PySem.W.fnOf "_law_wide" "_law_wide" (defArgs s_law_wide) (defBody s_law_wide) (defScope s_law_wide) .none kV1 dc1 pm1 an1 cd1 ct1), sl1⟩) (c1 : PySem.W.codeIn K cd1 "_law_wide" = true) (k1 : PySem.W.keepIn K (.ref f1) = true)
    (a2 : PySem.W.nsIn K mainGlobals "_law_cell_at" = some (some (.ref f2))) (l2 : K.lookup f2 = some ⟨oc2, od2, .func (PySem.W.fnOf "_law_cell_at" "_law_cell_at" (defArgs s_law_cell_at) (defBody s_law_cell_at) (defScope s_law_cell_at) .none kV2 dc2 pm2 an2 cd2 ct2), sl2⟩) (c2 : PySem.W.codeIn K cd2 "_law_cell_at" = true) (k2 : PySem.W.keepIn K (.ref f2) = true)
    (a3 : PySem.W.nsIn K mainGlobals "is_whole" = some (some (.ref f3))) (l3 : K.lookup f3 = some ⟨oc3, od3, .func (PySem.W.fnOf "is_whole" "is_whole" (defArgs s_is_whole) (defBody s_is_whole) (defScope s_is_whole) .none kV3 dc3 pm3 an3 cd3 ct3), sl3⟩) (c3 : PySem.W.codeIn K cd3 "is_whole" = true) (k3 : PySem.W.keepIn K (.ref f3) = true)
    (a4 : PySem.W.nsIn K mainGlobals "width_of" = some (some (.ref f4))) (l4 : K.lookup f4 = some ⟨oc4, od4, .func (PySem.W.fnOf "width_of" "width_of" (defArgs s_width_of) (defBody s_width_of) (defScope s_width_of) .none kV4 dc4 pm4 an4 cd4 ct4), sl4⟩) (c4 : PySem.W.codeIn K cd4 "width_of" = true) (k4 : PySem.W.keepIn K (.ref f4) = true)
    (a5 : PySem.W.nsIn K mainGlobals "many_words" = some (some (.ref f5))) (l5 : K.lookup f5 = some ⟨oc5, od5, .func (PySem.W.fnOf "many_words" "many_words" (defArgs s_many_words) (defBody s_many_words) (defScope s_many_words) .none kV5 dc5 pm5 an5 cd5 ct5), sl5⟩) (c5 : PySem.W.codeIn K cd5 "many_words" = true) (k5 : PySem.W.keepIn K (.ref f5) = true)
    (a6 : PySem.W.nsIn K mainGlobals "asked_word" = some (some (.ref f6))) (l6 : K.lookup f6 = some ⟨oc6, od6, .func (PySem.W.fnOf "asked_word" "asked_word" (defArgs s_asked_word) (defBody s_asked_word) (defScope s_asked_word) .none kV6 dc6 pm6 an6 cd6 ct6), sl6⟩) (c6 : PySem.W.codeIn K cd6 "asked_word" = true) (k6 : PySem.W.keepIn K (.ref f6) = true)
    (a7 : PySem.W.nsIn K mainGlobals "last_exponent" = some (some (.ref f7))) (l7 : K.lookup f7 = some ⟨oc7, od7, .func (PySem.W.fnOf "last_exponent" "last_exponent" (defArgs s_last_exponent) (defBody s_last_exponent) (defScope s_last_exponent) .none kV7 dc7 pm7 an7 cd7 ct7), sl7⟩) (c7 : PySem.W.codeIn K cd7 "last_exponent" = true) (k7 : PySem.W.keepIn K (.ref f7) = true)
    (a8 : PySem.W.nsIn K mainGlobals "cut" = some (some (.ref f8))) (l8 : K.lookup f8 = some ⟨oc8, od8, .func (PySem.W.fnOf "cut" "cut" (defArgs s_cut) (defBody s_cut) (defScope s_cut) .none kV8 dc8 pm8 an8 cd8 ct8), sl8⟩) (c8 : PySem.W.codeIn K cd8 "cut" = true) (k8 : PySem.W.keepIn K (.ref f8) = true)
    (a9 : PySem.W.nsIn K mainGlobals "kind_of" = some (some (.ref f9))) (l9 : K.lookup f9 = some ⟨oc9, od9, .func (PySem.W.fnOf "kind_of" "kind_of" (defArgs s_kind_of) (defBody s_kind_of) (defScope s_kind_of) .none kV9 dc9 pm9 an9 cd9 ct9), sl9⟩) (c9 : PySem.W.codeIn K cd9 "kind_of" = true) (k9 : PySem.W.keepIn K (.ref f9) = true)
    (a10 : PySem.W.nsIn K mainGlobals "sign_bit" = some (some (.ref f10))) (l10 : K.lookup f10 = some ⟨oc10, od10, .func (PySem.W.fnOf "sign_bit" "sign_bit" (defArgs s_sign_bit) (defBody s_sign_bit) (defScope s_sign_bit) .none kV10 dc10 pm10 an10 cd10 ct10), sl10⟩) (c10 : PySem.W.codeIn K cd10 "sign_bit" = true) (k10 : PySem.W.keepIn K (.ref f10) = true)
    (a11 : PySem.W.nsIn K mainGlobals "minus_of" = some (some (.ref f11))) (l11 : K.lookup f11 = some ⟨oc11, od11, .func (PySem.W.fnOf "minus_of" "minus_of" (defArgs s_minus_of) (defBody s_minus_of) (defScope s_minus_of) .none kV11 dc11 pm11 an11 cd11 ct11), sl11⟩) (c11 : PySem.W.codeIn K cd11 "minus_of" = true) (k11 : PySem.W.keepIn K (.ref f11) = true)
    (a12 : PySem.W.nsIn K mainGlobals "exact" = some (some (.ref f12))) (l12 : K.lookup f12 = some ⟨oc12, od12, .func (PySem.W.fnOf "exact" "exact" (defArgs s_exact) (defBody s_exact) (defScope s_exact) .none kV12 dc12 pm12 an12 cd12 ct12), sl12⟩) (c12 : PySem.W.codeIn K cd12 "exact" = true) (k12 : PySem.W.keepIn K (.ref f12) = true)
    (a13 : PySem.W.nsIn K mainGlobals "bias_of" = some (some (.ref f13))) (l13 : K.lookup f13 = some ⟨oc13, od13, .func (PySem.W.fnOf "bias_of" "bias_of" (defArgs s_bias_of) (defBody s_bias_of) (defScope s_bias_of) .none kV13 dc13 pm13 an13 cd13 ct13), sl13⟩) (c13 : PySem.W.codeIn K cd13 "bias_of" = true) (k13 : PySem.W.keepIn K (.ref f13) = true)
    (a14 : PySem.W.nsIn K mainGlobals "least_power" = some (some (.ref f14))) (l14 : K.lookup f14 = some ⟨oc14, od14, .func (PySem.W.fnOf "least_power" "least_power" (defArgs s_least_power) (defBody s_least_power) (defScope s_least_power) .none kV14 dc14 pm14 an14 cd14 ct14), sl14⟩) (c14 : PySem.W.codeIn K cd14 "least_power" = true) (k14 : PySem.W.keepIn K (.ref f14) = true)
    (a15 : PySem.W.nsIn K mainGlobals "value_of" = some (some (.ref f15))) (l15 : K.lookup f15 = some ⟨oc15, od15, .func (PySem.W.fnOf "value_of" "value_of" (defArgs s_value_of) (defBody s_value_of) (defScope s_value_of) .none kV15 dc15 pm15 an15 cd15 ct15), sl15⟩) (c15 : PySem.W.codeIn K cd15 "value_of" = true) (k15 : PySem.W.keepIn K (.ref f15) = true)
    (a16 : PySem.W.nsIn K mainGlobals "unsigned" = some (some (.ref f16))) (l16 : K.lookup f16 = some ⟨oc16, od16, .func (PySem.W.fnOf "unsigned" "unsigned" (defArgs s_unsigned) (defBody s_unsigned) (defScope s_unsigned) .none kV16 dc16 pm16 an16 cd16 ct16), sl16⟩) (c16 : PySem.W.codeIn K cd16 "unsigned" = true) (k16 : PySem.W.keepIn K (.ref f16) = true)
    (a17 : PySem.W.nsIn K mainGlobals "base_to" = some (some (.ref f17))) (l17 : K.lookup f17 = some ⟨oc17, od17, .func (PySem.W.fnOf "base_to" "base_to" (defArgs s_base_to) (defBody s_base_to) (defScope s_base_to) .none kV17 dc17 pm17 an17 cd17 ct17), sl17⟩) (c17 : PySem.W.codeIn K cd17 "base_to" = true) (k17 : PySem.W.keepIn K (.ref f17) = true)
    (a18 : PySem.W.nsIn K mainGlobals "figures_of" = some (some (.ref f18))) (l18 : K.lookup f18 = some ⟨oc18, od18, .func (PySem.W.fnOf "figures_of" "figures_of" (defArgs s_figures_of) (defBody s_figures_of) (defScope s_figures_of) .none kV18 dc18 pm18 an18 cd18 ct18), sl18⟩) (c18 : PySem.W.codeIn K cd18 "figures_of" = true) (k18 : PySem.W.keepIn K (.ref f18) = true)
    (a19 : PySem.W.nsIn K mainGlobals "exact_text" = some (some (.ref f19))) (l19 : K.lookup f19 = some ⟨oc19, od19, .func (PySem.W.fnOf "exact_text" "exact_text" (defArgs s_exact_text) (defBody s_exact_text) (defScope s_exact_text) .none kV19 dc19 pm19 an19 cd19 ct19), sl19⟩) (c19 : PySem.W.codeIn K cd19 "exact_text" = true) (k19 : PySem.W.keepIn K (.ref f19) = true)
    (a20 : PySem.W.nsIn K mainGlobals "over_and_under" = some (some (.ref f20))) (l20 : K.lookup f20 = some ⟨oc20, od20, .func (PySem.W.fnOf "over_and_under" "over_and_under" (defArgs s_over_and_under) (defBody s_over_and_under) (defScope s_over_and_under) .none kV20 dc20 pm20 an20 cd20 ct20), sl20⟩) (c20 : PySem.W.codeIn K cd20 "over_and_under" = true) (k20 : PySem.W.keepIn K (.ref f20) = true)
    (a21 : PySem.W.nsIn K mainGlobals "way_of" = some (some (.ref f21))) (l21 : K.lookup f21 = some ⟨oc21, od21, .func (PySem.W.fnOf "way_of" "way_of" (defArgs s_way_of) (defBody s_way_of) (defScope s_way_of) .none kV21 dc21 pm21 an21 cd21 ct21), sl21⟩) (c21 : PySem.W.codeIn K cd21 "way_of" = true) (k21 : PySem.W.keepIn K (.ref f21) = true)
    (a22 : PySem.W.nsIn K mainGlobals "height_of" = some (some (.ref f22))) (l22 : K.lookup f22 = some ⟨oc22, od22, .func (PySem.W.fnOf "height_of" "height_of" (defArgs s_height_of) (defBody s_height_of) (defScope s_height_of) .none kV22 dc22 pm22 an22 cd22 ct22), sl22⟩) (c22 : PySem.W.codeIn K cd22 "height_of" = true) (k22 : PySem.W.keepIn K (.ref f22) = true)
    (a23 : PySem.W.nsIn K mainGlobals "in_steps" = some (some (.ref f23))) (l23 : K.lookup f23 = some ⟨oc23, od23, .func (PySem.W.fnOf "in_steps" "in_steps" (defArgs s_in_steps) (defBody s_in_steps) (defScope s_in_steps) .none kV23 dc23 pm23 an23 cd23 ct23), sl23⟩) (c23 : PySem.W.codeIn K cd23 "in_steps" = true) (k23 : PySem.W.keepIn K (.ref f23) = true)
    (l24 : K.lookup f24 = some ⟨oc24, od24, .func (PySem.W.fnOf "grows" "Even.grows" (defArgs s_Even_grows) (defBody s_Even_grows) (defScope s_Even_grows) .none kV24 dc24 pm24 an24 cd24 ct24), sl24⟩) (c24 : PySem.W.codeIn K cd24 "Even.grows" = true) (k24 : PySem.W.keepIn K (.ref f24) = true)
    (l25 : K.lookup f25 = some ⟨oc25, od25, .func (PySem.W.fnOf "grows" "Away.grows" (defArgs s_Away_grows) (defBody s_Away_grows) (defScope s_Away_grows) .none kV25 dc25 pm25 an25 cd25 ct25), sl25⟩) (c25 : PySem.W.codeIn K cd25 "Away.grows" = true) (k25 : PySem.W.keepIn K (.ref f25) = true)
    (l26 : K.lookup f26 = some ⟨oc26, od26, .func (PySem.W.fnOf "grows" "Way.grows" (defArgs s_Way_grows) (defBody s_Way_grows) (defScope s_Way_grows) .none kV26 dc26 pm26 an26 cd26 ct26), sl26⟩) (c26 : PySem.W.codeIn K cd26 "Way.grows" = true) (k26 : PySem.W.keepIn K (.ref f26) = true)
    (l27 : K.lookup f27 = some ⟨oc27, od27, .func (PySem.W.fnOf "grows" "Upward.grows" (defArgs s_Upward_grows) (defBody s_Upward_grows) (defScope s_Upward_grows) .none kV27 dc27 pm27 an27 cd27 ct27), sl27⟩) (c27 : PySem.W.codeIn K cd27 "Upward.grows" = true) (k27 : PySem.W.keepIn K (.ref f27) = true)
    (l28 : K.lookup f28 = some ⟨oc28, od28, .func (PySem.W.fnOf "grows" "Downward.grows" (defArgs s_Downward_grows) (defBody s_Downward_grows) (defScope s_Downward_grows) .none kV28 dc28 pm28 an28 cd28 ct28), sl28⟩) (c28 : PySem.W.codeIn K cd28 "Downward.grows" = true) (k28 : PySem.W.keepIn K (.ref f28) = true)
    (a30 : PySem.W.nsIn K mainGlobals "is_part" = some (some (.ref f30))) (l30 : K.lookup f30 = some ⟨oc30, od30, .func (PySem.W.fnOf "is_part" "is_part" (defArgs s_is_part) (defBody s_is_part) (defScope s_is_part) .none kV30 dc30 pm30 an30 cd30 ct30), sl30⟩) (c30 : PySem.W.codeIn K cd30 "is_part" = true) (k30 : PySem.W.keepIn K (.ref f30) = true)
    (a31 : PySem.W.nsIn K mainGlobals "joined" = some (some (.ref f31))) (l31 : K.lookup f31 = some ⟨oc31, od31, .func (PySem.W.fnOf "joined" "joined" (defArgs s_joined) (defBody s_joined) (defScope s_joined) .none kV31 dc31 pm31 an31 cd31 ct31), sl31⟩) (c31 : PySem.W.codeIn K cd31 "joined" = true) (k31 : PySem.W.keepIn K (.ref f31) = true)
    (a32 : PySem.W.nsIn K mainGlobals "endless_of" = some (some (.ref f32))) (l32 : K.lookup f32 = some ⟨oc32, od32, .func (PySem.W.fnOf "endless_of" "endless_of" (defArgs s_endless_of) (defBody s_endless_of) (defScope s_endless_of) .none kV32 dc32 pm32 an32 cd32 ct32), sl32⟩) (c32 : PySem.W.codeIn K cd32 "endless_of" = true) (k32 : PySem.W.keepIn K (.ref f32) = true)
    (a33 : PySem.W.nsIn K mainGlobals "with_sign" = some (some (.ref f33))) (l33 : K.lookup f33 = some ⟨oc33, od33, .func (PySem.W.fnOf "with_sign" "with_sign" (defArgs s_with_sign) (defBody s_with_sign) (defScope s_with_sign) .none kV33 dc33 pm33 an33 cd33 ct33), sl33⟩) (c33 : PySem.W.codeIn K cd33 "with_sign" = true) (k33 : PySem.W.keepIn K (.ref f33) = true)
    (a34 : PySem.W.nsIn K mainGlobals "beyond" = some (some (.ref f34))) (l34 : K.lookup f34 = some ⟨oc34, od34, .func (PySem.W.fnOf "beyond" "beyond" (defArgs s_beyond) (defBody s_beyond) (defScope s_beyond) .none kV34 dc34 pm34 an34 cd34 ct34), sl34⟩) (c34 : PySem.W.codeIn K cd34 "beyond" = true) (k34 : PySem.W.keepIn K (.ref f34) = true)
    (a35 : PySem.W.nsIn K mainGlobals "due_marks" = some (some (.ref f35))) (l35 : K.lookup f35 = some ⟨oc35, od35, .func (PySem.W.fnOf "due_marks" "due_marks" (defArgs s_due_marks) (defBody s_due_marks) (defScope s_due_marks) .none kV35 dc35 pm35 an35 cd35 ct35), sl35⟩) (c35 : PySem.W.codeIn K cd35 "due_marks" = true) (k35 : PySem.W.keepIn K (.ref f35) = true)
    (a36 : PySem.W.nsIn K mainGlobals "taken" = some (some (.ref f36))) (l36 : K.lookup f36 = some ⟨oc36, od36, .func (PySem.W.fnOf "taken" "taken" (defArgs s_taken) (defBody s_taken) (defScope s_taken) (.ref dT36) kV36 dc36 pm36 an36 cd36 ct36), sl36⟩) (c36 : PySem.W.codeIn K cd36 "taken" = true) (k36 : PySem.W.keepIn K (.ref f36) = true) (q36 : K.lookup dT36 = some ⟨tc36, td36, .seq [(.str "even" tk36_0)].toArray tn36, ts36⟩)
    (a37 : PySem.W.nsIn K mainGlobals "reads_to" = some (some (.ref f37))) (l37 : K.lookup f37 = some ⟨oc37, od37, .func (PySem.W.fnOf "reads_to" "reads_to" (defArgs s_reads_to) (defBody s_reads_to) (defScope s_reads_to) .none kV37 dc37 pm37 an37 cd37 ct37), sl37⟩) (c37 : PySem.W.codeIn K cd37 "reads_to" = true) (k37 : PySem.W.keepIn K (.ref f37) = true)
    (a38 : PySem.W.nsIn K mainGlobals "fewest" = some (some (.ref f38))) (l38 : K.lookup f38 = some ⟨oc38, od38, .func (PySem.W.fnOf "fewest" "fewest" (defArgs s_fewest) (defBody s_fewest) (defScope s_fewest) .none kV38 dc38 pm38 an38 cd38 ct38), sl38⟩) (c38 : PySem.W.codeIn K cd38 "fewest" = true) (k38 : PySem.W.keepIn K (.ref f38) = true)
    (a39 : PySem.W.nsIn K mainGlobals "shortest" = some (some (.ref f39))) (l39 : K.lookup f39 = some ⟨oc39, od39, .func (PySem.W.fnOf "shortest" "shortest" (defArgs s_shortest) (defBody s_shortest) (defScope s_shortest) .none kV39 dc39 pm39 an39 cd39 ct39), sl39⟩) (c39 : PySem.W.codeIn K cd39 "shortest" = true) (k39 : PySem.W.keepIn K (.ref f39) = true)
    (a40 : PySem.W.nsIn K mainGlobals "_law_due" = some (some (.ref f40))) (l40 : K.lookup f40 = some ⟨oc40, od40, .func (PySem.W.fnOf "_law_due" "_law_due" (defArgs s_law_due) (defBody s_law_due) (defScope s_law_due) .none kV40 dc40 pm40 an40 cd40 ct40), sl40⟩) (c40 : PySem.W.codeIn K cd40 "_law_due" = true) (k40 : PySem.W.keepIn K (.ref f40) = true)
    (a41 : PySem.W.nsIn K mainGlobals "none_of" = some (some (.ref f41))) (l41 : K.lookup f41 = some ⟨oc41, od41, .func (PySem.W.fnOf "none_of" "none_of" (defArgs s_none_of) (defBody s_none_of) (defScope s_none_of) .none kV41 dc41 pm41 an41 cd41 ct41), sl41⟩) (c41 : PySem.W.codeIn K cd41 "none_of" = true) (k41 : PySem.W.keepIn K (.ref f41) = true)
    (a42 : PySem.W.nsIn K mainGlobals "all_figures" = some (some (.ref f42))) (l42 : K.lookup f42 = some ⟨oc42, od42, .func (PySem.W.fnOf "all_figures" "all_figures" (defArgs s_all_figures) (defBody s_all_figures) (defScope s_all_figures) .none kV42 dc42 pm42 an42 cd42 ct42), sl42⟩) (c42 : PySem.W.codeIn K cd42 "all_figures" = true) (k42 : PySem.W.keepIn K (.ref f42) = true)
    (a43 : PySem.W.nsIn K mainGlobals "power_told" = some (some (.ref f43))) (l43 : K.lookup f43 = some ⟨oc43, od43, .func (PySem.W.fnOf "power_told" "power_told" (defArgs s_power_told) (defBody s_power_told) (defScope s_power_told) .none kV43 dc43 pm43 an43 cd43 ct43), sl43⟩) (c43 : PySem.W.codeIn K cd43 "power_told" = true) (k43 : PySem.W.keepIn K (.ref f43) = true)
    (a44 : PySem.W.nsIn K mainGlobals "parts_of" = some (some (.ref f44))) (l44 : K.lookup f44 = some ⟨oc44, od44, .func (PySem.W.fnOf "parts_of" "parts_of" (defArgs s_parts_of) (defBody s_parts_of) (defScope s_parts_of) .none kV44 dc44 pm44 an44 cd44 ct44), sl44⟩) (c44 : PySem.W.codeIn K cd44 "parts_of" = true) (k44 : PySem.W.keepIn K (.ref f44) = true)
    (a45 : PySem.W.nsIn K mainGlobals "read" = some (some (.ref f45))) (l45 : K.lookup f45 = some ⟨oc45, od45, .func (PySem.W.fnOf "read" "read" (defArgs s_read) (defBody s_read) (defScope s_read) (.ref dT45) kV45 dc45 pm45 an45 cd45 ct45), sl45⟩) (c45 : PySem.W.codeIn K cd45 "read" = true) (k45 : PySem.W.keepIn K (.ref f45) = true) (q45 : K.lookup dT45 = some ⟨tc45, td45, .seq [(.str "even" tk45_0)].toArray tn45, ts45⟩)
    (a46 : PySem.W.nsIn K mainGlobals "_law_all_figures" = some (some (.ref f46))) (l46 : K.lookup f46 = some ⟨oc46, od46, .func (PySem.W.fnOf "_law_all_figures" "_law_all_figures" (defArgs s_law_all_figures) (defBody s_law_all_figures) (defScope s_law_all_figures) .none kV46 dc46 pm46 an46 cd46 ct46), sl46⟩) (c46 : PySem.W.codeIn K cd46 "_law_all_figures" = true) (k46 : PySem.W.keepIn K (.ref f46) = true)
    (a47 : PySem.W.nsIn K mainGlobals "_law_parts" = some (some (.ref f47))) (l47 : K.lookup f47 = some ⟨oc47, od47, .func (PySem.W.fnOf "_law_parts" "_law_parts" (defArgs s_law_parts) (defBody s_law_parts) (defScope s_law_parts) .none kV47 dc47 pm47 an47 cd47 ct47), sl47⟩) (c47 : PySem.W.codeIn K cd47 "_law_parts" = true) (k47 : PySem.W.keepIn K (.ref f47) = true)
    (a48 : PySem.W.nsIn K mainGlobals "_law_steps_of" = some (some (.ref f48))) (l48 : K.lookup f48 = some ⟨oc48, od48, .func (PySem.W.fnOf "_law_steps_of" "_law_steps_of" (defArgs s_law_steps_of) (defBody s_law_steps_of) (defScope s_law_steps_of) .none kV48 dc48 pm48 an48 cd48 ct48), sl48⟩) (c48 : PySem.W.codeIn K cd48 "_law_steps_of" = true) (k48 : PySem.W.keepIn K (.ref f48) = true)
    (a49 : PySem.W.nsIn K mainGlobals "_law_tens" = some (some (.ref f49))) (l49 : K.lookup f49 = some ⟨oc49, od49, .func (PySem.W.fnOf "_law_tens" "_law_tens" (defArgs s_law_tens) (defBody s_law_tens) (defScope s_law_tens) .none kV49 dc49 pm49 an49 cd49 ct49), sl49⟩) (c49 : PySem.W.codeIn K cd49 "_law_tens" = true) (k49 : PySem.W.keepIn K (.ref f49) = true)
    (a50 : PySem.W.nsIn K mainGlobals "_law_decade" = some (some (.ref f50))) (l50 : K.lookup f50 = some ⟨oc50, od50, .func (PySem.W.fnOf "_law_decade" "_law_decade" (defArgs s_law_decade) (defBody s_law_decade) (defScope s_law_decade) .none kV50 dc50 pm50 an50 cd50 ct50), sl50⟩) (c50 : PySem.W.codeIn K cd50 "_law_decade" = true) (k50 : PySem.W.keepIn K (.ref f50) = true)
    (a51 : PySem.W.nsIn K mainGlobals "_law_next_two" = some (some (.ref f51))) (l51 : K.lookup f51 = some ⟨oc51, od51, .func (PySem.W.fnOf "_law_next_two" "_law_next_two" (defArgs s_law_next_two) (defBody s_law_next_two) (defScope s_law_next_two) .none kV51 dc51 pm51 an51 cd51 ct51), sl51⟩) (c51 : PySem.W.codeIn K cd51 "_law_next_two" = true) (k51 : PySem.W.keepIn K (.ref f51) = true)
    (a52 : PySem.W.nsIn K mainGlobals "_law_reads" = some (some (.ref f52))) (l52 : K.lookup f52 = some ⟨oc52, od52, .func (PySem.W.fnOf "_law_reads" "_law_reads" (defArgs s_law_reads) (defBody s_law_reads) (defScope s_law_reads) .none kV52 dc52 pm52 an52 cd52 ct52), sl52⟩) (c52 : PySem.W.codeIn K cd52 "_law_reads" = true) (k52 : PySem.W.keepIn K (.ref f52) = true)
    (a53 : PySem.W.nsIn K mainGlobals "_law_fewest" = some (some (.ref f53))) (l53 : K.lookup f53 = some ⟨oc53, od53, .func (PySem.W.fnOf "_law_fewest" "_law_fewest" (defArgs s_law_fewest) (defBody s_law_fewest) (defScope s_law_fewest) .none kV53 dc53 pm53 an53 cd53 ct53), sl53⟩) (c53 : PySem.W.codeIn K cd53 "_law_fewest" = true) (k53 : PySem.W.keepIn K (.ref f53) = true)
    (a54 : PySem.W.nsIn K mainGlobals "_law_told" = some (some (.ref f54))) (l54 : K.lookup f54 = some ⟨oc54, od54, .func (PySem.W.fnOf "_law_told" "_law_told" (defArgs s_law_told) (defBody s_law_told) (defScope s_law_told) .none kV54 dc54 pm54 an54 cd54 ct54), sl54⟩) (c54 : PySem.W.codeIn K cd54 "_law_told" = true) (k54 : PySem.W.keepIn K (.ref f54) = true)
    (a55 : PySem.W.nsIn K mainGlobals "_law_word" = some (some (.ref f55))) (l55 : K.lookup f55 = some ⟨oc55, od55, .func (PySem.W.fnOf "_law_word" "_law_word" (defArgs s_law_word) (defBody s_law_word) (defScope s_law_word) .none kV55 dc55 pm55 an55 cd55 ct55), sl55⟩) (c55 : PySem.W.codeIn K cd55 "_law_word" = true) (k55 : PySem.W.keepIn K (.ref f55) = true)
    (a56 : PySem.W.nsIn K mainGlobals "law" = some (some (.ref f56))) (l56 : K.lookup f56 = some ⟨oc56, od56, .func (PySem.W.fnOf "law" "law" (defArgs s_law) (defBody s_law) (defScope s_law) .none kV56 dc56 pm56 an56 cd56 ct56), sl56⟩) (c56 : PySem.W.codeIn K cd56 "law" = true) (k56 : PySem.W.keepIn K (.ref f56) = true)
    (dg : PySem.W.nsIn K cStatics "sys.int_max_str_digits" = some none)
    (ya : PySem.W.nsIn K mainGlobals "FloatError" = some (some (.ref ef)))
    (yn : PySem.W.specialIn K (.builtin "object.__class__") "__get__" = some (some (.builtin "getset_descriptor.__get__")))
    (yt : PySem.W.takesIn K (.builtin "object.__class__") = some true)
    (yb : PySem.W.subIn K (.ref ef) (.type "BaseException") = some true)
    (yi : PySem.W.isClsIn K ef = true)
    (yk : PySem.W.typeIn K (.ref ef) = some (.type "type"))
    (xa0 : PySem.W.nsIn K mainGlobals "NoWidth" = some (some (.ref e0)))
    (xg0 : PySem.W.findIn K (.ref e0) "__getattribute__" = some (some (.builtin "BaseException.__getattribute__")))
    (xk0 : PySem.W.findIn K (.ref e0) "__getattr__" = some none)
    (xs0 : PySem.W.subIn K (.ref e0) (.type "BaseException") = some true)
    (xd0 : PySem.W.hasDictIn K e0 = true)
    (xh0 : PySem.W.findIn K (.ref e0) "__class__" = some (some (.builtin "object.__class__")))
    (xm0 : PySem.W.mroIn K e0 (.type "object") = some true)
    (xc0 : PySem.W.excIn K e0 [.type "ValueError", .type "Exception", .type "BaseException", .type "object"] "ValueError.__new__" = true)
    (xe0 : PySem.W.keepIn K (.ref e0) = true)
    (xt0 : PySem.W.typeIn K (.ref e0) = some (.type "type"))
    (xi0 : PySem.W.isClsIn K e0 = true)
    (xv0 : PySem.W.subIn K (.ref e0) (.type "ValueError") = some true)
    (xn0 : PySem.W.subIn K (.type "NoneType") (.ref e0) = some false)
    (xf0 : PySem.W.subIn K (.ref e0) (.ref ef) = some true)
    (xa1 : PySem.W.nsIn K mainGlobals "NoWord" = some (some (.ref e1)))
    (xg1 : PySem.W.findIn K (.ref e1) "__getattribute__" = some (some (.builtin "BaseException.__getattribute__")))
    (xk1 : PySem.W.findIn K (.ref e1) "__getattr__" = some none)
    (xs1 : PySem.W.subIn K (.ref e1) (.type "BaseException") = some true)
    (xd1 : PySem.W.hasDictIn K e1 = true)
    (xh1 : PySem.W.findIn K (.ref e1) "__class__" = some (some (.builtin "object.__class__")))
    (xm1 : PySem.W.mroIn K e1 (.type "object") = some true)
    (xc1 : PySem.W.excIn K e1 [.type "ValueError", .type "Exception", .type "BaseException", .type "object"] "ValueError.__new__" = true)
    (xe1 : PySem.W.keepIn K (.ref e1) = true)
    (xt1 : PySem.W.typeIn K (.ref e1) = some (.type "type"))
    (xi1 : PySem.W.isClsIn K e1 = true)
    (xv1 : PySem.W.subIn K (.ref e1) (.type "ValueError") = some true)
    (xn1 : PySem.W.subIn K (.type "NoneType") (.ref e1) = some false)
    (xf1 : PySem.W.subIn K (.ref e1) (.ref ef) = some true)
    (xa2 : PySem.W.nsIn K mainGlobals "NoWay" = some (some (.ref e2)))
    (xg2 : PySem.W.findIn K (.ref e2) "__getattribute__" = some (some (.builtin "BaseException.__getattribute__")))
    (xk2 : PySem.W.findIn K (.ref e2) "__getattr__" = some none)
    (xs2 : PySem.W.subIn K (.ref e2) (.type "BaseException") = some true)
    (xd2 : PySem.W.hasDictIn K e2 = true)
    (xh2 : PySem.W.findIn K (.ref e2) "__class__" = some (some (.builtin "object.__class__")))
    (xm2 : PySem.W.mroIn K e2 (.type "object") = some true)
    (xc2 : PySem.W.excIn K e2 [.type "ValueError", .type "Exception", .type "BaseException", .type "object"] "ValueError.__new__" = true)
    (xe2 : PySem.W.keepIn K (.ref e2) = true)
    (xt2 : PySem.W.typeIn K (.ref e2) = some (.type "type"))
    (xi2 : PySem.W.isClsIn K e2 = true)
    (xv2 : PySem.W.subIn K (.ref e2) (.type "ValueError") = some true)
    (xn2 : PySem.W.subIn K (.type "NoneType") (.ref e2) = some false)
    (xf2 : PySem.W.subIn K (.ref e2) (.ref ef) = some true)
    (xa3 : PySem.W.nsIn K mainGlobals "NoNumber" = some (some (.ref e3)))
    (xg3 : PySem.W.findIn K (.ref e3) "__getattribute__" = some (some (.builtin "BaseException.__getattribute__")))
    (xk3 : PySem.W.findIn K (.ref e3) "__getattr__" = some none)
    (xs3 : PySem.W.subIn K (.ref e3) (.type "BaseException") = some true)
    (xd3 : PySem.W.hasDictIn K e3 = true)
    (xh3 : PySem.W.findIn K (.ref e3) "__class__" = some (some (.builtin "object.__class__")))
    (xm3 : PySem.W.mroIn K e3 (.type "object") = some true)
    (xc3 : PySem.W.excIn K e3 [.type "ValueError", .type "Exception", .type "BaseException", .type "object"] "ValueError.__new__" = true)
    (xe3 : PySem.W.keepIn K (.ref e3) = true)
    (xt3 : PySem.W.typeIn K (.ref e3) = some (.type "type"))
    (xi3 : PySem.W.isClsIn K e3 = true)
    (xv3 : PySem.W.subIn K (.ref e3) (.type "ValueError") = some true)
    (xn3 : PySem.W.subIn K (.type "NoneType") (.ref e3) = some false)
    (xf3 : PySem.W.subIn K (.ref e3) (.ref ef) = some true)
    (xa5 : PySem.W.nsIn K mainGlobals "NoText" = some (some (.ref e5)))
    (xg5 : PySem.W.findIn K (.ref e5) "__getattribute__" = some (some (.builtin "BaseException.__getattribute__")))
    (xk5 : PySem.W.findIn K (.ref e5) "__getattr__" = some none)
    (xs5 : PySem.W.subIn K (.ref e5) (.type "BaseException") = some true)
    (xd5 : PySem.W.hasDictIn K e5 = true)
    (xh5 : PySem.W.findIn K (.ref e5) "__class__" = some (some (.builtin "object.__class__")))
    (xm5 : PySem.W.mroIn K e5 (.type "object") = some true)
    (xc5 : PySem.W.excIn K e5 [.type "ValueError", .type "Exception", .type "BaseException", .type "object"] "ValueError.__new__" = true)
    (xe5 : PySem.W.keepIn K (.ref e5) = true)
    (xt5 : PySem.W.typeIn K (.ref e5) = some (.type "type"))
    (xi5 : PySem.W.isClsIn K e5 = true)
    (xv5 : PySem.W.subIn K (.ref e5) (.type "ValueError") = some true)
    (xn5 : PySem.W.subIn K (.type "NoneType") (.ref e5) = some false)
    (xf5 : PySem.W.subIn K (.ref e5) (.ref ef) = some true)
    (xp0_0 : PySem.W.subIn K (.ref e0) (.ref e0) = some true)
    (xp0_1 : PySem.W.subIn K (.ref e0) (.ref e1) = some false)
    (xp0_2 : PySem.W.subIn K (.ref e0) (.ref e2) = some false)
    (xp0_3 : PySem.W.subIn K (.ref e0) (.ref e3) = some false)
    (xp0_5 : PySem.W.subIn K (.ref e0) (.ref e5) = some false)
    (xp1_0 : PySem.W.subIn K (.ref e1) (.ref e0) = some false)
    (xp1_1 : PySem.W.subIn K (.ref e1) (.ref e1) = some true)
    (xp1_2 : PySem.W.subIn K (.ref e1) (.ref e2) = some false)
    (xp1_3 : PySem.W.subIn K (.ref e1) (.ref e3) = some false)
    (xp1_5 : PySem.W.subIn K (.ref e1) (.ref e5) = some false)
    (xp2_0 : PySem.W.subIn K (.ref e2) (.ref e0) = some false)
    (xp2_1 : PySem.W.subIn K (.ref e2) (.ref e1) = some false)
    (xp2_2 : PySem.W.subIn K (.ref e2) (.ref e2) = some true)
    (xp2_3 : PySem.W.subIn K (.ref e2) (.ref e3) = some false)
    (xp2_5 : PySem.W.subIn K (.ref e2) (.ref e5) = some false)
    (xp3_0 : PySem.W.subIn K (.ref e3) (.ref e0) = some false)
    (xp3_1 : PySem.W.subIn K (.ref e3) (.ref e1) = some false)
    (xp3_2 : PySem.W.subIn K (.ref e3) (.ref e2) = some false)
    (xp3_3 : PySem.W.subIn K (.ref e3) (.ref e3) = some true)
    (xp3_5 : PySem.W.subIn K (.ref e3) (.ref e5) = some false)
    (xp5_0 : PySem.W.subIn K (.ref e5) (.ref e0) = some false)
    (xp5_1 : PySem.W.subIn K (.ref e5) (.ref e1) = some false)
    (xp5_2 : PySem.W.subIn K (.ref e5) (.ref e2) = some false)
    (xp5_3 : PySem.W.subIn K (.ref e5) (.ref e3) = some false)
    (xp5_5 : PySem.W.subIn K (.ref e5) (.ref e5) = some true)
    (oa0 : PySem.W.nsIn K mainGlobals "Even" = some (some (.ref o0)))
    (om0 : PySem.W.makesIn K o0 = true)
    (oi0 : PySem.W.findIn K (.ref o0) "__init__" = some (some (.builtin "object.__init__")))
    (oo0 : PySem.W.mroIn K o0 (.type "object") = some true)
    (ok0 : PySem.W.keepIn K (.ref o0) = true)
    (og0 : PySem.W.plainGet K o0 Str.empty = true)
    (oh0 : PySem.W.hasDictIn K o0 = true)
    (op0 : PySem.W.plainOver K o0 = true)
    (os0 : PySem.W.findIn K (.ref o0) "__setattr__" = some (some (.builtin "object.__setattr__")))
    (of0 : PySem.W.findIn K (.ref o0) "grows" = some (some (.ref f24)))
    (oa1 : PySem.W.nsIn K mainGlobals "Away" = some (some (.ref o1)))
    (om1 : PySem.W.makesIn K o1 = true)
    (oi1 : PySem.W.findIn K (.ref o1) "__init__" = some (some (.builtin "object.__init__")))
    (oo1 : PySem.W.mroIn K o1 (.type "object") = some true)
    (ok1 : PySem.W.keepIn K (.ref o1) = true)
    (og1 : PySem.W.plainGet K o1 Str.empty = true)
    (oh1 : PySem.W.hasDictIn K o1 = true)
    (op1 : PySem.W.plainOver K o1 = true)
    (os1 : PySem.W.findIn K (.ref o1) "__setattr__" = some (some (.builtin "object.__setattr__")))
    (of1 : PySem.W.findIn K (.ref o1) "grows" = some (some (.ref f25)))
    (oa2 : PySem.W.nsIn K mainGlobals "Inward" = some (some (.ref o2)))
    (om2 : PySem.W.makesIn K o2 = true)
    (oi2 : PySem.W.findIn K (.ref o2) "__init__" = some (some (.builtin "object.__init__")))
    (oo2 : PySem.W.mroIn K o2 (.type "object") = some true)
    (ok2 : PySem.W.keepIn K (.ref o2) = true)
    (og2 : PySem.W.plainGet K o2 Str.empty = true)
    (oh2 : PySem.W.hasDictIn K o2 = true)
    (op2 : PySem.W.plainOver K o2 = true)
    (os2 : PySem.W.findIn K (.ref o2) "__setattr__" = some (some (.builtin "object.__setattr__")))
    (of2 : PySem.W.findIn K (.ref o2) "grows" = some (some (.ref f26)))
    (oa3 : PySem.W.nsIn K mainGlobals "Upward" = some (some (.ref o3)))
    (om3 : PySem.W.makesIn K o3 = true)
    (oi3 : PySem.W.findIn K (.ref o3) "__init__" = some (some (.builtin "object.__init__")))
    (oo3 : PySem.W.mroIn K o3 (.type "object") = some true)
    (ok3 : PySem.W.keepIn K (.ref o3) = true)
    (og3 : PySem.W.plainGet K o3 Str.empty = true)
    (oh3 : PySem.W.hasDictIn K o3 = true)
    (op3 : PySem.W.plainOver K o3 = true)
    (os3 : PySem.W.findIn K (.ref o3) "__setattr__" = some (some (.builtin "object.__setattr__")))
    (of3 : PySem.W.findIn K (.ref o3) "grows" = some (some (.ref f27)))
    (oa4 : PySem.W.nsIn K mainGlobals "Downward" = some (some (.ref o4)))
    (om4 : PySem.W.makesIn K o4 = true)
    (oi4 : PySem.W.findIn K (.ref o4) "__init__" = some (some (.builtin "object.__init__")))
    (oo4 : PySem.W.mroIn K o4 (.type "object") = some true)
    (ok4 : PySem.W.keepIn K (.ref o4) = true)
    (og4 : PySem.W.plainGet K o4 Str.empty = true)
    (oh4 : PySem.W.hasDictIn K o4 = true)
    (op4 : PySem.W.plainOver K o4 = true)
    (os4 : PySem.W.findIn K (.ref o4) "__setattr__" = some (some (.builtin "object.__setattr__")))
    (of4 : PySem.W.findIn K (.ref o4) "grows" = some (some (.ref f28)))
    (on24 : PySem.W.isFn K (.ref f24) = true)
    (on25 : PySem.W.isFn K (.ref f25) = true)
    (on26 : PySem.W.isFn K (.ref f26) = true)
    (on27 : PySem.W.isFn K (.ref f27) = true)
    (on28 : PySem.W.isFn K (.ref f28) = true)
    (gw0 : PySem.W.nsIn K mainGlobals "FIGURES" = some (some (.str "0123456789" t0)))
    (gw1 : PySem.W.nsIn K mainGlobals "GREAT" = some (some (.int 4 t1)))
    (gw2 : PySem.W.nsIn K mainGlobals "NEAR" = some (some (.int 16 t2)))
    (gw3 : PySem.W.nsIn K mainGlobals "SMALL" = some (some (.int 8 t3)))
    (z0 : PySem.W.nsIn K mainGlobals "abs" = some none)
    (z1 : PySem.W.nsIn K mainGlobals "bool" = some none)
    (z2 : PySem.W.nsIn K mainGlobals "divmod" = some none)
    (z3 : PySem.W.nsIn K mainGlobals "int" = some none)
    (z4 : PySem.W.nsIn K mainGlobals "isinstance" = some none)
    (z5 : PySem.W.nsIn K mainGlobals "len" = some none)
    (z6 : PySem.W.nsIn K mainGlobals "max" = some none)
    (z7 : PySem.W.nsIn K mainGlobals "min" = some none)
    (z8 : PySem.W.nsIn K mainGlobals "str" = some none)
    : ∃ fd : FuncData, (∀ (s : Shared) (u : Value), BindsTo s fd ⟨[u], []⟩ [("_law_script", u)]) ∧ ∀ base : Heap, K.In base → base.Ns mainGlobals mg → FnOk PySem.Challenge.rw_floatforge_k76_whole_shortest.prog w K mg base (L2.CX PySem.Challenge.rw_floatforge_k76_whole_shortest.prog w) 11 fa fd ["_law_script"] (spL K) := by
  have e := hfa.symm.trans (PySem.W.mg_of X hG a56)
  cases e
  refine ⟨PySem.W.fnOf "law" "law" (defArgs s_law) (defBody s_law) (defScope s_law) .none kV56 dc56 pm56 an56 cd56 ct56, fun s u => .of_eq rfl, fun base _ _ => ?_⟩
  have hT : Facts K (tab K e0 e1 e2 e3 e5 o0 o1 o2 o3 o4 ef) := ⟨rfl, (List.forall_mem_cons.mpr ⟨⟨xg0, xk0, xs0, xd0, xh0, yn, yt, xm0⟩, (List.forall_mem_cons.mpr ⟨⟨xg1, xk1, xs1, xd1, xh1, yn, yt, xm1⟩, (List.forall_mem_cons.mpr ⟨⟨xg2, xk2, xs2, xd2, xh2, yn, yt, xm2⟩, (List.forall_mem_cons.mpr ⟨⟨xg3, xk3, xs3, xd3, xh3, yn, yt, xm3⟩, (List.forall_mem_cons.mpr ⟨⟨xg5, xk5, xs5, xd5, xh5, yn, yt, xm5⟩, (fun _ h => nomatch h)⟩)⟩)⟩)⟩)⟩),
    (List.forall_mem_cons.mpr ⟨(List.forall_mem_cons.mpr ⟨kit_s, (List.forall_mem_cons.mpr ⟨kit_p xi1 xt1 xp0_1 xp1_1, (List.forall_mem_cons.mpr ⟨kit_p xi2 xt2 xp0_2 xp2_2, (List.forall_mem_cons.mpr ⟨kit_p xi3 xt3 xp0_3 xp3_3, (List.forall_mem_cons.mpr ⟨kit_p xi5 xt5 xp0_5 xp5_5, (fun _ h => nomatch h)⟩)⟩)⟩)⟩)⟩), (List.forall_mem_cons.mpr ⟨(List.forall_mem_cons.mpr ⟨kit_p xi0 xt0 xp1_0 xp0_0, (List.forall_mem_cons.mpr ⟨kit_s, (List.forall_mem_cons.mpr ⟨kit_p xi2 xt2 xp1_2 xp2_2, (List.forall_mem_cons.mpr ⟨kit_p xi3 xt3 xp1_3 xp3_3, (List.forall_mem_cons.mpr ⟨kit_p xi5 xt5 xp1_5 xp5_5, (fun _ h => nomatch h)⟩)⟩)⟩)⟩)⟩), (List.forall_mem_cons.mpr ⟨(List.forall_mem_cons.mpr ⟨kit_p xi0 xt0 xp2_0 xp0_0, (List.forall_mem_cons.mpr ⟨kit_p xi1 xt1 xp2_1 xp1_1, (List.forall_mem_cons.mpr ⟨kit_s, (List.forall_mem_cons.mpr ⟨kit_p xi3 xt3 xp2_3 xp3_3, (List.forall_mem_cons.mpr ⟨kit_p xi5 xt5 xp2_5 xp5_5, (fun _ h => nomatch h)⟩)⟩)⟩)⟩)⟩), (List.forall_mem_cons.mpr ⟨(List.forall_mem_cons.mpr ⟨kit_p xi0 xt0 xp3_0 xp0_0, (List.forall_mem_cons.mpr ⟨kit_p xi1 xt1 xp3_1 xp1_1, (List.forall_mem_cons.mpr ⟨kit_p xi2 xt2 xp3_2 xp2_2, (List.forall_mem_cons.mpr ⟨kit_s, (List.forall_mem_cons.mpr ⟨kit_p xi5 xt5 xp3_5 xp5_5, (fun _ h => nomatch h)⟩)⟩)⟩)⟩)⟩), (List.forall_mem_cons.mpr ⟨(List.forall_mem_cons.mpr ⟨kit_p xi0 xt0 xp5_0 xp0_0, (List.forall_mem_cons.mpr ⟨kit_p xi1 xt1 xp5_1 xp1_1, (List.forall_mem_cons.mpr ⟨kit_p xi2 xt2 xp5_2 xp2_2, (List.forall_mem_cons.mpr ⟨kit_p xi3 xt3 xp5_3 xp3_3, (List.forall_mem_cons.mpr ⟨kit_s, (fun _ h => nomatch h)⟩)⟩)⟩)⟩)⟩), (fun _ h => nomatch h)⟩)⟩)⟩)⟩)⟩),
    (List.forall_mem_cons.mpr ⟨kit_t xv0, (List.forall_mem_cons.mpr ⟨kit_t xv1, (List.forall_mem_cons.mpr ⟨kit_t xv2, (List.forall_mem_cons.mpr ⟨kit_t xv3, (List.forall_mem_cons.mpr ⟨kit_t xv5, (fun _ h => nomatch h)⟩)⟩)⟩)⟩)⟩), (List.forall_mem_cons.mpr ⟨kit_r xi0 xt0 xn0, (List.forall_mem_cons.mpr ⟨kit_r xi1 xt1 xn1, (List.forall_mem_cons.mpr ⟨kit_r xi2 xt2 xn2, (List.forall_mem_cons.mpr ⟨kit_r xi3 xt3 xn3, (List.forall_mem_cons.mpr ⟨kit_r xi5 xt5 xn5, (fun _ h => nomatch h)⟩)⟩)⟩)⟩)⟩), (List.forall_mem_cons.mpr ⟨exm_r yb yi yk xf0, (List.forall_mem_cons.mpr ⟨exm_r yb yi yk xf1, (List.forall_mem_cons.mpr ⟨exm_r yb yi yk xf2, (List.forall_mem_cons.mpr ⟨exm_r yb yi yk xf3, (List.forall_mem_cons.mpr ⟨exm_r yb yi yk xf5, (fun _ h => nomatch h)⟩)⟩)⟩)⟩)⟩),
    (List.forall_mem_cons.mpr ⟨⟨xc0, xe0, xt0⟩, (List.forall_mem_cons.mpr ⟨⟨xc1, xe1, xt1⟩, (List.forall_mem_cons.mpr ⟨⟨xc2, xe2, xt2⟩, (List.forall_mem_cons.mpr ⟨⟨xc3, xe3, xt3⟩, (List.forall_mem_cons.mpr ⟨⟨xc5, xe5, xt5⟩, (fun _ h => nomatch h)⟩)⟩)⟩)⟩)⟩), dg⟩
  have be0 : ∀ k, Need.At PySem.Challenge.rw_floatforge_k76_whole_shortest.prog w K mg base (tab K e0 e1 e2 e3 e5 o0 o1 o2 o3 o4 ef) k (.exc "NoWidth" 0) := fun _ => ⟨PySem.W.mg_of X hG xa0, show (0 : Nat) ∈ ([0, 1, 2, 3, 5] : List Nat) by decide⟩
  have be1 : ∀ k, Need.At PySem.Challenge.rw_floatforge_k76_whole_shortest.prog w K mg base (tab K e0 e1 e2 e3 e5 o0 o1 o2 o3 o4 ef) k (.exc "NoWord" 1) := fun _ => ⟨PySem.W.mg_of X hG xa1, show (1 : Nat) ∈ ([0, 1, 2, 3, 5] : List Nat) by decide⟩
  have be2 : ∀ k, Need.At PySem.Challenge.rw_floatforge_k76_whole_shortest.prog w K mg base (tab K e0 e1 e2 e3 e5 o0 o1 o2 o3 o4 ef) k (.exc "NoWay" 2) := fun _ => ⟨PySem.W.mg_of X hG xa2, show (2 : Nat) ∈ ([0, 1, 2, 3, 5] : List Nat) by decide⟩
  have be3 : ∀ k, Need.At PySem.Challenge.rw_floatforge_k76_whole_shortest.prog w K mg base (tab K e0 e1 e2 e3 e5 o0 o1 o2 o3 o4 ef) k (.exc "NoNumber" 3) := fun _ => ⟨PySem.W.mg_of X hG xa3, show (3 : Nat) ∈ ([0, 1, 2, 3, 5] : List Nat) by decide⟩
  have be5 : ∀ k, Need.At PySem.Challenge.rw_floatforge_k76_whole_shortest.prog w K mg base (tab K e0 e1 e2 e3 e5 o0 o1 o2 o3 o4 ef) k (.exc "NoText" 5) := fun _ => ⟨PySem.W.mg_of X hG xa5, show (5 : Nat) ∈ ([0, 1, 2, 3, 5] : List Nat) by decide⟩
  have bo0 : ∀ k, Need.At PySem.Challenge.rw_floatforge_k76_whole_shortest.prog w K mg base (tab K e0 e1 e2 e3 e5 o0 o1 o2 o3 o4 ef) k (.cls "Even" 0) := fun _ => ⟨PySem.W.mg_of X hG oa0, show (0 : Nat) ∈ ([0, 1, 2, 3, 4] : List Nat) by decide, ⟨om0, oi0, oo0, ok0⟩⟩
  have bo1 : ∀ k, Need.At PySem.Challenge.rw_floatforge_k76_whole_shortest.prog w K mg base (tab K e0 e1 e2 e3 e5 o0 o1 o2 o3 o4 ef) k (.cls "Away" 1) := fun _ => ⟨PySem.W.mg_of X hG oa1, show (1 : Nat) ∈ ([0, 1, 2, 3, 4] : List Nat) by decide, ⟨om1, oi1, oo1, ok1⟩⟩
  have bo2 : ∀ k, Need.At PySem.Challenge.rw_floatforge_k76_whole_shortest.prog w K mg base (tab K e0 e1 e2 e3 e5 o0 o1 o2 o3 o4 ef) k (.cls "Inward" 2) := fun _ => ⟨PySem.W.mg_of X hG oa2, show (2 : Nat) ∈ ([0, 1, 2, 3, 4] : List Nat) by decide, ⟨om2, oi2, oo2, ok2⟩⟩
  have bo3 : ∀ k, Need.At PySem.Challenge.rw_floatforge_k76_whole_shortest.prog w K mg base (tab K e0 e1 e2 e3 e5 o0 o1 o2 o3 o4 ef) k (.cls "Upward" 3) := fun _ => ⟨PySem.W.mg_of X hG oa3, show (3 : Nat) ∈ ([0, 1, 2, 3, 4] : List Nat) by decide, ⟨om3, oi3, oo3, ok3⟩⟩
  have bo4 : ∀ k, Need.At PySem.Challenge.rw_floatforge_k76_whole_shortest.prog w K mg base (tab K e0 e1 e2 e3 e5 o0 o1 o2 o3 o4 ef) k (.cls "Downward" 4) := fun _ => ⟨PySem.W.mg_of X hG oa4, show (4 : Nat) ∈ ([0, 1, 2, 3, 4] : List Nat) by decide, ⟨om4, oi4, oo4, ok4⟩⟩
  have bg0 : ∀ k, Need.At PySem.Challenge.rw_floatforge_k76_whole_shortest.prog w K mg base (tab K e0 e1 e2 e3 e5 o0 o1 o2 o3 o4 ef) k (.glo "FIGURES" (.str [48, 49, 50, 51, 52, 53, 54, 55, 56, 57])) := fun _ => ⟨.str "0123456789", _, PySem.W.mg_of X hG gw0, ⟨_, rfl⟩, fun _ => dv_str (by decide +kernel)⟩
  have bg1 : ∀ k, Need.At PySem.Challenge.rw_floatforge_k76_whole_shortest.prog w K mg base (tab K e0 e1 e2 e3 e5 o0 o1 o2 o3 o4 ef) k (.glo "GREAT" (.int 4)) := fun _ => ⟨.int 4, _, PySem.W.mg_of X hG gw1, ⟨_, rfl⟩, fun _ => .int _⟩
  have bg2 : ∀ k, Need.At PySem.Challenge.rw_floatforge_k76_whole_shortest.prog w K mg base (tab K e0 e1 e2 e3 e5 o0 o1 o2 o3 o4 ef) k (.glo "NEAR" (.int 16)) := fun _ => ⟨.int 16, _, PySem.W.mg_of X hG gw2, ⟨_, rfl⟩, fun _ => .int _⟩
  have bg3 : ∀ k, Need.At PySem.Challenge.rw_floatforge_k76_whole_shortest.prog w K mg base (tab K e0 e1 e2 e3 e5 o0 o1 o2 o3 o4 ef) k (.glo "SMALL" (.int 8)) := fun _ => ⟨.int 8, _, PySem.W.mg_of X hG gw3, ⟨_, rfl⟩, fun _ => .int _⟩
  have b0 : ∀ k, Need.At PySem.Challenge.rw_floatforge_k76_whole_shortest.prog w K mg base (tab K e0 e1 e2 e3 e5 o0 o1 o2 o3 o4 ef) k (.blt "abs") := fun _ => PySem.W.mg_none_of X hG z0
  have b1 : ∀ k, Need.At PySem.Challenge.rw_floatforge_k76_whole_shortest.prog w K mg base (tab K e0 e1 e2 e3 e5 o0 o1 o2 o3 o4 ef) k (.blt "bool") := fun _ => PySem.W.mg_none_of X hG z1
  have b2 : ∀ k, Need.At PySem.Challenge.rw_floatforge_k76_whole_shortest.prog w K mg base (tab K e0 e1 e2 e3 e5 o0 o1 o2 o3 o4 ef) k (.blt "divmod") := fun _ => PySem.W.mg_none_of X hG z2
  have b3 : ∀ k, Need.At PySem.Challenge.rw_floatforge_k76_whole_shortest.prog w K mg base (tab K e0 e1 e2 e3 e5 o0 o1 o2 o3 o4 ef) k (.blt "int") := fun _ => PySem.W.mg_none_of X hG z3
  have b4 : ∀ k, Need.At PySem.Challenge.rw_floatforge_k76_whole_shortest.prog w K mg base (tab K e0 e1 e2 e3 e5 o0 o1 o2 o3 o4 ef) k (.blt "isinstance") := fun _ => PySem.W.mg_none_of X hG z4
  have b5 : ∀ k, Need.At PySem.Challenge.rw_floatforge_k76_whole_shortest.prog w K mg base (tab K e0 e1 e2 e3 e5 o0 o1 o2 o3 o4 ef) k (.blt "len") := fun _ => PySem.W.mg_none_of X hG z5
  have b6 : ∀ k, Need.At PySem.Challenge.rw_floatforge_k76_whole_shortest.prog w K mg base (tab K e0 e1 e2 e3 e5 o0 o1 o2 o3 o4 ef) k (.blt "max") := fun _ => PySem.W.mg_none_of X hG z6
  have b7 : ∀ k, Need.At PySem.Challenge.rw_floatforge_k76_whole_shortest.prog w K mg base (tab K e0 e1 e2 e3 e5 o0 o1 o2 o3 o4 ef) k (.blt "min") := fun _ => PySem.W.mg_none_of X hG z7
  have b8 : ∀ k, Need.At PySem.Challenge.rw_floatforge_k76_whole_shortest.prog w K mg base (tab K e0 e1 e2 e3 e5 o0 o1 o2 o3 o4 ef) k (.blt "str") := fun _ => PySem.W.mg_none_of X hG z8
  have n1 : Need.At PySem.Challenge.rw_floatforge_k76_whole_shortest.prog w K mg base (tab K e0 e1 e2 e3 e5 o0 o1 o2 o3 o4 ef) 1 (.fn "_law_wide" G.wide_14 []) := at_fn (st := s_law_wide) (np := 1) (b := G.b_wide_14) (PySem.W.mg_of X hG a1) k1 l1 c1 sc_law_wide (hT) ck_law_wide rfl (fun _ _ _ _ _ _ us hl => match us, hl with | [_], _ => rfl) rfl (by simp only [G.b_wide_14, okSs, okS, okE, okEs, okSrc, clNeed, nmCl, nmF1, nmF2, and_true, true_and])
  have n2 : Need.At PySem.Challenge.rw_floatforge_k76_whole_shortest.prog w K mg base (tab K e0 e1 e2 e3 e5 o0 o1 o2 o3 o4 ef) 1 (.fn "_law_cell_at" G.cell_at_01 []) := at_fn (st := s_law_cell_at) (np := 2) (b := G.b_cell_at_01) (PySem.W.mg_of X hG a2) k2 l2 c2 sc_law_cell_at (hT) ck_law_cell_at rfl (fun _ _ _ _ _ _ us hl => match us, hl with | [_, _], _ => rfl) rfl (by simp only [G.b_cell_at_01, okSs, okS, okE, okEs, okSrc, clNeed, nmCl, nmF1, nmF2, and_true, true_and, b5 _])
  have n3 : Need.At PySem.Challenge.rw_floatforge_k76_whole_shortest.prog w K mg base (tab K e0 e1 e2 e3 e5 o0 o1 o2 o3 o4 ef) 1 (.fn "is_whole" F.is_whole []) := at_fn (st := s_is_whole) (np := 1) (b := F.b_is_whole) (PySem.W.mg_of X hG a3) k3 l3 c3 sc_is_whole (hT) ck_is_whole rfl (fun _ _ _ _ _ _ us hl => match us, hl with | [_], _ => rfl) rfl (by simp only [F.b_is_whole, okSs, okS, okE, okEs, okSrc, clNeed, nmCl, nmF1, nmF2, and_true, true_and, b4 _, b3 _, b1 _])
  have n4 : Need.At PySem.Challenge.rw_floatforge_k76_whole_shortest.prog w K mg base (tab K e0 e1 e2 e3 e5 o0 o1 o2 o3 o4 ef) 2 (.fn "width_of" F.width_of []) := at_fn (st := s_width_of) (np := 2) (b := F.b_width_of) (PySem.W.mg_of X hG a4) k4 l4 c4 sc_width_of (hT) ck_width_of rfl (fun _ _ _ _ _ _ us hl => match us, hl with | [_, _], _ => rfl) rfl (by simp only [F.b_width_of, okSs, okS, okE, okEs, okSrc, clNeed, nmCl, nmF1, nmF2, and_true, true_and, be0 _, At_mono n3 (by decide : 1 ≤ 1)])
  have n5 : Need.At PySem.Challenge.rw_floatforge_k76_whole_shortest.prog w K mg base (tab K e0 e1 e2 e3 e5 o0 o1 o2 o3 o4 ef) 1 (.fn "many_words" F.many_words []) := at_fn (st := s_many_words) (np := 1) (b := F.b_many_words) (PySem.W.mg_of X hG a5) k5 l5 c5 sc_many_words (hT) ck_many_words rfl (fun _ _ _ _ _ _ us hl => match us, hl with | [_], _ => rfl) rfl (by simp only [F.b_many_words, okSs, okS, okE, okEs, okSrc, clNeed, nmCl, nmF1, nmF2, and_true, true_and])
  have n6 : Need.At PySem.Challenge.rw_floatforge_k76_whole_shortest.prog w K mg base (tab K e0 e1 e2 e3 e5 o0 o1 o2 o3 o4 ef) 2 (.fn "asked_word" F.asked_word []) := at_fn (st := s_asked_word) (np := 2) (b := F.b_asked_word) (PySem.W.mg_of X hG a6) k6 l6 c6 sc_asked_word (hT) ck_asked_word rfl (fun _ _ _ _ _ _ us hl => match us, hl with | [_, _], _ => rfl) rfl (by simp only [F.b_asked_word, okSs, okS, okE, okEs, okSrc, clNeed, nmCl, nmF1, nmF2, and_true, true_and, be1 _, At_mono n3 (by decide : 1 ≤ 1), At_mono n5 (by decide : 1 ≤ 1)])
  have n7 : Need.At PySem.Challenge.rw_floatforge_k76_whole_shortest.prog w K mg base (tab K e0 e1 e2 e3 e5 o0 o1 o2 o3 o4 ef) 1 (.fn "last_exponent" F.last_exponent []) := at_fn (st := s_last_exponent) (np := 1) (b := F.b_last_exponent) (PySem.W.mg_of X hG a7) k7 l7 c7 sc_last_exponent (hT) ck_last_exponent rfl (fun _ _ _ _ _ _ us hl => match us, hl with | [_], _ => rfl) rfl (by simp only [F.b_last_exponent, okSs, okS, okE, okEs, okSrc, clNeed, nmCl, nmF1, nmF2, and_true, true_and])
  have n8 : Need.At PySem.Challenge.rw_floatforge_k76_whole_shortest.prog w K mg base (tab K e0 e1 e2 e3 e5 o0 o1 o2 o3 o4 ef) 3 (.fn "cut" F.cut []) := at_fn (st := s_cut) (np := 2) (b := F.b_cut) (PySem.W.mg_of X hG a8) k8 l8 c8 sc_cut (hT) ck_cut rfl (fun _ _ _ _ _ _ us hl => match us, hl with | [_, _], _ => rfl) rfl (by simp only [F.b_cut, okSs, okS, okE, okEs, okSrc, clNeed, nmCl, nmF1, nmF2, and_true, true_and, At_mono n6 (by decide : 2 ≤ 2), At_mono n7 (by decide : 1 ≤ 2)])
  have n9 : Need.At PySem.Challenge.rw_floatforge_k76_whole_shortest.prog w K mg base (tab K e0 e1 e2 e3 e5 o0 o1 o2 o3 o4 ef) 4 (.fn "kind_of" F.kind_of []) := at_fn (st := s_kind_of) (np := 2) (b := F.b_kind_of) (PySem.W.mg_of X hG a9) k9 l9 c9 sc_kind_of (hT) ck_kind_of rfl (fun _ _ _ _ _ _ us hl => match us, hl with | [_, _], _ => rfl) rfl (by simp only [F.b_kind_of, okSs, okS, okE, okEs, okSrc, clNeed, nmCl, nmF1, nmF2, and_true, true_and, At_mono n8 (by decide : 3 ≤ 3), At_mono n7 (by decide : 1 ≤ 3)])
  have n10 : Need.At PySem.Challenge.rw_floatforge_k76_whole_shortest.prog w K mg base (tab K e0 e1 e2 e3 e5 o0 o1 o2 o3 o4 ef) 1 (.fn "sign_bit" F.sign_bit []) := at_fn (st := s_sign_bit) (np := 1) (b := F.b_sign_bit) (PySem.W.mg_of X hG a10) k10 l10 c10 sc_sign_bit (hT) ck_sign_bit rfl (fun _ _ _ _ _ _ us hl => match us, hl with | [_], _ => rfl) rfl (by simp only [F.b_sign_bit, okSs, okS, okE, okEs, okSrc, clNeed, nmCl, nmF1, nmF2, and_true, true_and])
  have n11 : Need.At PySem.Challenge.rw_floatforge_k76_whole_shortest.prog w K mg base (tab K e0 e1 e2 e3 e5 o0 o1 o2 o3 o4 ef) 2 (.fn "minus_of" F.minus_of []) := at_fn (st := s_minus_of) (np := 2) (b := F.b_minus_of) (PySem.W.mg_of X hG a11) k11 l11 c11 sc_minus_of (hT) ck_minus_of rfl (fun _ _ _ _ _ _ us hl => match us, hl with | [_, _], _ => rfl) rfl (by simp only [F.b_minus_of, okSs, okS, okE, okEs, okSrc, clNeed, nmCl, nmF1, nmF2, and_true, true_and, At_mono n10 (by decide : 1 ≤ 1)])
  have n12 : Need.At PySem.Challenge.rw_floatforge_k76_whole_shortest.prog w K mg base (tab K e0 e1 e2 e3 e5 o0 o1 o2 o3 o4 ef) 1 (.fn "exact" F.exact []) := at_fn (st := s_exact) (np := 2) (b := F.b_exact) (PySem.W.mg_of X hG a12) k12 l12 c12 sc_exact (hT) ck_exact rfl (fun _ _ _ _ _ _ us hl => match us, hl with | [_, _], _ => rfl) rfl (by simp only [F.b_exact, okSs, okS, okE, okEs, okSrc, clNeed, nmCl, nmF1, nmF2, and_true, true_and])
  have n13 : Need.At PySem.Challenge.rw_floatforge_k76_whole_shortest.prog w K mg base (tab K e0 e1 e2 e3 e5 o0 o1 o2 o3 o4 ef) 1 (.fn "bias_of" F.bias_of []) := at_fn (st := s_bias_of) (np := 1) (b := F.b_bias_of) (PySem.W.mg_of X hG a13) k13 l13 c13 sc_bias_of (hT) ck_bias_of rfl (fun _ _ _ _ _ _ us hl => match us, hl with | [_], _ => rfl) rfl (by simp only [F.b_bias_of, okSs, okS, okE, okEs, okSrc, clNeed, nmCl, nmF1, nmF2, and_true, true_and])
  have n14 : Need.At PySem.Challenge.rw_floatforge_k76_whole_shortest.prog w K mg base (tab K e0 e1 e2 e3 e5 o0 o1 o2 o3 o4 ef) 2 (.fn "least_power" F.least_power []) := at_fn (st := s_least_power) (np := 1) (b := F.b_least_power) (PySem.W.mg_of X hG a14) k14 l14 c14 sc_least_power (hT) ck_least_power rfl (fun _ _ _ _ _ _ us hl => match us, hl with | [_], _ => rfl) rfl (by simp only [F.b_least_power, okSs, okS, okE, okEs, okSrc, clNeed, nmCl, nmF1, nmF2, and_true, true_and, At_mono n13 (by decide : 1 ≤ 1)])
  have n15 : Need.At PySem.Challenge.rw_floatforge_k76_whole_shortest.prog w K mg base (tab K e0 e1 e2 e3 e5 o0 o1 o2 o3 o4 ef) 4 (.fn "value_of" F.value_of []) := at_fn (st := s_value_of) (np := 2) (b := F.b_value_of) (PySem.W.mg_of X hG a15) k15 l15 c15 sc_value_of (hT) ck_value_of rfl (fun _ _ _ _ _ _ us hl => match us, hl with | [_, _], _ => rfl) rfl (by simp only [F.b_value_of, okSs, okS, okE, okEs, okSrc, clNeed, nmCl, nmF1, nmF2, and_true, true_and, be3 _, At_mono n8 (by decide : 3 ≤ 3), At_mono n7 (by decide : 1 ≤ 3), At_mono n12 (by decide : 1 ≤ 3), At_mono n14 (by decide : 2 ≤ 3)])
  have n16 : Need.At PySem.Challenge.rw_floatforge_k76_whole_shortest.prog w K mg base (tab K e0 e1 e2 e3 e5 o0 o1 o2 o3 o4 ef) 3 (.fn "unsigned" F.unsigned []) := at_fn (st := s_unsigned) (np := 2) (b := F.b_unsigned) (PySem.W.mg_of X hG a16) k16 l16 c16 sc_unsigned (hT) ck_unsigned rfl (fun _ _ _ _ _ _ us hl => match us, hl with | [_, _], _ => rfl) rfl (by simp only [F.b_unsigned, okSs, okS, okE, okEs, okSrc, clNeed, nmCl, nmF1, nmF2, and_true, true_and, At_mono n6 (by decide : 2 ≤ 2), At_mono n10 (by decide : 1 ≤ 2)])
  have n17 : Need.At PySem.Challenge.rw_floatforge_k76_whole_shortest.prog w K mg base (tab K e0 e1 e2 e3 e5 o0 o1 o2 o3 o4 ef) 1 (.fn "base_to" F.base_to []) := at_fn (st := s_base_to) (np := 2) (b := F.b_base_to) (PySem.W.mg_of X hG a17) k17 l17 c17 sc_base_to (hT) ck_base_to rfl (fun _ _ _ _ _ _ us hl => match us, hl with | [_, _], _ => rfl) rfl (by simp only [F.b_base_to, okSs, okS, okE, okEs, okSrc, clNeed, nmCl, nmF1, nmF2, and_true, true_and])
  have n18 : Need.At PySem.Challenge.rw_floatforge_k76_whole_shortest.prog w K mg base (tab K e0 e1 e2 e3 e5 o0 o1 o2 o3 o4 ef) 2 (.fn "figures_of" F.figures_of []) := at_fn (st := s_figures_of) (np := 2) (b := F.b_figures_of) (PySem.W.mg_of X hG a18) k18 l18 c18 sc_figures_of (hT) ck_figures_of rfl (fun _ _ _ _ _ _ us hl => match us, hl with | [_, _], _ => rfl) rfl (by simp only [F.b_figures_of, okSs, okS, okE, okEs, okSrc, clNeed, nmCl, nmF1, nmF2, and_true, true_and, b8 _, At_mono n17 (by decide : 1 ≤ 1)])
  have n19 : Need.At PySem.Challenge.rw_floatforge_k76_whole_shortest.prog w K mg base (tab K e0 e1 e2 e3 e5 o0 o1 o2 o3 o4 ef) 5 (.fn "exact_text" F.exact_text []) := at_fn (st := s_exact_text) (np := 2) (b := F.b_exact_text) (PySem.W.mg_of X hG a19) k19 l19 c19 sc_exact_text (hT) ck_exact_text rfl (fun _ _ _ _ _ _ us hl => match us, hl with | [_, _], _ => rfl) rfl (by simp only [F.b_exact_text, okSs, okS, okE, okEs, okSrc, clNeed, nmCl, nmF1, nmF2, and_true, true_and, b5 _, At_mono n9 (by decide : 4 ≤ 4), At_mono n11 (by decide : 2 ≤ 4), At_mono n15 (by decide : 4 ≤ 4), At_mono n16 (by decide : 3 ≤ 4), At_mono n18 (by decide : 2 ≤ 4)])
  have n20 : Need.At PySem.Challenge.rw_floatforge_k76_whole_shortest.prog w K mg base (tab K e0 e1 e2 e3 e5 o0 o1 o2 o3 o4 ef) 2 (.fn "over_and_under" F.over_and_under []) := at_fn (st := s_over_and_under) (np := 2) (b := F.b_over_and_under) (PySem.W.mg_of X hG a20) k20 l20 c20 sc_over_and_under (hT) ck_over_and_under rfl (fun _ _ _ _ _ _ us hl => match us, hl with | [_, _], _ => rfl) rfl (by simp only [F.b_over_and_under, okSs, okS, okE, okEs, okSrc, clNeed, nmCl, nmF1, nmF2, and_true, true_and, At_mono n17 (by decide : 1 ≤ 1)])
  have n21 : Need.At PySem.Challenge.rw_floatforge_k76_whole_shortest.prog w K mg base (tab K e0 e1 e2 e3 e5 o0 o1 o2 o3 o4 ef) 1 (.fn "way_of" F.way_of []) := at_fn (st := s_way_of) (np := 1) (b := F.b_way_of) (PySem.W.mg_of X hG a21) k21 l21 c21 sc_way_of (hT) ck_way_of rfl (fun _ _ _ _ _ _ us hl => match us, hl with | [_], _ => rfl) rfl (by simp only [F.b_way_of, okSs, okS, okE, okEs, okSrc, clNeed, nmCl, nmF1, nmF2, and_true, true_and, be2 _, bo0 _, bo1 _, bo2 _, bo3 _, bo4 _])
  have n22 : Need.At PySem.Challenge.rw_floatforge_k76_whole_shortest.prog w K mg base (tab K e0 e1 e2 e3 e5 o0 o1 o2 o3 o4 ef) 1 (.fn "height_of" F.height_of []) := at_fn (st := s_height_of) (np := 3) (b := F.b_height_of) (PySem.W.mg_of X hG a22) k22 l22 c22 sc_height_of (hT) ck_height_of rfl (fun _ _ _ _ _ _ us hl => match us, hl with | [_, _, _], _ => rfl) rfl (by simp only [F.b_height_of, okSs, okS, okE, okEs, okSrc, clNeed, nmCl, nmF1, nmF2, and_true, true_and, b0 _, b7 _, be3 _])
  have n23 : Need.At PySem.Challenge.rw_floatforge_k76_whole_shortest.prog w K mg base (tab K e0 e1 e2 e3 e5 o0 o1 o2 o3 o4 ef) 1 (.fn "in_steps" F.in_steps []) := at_fn (st := s_in_steps) (np := 4) (b := F.b_in_steps) (PySem.W.mg_of X hG a23) k23 l23 c23 sc_in_steps (hT) ck_in_steps rfl (fun _ _ _ _ _ _ us hl => match us, hl with | [_, _, _, _], _ => rfl) rfl (by simp only [F.b_in_steps, okSs, okS, okE, okEs, okSrc, clNeed, nmCl, nmF1, nmF2, and_true, true_and, b7 _, b2 _, b0 _])
  have nm24 : ∃ fd, FnOk PySem.Challenge.rw_floatforge_k76_whole_shortest.prog w K mg base (L2.CX PySem.Challenge.rw_floatforge_k76_whole_shortest.prog w) 1 f24 fd ["self", "odd", "side", "below"] (spF (tab K e0 e1 e2 e3 e5 o0 o1 o2 o3 o4 ef) F.Even_grows) ∧ Binds K fd ["self", "odd", "side", "below"] [] := meth_fn (st := s_Even_grows) (np := 4) (b := F.b_Even_grows) k24 l24 c24 sc_Even_grows (hT) ck_Even_grows rfl (fun _ _ _ _ _ _ us hl => match us, hl with | [_, _, _, _], _ => rfl) rfl (by simp only [F.b_Even_grows, okSs, okS, okE, okEs, okSrc, clNeed, nmCl, nmF1, nmF2, and_true, true_and])
  have nm25 : ∃ fd, FnOk PySem.Challenge.rw_floatforge_k76_whole_shortest.prog w K mg base (L2.CX PySem.Challenge.rw_floatforge_k76_whole_shortest.prog w) 1 f25 fd ["self", "odd", "side", "below"] (spF (tab K e0 e1 e2 e3 e5 o0 o1 o2 o3 o4 ef) F.Away_grows) ∧ Binds K fd ["self", "odd", "side", "below"] [] := meth_fn (st := s_Away_grows) (np := 4) (b := F.b_Away_grows) k25 l25 c25 sc_Away_grows (hT) ck_Away_grows rfl (fun _ _ _ _ _ _ us hl => match us, hl with | [_, _, _, _], _ => rfl) rfl (by simp only [F.b_Away_grows, okSs, okS, okE, okEs, okSrc, clNeed, nmCl, nmF1, nmF2, and_true, true_and])
  have nm26 : ∃ fd, FnOk PySem.Challenge.rw_floatforge_k76_whole_shortest.prog w K mg base (L2.CX PySem.Challenge.rw_floatforge_k76_whole_shortest.prog w) 1 f26 fd ["self", "odd", "side", "below"] (spF (tab K e0 e1 e2 e3 e5 o0 o1 o2 o3 o4 ef) F.Way_grows) ∧ Binds K fd ["self", "odd", "side", "below"] [] := meth_fn (st := s_Way_grows) (np := 4) (b := F.b_Way_grows) k26 l26 c26 sc_Way_grows (hT) ck_Way_grows rfl (fun _ _ _ _ _ _ us hl => match us, hl with | [_, _, _, _], _ => rfl) rfl (by simp only [F.b_Way_grows, okSs, okS, okE, okEs, okSrc, clNeed, nmCl, nmF1, nmF2, and_true, true_and])
  have nm27 : ∃ fd, FnOk PySem.Challenge.rw_floatforge_k76_whole_shortest.prog w K mg base (L2.CX PySem.Challenge.rw_floatforge_k76_whole_shortest.prog w) 1 f27 fd ["self", "odd", "side", "below"] (spF (tab K e0 e1 e2 e3 e5 o0 o1 o2 o3 o4 ef) F.Upward_grows) ∧ Binds K fd ["self", "odd", "side", "below"] [] := meth_fn (st := s_Upward_grows) (np := 4) (b := F.b_Upward_grows) k27 l27 c27 sc_Upward_grows (hT) ck_Upward_grows rfl (fun _ _ _ _ _ _ us hl => match us, hl with | [_, _, _, _], _ => rfl) rfl (by simp only [F.b_Upward_grows, okSs, okS, okE, okEs, okSrc, clNeed, nmCl, nmF1, nmF2, and_true, true_and])
  have nm28 : ∃ fd, FnOk PySem.Challenge.rw_floatforge_k76_whole_shortest.prog w K mg base (L2.CX PySem.Challenge.rw_floatforge_k76_whole_shortest.prog w) 1 f28 fd ["self", "odd", "side", "below"] (spF (tab K e0 e1 e2 e3 e5 o0 o1 o2 o3 o4 ef) F.Downward_grows) ∧ Binds K fd ["self", "odd", "side", "below"] [] := meth_fn (st := s_Downward_grows) (np := 4) (b := F.b_Downward_grows) k28 l28 c28 sc_Downward_grows (hT) ck_Downward_grows rfl (fun _ _ _ _ _ _ us hl => match us, hl with | [_, _, _, _], _ => rfl) rfl (by simp only [F.b_Downward_grows, okSs, okS, okE, okEs, okSrc, clNeed, nmCl, nmF1, nmF2, and_true, true_and])
  have bm : Need.At PySem.Challenge.rw_floatforge_k76_whole_shortest.prog w K mg base (tab K e0 e1 e2 e3 e5 o0 o1 o2 o3 o4 ef) 1 (.meth "grows" F.grows) := (List.forall_mem_cons.mpr ⟨(let ⟨fd, h1, h2⟩ := nm24; ⟨f24, fd, _, ⟨og0, oh0, op0, os0⟩, ⟨of0, on24, k24⟩, h1, h2⟩), (List.forall_mem_cons.mpr ⟨(let ⟨fd, h1, h2⟩ := nm25; ⟨f25, fd, _, ⟨og1, oh1, op1, os1⟩, ⟨of1, on25, k25⟩, h1, h2⟩), (List.forall_mem_cons.mpr ⟨(let ⟨fd, h1, h2⟩ := nm26; ⟨f26, fd, _, ⟨og2, oh2, op2, os2⟩, ⟨of2, on26, k26⟩, h1, h2⟩), (List.forall_mem_cons.mpr ⟨(let ⟨fd, h1, h2⟩ := nm27; ⟨f27, fd, _, ⟨og3, oh3, op3, os3⟩, ⟨of3, on27, k27⟩, h1, h2⟩), (List.forall_mem_cons.mpr ⟨(let ⟨fd, h1, h2⟩ := nm28; ⟨f28, fd, _, ⟨og4, oh4, op4, os4⟩, ⟨of4, on28, k28⟩, h1, h2⟩), (fun _ h => nomatch h)⟩)⟩)⟩)⟩)⟩)
  have n30 : Need.At PySem.Challenge.rw_floatforge_k76_whole_shortest.prog w K mg base (tab K e0 e1 e2 e3 e5 o0 o1 o2 o3 o4 ef) 2 (.fn "is_part" F.is_part []) := at_fn (st := s_is_part) (np := 2) (b := F.b_is_part) (PySem.W.mg_of X hG a30) k30 l30 c30 sc_is_part (hT) ck_is_part rfl (fun _ _ _ _ _ _ us hl => match us, hl with | [_, _], _ => rfl) rfl (by simp only [F.b_is_part, okSs, okS, okE, okEs, okSrc, clNeed, nmCl, nmF1, nmF2, and_true, true_and, At_mono n3 (by decide : 1 ≤ 1)])
  have n31 : Need.At PySem.Challenge.rw_floatforge_k76_whole_shortest.prog w K mg base (tab K e0 e1 e2 e3 e5 o0 o1 o2 o3 o4 ef) 3 (.fn "joined" F.joined []) := at_fn (st := s_joined) (np := 4) (b := F.b_joined) (PySem.W.mg_of X hG a31) k31 l31 c31 sc_joined (hT) ck_joined rfl (fun _ _ _ _ _ _ us hl => match us, hl with | [_, _, _, _], _ => rfl) rfl (by simp only [F.b_joined, okSs, okS, okE, okEs, okSrc, clNeed, nmCl, nmF1, nmF2, and_true, true_and, be1 _, At_mono n30 (by decide : 2 ≤ 2)])
  have n32 : Need.At PySem.Challenge.rw_floatforge_k76_whole_shortest.prog w K mg base (tab K e0 e1 e2 e3 e5 o0 o1 o2 o3 o4 ef) 4 (.fn "endless_of" F.endless_of []) := at_fn (st := s_endless_of) (np := 2) (b := F.b_endless_of) (PySem.W.mg_of X hG a32) k32 l32 c32 sc_endless_of (hT) ck_endless_of rfl (fun _ _ _ _ _ _ us hl => match us, hl with | [_, _], _ => rfl) rfl (by simp only [F.b_endless_of, okSs, okS, okE, okEs, okSrc, clNeed, nmCl, nmF1, nmF2, and_true, true_and, b3 _, At_mono n31 (by decide : 3 ≤ 3), At_mono n7 (by decide : 1 ≤ 3)])
  have n33 : Need.At PySem.Challenge.rw_floatforge_k76_whole_shortest.prog w K mg base (tab K e0 e1 e2 e3 e5 o0 o1 o2 o3 o4 ef) 2 (.fn "with_sign" F.with_sign []) := at_fn (st := s_with_sign) (np := 3) (b := F.b_with_sign) (PySem.W.mg_of X hG a33) k33 l33 c33 sc_with_sign (hT) ck_with_sign rfl (fun _ _ _ _ _ _ us hl => match us, hl with | [_, _, _], _ => rfl) rfl (by simp only [F.b_with_sign, okSs, okS, okE, okEs, okSrc, clNeed, nmCl, nmF1, nmF2, and_true, true_and, At_mono n10 (by decide : 1 ≤ 1)])
  have n34 : Need.At PySem.Challenge.rw_floatforge_k76_whole_shortest.prog w K mg base (tab K e0 e1 e2 e3 e5 o0 o1 o2 o3 o4 ef) 5 (.fn "beyond" F.beyond []) := at_fn (st := s_beyond) (np := 3) (b := F.b_beyond) (PySem.W.mg_of X hG a34) k34 l34 c34 sc_beyond (hT) ck_beyond rfl (fun _ _ _ _ _ _ us hl => match us, hl with | [_, _, _], _ => rfl) rfl (by simp only [F.b_beyond, okSs, okS, okE, okEs, okSrc, clNeed, nmCl, nmF1, nmF2, and_true, true_and, bg1 _, bg2 _, At_mono n32 (by decide : 4 ≤ 4), At_mono bm (by decide : 1 ≤ 4), At_mono n33 (by decide : 2 ≤ 4)])
  have n35 : Need.At PySem.Challenge.rw_floatforge_k76_whole_shortest.prog w K mg base (tab K e0 e1 e2 e3 e5 o0 o1 o2 o3 o4 ef) 2 (.fn "due_marks" F.due_marks []) := at_fn (st := s_due_marks) (np := 3) (b := F.b_due_marks) (PySem.W.mg_of X hG a35) k35 l35 c35 sc_due_marks (hT) ck_due_marks rfl (fun _ _ _ _ _ _ us hl => match us, hl with | [_, _, _], _ => rfl) rfl (by simp only [F.b_due_marks, okSs, okS, okE, okEs, okSrc, clNeed, nmCl, nmF1, nmF2, and_true, true_and, bg3 _, bg2 _, At_mono n13 (by decide : 1 ≤ 1)])
  have n36_4 : Need.At PySem.Challenge.rw_floatforge_k76_whole_shortest.prog w K mg base (tab K e0 e1 e2 e3 e5 o0 o1 o2 o3 o4 ef) 6 (.fn "taken" F.taken [.str [101, 118, 101, 110]]) := at_fnD (st := s_taken) (np := 5) (n := 4) (j := 0) (dvs := [(.str "even")]) (b := F.b_taken) (PySem.W.mg_of X hG a36) k36 l36 q36 c36 sc_taken (hT) ck_taken rfl (.cons ⟨_, rfl⟩ .nil) (by simp) rfl (fun _ _ _ _ _ _ _ us its h1 h2 => match us, its, h1, h2 with | [_, _, _, _], [_], _, _ => ⟨_, rfl, rfl⟩) (fun _ => (.cons (dv_str (by decide +kernel)) .nil)) rfl (by simp only [F.b_taken, okSs, okS, okE, okEs, okSrc, clNeed, nmCl, nmF1, nmF2, and_true, true_and, b6 _, At_mono n21 (by decide : 1 ≤ 5), At_mono n22 (by decide : 1 ≤ 5), At_mono n14 (by decide : 2 ≤ 5), At_mono n23 (by decide : 1 ≤ 5), At_mono bm (by decide : 1 ≤ 5), At_mono n32 (by decide : 4 ≤ 5), At_mono n34 (by decide : 5 ≤ 5), At_mono n35 (by decide : 2 ≤ 5), At_mono n33 (by decide : 2 ≤ 5)])
  have n36 : Need.At PySem.Challenge.rw_floatforge_k76_whole_shortest.prog w K mg base (tab K e0 e1 e2 e3 e5 o0 o1 o2 o3 o4 ef) 6 (.fn "taken" F.taken []) := at_fnD (st := s_taken) (np := 5) (n := 5) (j := 1) (dvs := [(.str "even")]) (b := F.b_taken) (PySem.W.mg_of X hG a36) k36 l36 q36 c36 sc_taken (hT) ck_taken rfl (.cons ⟨_, rfl⟩ .nil) (by simp) rfl (fun _ _ _ _ _ _ _ us its h1 h2 => match us, its, h1, h2 with | [_, _, _, _, _], [_], _, _ => ⟨_, rfl, rfl⟩) (fun _ => .nil) rfl (by simp only [F.b_taken, okSs, okS, okE, okEs, okSrc, clNeed, nmCl, nmF1, nmF2, and_true, true_and, b6 _, At_mono n21 (by decide : 1 ≤ 5), At_mono n22 (by decide : 1 ≤ 5), At_mono n14 (by decide : 2 ≤ 5), At_mono n23 (by decide : 1 ≤ 5), At_mono bm (by decide : 1 ≤ 5), At_mono n32 (by decide : 4 ≤ 5), At_mono n34 (by decide : 5 ≤ 5), At_mono n35 (by decide : 2 ≤ 5), At_mono n33 (by decide : 2 ≤ 5)])
  have n37 : Need.At PySem.Challenge.rw_floatforge_k76_whole_shortest.prog w K mg base (tab K e0 e1 e2 e3 e5 o0 o1 o2 o3 o4 ef) 7 (.fn "reads_to" F.reads_to []) := at_fn (st := s_reads_to) (np := 4) (b := F.b_reads_to) (PySem.W.mg_of X hG a37) k37 l37 c37 sc_reads_to (hT) ck_reads_to rfl (fun _ _ _ _ _ _ us hl => match us, hl with | [_, _, _, _], _ => rfl) rfl (by simp only [F.b_reads_to, okSs, okS, okE, okEs, okSrc, clNeed, nmCl, nmF1, nmF2, and_true, true_and, At_mono n20 (by decide : 2 ≤ 6), At_mono n36_4 (by decide : 6 ≤ 6)])
  have n38 : Need.At PySem.Challenge.rw_floatforge_k76_whole_shortest.prog w K mg base (tab K e0 e1 e2 e3 e5 o0 o1 o2 o3 o4 ef) 8 (.fn "fewest" F.fewest []) := at_fn (st := s_fewest) (np := 2) (b := F.b_fewest) (PySem.W.mg_of X hG a38) k38 l38 c38 sc_fewest (hT) ck_fewest rfl (fun _ _ _ _ _ _ us hl => match us, hl with | [_, _], _ => rfl) rfl (by simp only [F.b_fewest, okSs, okS, okE, okEs, okSrc, clNeed, nmCl, nmF1, nmF2, and_true, true_and, b5 _, b6 _, b2 _, At_mono n15 (by decide : 4 ≤ 7), At_mono n18 (by decide : 2 ≤ 7), At_mono n20 (by decide : 2 ≤ 7), At_mono n37 (by decide : 7 ≤ 7)])
  have n39 : Need.At PySem.Challenge.rw_floatforge_k76_whole_shortest.prog w K mg base (tab K e0 e1 e2 e3 e5 o0 o1 o2 o3 o4 ef) 9 (.fn "shortest" F.shortest []) := at_fn (st := s_shortest) (np := 2) (b := F.b_shortest) (PySem.W.mg_of X hG a39) k39 l39 c39 sc_shortest (hT) ck_shortest rfl (fun _ _ _ _ _ _ us hl => match us, hl with | [_, _], _ => rfl) rfl (by simp only [F.b_shortest, okSs, okS, okE, okEs, okSrc, clNeed, nmCl, nmF1, nmF2, and_true, true_and, b8 _, b5 _, At_mono n9 (by decide : 4 ≤ 8), At_mono n19 (by decide : 5 ≤ 8), At_mono n38 (by decide : 8 ≤ 8), At_mono n16 (by decide : 3 ≤ 8), At_mono n11 (by decide : 2 ≤ 8)])
  have n40 : Need.At PySem.Challenge.rw_floatforge_k76_whole_shortest.prog w K mg base (tab K e0 e1 e2 e3 e5 o0 o1 o2 o3 o4 ef) 1 (.fn "_law_due" G.due_76 []) := at_fn (st := s_law_due) (np := 2) (b := G.b_due_76) (PySem.W.mg_of X hG a40) k40 l40 c40 sc_law_due (hT) ck_law_due rfl (fun _ _ _ _ _ _ us hl => match us, hl with | [_, _], _ => rfl) rfl (by simp only [G.b_due_76, okSs, okS, okE, okEs, okSrc, clNeed, nmCl, nmF1, nmF2, and_true, true_and])
  have n41 : Need.At PySem.Challenge.rw_floatforge_k76_whole_shortest.prog w K mg base (tab K e0 e1 e2 e3 e5 o0 o1 o2 o3 o4 ef) 4 (.fn "none_of" F.none_of []) := at_fn (st := s_none_of) (np := 1) (b := F.b_none_of) (PySem.W.mg_of X hG a41) k41 l41 c41 sc_none_of (hT) ck_none_of rfl (fun _ _ _ _ _ _ us hl => match us, hl with | [_], _ => rfl) rfl (by simp only [F.b_none_of, okSs, okS, okE, okEs, okSrc, clNeed, nmCl, nmF1, nmF2, and_true, true_and, At_mono n31 (by decide : 3 ≤ 3), At_mono n7 (by decide : 1 ≤ 3)])
  have n42 : Need.At PySem.Challenge.rw_floatforge_k76_whole_shortest.prog w K mg base (tab K e0 e1 e2 e3 e5 o0 o1 o2 o3 o4 ef) 1 (.fn "all_figures" F.all_figures []) := at_fn (st := s_all_figures) (np := 1) (b := F.b_all_figures) (PySem.W.mg_of X hG a42) k42 l42 c42 sc_all_figures (hT) ck_all_figures rfl (fun _ _ _ _ _ _ us hl => match us, hl with | [_], _ => rfl) rfl (by simp only [F.b_all_figures, okSs, okS, okE, okEs, okSrc, clNeed, nmCl, nmF1, nmF2, and_true, true_and, bg0 _])
  have n43 : Need.At PySem.Challenge.rw_floatforge_k76_whole_shortest.prog w K mg base (tab K e0 e1 e2 e3 e5 o0 o1 o2 o3 o4 ef) 2 (.fn "power_told" F.power_told []) := at_fn (st := s_power_told) (np := 1) (b := F.b_power_told) (PySem.W.mg_of X hG a43) k43 l43 c43 sc_power_told (hT) ck_power_told rfl (fun _ _ _ _ _ _ us hl => match us, hl with | [_], _ => rfl) rfl (by simp only [F.b_power_told, okSs, okS, okE, okEs, okSrc, clNeed, nmCl, nmF1, nmF2, and_true, true_and, b5 _, b3 _, be5 _, At_mono n42 (by decide : 1 ≤ 1)])
  have n44 : Need.At PySem.Challenge.rw_floatforge_k76_whole_shortest.prog w K mg base (tab K e0 e1 e2 e3 e5 o0 o1 o2 o3 o4 ef) 3 (.fn "parts_of" F.parts_of []) := at_fn (st := s_parts_of) (np := 1) (b := F.b_parts_of) (PySem.W.mg_of X hG a44) k44 l44 c44 sc_parts_of (hT) ck_parts_of rfl (fun _ _ _ _ _ _ us hl => match us, hl with | [_], _ => rfl) rfl (by simp only [F.b_parts_of, okSs, okS, okE, okEs, okSrc, clNeed, nmCl, nmF1, nmF2, and_true, true_and, b4 _, b8 _, b5 _, b3 _, be5 _, At_mono n43 (by decide : 2 ≤ 2), At_mono n42 (by decide : 1 ≤ 2)])
  have n45_2 : Need.At PySem.Challenge.rw_floatforge_k76_whole_shortest.prog w K mg base (tab K e0 e1 e2 e3 e5 o0 o1 o2 o3 o4 ef) 7 (.fn "read" F.read [.str [101, 118, 101, 110]]) := at_fnD (st := s_read) (np := 3) (n := 2) (j := 0) (dvs := [(.str "even")]) (b := F.b_read) (PySem.W.mg_of X hG a45) k45 l45 q45 c45 sc_read (hT) ck_read rfl (.cons ⟨_, rfl⟩ .nil) (by simp) rfl (fun _ _ _ _ _ _ _ us its h1 h2 => match us, its, h1, h2 with | [_, _], [_], _, _ => ⟨_, rfl, rfl⟩) (fun _ => (.cons (dv_str (by decide +kernel)) .nil)) rfl (by simp only [F.b_read, okSs, okS, okE, okEs, okSrc, clNeed, nmCl, nmF1, nmF2, and_true, true_and, At_mono n21 (by decide : 1 ≤ 6), At_mono n41 (by decide : 4 ≤ 6), At_mono n32 (by decide : 4 ≤ 6), At_mono n44 (by decide : 3 ≤ 6), At_mono n33 (by decide : 2 ≤ 6), At_mono n20 (by decide : 2 ≤ 6), At_mono n36 (by decide : 6 ≤ 6)])
  have n45 : Need.At PySem.Challenge.rw_floatforge_k76_whole_shortest.prog w K mg base (tab K e0 e1 e2 e3 e5 o0 o1 o2 o3 o4 ef) 7 (.fn "read" F.read []) := at_fnD (st := s_read) (np := 3) (n := 3) (j := 1) (dvs := [(.str "even")]) (b := F.b_read) (PySem.W.mg_of X hG a45) k45 l45 q45 c45 sc_read (hT) ck_read rfl (.cons ⟨_, rfl⟩ .nil) (by simp) rfl (fun _ _ _ _ _ _ _ us its h1 h2 => match us, its, h1, h2 with | [_, _, _], [_], _, _ => ⟨_, rfl, rfl⟩) (fun _ => .nil) rfl (by simp only [F.b_read, okSs, okS, okE, okEs, okSrc, clNeed, nmCl, nmF1, nmF2, and_true, true_and, At_mono n21 (by decide : 1 ≤ 6), At_mono n41 (by decide : 4 ≤ 6), At_mono n32 (by decide : 4 ≤ 6), At_mono n44 (by decide : 3 ≤ 6), At_mono n33 (by decide : 2 ≤ 6), At_mono n20 (by decide : 2 ≤ 6), At_mono n36 (by decide : 6 ≤ 6)])
  have n46 : Need.At PySem.Challenge.rw_floatforge_k76_whole_shortest.prog w K mg base (tab K e0 e1 e2 e3 e5 o0 o1 o2 o3 o4 ef) 1 (.fn "_law_all_figures" G.all_figures_76 []) := at_fn (st := s_law_all_figures) (np := 1) (b := G.b_all_figures_76) (PySem.W.mg_of X hG a46) k46 l46 c46 sc_law_all_figures (hT) ck_law_all_figures rfl (fun _ _ _ _ _ _ us hl => match us, hl with | [_], _ => rfl) rfl (by simp only [G.b_all_figures_76, okSs, okS, okE, okEs, okSrc, clNeed, nmCl, nmF1, nmF2, and_true, true_and])
  have n47 : Need.At PySem.Challenge.rw_floatforge_k76_whole_shortest.prog w K mg base (tab K e0 e1 e2 e3 e5 o0 o1 o2 o3 o4 ef) 2 (.fn "_law_parts" G.parts_76 []) := at_fn (st := s_law_parts) (np := 1) (b := G.b_parts_76) (PySem.W.mg_of X hG a47) k47 l47 c47 sc_law_parts (hT) ck_law_parts rfl (fun _ _ _ _ _ _ us hl => match us, hl with | [_], _ => rfl) rfl (by simp only [G.b_parts_76, okSs, okS, okE, okEs, okSrc, clNeed, nmCl, nmF1, nmF2, and_true, true_and, b5 _, b3 _, At_mono n46 (by decide : 1 ≤ 1)])
  have n48 : Need.At PySem.Challenge.rw_floatforge_k76_whole_shortest.prog w K mg base (tab K e0 e1 e2 e3 e5 o0 o1 o2 o3 o4 ef) 1 (.fn "_law_steps_of" G.steps_of_33 []) := at_fn (st := s_law_steps_of) (np := 2) (b := G.b_steps_of_33) (PySem.W.mg_of X hG a48) k48 l48 c48 sc_law_steps_of (hT) ck_law_steps_of rfl (fun _ _ _ _ _ _ us hl => match us, hl with | [_, _], _ => rfl) rfl (by simp only [G.b_steps_of_33, okSs, okS, okE, okEs, okSrc, clNeed, nmCl, nmF1, nmF2, and_true, true_and])
  have n49 : Need.At PySem.Challenge.rw_floatforge_k76_whole_shortest.prog w K mg base (tab K e0 e1 e2 e3 e5 o0 o1 o2 o3 o4 ef) 1 (.fn "_law_tens" G.tens_74 []) := at_fn (st := s_law_tens) (np := 1) (b := G.b_tens_74) (PySem.W.mg_of X hG a49) k49 l49 c49 sc_law_tens (hT) ck_law_tens rfl (fun _ _ _ _ _ _ us hl => match us, hl with | [_], _ => rfl) rfl (by simp only [G.b_tens_74, okSs, okS, okE, okEs, okSrc, clNeed, nmCl, nmF1, nmF2, and_true, true_and])
  have n50 : Need.At PySem.Challenge.rw_floatforge_k76_whole_shortest.prog w K mg base (tab K e0 e1 e2 e3 e5 o0 o1 o2 o3 o4 ef) 2 (.fn "_law_decade" G.decade_76 []) := at_fn (st := s_law_decade) (np := 3) (b := G.b_decade_76) (PySem.W.mg_of X hG a50) k50 l50 c50 sc_law_decade (hT) ck_law_decade rfl (fun _ _ _ _ _ _ us hl => match us, hl with | [_, _, _], _ => rfl) rfl (by simp only [G.b_decade_76, okSs, okS, okE, okEs, okSrc, clNeed, nmCl, nmF1, nmF2, and_true, true_and, b6 _, At_mono n48 (by decide : 1 ≤ 1), At_mono n49 (by decide : 1 ≤ 1)])
  have n51 : Need.At PySem.Challenge.rw_floatforge_k76_whole_shortest.prog w K mg base (tab K e0 e1 e2 e3 e5 o0 o1 o2 o3 o4 ef) 2 (.fn "_law_next_two" G.next_two_76 []) := at_fn (st := s_law_next_two) (np := 4) (b := G.b_next_two_76) (PySem.W.mg_of X hG a51) k51 l51 c51 sc_law_next_two (hT) ck_law_next_two rfl (fun _ _ _ _ _ _ us hl => match us, hl with | [_, _, _, _], _ => rfl) rfl (by simp only [G.b_next_two_76, okSs, okS, okE, okEs, okSrc, clNeed, nmCl, nmF1, nmF2, and_true, true_and, b6 _, b2 _, At_mono n48 (by decide : 1 ≤ 1), At_mono n49 (by decide : 1 ≤ 1)])
  have n52 : Need.At PySem.Challenge.rw_floatforge_k76_whole_shortest.prog w K mg base (tab K e0 e1 e2 e3 e5 o0 o1 o2 o3 o4 ef) 8 (.fn "_law_reads" G.reads_76 []) := at_fn (st := s_law_reads) (np := 4) (b := G.b_reads_76) (PySem.W.mg_of X hG a52) k52 l52 c52 sc_law_reads (hT) ck_law_reads rfl (fun _ _ _ _ _ _ us hl => match us, hl with | [_, _, _, _], _ => rfl) rfl (by simp only [G.b_reads_76, okSs, okS, okE, okEs, okSrc, clNeed, nmCl, nmF1, nmF2, and_true, true_and, b8 _, At_mono n45_2 (by decide : 7 ≤ 7)])
  have n53 : Need.At PySem.Challenge.rw_floatforge_k76_whole_shortest.prog w K mg base (tab K e0 e1 e2 e3 e5 o0 o1 o2 o3 o4 ef) 9 (.fn "_law_fewest" G.fewest_76 []) := at_fn (st := s_law_fewest) (np := 3) (b := G.b_fewest_76) (PySem.W.mg_of X hG a53) k53 l53 c53 sc_law_fewest (hT) ck_law_fewest rfl (fun _ _ _ _ _ _ us hl => match us, hl with | [_, _, _], _ => rfl) rfl (by simp only [G.b_fewest_76, okSs, okS, okE, okEs, okSrc, clNeed, nmCl, nmF1, nmF2, and_true, true_and, At_mono n4 (by decide : 2 ≤ 8), At_mono n50 (by decide : 2 ≤ 8), At_mono n51 (by decide : 2 ≤ 8), At_mono n52 (by decide : 8 ≤ 8), At_mono n49 (by decide : 1 ≤ 8)])
  have n54 : Need.At PySem.Challenge.rw_floatforge_k76_whole_shortest.prog w K mg base (tab K e0 e1 e2 e3 e5 o0 o1 o2 o3 o4 ef) 10 (.fn "_law_told" G.told_76 []) := at_fn (st := s_law_told) (np := 2) (b := G.b_told_76) (PySem.W.mg_of X hG a54) k54 l54 c54 sc_law_told (hT) ck_law_told rfl (fun _ _ _ _ _ _ us hl => match us, hl with | [_, _], _ => rfl) rfl (by simp only [G.b_told_76, okSs, okS, okE, okEs, okSrc, clNeed, nmCl, nmF1, nmF2, and_true, true_and, b4 _, b8 _, b3 _, At_mono n4 (by decide : 2 ≤ 9), At_mono n39 (by decide : 9 ≤ 9), At_mono n40 (by decide : 1 ≤ 9), At_mono n45_2 (by decide : 7 ≤ 9), At_mono n47 (by decide : 2 ≤ 9), At_mono n53 (by decide : 9 ≤ 9)])
  have n55 : Need.At PySem.Challenge.rw_floatforge_k76_whole_shortest.prog w K mg base (tab K e0 e1 e2 e3 e5 o0 o1 o2 o3 o4 ef) 1 (.fn "_law_word" G.word_02 []) := at_fn (st := s_law_word) (np := 2) (b := G.b_word_02) (PySem.W.mg_of X hG a55) k55 l55 c55 sc_law_word (hT) ck_law_word rfl (fun _ _ _ _ _ _ us hl => match us, hl with | [_, _], _ => rfl) rfl (by simp only [G.b_word_02, okSs, okS, okE, okEs, okSrc, clNeed, nmCl, nmF1, nmF2, and_true, true_and])
  exact law_fn (np := 1) (b := K76.b_law) (fun_mk (st := s_law) l56 c56 k56) sc_law (hT) ck_law rfl rfl K76.law_ok (by simp only [K76.b_law, K76.b_law_l1, okSs, okS, okE, okEs, okSrc, clNeed, nmCl, nmF1, nmF2, and_true, true_and, b8 _, At_mono n1 (by decide : 1 ≤ 10), At_mono n2 (by decide : 1 ≤ 10), At_mono n4 (by decide : 2 ≤ 10), At_mono n54 (by decide : 10 ≤ 10), At_mono n55 (by decide : 1 ≤ 10), At_mono n45 (by decide : 7 ≤ 10), At_mono n39 (by decide : 9 ≤ 10)])
end MP.LK76

open PySem PySem.W PyProof.Rows in
set_option maxRecDepth 100000 in
set_option maxHeartbeats 0 in
theorem PySem.Challenge.cw_floatforge_k76_whole_shortest_holds : PySem.Challenge.rw_floatforge_k76_whole_shortest.Holds := by
  w_on; o_law; k_head; (case hw => w_witness2)
  k_fill
  refine MP.walk_mp (l := PySem.Challenge.rw_floatforge_k76_whole_shortest) (x := "_law_script") (k := 11) rfl rfl ⟨rfl, by decide, by decide⟩ (fun w h Y => PySem.W.kIn_of Y) ?F
  case F =>
    intro w mg fa h KX G hmg
    refine' MP.LK76.all_mk KX G hmg ?h_a1 ?h_l1 ?h_c1 ?h_k1 ?h_a2 ?h_l2 ?h_c2 ?h_k2 ?h_a3 ?h_l3 ?h_c3 ?h_k3 ?h_a4 ?h_l4 ?h_c4 ?h_k4 ?h_a5 ?h_l5 ?h_c5 ?h_k5 ?h_a6 ?h_l6 ?h_c6 ?h_k6 ?h_a7 ?h_l7 ?h_c7 ?h_k7 ?h_a8 ?h_l8 ?h_c8 ?h_k8 ?h_a9 ?h_l9 ?h_c9 ?h_k9 ?h_a10 ?h_l10 ?h_c10 ?h_k10 ?h_a11 ?h_l11 ?h_c11 ?h_k11 ?h_a12 ?h_l12 ?h_c12 ?h_k12 ?h_a13 ?h_l13 ?h_c13 ?h_k13 ?h_a14 ?h_l14 ?h_c14 ?h_k14 ?h_a15 ?h_l15 ?h_c15 ?h_k15 ?h_a16 ?h_l16 ?h_c16 ?h_k16 ?h_a17 ?h_l17 ?h_c17 ?h_k17 ?h_a18 ?h_l18 ?h_c18 ?h_k18 ?h_a19 ?h_l19 ?h_c19 ?h_k19 ?h_a20 ?h_l20 ?h_c20 ?h_k20 ?h_a21 ?h_l21 ?h_c21 ?h_k21 ?h_a22 ?h_l22 ?h_c22 ?h_k22 ?h_a23 ?h_l23 ?h_c23 ?h_k23 ?h_l24 ?h_c24 ?h_k24 ?h_l25 ?h_c25 ?h_k25 ?h_l26 ?h_c26 ?h_k26 ?h_l27 ?h_c27 ?h_k27 ?h_l28 ?h_c28 ?h_k28 ?h_a30 ?h_l30 ?h_c30 ?h_k30 ?h_a31 ?h_l31 ?h_c31 ?h_k31 ?h_a32 ?h_l32 ?h_c32 ?h_k32 ?h_a33 ?h_l33 ?h_c33 ?h_k33 ?h_a34 ?h_l34 ?h_c34 ?h_k34 ?h_a35 ?h_l35 ?h_c35 ?h_k35 ?h_a36 ?h_l36 ?h_c36 ?h_k36 ?h_q36 ?h_a37 ?h_l37 ?h_c37 ?h_k37 ?h_a38 ?h_l38 ?h_c38 ?h_k38 ?h_a39 ?h_l39 ?h_c39 ?h_k39 ?h_a40 ?h_l40 ?h_c40 ?h_k40 ?h_a41 ?h_l41 ?h_c41 ?h_k41 ?h_a42 ?h_l42 ?h_c42 ?h_k42 ?h_a43 ?h_l43 ?h_c43 ?h_k43 ?h_a44 ?h_l44 ?h_c44 ?h_k44 ?h_a45 ?h_l45 ?h_c45 ?h_k45 ?h_q45 ?h_a46 ?h_l46 ?h_c46 ?h_k46 ?h_a47 ?h_l47 ?h_c47 ?h_k47 ?h_a48 ?h_l48 ?h_c48 ?h_k48 ?h_a49 ?h_l49 ?h_c49 ?h_k49 ?h_a50 ?h_l50 ?h_c50 ?h_k50 ?h_a51 ?h_l51 ?h_c51 ?h_k51 ?h_a52 ?h_l52 ?h_c52 ?h_k52 ?h_a53 ?h_l53 ?h_c53 ?h_k53 ?h_a54 ?h_l54 ?h_c54 ?h_k54 ?h_a55 ?h_l55 ?h_c55 ?h_k55 ?h_a56 ?h_l56 ?h_c56 ?h_k56 ?h_dg ?h_ya ?h_yn ?h_yt ?h_yb ?h_yi ?h_yk ?h_xa0 ?h_xg0 ?h_xk0 ?h_xs0 ?h_xd0 ?h_xh0 ?h_xm0 ?h_xc0 ?h_xe0 ?h_xt0 ?h_xi0 ?h_xv0 ?h_xn0 ?h_xf0 ?h_xa1 ?h_xg1 ?h_xk1 ?h_xs1 ?h_xd1 ?h_xh1 ?h_xm1 ?h_xc1 ?h_xe1 ?h_xt1 ?h_xi1 ?h_xv1 ?h_xn1 ?h_xf1 ?h_xa2 ?h_xg2 ?h_xk2 ?h_xs2 ?h_xd2 ?h_xh2 ?h_xm2 ?h_xc2 ?h_xe2 ?h_xt2 ?h_xi2 ?h_xv2 ?h_xn2 ?h_xf2 ?h_xa3 ?h_xg3 ?h_xk3 ?h_xs3 ?h_xd3 ?h_xh3 ?h_xm3 ?h_xc3 ?h_xe3 ?h_xt3 ?h_xi3 ?h_xv3 ?h_xn3 ?h_xf3 ?h_xa5 ?h_xg5 ?h_xk5 ?h_xs5 ?h_xd5 ?h_xh5 ?h_xm5 ?h_xc5 ?h_xe5 ?h_xt5 ?h_xi5 ?h_xv5 ?h_xn5 ?h_xf5 ?h_xp0_0 ?h_xp0_1 ?h_xp0_2 ?h_xp0_3 ?h_xp0_5 ?h_xp1_0 ?h_xp1_1 ?h_xp1_2 ?h_xp1_3 ?h_xp1_5 ?h_xp2_0 ?h_xp2_1 ?h_xp2_2 ?h_xp2_3 ?h_xp2_5 ?h_xp3_0 ?h_xp3_1 ?h_xp3_2 ?h_xp3_3 ?h_xp3_5 ?h_xp5_0 ?h_xp5_1 ?h_xp5_2 ?h_xp5_3 ?h_xp5_5 ?h_oa0 ?h_om0 ?h_oi0 ?h_oo0 ?h_ok0 ?h_og0 ?h_oh0 ?h_op0 ?h_os0 ?h_of0 ?h_oa1 ?h_om1 ?h_oi1 ?h_oo1 ?h_ok1 ?h_og1 ?h_oh1 ?h_op1 ?h_os1 ?h_of1 ?h_oa2 ?h_om2 ?h_oi2 ?h_oo2 ?h_ok2 ?h_og2 ?h_oh2 ?h_op2 ?h_os2 ?h_of2 ?h_oa3 ?h_om3 ?h_oi3 ?h_oo3 ?h_ok3 ?h_og3 ?h_oh3 ?h_op3 ?h_os3 ?h_of3 ?h_oa4 ?h_om4 ?h_oi4 ?h_oo4 ?h_ok4 ?h_og4 ?h_oh4 ?h_op4 ?h_os4 ?h_of4 ?h_on24 ?h_on25 ?h_on26 ?h_on27 ?h_on28 ?h_gw0 ?h_gw1 ?h_gw2 ?h_gw3 ?h_z0 ?h_z1 ?h_z2 ?h_z3 ?h_z4 ?h_z5 ?h_z6 ?h_z7 ?h_z8
    (case h_a1 => k_is)
    (case h_l1 => k_is)
    (case h_c1 => k_is)
    (case h_k1 => k_is)
    (case h_a2 => k_is)
    (case h_l2 => k_is)
    (case h_c2 => k_is)
    (case h_k2 => k_is)
    (case h_a3 => k_is)
    (case h_l3 => k_is)
    (case h_c3 => k_is)
    (case h_k3 => k_is)
    (case h_a4 => k_is)
    (case h_l4 => k_is)
    (case h_c4 => k_is)
    (case h_k4 => k_is)
    (case h_a5 => k_is)
    (case h_l5 => k_is)
    (case h_c5 => k_is)
    (case h_k5 => k_is)
    (case h_a6 => k_is)
    (case h_l6 => k_is)
    (case h_c6 => k_is)
    (case h_k6 => k_is)
    (case h_a7 => k_is)
    (case h_l7 => k_is)
    (case h_c7 => k_is)
    (case h_k7 => k_is)
    (case h_a8 => k_is)
    (case h_l8 => k_is)
    (case h_c8 => k_is)
    (case h_k8 => k_is)
    (case h_a9 => k_is)
    (case h_l9 => k_is)
    (case h_c9 => k_is)
    (case h_k9 => k_is)
    (case h_a10 => k_is)
    (case h_l10 => k_is)
    (case h_c10 => k_is)
    (case h_k10 => k_is)
    (case h_a11 => k_is)
    (case h_l11 => k_is)
    (case h_c11 => k_is)
    (case h_k11 => k_is)
    (case h_a12 => k_is)
    (case h_l12 => k_is)
    (case h_c12 => k_is)
    (case h_k12 => k_is)
    (case h_a13 => k_is)
    (case h_l13 => k_is)
    (case h_c13 => k_is)
    (case h_k13 => k_is)
    (case h_a14 => k_is)
    (case h_l14 => k_is)
    (case h_c14 => k_is)
    (case h_k14 => k_is)
    (case h_a15 => k_is)
    (case h_l15 => k_is)
    (case h_c15 => k_is)
    (case h_k15 => k_is)
    (case h_a16 => k_is)
    (case h_l16 => k_is)
    (case h_c16 => k_is)
    (case h_k16 => k_is)
    (case h_a17 => k_is)
    (case h_l17 => k_is)
    (case h_c17 => k_is)
    (case h_k17 => k_is)
    (case h_a18 => k_is)
    (case h_l18 => k_is)
    (case h_c18 => k_is)
    (case h_k18 => k_is)
    (case h_a19 => k_is)
    (case h_l19 => k_is)
    (case h_c19 => k_is)
    (case h_k19 => k_is)
    (case h_a20 => k_is)
    (case h_l20 => k_is)
    (case h_c20 => k_is)
    (case h_k20 => k_is)
    (case h_a21 => k_is)
    (case h_l21 => k_is)
    (case h_c21 => k_is)
    (case h_k21 => k_is)
    (case h_a22 => k_is)
    (case h_l22 => k_is)
    (case h_c22 => k_is)
    (case h_k22 => k_is)
    (case h_a23 => k_is)
    (case h_l23 => k_is)
    (case h_c23 => k_is)
    (case h_k23 => k_is)
    (case h_a30 => k_is)
    (case h_l30 => k_is)
    (case h_c30 => k_is)
    (case h_k30 => k_is)
    (case h_a31 => k_is)
    (case h_l31 => k_is)
    (case h_c31 => k_is)
    (case h_k31 => k_is)
    (case h_a32 => k_is)
    (case h_l32 => k_is)
    (case h_c32 => k_is)
    (case h_k32 => k_is)
    (case h_a33 => k_is)
    (case h_l33 => k_is)
    (case h_c33 => k_is)
    (case h_k33 => k_is)
    (case h_a34 => k_is)
    (case h_l34 => k_is)
    (case h_c34 => k_is)
    (case h_k34 => k_is)
    (case h_a35 => k_is)
    (case h_l35 => k_is)
    (case h_c35 => k_is)
    (case h_k35 => k_is)
    (case h_a36 => k_is)
    (case h_l36 => k_is)
    (case h_c36 => k_is)
    (case h_k36 => k_is)
    (case h_q36 => k_is)
    (case h_a37 => k_is)
    (case h_l37 => k_is)
    (case h_c37 => k_is)
    (case h_k37 => k_is)
    (case h_a38 => k_is)
    (case h_l38 => k_is)
    (case h_c38 => k_is)
    (case h_k38 => k_is)
    (case h_a39 => k_is)
    (case h_l39 => k_is)
    (case h_c39 => k_is)
    (case h_k39 => k_is)
    (case h_a40 => k_is)
    (case h_l40 => k_is)
    (case h_c40 => k_is)
    (case h_k40 => k_is)
    (case h_a41 => k_is)
    (case h_l41 => k_is)
    (case h_c41 => k_is)
    (case h_k41 => k_is)
    (case h_a42 => k_is)
    (case h_l42 => k_is)
    (case h_c42 => k_is)
    (case h_k42 => k_is)
    (case h_a43 => k_is)
    (case h_l43 => k_is)
    (case h_c43 => k_is)
    (case h_k43 => k_is)
    (case h_a44 => k_is)
    (case h_l44 => k_is)
    (case h_c44 => k_is)
    (case h_k44 => k_is)
    (case h_a45 => k_is)
    (case h_l45 => k_is)
    (case h_c45 => k_is)
    (case h_k45 => k_is)
    (case h_q45 => k_is)
    (case h_a46 => k_is)
    (case h_l46 => k_is)
    (case h_c46 => k_is)
    (case h_k46 => k_is)
    (case h_a47 => k_is)
    (case h_l47 => k_is)
    (case h_c47 => k_is)
    (case h_k47 => k_is)
    (case h_a48 => k_is)
    (case h_l48 => k_is)
    (case h_c48 => k_is)
    (case h_k48 => k_is)
    (case h_a49 => k_is)
    (case h_l49 => k_is)
    (case h_c49 => k_is)
    (case h_k49 => k_is)
    (case h_a50 => k_is)
    (case h_l50 => k_is)
    (case h_c50 => k_is)
    (case h_k50 => k_is)
    (case h_a51 => k_is)
    (case h_l51 => k_is)
    (case h_c51 => k_is)
    (case h_k51 => k_is)
    (case h_a52 => k_is)
    (case h_l52 => k_is)
    (case h_c52 => k_is)
    (case h_k52 => k_is)
    (case h_a53 => k_is)
    (case h_l53 => k_is)
    (case h_c53 => k_is)
    (case h_k53 => k_is)
    (case h_a54 => k_is)
    (case h_l54 => k_is)
    (case h_c54 => k_is)
    (case h_k54 => k_is)
    (case h_a55 => k_is)
    (case h_l55 => k_is)
    (case h_c55 => k_is)
    (case h_k55 => k_is)
    (case h_a56 => k_is)
    (case h_l56 => k_is)
    (case h_c56 => k_is)
    (case h_k56 => k_is)
    (case h_dg => k_is)
    (case h_ya => k_is)
    (case h_yn => k_is)
    (case h_yt => k_is)
    (case h_yb => k_is)
    (case h_yi => k_is)
    (case h_yk => k_is)
    (case h_xa0 => k_is)
    (case h_xg0 => k_is)
    (case h_xk0 => k_is)
    (case h_xs0 => k_is)
    (case h_xd0 => k_is)
    (case h_xh0 => k_is)
    (case h_xm0 => k_is)
    (case h_xc0 => k_exc)
    (case h_xe0 => k_is)
    (case h_xt0 => k_is)
    (case h_xi0 => k_is)
    (case h_xv0 => first | k_is | rfl)
    (case h_xn0 => first | k_is | rfl)
    (case h_xf0 => first | k_is | rfl)
    (case h_xa1 => k_is)
    (case h_xg1 => k_is)
    (case h_xk1 => k_is)
    (case h_xs1 => k_is)
    (case h_xd1 => k_is)
    (case h_xh1 => k_is)
    (case h_xm1 => k_is)
    (case h_xc1 => k_exc)
    (case h_xe1 => k_is)
    (case h_xt1 => k_is)
    (case h_xi1 => k_is)
    (case h_xv1 => first | k_is | rfl)
    (case h_xn1 => first | k_is | rfl)
    (case h_xf1 => first | k_is | rfl)
    (case h_xa2 => k_is)
    (case h_xg2 => k_is)
    (case h_xk2 => k_is)
    (case h_xs2 => k_is)
    (case h_xd2 => k_is)
    (case h_xh2 => k_is)
    (case h_xm2 => k_is)
    (case h_xc2 => k_exc)
    (case h_xe2 => k_is)
    (case h_xt2 => k_is)
    (case h_xi2 => k_is)
    (case h_xv2 => first | k_is | rfl)
    (case h_xn2 => first | k_is | rfl)
    (case h_xf2 => first | k_is | rfl)
    (case h_xa3 => k_is)
    (case h_xg3 => k_is)
    (case h_xk3 => k_is)
    (case h_xs3 => k_is)
    (case h_xd3 => k_is)
    (case h_xh3 => k_is)
    (case h_xm3 => k_is)
    (case h_xc3 => k_exc)
    (case h_xe3 => k_is)
    (case h_xt3 => k_is)
    (case h_xi3 => k_is)
    (case h_xv3 => first | k_is | rfl)
    (case h_xn3 => first | k_is | rfl)
    (case h_xf3 => first | k_is | rfl)
    (case h_xa5 => k_is)
    (case h_xg5 => k_is)
    (case h_xk5 => k_is)
    (case h_xs5 => k_is)
    (case h_xd5 => k_is)
    (case h_xh5 => k_is)
    (case h_xm5 => k_is)
    (case h_xc5 => k_exc)
    (case h_xe5 => k_is)
    (case h_xt5 => k_is)
    (case h_xi5 => k_is)
    (case h_xv5 => first | k_is | rfl)
    (case h_xn5 => first | k_is | rfl)
    (case h_xf5 => first | k_is | rfl)
    (case h_xp0_0 => first | k_is | rfl)
    (case h_xp0_1 => first | k_is | rfl)
    (case h_xp0_2 => first | k_is | rfl)
    (case h_xp0_3 => first | k_is | rfl)
    (case h_xp0_5 => first | k_is | rfl)
    (case h_xp1_0 => first | k_is | rfl)
    (case h_xp1_1 => first | k_is | rfl)
    (case h_xp1_2 => first | k_is | rfl)
    (case h_xp1_3 => first | k_is | rfl)
    (case h_xp1_5 => first | k_is | rfl)
    (case h_xp2_0 => first | k_is | rfl)
    (case h_xp2_1 => first | k_is | rfl)
    (case h_xp2_2 => first | k_is | rfl)
    (case h_xp2_3 => first | k_is | rfl)
    (case h_xp2_5 => first | k_is | rfl)
    (case h_xp3_0 => first | k_is | rfl)
    (case h_xp3_1 => first | k_is | rfl)
    (case h_xp3_2 => first | k_is | rfl)
    (case h_xp3_3 => first | k_is | rfl)
    (case h_xp3_5 => first | k_is | rfl)
    (case h_xp5_0 => first | k_is | rfl)
    (case h_xp5_1 => first | k_is | rfl)
    (case h_xp5_2 => first | k_is | rfl)
    (case h_xp5_3 => first | k_is | rfl)
    (case h_xp5_5 => first | k_is | rfl)
    (case h_oa0 => k_is)
    (case h_om0 => k_is)
    (case h_oi0 => k_is)
    (case h_oo0 => k_is)
    (case h_ok0 => k_is)
    (case h_og0 => k_is)
    (case h_oh0 => k_is)
    (case h_op0 => k_is)
    (case h_os0 => k_is)
    (case h_of0 => k_is)
    (case h_oa1 => k_is)
    (case h_om1 => k_is)
    (case h_oi1 => k_is)
    (case h_oo1 => k_is)
    (case h_ok1 => k_is)
    (case h_og1 => k_is)
    (case h_oh1 => k_is)
    (case h_op1 => k_is)
    (case h_os1 => k_is)
    (case h_of1 => k_is)
    (case h_oa2 => k_is)
    (case h_om2 => k_is)
    (case h_oi2 => k_is)
    (case h_oo2 => k_is)
    (case h_ok2 => k_is)
    (case h_og2 => k_is)
    (case h_oh2 => k_is)
    (case h_op2 => k_is)
    (case h_os2 => k_is)
    (case h_of2 => k_is)
    (case h_oa3 => k_is)
    (case h_om3 => k_is)
    (case h_oi3 => k_is)
    (case h_oo3 => k_is)
    (case h_ok3 => k_is)
    (case h_og3 => k_is)
    (case h_oh3 => k_is)
    (case h_op3 => k_is)
    (case h_os3 => k_is)
    (case h_of3 => k_is)
    (case h_oa4 => k_is)
    (case h_om4 => k_is)
    (case h_oi4 => k_is)
    (case h_oo4 => k_is)
    (case h_ok4 => k_is)
    (case h_og4 => k_is)
    (case h_oh4 => k_is)
    (case h_op4 => k_is)
    (case h_os4 => k_is)
    (case h_of4 => k_is)
    (case h_gw0 => k_is)
    (case h_gw1 => k_is)
    (case h_gw2 => k_is)
    (case h_gw3 => k_is)
    (case h_z0 => k_is)
    (case h_z1 => k_is)
    (case h_z2 => k_is)
    (case h_z3 => k_is)
    (case h_z4 => k_is)
    (case h_z5 => k_is)
    (case h_z6 => k_is)
    (case h_z7 => k_is)
    (case h_z8 => k_is)
    (case h_l24 => k_is)
    (case h_c24 => k_is)
    (case h_k24 => k_is)
    (case h_l25 => k_is)
    (case h_c25 => k_is)
    (case h_k25 => k_is)
    (case h_l26 => k_is)
    (case h_c26 => k_is)
    (case h_k26 => k_is)
    (case h_l27 => k_is)
    (case h_c27 => k_is)
    (case h_k27 => k_is)
    (case h_l28 => k_is)
    (case h_c28 => k_is)
    (case h_k28 => k_is)
    (case h_on24 => k_is)
    (case h_on25 => k_is)
    (case h_on26 => k_is)
    (case h_on27 => k_is)
    (case h_on28 => k_is)
