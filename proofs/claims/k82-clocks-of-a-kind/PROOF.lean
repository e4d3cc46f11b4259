import PyProof.Rows.All
import Wide.All
import OpenK.AllK
import Wide.FinOn
import KE.KStateDown
import Lean
import HandS.ForMost
import HandS.HeadHook1
import HandS.Walk
import HandS.Conv
import HandS.Deep
import HandS.Zip
import HandS.TupAny
import HandS.TupMul
import HandS.Style
import HandS.IsInst
import HandS.Wide
import HandS.SortInts
import KE.GoesMore
import HandS.Codes
import HandS.Defaults
import HandS.EndBits
import HandS.HeadHook2
import HandS.HeadEnd
import HandS.Flow
import HandS.More
import HandS.WordsExc
import HandS.Head0
import HandS.Head1
import HandS.Head2
import PySem.Challenge.RW_dayholds_k82_whole_clocks_of_a_kind
set_option Elab.async false
set_option linter.all false
set_option maxRecDepth 100000
set_option maxHeartbeats 0
/-! A pure reading of a fragment of Python: data, memory, an intermediate form, its evaluator. -/
namespace Rf
open PySem

/-- data; obj n: the n-th cell of the memory; scr: the script (read only) -/
inductive D where
  | non | bl (b : Bool) | int (i : Int) | str (s : Str) | tup (xs : List D) | lst (xs : List D) | obj (n : Nat) | scr (xs : List D)
  deriving Inhabited

inductive Cell where
  | lst (xs : List D) | ins (c : Str) (fs : List (Str × D))
  deriving Inhabited
abbrev Mem := List Cell
abbrev Env := List (Option D)

inductive Res (α : Type) where
  | ok (a : α) (m : Mem) | ex (c : Str) (m : Mem) | no
def Res.bind {α β : Type} (x : Res α) (f : α → Mem → Res β) : Res β := match x with
  | .ok a m => f a m
  | .ex c m => .ex c m
  | .no => .no
@[simp] theorem Res.bind_ok {α β : Type} (a : α) (m : Mem) (f : α → Mem → Res β) : (Res.ok a m).bind f = f a m := rfl
@[simp] theorem Res.bind_ex {α β : Type} (c : Str) (m : Mem) (f : α → Mem → Res β) : (Res.ex c m : Res α).bind f = .ex c m := rfl
@[simp] theorem Res.bind_no {α β : Type} (f : α → Mem → Res β) : (Res.no : Res α).bind f = .no := rfl
/-- an option as a result -/
def Res.of {α : Type} (o : Option α) (m : Mem) : Res α := match o with
  | some a => .ok a m
  | none => .no
@[simp] theorem Res.of_some {α : Type} (a : α) (m : Mem) : Res.of (some a) m = .ok a m := rfl
@[simp] theorem Res.of_none {α : Type} (m : Mem) : Res.of (none : Option α) m = .no := rfl
/-- within a comprehension nothing may be raised -/
def Res.calm {α : Type} (x : Res α) : Res α := match x with
  | .ok a m => .ok a m
  | _ => .no
@[simp] theorem Res.calm_ok {α : Type} (a : α) (m : Mem) : (Res.ok a m).calm = .ok a m := rfl

/-! ### operations -/
inductive BOp where | add | sub | mul | div | mod | pow
  deriving DecidableEq, Inhabited
inductive COp where | eq | ne | lt | le | gt | ge | is | isnot | mem | notmem
  deriving DecidableEq, Inhabited

mutual
def D.eqv : D → D → Bool
  | .non, .non => true
  | .bl a, .bl b => a == b
  | .bl a, .int j => (if a then 1 else 0) == j
  | .int i, .bl b => i == (if b then 1 else 0)
  | .int i, .int j => i == j
  | .str x, .str y => x == y
  | .lst xs, .lst ys => D.eqvs xs ys
  | .tup xs, .tup ys => D.eqvs xs ys
  | _, _ => false
def D.eqvs : List D → List D → Bool
  | [], [] => true
  | x :: xs, y :: ys => D.eqv x y && D.eqvs xs ys
  | _, _ => false
end
mutual
/-- no cell in it, at most n deep -/
def D.plain : Nat → D → Bool
  | _, .non => true
  | _, .bl _ => true
  | _, .int _ => true
  | _, .str s => s.cps.all (· < 0x110000)
  | 0, .tup _ => false
  | 0, .lst _ => false
  | n + 1, .tup xs => D.plains n xs
  | n + 1, .lst xs => D.plains n xs
  | _, .obj _ => false
  | _, .scr _ => false
def D.plains : Nat → List D → Bool
  | _, [] => true
  | n, x :: xs => D.plain n x && D.plains n xs
end
/-- a cell's list in the place of its number -/
def deref (m : Mem) : D → D
  | .obj n => (match m[n]? with
    | some (.lst xs) => .lst xs
    | _ => .obj n)
  | d => d
def eqD (a b : D) : Option Bool := match a, b with
  | .int i, .int j => some (i == j)
  | .str x, .str y => some (x == y)
  | .bl x, .bl y => some (x == y)
  | .non, .non => some true
  | a, b => if D.plain 40 a && D.plain 40 b then some (D.eqv a b) else none
/-- the items of a list or tuple -/
def seqOf (m : Mem) : D → Option (List D)
  | .tup xs => some xs
  | .lst xs => some xs
  | .scr xs => some xs
  | .obj n => (match m[n]? with
    | some (.lst xs) => some xs
    | _ => none)
  | _ => none
def lstOf (m : Mem) : D → Option (List D)
  | .lst xs => some xs
  | .obj n => (match m[n]? with
    | some (.lst xs) => some xs
    | _ => none)
  | _ => none
def intsOf : List D → Option (List Int)
  | [] => some []
  | .int i :: r => (intsOf r).map (i :: ·)
  | _ :: _ => none
abbrev LIM : Nat := 1000000
def mulOk (i j : Int) : Bool := decide (i.natAbs < 2 ^ 64) || decide (j.natAbs < 2 ^ 64) || decide (i.natAbs.log2 + j.natAbs.log2 < 1000000)
def divOk (j : Int) : Bool := decide (j ≠ 0) && (decide (j.natAbs < 1073741824) || (decide (0 < j) && decide (j.natAbs.log2 < 9000)))
def powOk (i j : Int) : Bool := decide (0 ≤ j) && decide (j ≤ 1000000) && decide (i.natAbs < 2 ^ 64)
def repOk (n : Nat) (k : Int) : Bool := decide (-(2 ^ 63) ≤ k) && decide (k < 2 ^ 63) && decide (n * k.toNat ≤ LIM)
def bin (op : BOp) (a b : D) (m : Mem) : Option D := match op, a, b with
  | .add, .int i, .int j => some (.int (i + j))
  | .sub, .int i, .int j => some (.int (i - j))
  | .mul, .int i, .int j => if mulOk i j then some (.int (i * j)) else none
  | .div, .int i, .int j => if divOk j then some (.int (i.fdiv j)) else none
  | .mod, .int i, .int j => if j ≠ 0 then some (.int (i.fmod j)) else none
  | .pow, .int i, .int j => if powOk i j then some (.int (i ^ j.toNat)) else none
  | .add, .str x, .str y => if x.length + y.length ≤ LIM then some (.str (x ++ y)) else none
  | .add, .tup xs, .tup ys => if xs.length + ys.length ≤ LIM then some (.tup (xs ++ ys)) else none
  | .mul, .tup xs, .int k => if decide (xs.length ≤ 1000) && !xs.isEmpty && decide (0 ≤ k) && decide (k ≤ 1000) then some (.tup (List.replicate k.toNat xs).flatten) else none
  | .add, a, b => (match lstOf m a, lstOf m b with
    | some xs, some ys => if xs.length + ys.length ≤ LIM then some (.lst (xs ++ ys)) else none
    | _, _ => none)
  | _, _, _ => none
/-- a list times a number: the new list's items -/
def rep (a : D) (k : D) (m : Mem) : Option (List D) := match lstOf m a, k with
  | some xs, .int k => if repOk xs.length k then some (List.replicate k.toNat xs).flatten else none
  | _, _ => none
def flatD : D → Bool
  | .int _ => true
  | .str _ => true
  | .bl _ => true
  | .non => true
  | _ => false
def memD (x : D) (ys : List D) : Option Bool :=
  if flatD x && ys.all flatD then some (ys.any fun y => D.eqv y x) else none
/-- .. in a list, at any depth -/
def memL (x : D) (ys : List D) : Option Bool :=
  if flatD x && ys.all flatD then some (ys.any fun y => D.eqv y x)
  else if D.plain 40 x && D.plains 40 ys then some (ys.any fun y => D.eqv y x) else none
def memS (m : Mem) (x b : D) : Option Bool := match lstOf m b with
  | some ys => memL x ys
  | none => (match b with
    | .tup ys => memD x ys
    | _ => none)
def cmp (op : COp) (a b : D) (m : Mem) : Option Bool := match op with
  | .eq => eqD (deref m a) (deref m b)
  | .ne => (eqD (deref m a) (deref m b)).map (!·)
  | .lt => (match a, b with
    | .int i, .int j => some (decide (i < j))
    | .str x, .str y => some (decide (x.cps.toList < y.cps.toList))
    | _, _ => none)
  | .le => (match a, b with
    | .int i, .int j => some (decide (i ≤ j))
    | _, _ => none)
  | .gt => (match a, b with
    | .int i, .int j => some (decide (j < i))
    | _, _ => none)
  | .ge => (match a, b with
    | .int i, .int j => some (decide (j ≤ i))
    | _, _ => none)
  | .is => (match b with
    | .non => some (match a with | .non => true | _ => false)
    | .bl y => (match a with | .bl x => some (x == y) | _ => none)
    | _ => none)
  | .isnot => (match b with
    | .non => some (match a with | .non => false | _ => true)
    | .bl y => (match a with | .bl x => some (!(x == y)) | _ => none)
    | _ => none)
  | .mem => (match b with
    | .str z => (match a with | .str x => (if x.length = 1 then some (decide ((x.cps.getD 0 0) ∈ z.cps.toList)) else none) | _ => none)
    | _ => memS m a b)
  | .notmem => (match b with
    | .str z => (match a with | .str x => (if x.length = 1 then some (!decide ((x.cps.getD 0 0) ∈ z.cps.toList)) else none) | _ => none)
    | _ => (memS m a b).map (!·))
def truth (m : Mem) : D → Option Bool
  | .non => some false
  | .bl b => some b
  | .int i => some (i != 0)
  | .str s => if s.length ≤ LIM then some ((s.length : Int) != 0) else none
  | d => (seqOf m d).map fun xs => !xs.isEmpty
abbrev place (n : Nat) (i : Int) : Option Nat := L2.ixN n i
abbrev nth {α : Type} (xs : List α) (i : Int) : Option α := L2.atI xs i
def idx (a b : D) (m : Mem) : Option D := match b with
  | .int i => (match a with
    | .str z => if z.length ≤ LIM then (nth z.cps.toList i).map fun c => .str ⟨#[c]⟩ else none
    | _ => (match seqOf m a with
      | some xs => nth xs i
      | none => none))
  | _ => none
def cut {α : Type} (xs : List α) (lo hi : Option Int) : List α :=
  (xs.drop (HT.sIx xs.length 0 lo)).take (HT.sIx xs.length xs.length hi - HT.sIx xs.length 0 lo)
def slice (a : D) (lo hi : Option Int) (m : Mem) : Option D := match a with
  | .tup xs => some (.tup (cut xs lo hi))
  | .str z => if z.length ≤ LIM then some (.str (L2.cutS z lo hi)) else none
  | a => (lstOf m a).map fun xs => .lst (cut xs lo hi)
inductive Prim where
  | len | abs | min2 | max2 | sum | min1 | max1 | tuple | int
  deriving DecidableEq, Inhabited
def maxOf : List Int → Option Int
  | [] => none
  | x :: r => some (r.foldl max x)
def minOf : List Int → Option Int
  | [] => none
  | x :: r => some (r.foldl min x)
def lenD (m : Mem) : D → Option D
  | .str z => if z.length ≤ LIM then some (.int z.length) else none
  | a => (seqOf m a).map fun xs => .int xs.length
def tupD (m : Mem) : D → Option D
  | .tup xs => some (.tup xs)
  | a => (lstOf m a).map .tup
def intsIn (m : Mem) (a : D) : Option (List Int) := (lstOf m a).bind intsOf
def prim1 (p : Prim) (a : D) (m : Mem) : Option D := match p with
  | .len => lenD m a
  | .abs => (match a with
    | .int i => some (.int (if i < 0 then -i else i))
    | _ => none)
  | .sum => (intsIn m a).map fun ns => .int ns.sum
  | .max1 => ((intsIn m a).bind maxOf).map .int
  | .min1 => ((intsIn m a).bind minOf).map .int
  | .tuple => tupD m a
  | .int => (match a with
    | .int i => some (.int i)
    | .bl b => some (.int (if b then 1 else 0))
    | _ => none)
  | _ => none
def prim2 (p : Prim) (a b : D) : Option D := match a, b with
  | .int i, .int j => (match p with
    | .min2 => some (.int (if j < i then j else i))
    | .max2 => some (.int (if j > i then j else i))
    | _ => none)
  | _, _ => none
def prim (p : Prim) (as : List D) (m : Mem) : Option D := match as with
  | [a] => prim1 p a m
  | [a, b] => prim2 p a b
  | _ => none
/-- isinstance(x, T) for the built-in classes tuple, list, bool, int, str -/
inductive Ty where | tuple | list | bool | int | str
  deriving DecidableEq, Inhabited
def isTy (m : Mem) (d : D) (t : Ty) : Option Bool := match d with
  | .non => some false
  | .bl _ => some (t == .bool || t == .int)
  | .int _ => some (t == .int)
  | .str _ => some (t == .str)
  | .tup _ => some (t == .tuple)
  | .lst _ => some (t == .list)
  | .scr _ => some (t == .list)
  | .obj n => (match m[n]? with
    | some (.lst _) => some (t == .list)
    | _ => none)
end Rf
namespace Rf
open PySem
mutual
inductive E where
  | const (d : D) | var (i : Nat)
  | tup (es : Es) | lst (cell : Bool) (es : Es)
  | bin (op : BOp) (a b : E) | rep (cell : Bool) (a k : E) | neg (a : E)
  | cmp (op : COp) (a b : E) | chain (op op2 : COp) (a b c : E)
  | and (a b : E) | or (a b : E) | not (a : E)
  | ite (t : T) (a b : E)
  | idx (a b : E) | slice (a : E) (lo hi : O) | rev (a : E)
  | call (f : Nat) (es : Es) | make (c : Str) (f : Nat) (es : Es) | meth (m : Str) (o : E) (es : Es)
  | prim (p : Prim) (es : Es) | isi (a : E) (t : Ty) | list (cell : Bool) (a : E) | listR (cell : Bool) (lo hi : E) | tupR (lo hi : E)
  | append (o e : E) | index (o e : E)
  | attr (o : E) (f : Str)
  | comp (cell : Bool) (elt : E) (g : G) (it : I) (cond : T) (own : List Nat)
  | chn (a : E) (c : Ch)
inductive Es where
  | nil | cons (e : E) (es : Es)
inductive O where
  | none | some (e : E)
inductive T where
  | tru | val (e : E) | and (a b : T) | or (a b : T) | not (a : T) | cmp (op : COp) (a b : E) | chain (op op2 : COp) (a b c : E) | chn (a : E) (c : Ch)
inductive Ch where
  | last (op : COp) (e : E) | link (op : COp) (e : E) (c : Ch)
inductive I where
  | ex (e : E) | range1 (a : E) | range2 (a b : E) | enum (e : E) | zip (a b : E)
inductive G where
  | name (i : Nat) | tup (gs : Gs)
inductive Gs where
  | nil | cons (g : G) (gs : Gs)
end
inductive Flow where | next | ret (d : D) | brk | cont
mutual
inductive S where
  | pass | brk | cont | retN | ret (e : E) | expr (e : E)
  | asg (g : G) (e : E) | par2 (i j : Nat) (a b : E) | par3 (i j k : Nat) (a b c : E)
  | aug (i : Nat) (op : BOp) (e : E)
  | setI (o i e : E) | setF (o : E) (f : Str) (e : E) | augF (o : E) (f : Str) (e : E)
  | ite (t : T) (a b : Ss) | loop (g : G) (it : I) (body : Ss) | while (t : T) (body : Ss)
inductive Ss where
  | nil | cons (s : S) (ss : Ss)
end

/-- what the evaluator leans on: the defs, the methods of classes, the turns of a while -/
structure Fx where
  call : Nat → List D → Mem → Res D
  meth : Str → Str → Option Nat
  attr : Str → Str → Bool
  turns : Nat
/-- what is walked, and the lists that must stand still meanwhile -/
structure Src where
  items : List D
  guard : List (Nat × List D)
open Classical in
noncomputable def still (g : List (Nat × List D)) (m : Mem) : Bool := g.all fun p => decide (m[p.1]? = some (.lst p.2))
def wipe (r : Env) : List Nat → Env
  | [] => r
  | v :: vs => (wipe r vs).set v none
def consO (o : Option D) (ys : List D) : List D := match o with
  | some y => y :: ys
  | none => ys
noncomputable def compF (g : List (Nat × List D)) (step : D → Mem → Res (Option D)) : List D → Mem → Res (List D)
  | [], m => if still g m then .ok [] m else .no
  | x :: xs, m => if still g m then (step x m).bind fun o m1 => (compF g step xs m1).bind fun ys m2 => .ok (consO o ys) m2 else .no
/-- a new list: a value, or a cell -/
def newL (cell : Bool) (xs : List D) (m : Mem) : Res D := if cell then .ok (.obj m.length) (m ++ [.lst xs]) else .ok (.lst xs) m
def srcOf (m : Mem) : D → Option Src
  | .tup xs => some ⟨xs, []⟩
  | .lst xs => some ⟨xs, []⟩
  | .obj n => (match m[n]? with
    | some (.lst xs) => some ⟨xs, [(n, xs)]⟩
    | _ => none)
  | .str z => if z.length ≤ LIM then some ⟨z.cps.toList.map fun c => .str ⟨#[c]⟩, []⟩ else none
  | _ => none
def seqSrc (m : Mem) : D → Option Src
  | .tup xs => some ⟨xs, []⟩
  | .lst xs => some ⟨xs, []⟩
  | .obj n => (match m[n]? with
    | some (.lst xs) => some ⟨xs, [(n, xs)]⟩
    | _ => none)
  | _ => none
/-- (by choice: no unfolding decides it) -/
noncomputable def rangeOk (lo hi : Int) : Bool := @decide ((-(2 ^ 62) ≤ lo ∧ lo < 2 ^ 62 ∧ -(2 ^ 62) ≤ hi ∧ hi < 2 ^ 62) ∧ (hi - lo).toNat ≤ LIM) (Classical.propDecidable _)
def rangeL (lo hi : Int) : List D := (List.range (hi - lo).toNat).map fun (i : Nat) => D.int (lo + (i : Nat))
noncomputable def rangeS : D → D → Option (List D)
  | .int lo, .int hi => if rangeOk lo hi then some (rangeL lo hi) else none
  | _, _ => none
def enumL (xs : List D) : List D := xs.mapIdx fun i x => .tup [.int (i : Nat), x]
def zipL (xs ys : List D) : List D := (xs.zip ys).map fun p => .tup [p.1, p.2]
mutual
def bindG : G → D → Env → Option Env
  | .name i, d, r => if i < r.length then some (r.set i (some d)) else none
  | .tup gs, d, r => (match d with
    | .tup ds => bindGs gs ds r
    | _ => none)
def bindGs : Gs → List D → Env → Option Env
  | .nil, ds, r => (match ds with | [] => some r | _ => none)
  | .cons g gs, ds, r => (match ds with
    | d :: ds => (bindG g d r).bind fun r' => bindGs gs ds r'
    | [] => none)
end
def fldOf (m : Mem) (d : D) (f : Str) : Option D := match d with
  | .obj n => (match m[n]? with
    | some (.ins _ fs) => fs.lookup f
    | _ => none)
  | _ => none
def putD (f : Str) (v : D) : List (Str × D) → List (Str × D)
  | [] => [(f, v)]
  | (g, w) :: r => if g = f then (g, v) :: r else (g, w) :: putD f v r
def clsOf (m : Mem) (d : D) : Option (Str × List (Str × D)) := match d with
  | .obj n => (match m[n]? with
    | some (.ins c fs) => some (c, fs)
    | _ => none)
  | _ => none
def isTup : D → Bool
  | .tup _ => true
  | _ => false
def zipS (x y : D) (m : Mem) : Res Src := match seqSrc m x, seqSrc m y with
  | some s, some s2 => if isTup x == isTup y then .ok ⟨zipL s.items s2.items, s.guard ++ s2.guard⟩ m else .no
  | _, _ => .no
def addTo (x y : D) (m : Mem) : Res D := match x with
  | .obj n => (match m[n]? with
    | some (.lst xs) => if xs.length < LIM then .ok .non (m.set n (.lst (xs ++ [y]))) else .no
    | _ => .no)
  | _ => .no
def placeOf (m : Mem) (x y : D) : Option D := match lstOf m x with
  | some xs => if flatD y && xs.all flatD then (xs.findIdx? fun z => D.eqv z y).map fun k => .int (k : Nat) else none
  | none => none
/-- by an answer -/
def condR {α : Type} (o : Option Bool) (a b : Res α) : Res α := match o with
  | some true => a
  | some false => b
  | none => .no
/-- o.f += y, where o.f was i -/
def augTo (m1 m2 : Mem) (x : D) (f : Str) (i : Int) (y : D) (r : Env) : Res (Flow × Env) := match x, y with
  | .obj n, .int j => (match clsOf m1 (.obj n), clsOf m2 (.obj n) with
    | some (c, _), some (c2, fs) => if c2 = c ∧ fs.length < 900 then .ok (.next, r) (m2.set n (.ins c (putD f (.int (i + j)) fs))) else .no
    | _, _ => .no)
  | _, _ => .no
mutual
noncomputable def evE (X : Fx) : E → Env → Mem → Res D
  | .const d, _, m => .ok d m
  | .var i, r, m => (match r[i]? with
    | some (some d) => .ok d m
    | _ => .no)
  | .tup es, r, m => (evEs X es r m).bind fun ds m1 => if ds.length ≤ LIM then .ok (.tup ds) m1 else .no
  | .lst c es, r, m => (evEs X es r m).bind fun ds m1 => if ds.length ≤ LIM then newL c ds m1 else .no
  | .bin op a b, r, m => (evE X a r m).bind fun x m1 => (evE X b r m1).bind fun y m2 => .of (bin op x y m2) m2
  | .rep c a k, r, m => (evE X a r m).bind fun x m1 => (evE X k r m1).bind fun y m2 => (match rep x y m2 with
    | some ds => newL c ds m2
    | none => .no)
  | .neg a, r, m => (evE X a r m).bind fun x m1 => (match x with
    | .int i => .ok (.int (-i)) m1
    | _ => .no)
  | .cmp op a b, r, m => (evE X a r m).bind fun x m1 => (evE X b r m1).bind fun y m2 => .of ((cmp op x y m2).map .bl) m2
  | .chain op op2 a b c, r, m => (evE X a r m).bind fun x m1 => (evE X b r m1).bind fun y m2 => (match cmp op x y m2 with
    | some true => (evE X c r m2).bind fun z m3 => .of ((cmp op2 y z m3).map .bl) m3
    | some false => .ok (.bl false) m2
    | none => .no)
  | .and a b, r, m => (evE X a r m).bind fun x m1 => (match x with
    | .bl true => evE X b r m1
    | .bl false => .ok (.bl false) m1
    | _ => .no)
  | .or a b, r, m => (evE X a r m).bind fun x m1 => (match x with
    | .bl true => .ok (.bl true) m1
    | .bl false => evE X b r m1
    | _ => .no)
  | .not a, r, m => (evE X a r m).bind fun x m1 => (match x with
    | .bl b => .ok (.bl (!b)) m1
    | _ => .no)
  | .ite t a b, r, m => (evT X t r m).bind fun k m1 => if k = true then evE X a r m1 else evE X b r m1
  | .idx a b, r, m => (evE X a r m).bind fun x m1 => (evE X b r m1).bind fun y m2 => .of (idx x y m2) m2
  | .slice a lo hi, r, m => (evE X a r m).bind fun x m1 => (evO X lo r m1).bind fun l m2 => (evO X hi r m2).bind fun h m3 => .of (slice x l h m3) m3
  | .rev a, r, m => (evE X a r m).bind fun x m1 => .of ((lstOf m1 x).map fun xs => .lst xs.reverse) m1
  | .call f es, r, m => (evEs X es r m).bind fun ds m1 => X.call f ds m1
  | .make c f es, r, m => (evEs X es r m).bind fun ds m1 => (X.call f (.obj m1.length :: ds) (m1 ++ [.ins c []])).bind fun v m2 => (match v with
    | .non => .ok (.obj m1.length) m2
    | _ => .no)
  | .meth mn o es, r, m => (evE X o r m).bind fun x m1 => (match clsOf m1 x with
    | some (c, fs) => if fs.lookup mn = none then (match X.meth c mn with
      | some f => (evEs X es r m1).bind fun ds m2 => X.call f (x :: ds) m2
      | none => .no) else .no
    | none => .no)
  | .prim p es, r, m => (evEs X es r m).bind fun ds m1 => .of (prim p ds m1) m1
  | .isi a t, r, m => (evE X a r m).bind fun x m1 => .of ((isTy m1 x t).map .bl) m1
  | .list c a, r, m => (evE X a r m).bind fun x m1 => (match seqOf m1 x with
    | some ds => newL c ds m1
    | none => .no)
  | .listR c lo hi, r, m => (evE X lo r m).bind fun x m1 => (evE X hi r m1).bind fun y m2 => (match rangeS x y with
    | some ds => newL c ds m2
    | none => .no)
  | .tupR lo hi, r, m => (evE X lo r m).bind fun x m1 => (evE X hi r m1).bind fun y m2 => .of ((rangeS x y).map .tup) m2
  | .append o e, r, m => (evE X o r m).bind fun x m1 => if (lstOf m1 x).isSome = true then (evE X e r m1).bind fun y m2 => addTo x y m2 else .no
  | .index o e, r, m => (evE X o r m).bind fun x m1 => if (lstOf m1 x).isSome = true then (evE X e r m1).bind fun y m2 => .of (placeOf m2 x y) m2 else .no
  | .attr o f, r, m => (evE X o r m).bind fun x m1 => .of (fldOf m1 x f) m1
  | .comp c elt g it cond own, r, m => (evI X it r m).bind fun s m1 =>
      (compF s.guard (fun x m2 => (match bindG g x (wipe r own) with
        | some r2 => ((evT X cond r2 m2).bind fun k m3 => if k = true then (evE X elt r2 m3).bind fun y m4 => .ok (some y) m4 else .ok none m3).calm
        | none => .no)) s.items m1).bind fun ds m2 => newL c ds m2
  | .chn a c, r, m => (evE X a r m).bind fun x m1 => (evC X c x r m1).bind fun k m2 => .ok (.bl k) m2
noncomputable def evC (X : Fx) : Ch → D → Env → Mem → Res Bool
  | .last op e, x, r, m => (evE X e r m).bind fun y m1 => .of (cmp op x y m1) m1
  | .link op e c, x, r, m => (evE X e r m).bind fun y m1 => condR (cmp op x y m1) (evC X c y r m1) (.ok false m1)
noncomputable def evEs (X : Fx) : Es → Env → Mem → Res (List D)
  | .nil, _, m => .ok [] m
  | .cons e es, r, m => (evE X e r m).bind fun x m1 => (evEs X es r m1).bind fun xs m2 => .ok (x :: xs) m2
noncomputable def evO (X : Fx) : O → Env → Mem → Res (Option Int)
  | .none, _, m => .ok none m
  | .some e, r, m => (evE X e r m).bind fun x m1 => (match x with
    | .int i => .ok (some i) m1
    | _ => .no)
noncomputable def evT (X : Fx) : T → Env → Mem → Res Bool
  | .tru, _, m => .ok true m
  | .val e, r, m => (evE X e r m).bind fun x m1 => .of (truth m1 x) m1
  | .and a b, r, m => (evT X a r m).bind fun k m1 => if k = true then evT X b r m1 else .ok false m1
  | .or a b, r, m => (evT X a r m).bind fun k m1 => if k = true then .ok true m1 else evT X b r m1
  | .not a, r, m => (evT X a r m).bind fun k m1 => .ok (!k) m1
  | .cmp op a b, r, m => (evE X a r m).bind fun x m1 => (evE X b r m1).bind fun y m2 => .of (cmp op x y m2) m2
  | .chain op op2 a b c, r, m => (evE X a r m).bind fun x m1 => (evE X b r m1).bind fun y m2 => (match cmp op x y m2 with
    | some true => (evE X c r m2).bind fun z m3 => .of (cmp op2 y z m3) m3
    | some false => .ok false m2
    | none => .no)
  | .chn a c, r, m => (evE X a r m).bind fun x m1 => evC X c x r m1
noncomputable def evI (X : Fx) : I → Env → Mem → Res Src
  | .ex e, r, m => (evE X e r m).bind fun x m1 => .of (srcOf m1 x) m1
  | .range1 a, r, m => (evE X a r m).bind fun x m1 => .of ((rangeS (.int 0) x).map fun xs => ⟨xs, []⟩) m1
  | .range2 a b, r, m => (evE X a r m).bind fun x m1 => (evE X b r m1).bind fun y m2 => .of ((rangeS x y).map fun xs => ⟨xs, []⟩) m2
  | .enum e, r, m => (evE X e r m).bind fun x m1 => .of ((seqSrc m1 x).map fun s => ⟨enumL s.items, s.guard⟩) m1
  | .zip a b, r, m => (evE X a r m).bind fun x m1 => (evE X b r m1).bind fun y m2 => zipS x y m2
end
noncomputable def forF (g : List (Nat × List D)) (body : D → Env → Mem → Res (Flow × Env)) : List D → Env → Mem → Res (Flow × Env)
  | [], r, m => if still g m then .ok (.next, r) m else .no
  | x :: xs, r, m => if still g m then (body x r m).bind fun fr m1 => (match fr.1 with
    | .next => forF g body xs fr.2 m1
    | .cont => forF g body xs fr.2 m1
    | .brk => .ok (.next, fr.2) m1
    | .ret d => .ok (.ret d, fr.2) m1) else .no
def whileF (t : Env → Mem → Res Bool) (body : Env → Mem → Res (Flow × Env)) : Nat → Env → Mem → Res (Flow × Env)
  | 0, _, _ => .no
  | n + 1, r, m => (t r m).bind fun k m1 => if k = true then (body r m1).bind fun fr m2 => (match fr.1 with
    | .next => whileF t body n fr.2 m2
    | .cont => whileF t body n fr.2 m2
    | .brk => .ok (.next, fr.2) m2
    | .ret d => .ok (.ret d, fr.2) m2) else .ok (.next, r) m1
mutual
noncomputable def evS (X : Fx) : S → Env → Mem → Res (Flow × Env)
  | .pass, r, m => .ok (.next, r) m
  | .brk, r, m => .ok (.brk, r) m
  | .cont, r, m => .ok (.cont, r) m
  | .retN, r, m => .ok (.ret .non, r) m
  | .ret e, r, m => (evE X e r m).bind fun d m1 => .ok (.ret d, r) m1
  | .expr e, r, m => (evE X e r m).bind fun _ m1 => .ok (.next, r) m1
  | .asg g e, r, m => (evE X e r m).bind fun d m1 => (match bindG g d r with
    | some r' => .ok (.next, r') m1
    | none => .no)
  | .par2 i j a b, r, m => (evE X a r m).bind fun x m1 => (evE X b r m1).bind fun y m2 => if i < r.length ∧ j < r.length then .ok (.next, (r.set i (some x)).set j (some y)) m2 else .no
  | .par3 i j k a b c, r, m => (evE X a r m).bind fun x m1 => (evE X b r m1).bind fun y m2 => (evE X c r m2).bind fun z m3 => if i < r.length ∧ j < r.length ∧ k < r.length then .ok (.next, ((r.set i (some x)).set j (some y)).set k (some z)) m3 else .no
  | .aug i op e, r, m => (match r[i]? with
    | some (some x) => (evE X e r m).bind fun y m1 => (match bin op x y m1, x with
      | some z, .int _ => .ok (.next, r.set i (some z)) m1
      | some z, .str _ => .ok (.next, r.set i (some z)) m1
      | _, _ => .no)
    | _ => .no)
  | .setI o i e, r, m => (evE X e r m).bind fun v m1 => (evE X o r m1).bind fun x m2 => (evE X i r m2).bind fun y m3 => (match x, y with
    | .obj n, .int k => (match m3[n]? with
      | some (.lst xs) => (match place xs.length k with
        | some j => .ok (.next, r) (m3.set n (.lst (xs.set j v)))
        | none => .no)
      | _ => .no)
    | _, _ => .no)
  | .setF o f e, r, m => (evE X e r m).bind fun v m1 => (evE X o r m1).bind fun x m2 => (match x with
    | .obj n => (match m2[n]? with
      | some (.ins c fs) => if fs.length < 900 ∧ X.attr c f = true then .ok (.next, r) (m2.set n (.ins c (putD f v fs))) else .no
      | _ => .no)
    | _ => .no)
  | .augF o f e, r, m => (evE X o r m).bind fun x m1 => (match fldOf m1 x f with
    | some (.int i) => (evE X e r m1).bind fun y m2 => augTo m1 m2 x f i y r
    | _ => .no)
  | .ite t a b, r, m => (evT X t r m).bind fun k m1 => if k = true then evSs X a r m1 else evSs X b r m1
  | .loop g it body, r, m => (evI X it r m).bind fun s m1 => forF s.guard (fun x r2 m2 => (match bindG g x r2 with
    | some r3 => evSs X body r3 m2
    | none => .no)) s.items r m1
  | .while t body, r, m => whileF (evT X t) (evSs X body) X.turns r m
noncomputable def evSs (X : Fx) : Ss → Env → Mem → Res (Flow × Env)
  | .nil, r, m => .ok (.next, r) m
  | .cons s ss, r, m => (evS X s r m).bind fun fr m1 => (match fr.1 with
    | .next => evSs X ss fr.2 m1
    | f => .ok (f, fr.2) m1)
end

/-! ### defs -/
structure FDef where
  params : Nat
  slots : Nat
  body : Ss
  keep : Bool
/-! no cell from n on is named in it -/
mutual
def D.under (n : Nat) : D → Bool
  | .obj k => decide (k < n)
  | .tup xs => D.unders n xs
  | .lst xs => D.unders n xs
  | .scr xs => D.unders n xs
  | _ => true
def D.unders (n : Nat) : List D → Bool
  | [] => true
  | x :: xs => D.under n x && D.unders n xs
end
def Cell.under (n : Nat) : Cell → Bool
  | .lst xs => D.unders n xs
  | .ins _ fs => fs.all fun p => D.under n p.2
/-- the cells from n on as values -/
def frzCell (n : Nat) (m : Mem) (k : Nat) : Option D := match m[k]? with
  | some (.lst xs) => if D.unders n xs then some (.lst xs) else none
  | _ => none
mutual
def D.frz (n : Nat) (m : Mem) : D → Option D
  | .obj k => if k < n then some (.obj k) else frzCell n m k
  | .tup xs => (D.frzs n m xs).map .tup
  | .lst xs => (D.frzs n m xs).map .lst
  | .scr xs => none
  | d => some d
def D.frzs (n : Nat) (m : Mem) : List D → Option (List D)
  | [] => some []
  | x :: xs => (D.frz n m x).bind fun y => (D.frzs n m xs).map (y :: ·)
end
def finish (keep : Bool) (n : Nat) (d : D) (m : Mem) : Res D :=
  if keep then .ok d m
  else if m.length = n then .ok d m
  else if (m.take n).all (Cell.under n) then (match D.frz n m d with
    | some d' => .ok d' (m.take n)
    | none => .no)
  else .no
def startD (f : FDef) (as : List D) : Env := as.map some ++ List.replicate (f.slots - f.params) none
noncomputable def runF (X : Fx) (f : FDef) (as : List D) (m : Mem) : Res D :=
  if as.length = f.params then (match evSs X f.body (startD f as) m with
    | .ok (.ret d, _) m1 => finish f.keep m.length d m1
    | .ok (.next, _) m1 => finish f.keep m.length .non m1
    | .ok _ _ => .no
    | .ex c m1 => .ex c (m1.take m.length)
    | .no => .no)
  else .no
structure Prg where
  defs : List FDef
  meths : List ((Str × Str) × Nat)
  attrs : List (Str × Str)
noncomputable def callF (P : Prg) (turns : Nat) : Nat → Nat → List D → Mem → Res D
  | 0, _, _, _ => .no
  | k + 1, i, as, m => (match P.defs[i]? with
    | some f => runF ⟨callF P turns k, fun c x => P.meths.lookup (c, x), fun c x => P.attrs.contains (c, x), turns⟩ f as m
    | none => .no)
end Rf
namespace Rf
open PySem PySem.Spec PyProof.Rows L2
/-- where the cells lie; which addresses may change -/
structure Sg where
  φ : Nat → Option Addr
  R : Addr → Prop
abbrev Fr' := PySem.W.Frag
def ScL (K : Fr') (H : Hp) (a : Addr) (xs : List V) : Prop := (∃ o, H a = some (.frz o (.lst xs))) ∨
    ∃ (o : Obj) (its : Array Value) (n : Nat), K.lookup a = some o ∧ o.cls = .type "list" ∧ o.dict = none ∧ o.data = .seq its n ∧ its.size ≤ sizeLine ∧ Vals xs its.toList
theorem ScL.sql {K : Fr'} {H : Hp} {a : Addr} {xs : List V} (h : ScL K H a xs) : SqL K H a xs := by
  rcases h with ⟨o, h⟩ | h
  · exact .inl (.inr ⟨o, h⟩)
  · exact .inr h
mutual
def Rep (K : Fr') (g : Sg) (H : Hp) : D → V → Prop
  | .non, v => v = .non
  | .bl b, v => v = .bl b
  | .int i, v => v = .int i
  | .str s, v => v = .str s
  | .tup ds, v => ∃ a vs, v = .ref a ∧ SqT K H a vs ∧ ds.length ≤ sizeLine ∧ Reps K g H ds vs
  | .lst ds, v => ∃ a vs, v = .ref a ∧ H a = some (.lst vs) ∧ ¬ g.R a ∧ ds.length ≤ sizeLine ∧ Reps K g H ds vs
  | .obj n, v => ∃ a, v = .ref a ∧ g.φ n = some a
  | .scr ds, v => ∃ a vs, v = .ref a ∧ ScL K H a vs ∧ ds.length ≤ sizeLine ∧ Reps K g H ds vs
def Reps (K : Fr') (g : Sg) (H : Hp) : List D → List V → Prop
  | [], vs => vs = []
  | d :: ds, vs => ∃ v r, vs = v :: r ∧ Rep K g H d v ∧ Reps K g H ds r
end
def Flds (K : Fr') (g : Sg) (H : Hp) : List (Str × D) → List (Str × V) → Prop
  | [], vs => vs = []
  | p :: ps, vs => ∃ v r, vs = (p.1, v) :: r ∧ Rep K g H p.2 v ∧ Flds K g H ps r
def CellOk (K : Fr') (g : Sg) (H : Hp) : Cell → Addr → Prop
  | .lst xs, a => ∃ vs, H a = some (.lst vs) ∧ xs.length ≤ sizeLine ∧ Reps K g H xs vs
  | .ins c fs, a => ∃ dx vfs, H a = some (.ins (He.ga K c) dx vfs) ∧ Flds K g H fs vfs ∧ Cls K (He.ga K c) ∧ ∀ p ∈ fs, NoAttr K (He.ga K c) p.1
structure Rel (K : Fr') (g : Sg) (H : Hp) (M : Mem) : Prop where
  out : ∀ n, M.length ≤ n → g.φ n = none
  cell : ∀ n c, M[n]? = some c → ∃ a, g.φ n = some a ∧ g.R a ∧ CellOk K g H c a
  inj : ∀ n k a, g.φ n = some a → g.φ k = some a → n = k
  res : ∀ a, g.R a → H a ≠ none
/-- what data says stays true -/
structure Tq (g : Sg) (H : Hp) (g' : Sg) (H' : Hp) : Prop where
  tup : ∀ a xs, H a = some (.tup xs) → H' a = some (.tup xs)
  frz : ∀ a o u, H a = some (.frz o u) → H' a = some (.frz o u)
  lst : ∀ a xs, H a = some (.lst xs) → ¬ g.R a → H' a = some (.lst xs) ∧ ¬ g'.R a
  obj : ∀ n a, g.φ n = some a → g'.φ n = some a
/-- .. and what is set apart is left alone -/
structure Tr (g : Sg) (H : Hp) (g' : Sg) (H' : Hp) : Prop extends Tq g H g' H' where
  held : ∀ a o, g.R a → (∀ n, g.φ n ≠ some a) → H a = some o → H' a = some o ∧ g'.R a ∧ ∀ n, g'.φ n ≠ some a
theorem Tq.refl (g : Sg) (H : Hp) : Tq g H g H := ⟨fun _ _ h => h, fun _ _ _ h => h, fun _ _ h r => ⟨h, r⟩, fun _ _ h => h⟩
theorem Tq.trans {g g1 g2 : Sg} {H H1 H2 : Hp} (a : Tq g H g1 H1) (b : Tq g1 H1 g2 H2) : Tq g H g2 H2 :=
  ⟨fun x xs h => b.tup x xs (a.tup x xs h), fun x o u h => b.frz x o u (a.frz x o u h), fun x xs h r => let ⟨h1, r1⟩ := a.lst x xs h r; b.lst x xs h1 r1,
    fun n x h => b.obj n x (a.obj n x h)⟩
theorem Tr.refl (g : Sg) (H : Hp) : Tr g H g H := ⟨.refl g H, fun _ _ r n h => ⟨h, r, n⟩⟩
theorem Tr.trans {g g1 g2 : Sg} {H H1 H2 : Hp} (a : Tr g H g1 H1) (b : Tr g1 H1 g2 H2) : Tr g H g2 H2 :=
  ⟨a.toTq.trans b.toTq, fun x o r n h => let ⟨h1, r1, n1⟩ := a.held x o r n h; b.held x o r1 n1 h1⟩
theorem Tq.sqt {K : Fr'} {g g' : Sg} {H H' : Hp} (t : Tq g H g' H') {a : Addr} {xs : List V} (h : SqT K H a xs) : SqT K H' a xs := by
  rcases h with (h | ⟨o, h⟩) | h
  · exact .inl (.inl (t.tup _ _ h))
  · exact .inl (.inr ⟨o, t.frz _ _ _ h⟩)
  · exact .inr h
theorem Tq.scl {K : Fr'} {g g' : Sg} {H H' : Hp} (t : Tq g H g' H') {a : Addr} {xs : List V} (h : ScL K H a xs) : ScL K H' a xs := by
  rcases h with ⟨o, h⟩ | h
  · exact .inl ⟨o, t.frz _ _ _ h⟩
  · exact .inr h
section
variable {K : Fr'} {g g' : Sg} {H H' : Hp}
mutual
theorem Rep.tr (t : Tq g H g' H') : ∀ {d : D} {v : V}, Rep K g H d v → Rep K g' H' d v
  | .non, _, h => h
  | .bl _, _, h => h
  | .int _, _, h => h
  | .str _, _, h => h
  | .tup ds, v, h => by
    unfold Rep at h ⊢
    obtain ⟨a, vs, e, h1, h2, h3⟩ := h
    exact ⟨a, vs, e, t.sqt h1, h2, Reps.tr t h3⟩
  | .lst ds, v, h => by
    unfold Rep at h ⊢
    obtain ⟨a, vs, e, h1, h2, h3, h4⟩ := h
    obtain ⟨k1, k2⟩ := t.lst a vs h1 h2
    exact ⟨a, vs, e, k1, k2, h3, Reps.tr t h4⟩
  | .obj n, v, h => by
    unfold Rep at h ⊢
    obtain ⟨a, e, h1⟩ := h
    exact ⟨a, e, t.obj n a h1⟩
  | .scr ds, v, h => by
    unfold Rep at h ⊢
    obtain ⟨a, vs, e, h1, h2, h3⟩ := h
    exact ⟨a, vs, e, t.scl h1, h2, Reps.tr t h3⟩
theorem Reps.tr (t : Tq g H g' H') : ∀ {ds : List D} {vs : List V}, Reps K g H ds vs → Reps K g' H' ds vs
  | [], _, h => h
  | d :: ds, vs, h => by
    unfold Reps at h ⊢
    obtain ⟨v, r, e, h1, h2⟩ := h
    exact ⟨v, r, e, Rep.tr t h1, Reps.tr t h2⟩
end
theorem Flds.tr (t : Tq g H g' H') : ∀ {fs : List (Str × D)} {vs : List (Str × V)}, Flds K g H fs vs → Flds K g' H' fs vs
  | [], _, h => h
  | p :: ps, vs, h => by
    unfold Flds at h ⊢
    obtain ⟨v, r, e, h1, h2⟩ := h
    exact ⟨v, r, e, Rep.tr t h1, Flds.tr t h2⟩
theorem Reps.nil_iff {vs : List V} : Reps K g H [] vs ↔ vs = [] := by unfold Reps; exact Iff.rfl
theorem Reps.cons_iff {d : D} {ds : List D} {vs : List V} : Reps K g H (d :: ds) vs ↔ ∃ v r, vs = v :: r ∧ Rep K g H d v ∧ Reps K g H ds r := by rw [Reps]
theorem Reps.nil : Reps K g H [] [] := Reps.nil_iff.mpr rfl
theorem Reps.cons {d : D} {ds : List D} {v : V} {vs : List V} (h : Rep K g H d v) (hs : Reps K g H ds vs) : Reps K g H (d :: ds) (v :: vs) := Reps.cons_iff.mpr ⟨v, vs, rfl, h, hs⟩
theorem Reps.length : ∀ {ds : List D} {vs : List V}, Reps K g H ds vs → vs.length = ds.length
  | [], vs, h => by rw [Reps.nil_iff] at h; rw [h]; rfl
  | d :: ds, vs, h => by
    obtain ⟨v, r, e, _, h2⟩ := Reps.cons_iff.mp h
    rw [e, List.length_cons, List.length_cons, Reps.length h2]
theorem Reps.get : ∀ {ds : List D} {vs : List V} {i : Nat} {d : D}, Reps K g H ds vs → ds[i]? = some d → ∃ v, vs[i]? = some v ∧ Rep K g H d v
  | [], _, i, _, _, e => by simp at e
  | d :: ds, vs, i, x, h, e => by
    obtain ⟨v, r, e1, h1, h2⟩ := Reps.cons_iff.mp h
    subst e1
    cases i with
    | zero =>
      have e' : d = x := by simpa using e
      subst e'
      exact ⟨v, rfl, h1⟩
    | succ i =>
      have e' : ds[i]? = some x := by simpa using e
      obtain ⟨w, q1, q2⟩ := Reps.get h2 e'
      exact ⟨w, by simpa using q1, q2⟩
theorem Reps.get' : ∀ {ds : List D} {vs : List V} {i : Nat} {v : V}, Reps K g H ds vs → vs[i]? = some v → ∃ d, ds[i]? = some d ∧ Rep K g H d v
  | [], vs, i, _, h, e => by rw [Reps.nil_iff] at h; subst h; simp at e
  | d :: ds, vs, i, x, h, e => by
    obtain ⟨v, r, e1, h1, h2⟩ := Reps.cons_iff.mp h
    subst e1
    cases i with
    | zero =>
      have e' : v = x := by simpa using e
      subst e'
      exact ⟨d, rfl, h1⟩
    | succ i =>
      have e' : r[i]? = some x := by simpa using e
      obtain ⟨w, q1, q2⟩ := Reps.get' h2 e'
      exact ⟨w, by simpa using q1, q2⟩
theorem Reps.append : ∀ {xs ys : List D} {vs ws : List V}, Reps K g H xs vs → Reps K g H ys ws → Reps K g H (xs ++ ys) (vs ++ ws)
  | [], _, _, _, h, h' => by rw [Reps.nil_iff] at h; subst h; exact h'
  | d :: ds, _, vs, _, h, h' => by
    obtain ⟨v, r, e1, h1, h2⟩ := Reps.cons_iff.mp h
    subst e1
    exact .cons h1 (Reps.append h2 h')
theorem Reps.take : ∀ {ds : List D} {vs : List V} (n : Nat), Reps K g H ds vs → Reps K g H (ds.take n) (vs.take n)
  | _, _, 0, _ => .nil
  | [], vs, n + 1, h => by rw [Reps.nil_iff] at h; subst h; exact .nil
  | d :: ds, vs, n + 1, h => by
    obtain ⟨v, r, e1, h1, h2⟩ := Reps.cons_iff.mp h
    subst e1
    exact .cons h1 (Reps.take n h2)
theorem Reps.drop : ∀ {ds : List D} {vs : List V} (n : Nat), Reps K g H ds vs → Reps K g H (ds.drop n) (vs.drop n)
  | _, _, 0, h => h
  | [], vs, n + 1, h => by rw [Reps.nil_iff] at h; subst h; exact .nil
  | d :: ds, vs, n + 1, h => by
    obtain ⟨v, r, e1, h1, h2⟩ := Reps.cons_iff.mp h
    subst e1
    exact Reps.drop n h2
theorem Reps.reverse : ∀ {ds : List D} {vs : List V}, Reps K g H ds vs → Reps K g H ds.reverse vs.reverse
  | [], vs, h => by rw [Reps.nil_iff] at h; subst h; exact .nil
  | d :: ds, vs, h => by
    obtain ⟨v, r, e1, h1, h2⟩ := Reps.cons_iff.mp h
    subst e1
    rw [List.reverse_cons, List.reverse_cons]
    exact (Reps.reverse h2).append (.cons h1 .nil)
theorem Reps.set {d : D} {v : V} (hd : Rep K g H d v) : ∀ {ds : List D} {vs : List V} (n : Nat), Reps K g H ds vs → Reps K g H (ds.set n d) (vs.set n v)
  | [], vs, n, h => by rw [Reps.nil_iff] at h; subst h; exact .nil
  | x :: ds, vs, n, h => by
    obtain ⟨w, r, e1, h1, h2⟩ := Reps.cons_iff.mp h
    subst e1
    cases n with
    | zero => exact .cons hd h2
    | succ n => exact .cons h1 (Reps.set hd n h2)
theorem Reps.flat {ds : List D} {vs : List V} (h : Reps K g H ds vs) : ∀ n : Nat, Reps K g H (List.replicate n ds).flatten (List.replicate n vs).flatten
  | 0 => .nil
  | n + 1 => by
    rw [List.replicate_succ, List.replicate_succ, List.flatten_cons, List.flatten_cons]
    exact h.append (Reps.flat h n)
theorem Flds.nil : Flds K g H [] [] := by unfold Flds; rfl
theorem Flds.look {f : Str} : ∀ {fs : List (Str × D)} {vs : List (Str × V)}, Flds K g H fs vs → (fs.lookup f = none → vs.lookup f = none) ∧ ∀ d, fs.lookup f = some d → ∃ v, vs.lookup f = some v ∧ Rep K g H d v
  | [], vs, h => by
    unfold Flds at h; subst h
    exact ⟨fun _ => rfl, fun _ e => nomatch e⟩
  | (k, d) :: ps, vs, h => by
    unfold Flds at h
    obtain ⟨v, r, e, h1, h2⟩ := h
    subst e
    have ih := Flds.look (f := f) h2
    cases hb : (f == k) with
    | true =>
      simp only [List.lookup_cons, hb]
      exact ⟨fun e => (nomatch e), fun x e => by cases e; exact ⟨v, rfl, h1⟩⟩
    | false =>
      simp only [List.lookup_cons, hb]
      exact ih
theorem Flds.length : ∀ {fs : List (Str × D)} {vs : List (Str × V)}, Flds K g H fs vs → vs.length = fs.length
  | [], vs, h => by unfold Flds at h; subst h; rfl
  | p :: ps, vs, h => by
    unfold Flds at h
    obtain ⟨v, r, e, h1, h2⟩ := h
    subst e
    rw [List.length_cons, List.length_cons, Flds.length h2]
theorem Flds.put {f : Str} {d : D} {v : V} (hd : Rep K g H d v) : ∀ {fs : List (Str × D)} {vs : List (Str × V)}, Flds K g H fs vs → Flds K g H (putD f d fs) (putF f v vs)
  | [], vs, h => by
    unfold Flds at h; subst h
    unfold putD putF Flds
    exact ⟨v, [], rfl, hd, by unfold Flds; rfl⟩
  | (k, x) :: ps, vs, h => by
    unfold Flds at h
    obtain ⟨w, r, e, h1, h2⟩ := h
    subst e
    unfold putD putF
    by_cases hk : k = f
    · simp only [hk, if_pos]
      unfold Flds
      exact ⟨v, r, rfl, hd, h2⟩
    · simp only [if_neg hk]
      unfold Flds
      exact ⟨w, _, rfl, h1, Flds.put hd h2⟩
theorem Flds.keys {f : Str} {d : D} : ∀ {fs : List (Str × D)} {p : Str × D}, p ∈ putD f d fs → p.1 = f ∨ ∃ q ∈ fs, q.1 = p.1
  | [], p, h => by
    unfold putD at h
    have e : p = (f, d) := by simpa using h
    exact .inl (by rw [e])
  | (k, x) :: ps, p, h => by
    unfold putD at h
    split at h
    · rcases List.mem_cons.mp h with e | h
      · exact .inr ⟨(k, x), List.mem_cons_self, by rw [e]⟩
      · exact .inr ⟨p, List.mem_cons_of_mem _ h, rfl⟩
    · rcases List.mem_cons.mp h with e | h
      · exact .inr ⟨(k, x), List.mem_cons_self, by rw [e]⟩
      · rcases Flds.keys h with e | ⟨q, hq, e⟩
        · exact .inl e
        · exact .inr ⟨q, List.mem_cons_of_mem _ hq, e⟩
/-! ### changes of the heap -/
theorem Tr.new {p : Addr} {o : HO} (n : H p = none) : Tr g H g (upd H p o) := by
  have ne : ∀ {a u}, H a = some u → a ≠ p := fun e q => by rw [q, n] at e; cases e
  exact ⟨⟨fun a xs h => by rw [upd_ne (ne h)]; exact h, fun a o u h => by rw [upd_ne (ne h)]; exact h, fun a xs h r => ⟨by rw [upd_ne (ne h)]; exact h, r⟩, fun _ _ h => h⟩,
    fun a o r m h => ⟨by rw [upd_ne (ne h)]; exact h, r, m⟩⟩
theorem CellOk.at {c : Cell} {a : Addr} (t : Tq g H g' H') (e : H' a = H a) (h : CellOk K g H c a) : CellOk K g' H' c a := by
  cases c with
  | lst xs =>
    obtain ⟨vs, h1, h2, h3⟩ := h
    exact ⟨vs, by rw [e]; exact h1, h2, h3.tr t⟩
  | ins c fs =>
    obtain ⟨dx, vfs, h1, h2, h3⟩ := h
    exact ⟨dx, vfs, by rw [e]; exact h1, h2.tr t, h3⟩
theorem CellOk.some {c : Cell} {a : Addr} (h : CellOk K g H c a) : ∃ o, H a = Option.some o := by
  cases c with
  | lst xs =>
    obtain ⟨vs, h1, _⟩ := h
    exact ⟨_, h1⟩
  | ins c fs =>
    obtain ⟨dx, vfs, h1, _⟩ := h
    exact ⟨_, h1⟩
theorem Rel.new {M : Mem} {p : Addr} {o : HO} (r : Rel K g H M) (n : H p = none) : Rel K g (upd H p o) M := by
  refine ⟨r.out, fun k c e => ?_, r.inj, fun a ha => ?_⟩
  · obtain ⟨a, h1, h2, h3⟩ := r.cell k c e
    obtain ⟨u, hu⟩ := h3.some
    exact ⟨a, h1, h2, h3.at (Tr.new n).toTq (upd_ne (ne_of_none hu n))⟩
  · by_cases e : a = p
    · rw [e, upd_same]; intro z; cases z
    · rw [upd_ne e]; exact r.res a ha
theorem Rel.apart {M : Mem} {p : Addr} (r : Rel K g H M) (n : H p = none) : ¬ g.R p := fun h => r.res p h n
/-- a new list as a value -/
theorem Rel.newLst {M : Mem} {p : Addr} {ds : List D} {vs : List V} (r : Rel K g H M) (n : H p = none) (hz : ds.length ≤ sizeLine) (h : Reps K g H ds vs) : Rep K g (upd H p (.lst vs)) (.lst ds) (.ref p) := by
  unfold Rep
  exact ⟨p, vs, rfl, upd_same, r.apart n, hz, h.tr (Tr.new n).toTq⟩
theorem newTup {p : Addr} {ds : List D} {vs : List V} (n : H p = none) (hz : ds.length ≤ sizeLine) (h : Reps K g H ds vs) : Rep K g (upd H p (.tup vs)) (.tup ds) (.ref p) := by
  unfold Rep
  exact ⟨p, vs, rfl, .inl (.inl upd_same), hz, h.tr (Tr.new n).toTq⟩
/-- the address p as the next cell -/
def Sg.grow (g : Sg) (n : Nat) (p : Addr) : Sg := ⟨fun k => if k = n then some p else g.φ k, fun a => g.R a ∨ a = p⟩
theorem Sg.grow_at {n : Nat} {p : Addr} : (g.grow n p).φ n = some p := if_pos rfl
theorem Sg.grow_ne {n k : Nat} {p : Addr} (h : k ≠ n) : (g.grow n p).φ k = g.φ k := if_neg h
theorem Tr.grow {M : Mem} {p : Addr} {o : HO} (r : Rel K g H M) (n : H p = none) : Tr g H (g.grow M.length p) (upd H p o) := by
  have ne : ∀ {a u}, H a = some u → a ≠ p := fun e q => by rw [q, n] at e; cases e
  refine ⟨⟨fun a xs h => by rw [upd_ne (ne h)]; exact h, fun a o u h => by rw [upd_ne (ne h)]; exact h, fun a xs h hr => ⟨by rw [upd_ne (ne h)]; exact h, fun z => ?_⟩, fun k a h => ?_⟩,
    fun a o hr m h => ⟨by rw [upd_ne (ne h)]; exact h, .inl hr, fun k => ?_⟩⟩
  · rcases z with z | z
    · exact hr z
    · exact ne h z
  · have hk : k ≠ M.length := fun e => by rw [e, r.out _ (Nat.le_refl _)] at h; cases h
    rw [Sg.grow_ne hk]; exact h
  · by_cases hk : k = M.length
    · rw [hk, Sg.grow_at]; intro z; exact ne h (Option.some.inj z).symm
    · rw [Sg.grow_ne hk]; exact m k
theorem Rel.grow {M : Mem} {p : Addr} {o : HO} {c : Cell} (r : Rel K g H M) (n : H p = none) (h : CellOk K (g.grow M.length p) (upd H p o) c p) : Rel K (g.grow M.length p) (upd H p o) (M ++ [c]) := by
  have t : Tr g H (g.grow M.length p) (upd H p o) := .grow r n
  refine ⟨fun k hk => ?_, fun k c' e => ?_, fun k1 k2 a e1 e2 => ?_, fun a ha => ?_⟩
  · rw [List.length_append, List.length_singleton] at hk
    rw [Sg.grow_ne (by omega)]
    exact r.out k (by omega)
  · by_cases hk : k = M.length
    · subst hk
      rw [List.getElem?_append_right (Nat.le_refl _)] at e
      have ec : c = c' := by simpa using e
      subst ec
      exact ⟨p, Sg.grow_at, .inr rfl, h⟩
    · have hlt : k < M.length := by
        have := (List.getElem?_eq_some_iff.mp e).1
        rw [List.length_append, List.length_singleton] at this
        omega
      rw [List.getElem?_append_left hlt] at e
      obtain ⟨a, h1, h2, h3⟩ := r.cell k c' e
      obtain ⟨u, hu⟩ := h3.some
      exact ⟨a, by rw [Sg.grow_ne hk]; exact h1, .inl h2, h3.at t.toTq (upd_ne (ne_of_none hu n))⟩
  · have noP : ∀ k, g.φ k = some p → False := fun k e => by
      by_cases hk : k < M.length
      · obtain ⟨a, h1, _, h3⟩ := r.cell k M[k] (List.getElem?_eq_getElem hk)
        obtain ⟨u, hu⟩ := h3.some
        rw [e] at h1
        cases h1
        rw [n] at hu
        cases hu
      · rw [r.out k (by omega)] at e
        cases e
    by_cases h1 : k1 = M.length
    · by_cases h2 : k2 = M.length
      · rw [h1, h2]
      · rw [h1, Sg.grow_at] at e1
        rw [Sg.grow_ne h2] at e2
        cases e1
        exact (noP _ e2).elim
    · rw [Sg.grow_ne h1] at e1
      by_cases h2 : k2 = M.length
      · rw [h2, Sg.grow_at] at e2
        cases e2
        exact (noP _ e1).elim
      · rw [Sg.grow_ne h2] at e2
        exact r.inj k1 k2 a e1 e2
  · by_cases e : a = p
    · rw [e, upd_same]; intro z; cases z
    · rw [upd_ne e]
      rcases ha with ha | ha
      · exact r.res a ha
      · exact (e ha).elim
/-- a cell is written -/
theorem Tr.poke {M : Mem} {n : Nat} {c : Cell} {a : Addr} {o : HO} (_ : Rel K g H M) (hn : g.φ n = some a) (hr : g.R a) (hc : CellOk K g H c a) : Tr g H g (upd H a o) := by
  have nt : ∀ {b xs}, H b = some (.tup xs) → b ≠ a := fun e q => by
    subst q
    cases c with
    | lst xs => obtain ⟨vs, h1, _⟩ := hc; rw [e] at h1; cases h1
    | ins c fs => obtain ⟨dx, vfs, h1, _⟩ := hc; rw [e] at h1; cases h1
  have nf : ∀ {b ob u}, H b = some (.frz ob u) → b ≠ a := fun e q => by
    subst q
    cases c with
    | lst xs => obtain ⟨vs, h1, _⟩ := hc; rw [e] at h1; cases h1
    | ins c fs => obtain ⟨dx, vfs, h1, _⟩ := hc; rw [e] at h1; cases h1
  refine ⟨⟨fun b xs h => by rw [upd_ne (nt h)]; exact h, fun b o u h => by rw [upd_ne (nf h)]; exact h, fun b xs h r => ⟨?_, r⟩, fun _ _ h => h⟩, fun b o r m h => ⟨?_, r, m⟩⟩
  · rw [upd_ne (show b ≠ a from fun q => r (q ▸ hr))]; exact h
  · rw [upd_ne (show b ≠ a from fun q => m n (q ▸ hn))]; exact h
theorem Rel.poke {M : Mem} {n : Nat} {c c' : Cell} {a : Addr} {o : HO} (r : Rel K g H M) (hn : g.φ n = some a) (hr : g.R a) (hc : CellOk K g H c a) (h : CellOk K g (upd H a o) c' a) : Rel K g (upd H a o) (M.set n c') := by
  have t : Tr g H g (upd H a o) := .poke r hn hr hc
  refine ⟨fun k hk => r.out k (by rw [List.length_set] at hk; exact hk), fun k d e => ?_, r.inj, fun b hb => ?_⟩
  · by_cases hk : k = n
    · subst hk
      have hlt : k < M.length := by
        have := (List.getElem?_eq_some_iff.mp e).1
        rw [List.length_set] at this
        exact this
      rw [List.getElem?_set_self hlt] at e
      cases e
      exact ⟨a, hn, hr, h⟩
    · rw [List.getElem?_set_ne (Ne.symm hk)] at e
      obtain ⟨b, h1, h2, h3⟩ := r.cell k d e
      have hb : b ≠ a := fun q => hk (r.inj k n a (q ▸ h1) hn)
      exact ⟨b, h1, h2, h3.at t.toTq (upd_ne hb)⟩
  · by_cases e : b = a
    · rw [e, upd_same]; intro z; cases z
    · rw [upd_ne e]; exact r.res b hb
/-! ### a list in the making -/
def Sg.hold (g : Sg) (p : Addr) : Sg := ⟨g.φ, fun a => g.R a ∨ a = p⟩
def Sg.drop (g : Sg) (p : Addr) : Sg := ⟨g.φ, fun a => g.R a ∧ a ≠ p⟩
theorem Tr.hold {p : Addr} {o : HO} (n : H p = none) : Tr g H (g.hold p) (upd H p o) := by
  have ne : ∀ {a u}, H a = some u → a ≠ p := fun e q => by rw [q, n] at e; cases e
  refine ⟨⟨fun a xs h => by rw [upd_ne (ne h)]; exact h, fun a o u h => by rw [upd_ne (ne h)]; exact h, fun a xs h hr => ⟨by rw [upd_ne (ne h)]; exact h, fun z => ?_⟩, fun k a h => h⟩,
    fun a o hr m h => ⟨by rw [upd_ne (ne h)]; exact h, .inl hr, m⟩⟩
  rcases z with z | z
  · exact hr z
  · exact ne h z
theorem Rel.noP {M : Mem} {p : Addr} (r : Rel K g H M) (n : H p = none) : ∀ k, g.φ k ≠ some p := fun k e => by
  by_cases hk : k < M.length
  · obtain ⟨a, h1, _, h3⟩ := r.cell k M[k] (List.getElem?_eq_getElem hk)
    obtain ⟨u, hu⟩ := h3.some
    rw [e] at h1
    cases h1
    rw [n] at hu
    cases hu
  · rw [r.out k (by omega)] at e
    cases e
theorem Rel.hold {M : Mem} {p : Addr} {o : HO} (r : Rel K g H M) (n : H p = none) : Rel K (g.hold p) (upd H p o) M := by
  refine ⟨r.out, fun k c e => ?_, r.inj, fun a ha => ?_⟩
  · obtain ⟨a, h1, h2, h3⟩ := r.cell k c e
    obtain ⟨u, hu⟩ := h3.some
    exact ⟨a, h1, .inl h2, h3.at (Tr.hold n).toTq (upd_ne (ne_of_none hu n))⟩
  · by_cases e : a = p
    · rw [e, upd_same]; intro z; cases z
    · rw [upd_ne e]
      rcases ha with ha | ha
      · exact r.res a ha
      · exact (e ha).elim
/-- the list at p grows: what data says stays -/
theorem Tq.add {p : Addr} {xs : List V} {o : HO} (hr : g.R p) (hp : H p = some (.lst xs)) : Tq g H g (upd H p o) := by
  refine ⟨fun b ys h => ?_, fun b o u h => ?_, fun b ys h r => ⟨?_, r⟩, fun _ _ h => h⟩
  · rw [upd_ne (fun q => by rw [q, hp] at h; cases h)]; exact h
  · rw [upd_ne (fun q => by rw [q, hp] at h; cases h)]; exact h
  · rw [upd_ne (show b ≠ p from fun q => r (q ▸ hr))]; exact h
theorem Tr.add {g0 : Sg} {H0 : Hp} {p : Addr} {xs : List V} {o : HO} (t : Tr g0 H0 g H) (n : H0 p = none) (hr : g.R p) (hp : H p = some (.lst xs)) : Tr g0 H0 g (upd H p o) := by
  refine ⟨t.toTq.trans (.add hr hp), fun a u r m h => ?_⟩
  obtain ⟨h1, h2, h3⟩ := t.held a u r m h
  exact ⟨by rw [upd_ne (ne_of_none h n)]; exact h1, h2, h3⟩
theorem Rel.add {M : Mem} {p : Addr} {xs : List V} {o : HO} (r : Rel K g H M) (hr : g.R p) (hp : H p = some (.lst xs)) (hm : ∀ n, g.φ n ≠ some p) : Rel K g (upd H p o) M := by
  refine ⟨r.out, fun k c e => ?_, r.inj, fun a ha => ?_⟩
  · obtain ⟨a, h1, h2, h3⟩ := r.cell k c e
    exact ⟨a, h1, h2, h3.at (.add hr hp) (upd_ne (fun q => hm k (q ▸ h1)))⟩
  · by_cases e : a = p
    · rw [e, upd_same]; intro z; cases z
    · rw [upd_ne e]; exact r.res a ha
theorem Tq.drop {p : Addr} : Tq g H (g.drop p) H := ⟨fun _ _ h => h, fun _ _ _ h => h, fun _ _ h r => ⟨h, fun z => r z.1⟩, fun _ _ h => h⟩
theorem Tr.drop {g0 : Sg} {H0 : Hp} {p : Addr} (t : Tr g0 H0 g H) (n : H0 p = none) : Tr g0 H0 (g.drop p) H := by
  refine ⟨t.toTq.trans .drop, fun a u r m h => ?_⟩
  obtain ⟨h1, h2, h3⟩ := t.held a u r m h
  exact ⟨h1, ⟨h2, ne_of_none h n⟩, h3⟩
theorem Rel.drop {M : Mem} {p : Addr} (r : Rel K g H M) (hm : ∀ n, g.φ n ≠ some p) : Rel K (g.drop p) H M := by
  refine ⟨r.out, fun k c e => ?_, r.inj, fun a ha => r.res a ha.1⟩
  obtain ⟨a, h1, h2, h3⟩ := r.cell k c e
  exact ⟨a, h1, ⟨h2, fun q => hm k (q ▸ h1)⟩, h3.at .drop rfl⟩
/-- the list that was in the making becomes the next cell -/
theorem Tq.lift {M : Mem} {p : Addr} (r : Rel K g H M) (hr : g.R p) : Tq g H (g.grow M.length p) H := by
  refine ⟨fun _ _ h => h, fun _ _ _ h => h, fun a xs h hn => ⟨h, fun z => ?_⟩, fun k a h => ?_⟩
  · rcases z with z | z
    · exact hn z
    · exact hn (z ▸ hr)
  · have hk : k ≠ M.length := fun e => by rw [e, r.out _ (Nat.le_refl _)] at h; cases h
    rw [Sg.grow_ne hk]; exact h
theorem Tr.lift {M : Mem} {g0 : Sg} {H0 : Hp} {p : Addr} (t : Tr g0 H0 g H) (n : H0 p = none) (r : Rel K g H M) (hr : g.R p) : Tr g0 H0 (g.grow M.length p) H := by
  refine ⟨t.toTq.trans (.lift r hr), fun a u r' m h => ?_⟩
  obtain ⟨h1, h2, h3⟩ := t.held a u r' m h
  refine ⟨h1, .inl h2, fun k => ?_⟩
  by_cases hk : k = M.length
  · rw [hk, Sg.grow_at]; intro z; exact ne_of_none h n (Option.some.inj z).symm
  · rw [Sg.grow_ne hk]; exact h3 k
theorem Rel.lift {M : Mem} {p : Addr} {c : Cell} (r : Rel K g H M) (hr : g.R p) (hm : ∀ n, g.φ n ≠ some p) (h : CellOk K g H c p) : Rel K (g.grow M.length p) H (M ++ [c]) := by
  have t : Tq g H (g.grow M.length p) H := .lift r hr
  refine ⟨fun k hk => ?_, fun k c' e => ?_, fun k1 k2 a e1 e2 => ?_, fun a ha => ?_⟩
  · rw [List.length_append, List.length_singleton] at hk
    rw [Sg.grow_ne (by omega)]
    exact r.out k (by omega)
  · by_cases hk : k = M.length
    · subst hk
      rw [List.getElem?_append_right (Nat.le_refl _)] at e
      have ec : c = c' := by simpa using e
      subst ec
      exact ⟨p, Sg.grow_at, .inr rfl, h.at t rfl⟩
    · have hlt : k < M.length := by
        have := (List.getElem?_eq_some_iff.mp e).1
        rw [List.length_append, List.length_singleton] at this
        omega
      rw [List.getElem?_append_left hlt] at e
      obtain ⟨a, h1, h2, h3⟩ := r.cell k c' e
      exact ⟨a, by rw [Sg.grow_ne hk]; exact h1, .inl h2, h3.at t rfl⟩
  · by_cases h1 : k1 = M.length
    · by_cases h2 : k2 = M.length
      · rw [h1, h2]
      · rw [h1, Sg.grow_at] at e1
        rw [Sg.grow_ne h2] at e2
        cases e1
        exact (hm _ e2).elim
    · rw [Sg.grow_ne h1] at e1
      by_cases h2 : k2 = M.length
      · rw [h2, Sg.grow_at] at e2
        cases e2
        exact (hm _ e1).elim
      · rw [Sg.grow_ne h2] at e2
        exact r.inj k1 k2 a e1 e2
  · rcases ha with ha | ha
    · exact r.res a ha
    · exact r.res a (ha ▸ hr)
end
end Rf
namespace Rf
open PySem PySem.Spec PyProof.Rows L2
/-! ### readings of evaluators -/
def RelS (K : Fr') (g : Sg) (H : Hp) (r : Env) (σ : L2.St) : Prop := r.length = σ.length ∧ ∀ (i : Nat) (d : D), r[i]? = some (some d) → ∃ v, σ[i]? = some (some v) ∧ Rep K g H d v
theorem RelS.tr {K : Fr'} {g g' : Sg} {H H' : Hp} {r : Env} {σ : L2.St} (h : RelS K g H r σ) (t : Tq g H g' H') : RelS K g' H' r σ :=
  ⟨h.1, fun i d e => let ⟨v, h1, h2⟩ := h.2 i d e; ⟨v, h1, h2.tr t⟩⟩
theorem RelS.set {K : Fr'} {g : Sg} {H : Hp} {r : Env} {σ : L2.St} {i : Nat} {d : D} {v : V} (h : RelS K g H r σ) (hd : Rep K g H d v) : RelS K g H (r.set i (some d)) (σ.set i (some v)) := by
  refine ⟨by rw [List.length_set, List.length_set]; exact h.1, fun j x e => ?_⟩
  by_cases hj : j = i
  · subst hj
    have hlt : j < r.length := by
      have := (List.getElem?_eq_some_iff.mp e).1
      rw [List.length_set] at this
      exact this
    rw [List.getElem?_set_self hlt] at e
    cases e
    exact ⟨v, by rw [List.getElem?_set_self (by rw [← h.1]; exact hlt)], hd⟩
  · rw [List.getElem?_set_ne (Ne.symm hj)] at e
    obtain ⟨w, h1, h2⟩ := h.2 j x e
    exact ⟨w, by rw [List.getElem?_set_ne (Ne.symm hj)]; exact h1, h2⟩
theorem wipe_len (r : Env) : ∀ vs : List Nat, (wipe r vs).length = r.length
  | [] => rfl
  | v :: vs => by unfold wipe; rw [List.length_set, wipe_len r vs]
theorem RelS.wipe {K : Fr'} {g : Sg} {H : Hp} {r : Env} {σ : L2.St} (h : RelS K g H r σ) : ∀ vs : List Nat, RelS K g H (Rf.wipe r vs) (L2.wipe σ vs)
  | [] => h
  | v :: vs => by
    have ih := RelS.wipe h vs
    unfold Rf.wipe L2.wipe
    refine ⟨by rw [List.length_set, List.length_set]; exact ih.1, fun j x e => ?_⟩
    by_cases hj : j = v
    · subst hj
      by_cases hlt : j < (Rf.wipe r vs).length
      · rw [List.getElem?_set_self hlt] at e
        cases e
      · rw [List.getElem?_eq_none (by rw [List.length_set]; omega)] at e
        cases e
    · rw [List.getElem?_set_ne (Ne.symm hj)] at e
      obtain ⟨w, h1, h2⟩ := ih.2 j x e
      exact ⟨w, by rw [List.getElem?_set_ne (Ne.symm hj)]; exact h1, h2⟩
/-- the reading of an evaluator: its value, told by Rp -/
def tG {α β : Type} (K : Fr') (Rp : Sg → Hp → α → β → Prop) (f : Env → Mem → Res α) : L2.St → Hp → (β → Hp → Prop) → Prop := fun σ H Q =>
  ∃ g r M a M', Rel K g H M ∧ RelS K g H r σ ∧ f r M = .ok a M' ∧ ∀ g' H' v, Tr g H g' H' → Rel K g' H' M' → Rp g' H' a v → Q v H'
abbrev tE (K : Fr') (f : Env → Mem → Res D) : TE := tG K (Rep K) f
abbrev tAs (K : Fr') (f : Env → Mem → Res (List D)) : TA := tG K (Reps K) f
abbrev tT (K : Fr') (f : Env → Mem → Res Bool) : TT := tG K (fun _ _ a b => a = b) f
abbrev tO (K : Fr') (f : Env → Mem → Res (Option Int)) : TO := tG K (fun _ _ a b => a = b) f
theorem bind_ok {α β : Type} {x : Res α} {f : α → Mem → Res β} {b : β} {m' : Mem} (h : x.bind f = .ok b m') : ∃ a m, x = .ok a m ∧ f a m = .ok b m' := by
  cases x with
  | ok a m => exact ⟨a, m, rfl, h⟩
  | ex c m => cases h
  | no => cases h
theorem of_ok {α : Type} {o : Option α} {m m' : Mem} {a : α} (h : Res.of o m = .ok a m') : o = some a ∧ m' = m := by
  cases o with
  | none => cases h
  | some x => cases h; exact ⟨rfl, rfl⟩
theorem calm_ok {α : Type} {x : Res α} {m' : Mem} {a : α} (h : x.calm = .ok a m') : x = .ok a m' := by
  cases x with
  | ok b m => exact h
  | ex c m => cases h
  | no => cases h
/-- a step on a value -/
def r1 {α β : Type} (K : Fr') (Rp : Sg → Hp → α → β → Prop) (h : D → Mem → Res α) : V → Hp → (β → Hp → Prop) → Prop := fun v H Q =>
  ∃ g M x a M', Rel K g H M ∧ Rep K g H x v ∧ h x M = .ok a M' ∧ ∀ g' H' w, Tr g H g' H' → Rel K g' H' M' → Rp g' H' a w → Q w H'
def r2 {α β : Type} (K : Fr') (Rp : Sg → Hp → α → β → Prop) (h : D → D → Mem → Res α) : V → V → Hp → (β → Hp → Prop) → Prop := fun v u H Q =>
  ∃ g M x y a M', Rel K g H M ∧ Rep K g H x v ∧ Rep K g H y u ∧ h x y M = .ok a M' ∧ ∀ g' H' w, Tr g H g' H' → Rel K g' H' M' → Rp g' H' a w → Q w H'
def rS {α β : Type} (K : Fr') (Rp : Sg → Hp → α → β → Prop) (h : List D → Mem → Res α) : List V → Hp → (β → Hp → Prop) → Prop := fun vs H Q =>
  ∃ g M xs a M', Rel K g H M ∧ Reps K g H xs vs ∧ h xs M = .ok a M' ∧ ∀ g' H' w, Tr g H g' H' → Rel K g' H' M' → Rp g' H' a w → Q w H'
section
variable {K : Fr'} {α β : Type} {Rp : Sg → Hp → α → β → Prop} {σ : L2.St} {H : Hp} {Q : β → Hp → Prop}
theorem bind1 {f : Env → Mem → Res D} {h : D → Mem → Res α} (q : tG K Rp (fun r m => (f r m).bind h) σ H Q) : tE K f σ H fun v H1 => r1 K Rp h v H1 Q := by
  obtain ⟨g, r, M, a, M', hR, hS, he, hQ⟩ := q
  obtain ⟨x, M1, e1, e2⟩ := bind_ok he
  exact ⟨g, r, M, x, M1, hR, hS, e1, fun g1 H1 v t1 R1 p1 => ⟨g1, M1, x, a, M', R1, p1, e2, fun g2 H2 w t2 R2 p2 => hQ g2 H2 w (t1.trans t2) R2 p2⟩⟩
theorem bindS {f : Env → Mem → Res (List D)} {h : List D → Mem → Res α} (q : tG K Rp (fun r m => (f r m).bind h) σ H Q) : tAs K f σ H fun v H1 => rS K Rp h v H1 Q := by
  obtain ⟨g, r, M, a, M', hR, hS, he, hQ⟩ := q
  obtain ⟨x, M1, e1, e2⟩ := bind_ok he
  exact ⟨g, r, M, x, M1, hR, hS, e1, fun g1 H1 v t1 R1 p1 => ⟨g1, M1, x, a, M', R1, p1, e2, fun g2 H2 w t2 R2 p2 => hQ g2 H2 w (t1.trans t2) R2 p2⟩⟩
theorem bind2 {f1 f2 : Env → Mem → Res D} {h : D → D → Mem → Res α} (q : tG K Rp (fun r m => (f1 r m).bind fun x m1 => (f2 r m1).bind fun y m2 => h x y m2) σ H Q) :
    tE K f1 σ H fun v H1 => tE K f2 σ H1 fun u H2 => r2 K Rp h v u H2 Q := by
  obtain ⟨g, r, M, a, M', hR, hS, he, hQ⟩ := q
  obtain ⟨x, M1, e1, e2⟩ := bind_ok he
  obtain ⟨y, M2, e3, e4⟩ := bind_ok e2
  exact ⟨g, r, M, x, M1, hR, hS, e1, fun g1 H1 v t1 R1 p1 => ⟨g1, r, M1, y, M2, R1, hS.tr t1.toTq, e3, fun g2 H2 u t2 R2 p2 =>
    ⟨g2, M2, x, y, a, M', R2, p1.tr t2.toTq, p2, e4, fun g3 H3 w t3 R3 p3 => hQ g3 H3 w ((t1.trans t2).trans t3) R3 p3⟩⟩⟩
end
section
variable {X : Cx}
theorem PE.imp {e : Expr} {t t' : TE} (h : PE X e t) (i : ∀ σ H Q, t' σ H Q → t σ H Q) : PE X e t' := ⟨fun pins s σ H Q I q => h.run pins s σ H Q I (i σ H Q q)⟩
theorem PT.imp {e : Expr} {t t' : TT} (h : PT X e t) (i : ∀ σ H Q, t' σ H Q → t σ H Q) : PT X e t' := ⟨fun pins s σ H Q I q => h.run pins s σ H Q I (i σ H Q q)⟩
theorem PA.imp {e : List Expr} {t t' : TA} (h : PA X e t) (i : ∀ σ H Q, t' σ H Q → t σ H Q) : PA X e t' := ⟨fun pos pins s σ H Q I q => h.run pos pins s σ H Q I (i σ H Q q)⟩
theorem PS.imp {e : Stmt} {t t' : TS} (h : PS X e t) (i : ∀ D σ H, t' D σ H → t D σ H) : PS X e t' := ⟨fun pins s σ H D I q => h.run pins s σ H D I (i D σ H q)⟩
theorem PSs.imp {e : List Stmt} {t t' : TS} (h : PSs X e t) (i : ∀ D σ H, t' D σ H → t D σ H) : PSs X e t' := ⟨fun pins s σ H D I q => h.run pins s σ H D I (i D σ H q)⟩
/-- a rule that serves where an evaluator gives a value at once, the heap as it was -/
theorem OpR.imp {f : Value → Value → Sem Value} {r r' : R2} (h : OpR X f r) (i : ∀ x y H Q, r' x y H Q → r x y H Q) : OpR X f r' := fun pins s σ H x y v u Q I rx ry q => h pins s σ H x y v u Q I rx ry (i x y H Q q)
end
/-! ### reading lists -/
section
variable {K : Fr'} {g : Sg} {H : Hp} {M : Mem}
/-- a list or tuple that may be read -/
theorem seq_at (R : Rel K g H M) {d : D} {v : V} {xs : List D} (h : Rep K g H d v) (e : seqOf M d = some xs) :
    ∃ a vs, v = .ref a ∧ (SqL K H a vs ∨ SqT K H a vs) ∧ xs.length ≤ sizeLine ∧ Reps K g H xs vs := by
  cases d with
  | tup ys =>
    cases e
    rw [Rep] at h
    obtain ⟨a, vs, e, h1, h2, h3⟩ := h
    exact ⟨a, vs, e, .inr h1, h2, h3⟩
  | lst ys =>
    cases e
    rw [Rep] at h
    obtain ⟨a, vs, e, h1, _, h2, h3⟩ := h
    exact ⟨a, vs, e, .inl (.of h1), h2, h3⟩
  | scr ys =>
    cases e
    rw [Rep] at h
    obtain ⟨a, vs, e, h1, h2, h3⟩ := h
    exact ⟨a, vs, e, .inl h1.sql, h2, h3⟩
  | obj n =>
    rw [Rep] at h
    obtain ⟨a, e1, hn⟩ := h
    have e' : (match M[n]? with | some (.lst xs) => some xs | _ => none) = some xs := e
    cases hc : M[n]? with
    | none => rw [hc] at e'; cases e'
    | some c =>
      rw [hc] at e'
      cases c with
      | ins c fs => cases e'
      | lst ys =>
        cases e'
        obtain ⟨b, h1, _, vs, h3, h4, h5⟩ := R.cell n _ hc
        rw [hn] at h1
        cases h1
        exact ⟨a, vs, e1, .inl (.of h3), h4, h5⟩
  | _ => cases e
theorem lst_at (R : Rel K g H M) {d : D} {v : V} {xs : List D} (h : Rep K g H d v) (e : lstOf M d = some xs) :
    ∃ a vs, v = .ref a ∧ H a = some (.lst vs) ∧ xs.length ≤ sizeLine ∧ Reps K g H xs vs := by
  cases d with
  | lst ys =>
    cases e
    rw [Rep] at h
    obtain ⟨a, vs, e, h1, _, h2, h3⟩ := h
    exact ⟨a, vs, e, h1, h2, h3⟩
  | obj n =>
    rw [Rep] at h
    obtain ⟨a, e1, hn⟩ := h
    have e' : (match M[n]? with | some (.lst xs) => some xs | _ => none) = some xs := e
    cases hc : M[n]? with
    | none => rw [hc] at e'; cases e'
    | some c =>
      rw [hc] at e'
      cases c with
      | ins c fs => cases e'
      | lst ys =>
        cases e'
        obtain ⟨b, h1, _, vs, h3, h4, h5⟩ := R.cell n _ hc
        rw [hn] at h1
        cases h1
        exact ⟨a, vs, e1, h3, h4, h5⟩
  | _ => cases e
theorem lst_seq {m : Mem} {d : D} {xs : List D} (h : lstOf m d = some xs) : seqOf m d = some xs := by
  cases d <;> first | exact h | cases h
theorem reps_ints : ∀ {ns : List Int} {vs : List V}, Reps K g H (ns.map D.int) vs → vs = ns.map V.int
  | [], vs, h => by rw [List.map_nil, Reps.nil_iff] at h; rw [h]; rfl
  | n :: ns, vs, h => by
    rw [List.map_cons] at h
    obtain ⟨v, r, e, h1, h2⟩ := Reps.cons_iff.mp h
    rw [Rep] at h1
    rw [e, h1, reps_ints h2, List.map_cons]
theorem intsOf_map : ∀ {xs : List D} {ns : List Int}, intsOf xs = some ns → xs = ns.map D.int
  | [], ns, h => by cases h; rfl
  | x :: xs, ns, h => by
    cases x with
    | int i =>
      unfold intsOf at h
      cases e : intsOf xs with
      | none => rw [e] at h; cases h
      | some ms =>
        rw [e] at h
        cases h
        rw [List.map_cons, intsOf_map e]
    | _ => cases h
theorem intsOf_of (ns : List Int) : intsOf (ns.map D.int) = some ns := by
  induction ns with
  | nil => rfl
  | cons n ns ih => rw [List.map_cons, intsOf, ih]; rfl
theorem rep_int {i : Int} {v : V} (h : Rep K g H (.int i) v) : v = .int i := by rw [Rep] at h; exact h
theorem rep_str {i : Str} {v : V} (h : Rep K g H (.str i) v) : v = .str i := by rw [Rep] at h; exact h
theorem rep_bl {i : Bool} {v : V} (h : Rep K g H (.bl i) v) : v = .bl i := by rw [Rep] at h; exact h
theorem rep_non {v : V} (h : Rep K g H .non v) : v = .non := by rw [Rep] at h; exact h
theorem int_rep (i : Int) : Rep K g H (.int i) (.int i) := by rw [Rep]
theorem str_rep (i : Str) : Rep K g H (.str i) (.str i) := by rw [Rep]
theorem bl_rep (i : Bool) : Rep K g H (.bl i) (.bl i) := by rw [Rep]
theorem non_rep : Rep K g H .non .non := by rw [Rep]
theorem LIM_line : LIM ≤ sizeLine := by decide
theorem Reps.atI {xs : List D} {vs : List V} {i : Int} {d : D} (h : Reps K g H xs vs) (e : atI xs i = some d) : ∃ v, L2.atI vs i = some v ∧ Rep K g H d v := by
  unfold L2.atI at e ⊢
  rw [h.length]
  cases q : ixN xs.length i with
  | none => rw [q] at e; cases e
  | some j =>
    rw [q] at e
    exact h.get e
theorem Reps.cut {xs : List D} {vs : List V} (h : Reps K g H xs vs) (lo hi : Option Int) : Reps K g H (Rf.cut xs lo hi) (cutV vs lo hi) := by
  unfold Rf.cut cutV
  rw [h.length]
  exact (h.drop _).take _
theorem cut_length {α : Type} (xs : List α) (lo hi : Option Int) : (cut xs lo hi).length ≤ xs.length := by
  unfold cut
  rw [List.length_take, List.length_drop]
  omega
end
/-! ### data as PyData -/
mutual
def D.py : D → PyData
  | .non => .none
  | .bl b => .bool b
  | .int i => .int i
  | .str s => .str s
  | .tup xs => .tuple (D.pys xs)
  | .lst xs => .list (D.pys xs)
  | .obj _ => .none
  | .scr xs => .none
def D.pys : List D → List PyData
  | [] => []
  | x :: xs => D.py x :: D.pys xs
end
mutual
theorem py_eqv : ∀ {n k : Nat} {a b : D}, D.plain n a = true → D.plain k b = true → PyData.eqv a.py b.py = D.eqv a b
  | n, k, a, b, ha, hb => by
    cases a <;> cases b <;> first
      | (unfold D.plain at ha; cases ha; done)
      | (unfold D.plain at hb; cases hb; done)
      | (rename_i xs ys
         cases n with
         | zero => unfold D.plain at ha; cases ha
         | succ n =>
         cases k with
         | zero => unfold D.plain at hb; cases hb
         | succ k =>
         unfold D.plain at ha hb
         simp only [D.py, PyData.eqv, D.eqv]
         exact py_eqvs ha hb)
      | (simp only [D.py, PyData.eqv, D.eqv]; done)
theorem py_eqvs : ∀ {n k : Nat} {a b : List D}, D.plains n a = true → D.plains k b = true → PyData.eqvAll (D.pys a) (D.pys b) = D.eqvs a b
  | _, _, [], [], _, _ => by simp only [D.pys, PyData.eqvAll, D.eqvs]
  | _, _, [], _ :: _, _, _ => by simp only [D.pys, PyData.eqvAll, D.eqvs]
  | _, _, _ :: _, [], _, _ => by simp only [D.pys, PyData.eqvAll, D.eqvs]
  | n, k, x :: xs, y :: ys, ha, hb => by
    unfold D.plains at ha hb
    simp only [D.pys, PyData.eqvAll, D.eqvs]
    rw [py_eqv (Bool.and_eq_true_iff.mp ha).1 (Bool.and_eq_true_iff.mp hb).1, py_eqvs (Bool.and_eq_true_iff.mp ha).2 (Bool.and_eq_true_iff.mp hb).2]
end
mutual
theorem py_dp {K : Fr'} {g : Sg} {H : Hp} : ∀ {n : Nat} {d : D} {v : V}, D.plain n d = true → Rep K g H d v → Dp K H v d.py ∧ d.py.canLay0 = true ∧ d.py.depth ≤ n
  | _, .non, v, _, h => by rw [rep_non h]; exact ⟨.non, rfl, by simp [D.py, PyData.depth]⟩
  | _, .bl b, v, _, h => by rw [rep_bl h]; exact ⟨.bl b, rfl, by simp [D.py, PyData.depth]⟩
  | _, .int i, v, _, h => by rw [rep_int h]; exact ⟨.int i, rfl, by simp [D.py, PyData.depth]⟩
  | _, .str s, v, p, h => by
    rw [rep_str h]
    unfold D.plain at p
    exact ⟨.str s, by simp only [D.py, PyData.canLay0]; exact p, by simp [D.py, PyData.depth]⟩
  | 0, .tup _, _, p, _ => by unfold D.plain at p; cases p
  | 0, .lst _, _, p, _ => by unfold D.plain at p; cases p
  | n + 1, .tup xs, v, p, h => by
    rw [Rep] at h
    obtain ⟨a, vs, e, h1, _, h3⟩ := h
    unfold D.plain at p
    obtain ⟨q1, q2, q3⟩ := py_dps p h3
    subst e
    exact ⟨.tup h1 q1, by simp only [D.py, PyData.canLay0]; exact q2, by simp only [D.py, PyData.depth]; omega⟩
  | n + 1, .lst xs, v, p, h => by
    rw [Rep] at h
    obtain ⟨a, vs, e, h1, _, _, h3⟩ := h
    unfold D.plain at p
    obtain ⟨q1, q2, q3⟩ := py_dps p h3
    subst e
    exact ⟨.lst (.of h1) q1, by simp only [D.py, PyData.canLay0]; exact q2, by simp only [D.py, PyData.depth]; omega⟩
  | _, .obj _, _, p, _ => by unfold D.plain at p; cases p
  | _, .scr _, _, p, _ => by unfold D.plain at p; cases p
theorem py_dps {K : Fr'} {g : Sg} {H : Hp} : ∀ {n : Nat} {ds : List D} {vs : List V}, D.plains n ds = true → Reps K g H ds vs → DpAll K H vs (D.pys ds) ∧ PyData.canLayAll0 (D.pys ds) = true ∧ PyData.depthAll (D.pys ds) ≤ n
  | _, [], vs, _, h => by rw [Reps.nil_iff] at h; subst h; exact ⟨.nil, rfl, by simp [D.pys, PyData.depthAll]⟩
  | n, d :: ds, vs, p, h => by
    obtain ⟨v, r, e, h1, h2⟩ := Reps.cons_iff.mp h
    subst e
    unfold D.plains at p
    obtain ⟨a1, a2, a3⟩ := py_dp (Bool.and_eq_true_iff.mp p).1 h1
    obtain ⟨b1, b2, b3⟩ := py_dps (Bool.and_eq_true_iff.mp p).2 h2
    exact ⟨.cons a1 b1, by simp only [D.pys, PyData.canLayAll0, a2, b2]; rfl, by simp only [D.pys, PyData.depthAll]; omega⟩
end
end Rf
namespace Rf
open PySem PySem.Spec PyProof.Rows L2
theorem tuple_mul1 (l : Addr) (items : Array Value) (n : Nat) (dd : Option Addr) (sl : Array (Option Value)) (x : Int) (u : Tok) (c0 : (decide (x < -(2 ^ 63)) || decide (x ≥ 2 ^ 63)) = false) (c1 : (items.isEmpty || x == 1) = true) :
    Meets (Builtin.«tuple.__mul__» ⟨[.ref l, .int x u], []⟩) (fun _ R s => s.heap.get? l = some { cls := .type "tuple", dict := dd, data := .seq items n, slots := sl } ∧
      R (.ok (.ret (Value.ref l))) s) :=
  .of_wp fun prog w A R s h => by
    obtain ⟨hp, g, d, tk, os⟩ := s
    obtain ⟨hl, h⟩ := h
    have f1 := AutoSeq1.idx_int
    wp_walk using wpAny_loadPart' hl
    repeat (first
      | (refine wpAny_ite_false (decide_eq_false (by rw [c0]; exact Bool.false_ne_true)) ?_; wp_walk using wpAny_loadPart' hl)
      | (refine wpAny_ite_true (decide_eq_true c1) ?_; wp_walk using wpAny_loadPart' hl))
    exact ⟨_, rfl, h⟩
theorem tuple_mul0 (l : Addr) (items : Array Value) (n : Nat) (dd : Option Addr) (sl : Array (Option Value)) (x : Int) (u : Tok) (c0 : (decide (x < -(2 ^ 63)) || decide (x ≥ 2 ^ 63)) = false) (c1 : (items.isEmpty || x == 1) = false) (c2 : (decide (x ≤ 0) || items.isEmpty) = true) :
    Meets (Builtin.«tuple.__mul__» ⟨[.ref l, .int x u], []⟩) (fun _ R s => s.heap.get? l = some { cls := .type "tuple", dict := dd, data := .seq items n, slots := sl } ∧
      R (.ok (.ret (Value.ref s.heap.objs.size))) { s with heap := s.heap.push { cls := Value.type "tuple", data := Data.seq #[] }, toks := s.toks }) :=
  .of_wp fun prog w A R s h => by
    obtain ⟨hp, g, d, tk, os⟩ := s
    obtain ⟨hl, h⟩ := h
    have f1 := AutoSeq1.idx_int
    wp_walk using wpAny_loadPart' hl
    repeat (first
      | (refine wpAny_ite_false (decide_eq_false (by rw [c0]; exact Bool.false_ne_true)) ?_; wp_walk using wpAny_loadPart' hl)
      | (refine wpAny_ite_false (decide_eq_false (by rw [c1]; exact Bool.false_ne_true)) ?_; wp_walk using wpAny_loadPart' hl)
      | (refine wpAny_ite_true (decide_eq_true c2) ?_; wp_walk using wpAny_loadPart' hl))
    exact ⟨_, rfl, h⟩
section
variable {X : Cx}
/-- a tuple times a number from 0 on -/
def rRepA (K : Fr') : R2 := fun x y H Q => ∃ l k xs, x = .ref l ∧ y = .int k ∧ SqT K H l xs ∧ 0 ≤ k ∧ k ≤ 1000 ∧ xs.length ≤ 1000 ∧ ((xs = [] ∨ k = 1) → Q (.ref l) H) ∧
  (xs ≠ [] → k ≠ 1 → ∀ p, H p = none → Q (.ref p) (upd H p (.tup (List.replicate k.toNat xs).flatten)))
theorem op_repA : OpR X (binaryOp .Mult) (rRepA X.K) := by
  intro pins s σ H x y v u Q I rx ry h
  obtain ⟨l, k, xs, rfl, rfl, hT, h1, h2, hz, q1, q2⟩ := h
  by_cases h3 : xs ≠ [] ∧ 2 ≤ k
  · exact op_repT pins s σ H _ _ v u Q I rx ry ⟨l, k, xs, rfl, rfl, hT, h3.1, h3.2, h2, hz, q2 h3.1 (by omega)⟩
  cases rx
  obtain ⟨t, rfl⟩ := ry
  obtain ⟨its, r, ⟨⟨cls, dd, data, sl⟩, ho, hc, n, hd⟩, hs⟩ := I.tuple hT
  simp only at hc hd
  subst hc hd
  have hle : its.length = xs.length := r.length.symm
  have hi : its.toArray.isEmpty = xs.isEmpty := by
    cases its with
    | nil => cases xs with
      | nil => rfl
      | cons a b => cases hle
    | cons a b => cases xs with
      | nil => cases hle
      | cons a b => rfl
  have c0 : (decide (k < -(2 ^ 63)) || decide (k ≥ 2 ^ 63)) = false := by
    rw [decide_eq_false (by omega), decide_eq_false (by omega)] <;> rfl
  by_cases h4 : xs = [] ∨ k = 1
  · have c1 : (its.toArray.isEmpty || k == 1) = true := by
      rw [hi]
      rcases h4 with e | e
      · rw [e]; rfl
      · rw [e]; simp
    exact wpAny_binaryOp_repeat_ref (T := "tuple") (U := "int") (by decide) ⟨_, ho, rfl⟩ (fun s' => typeIs_int s' k t) noFill_tuple_mul F.fills_int_mul F.slot_int_rmul repeat_tuple F.slot_int_index.lookup
      (call_meets F.slot_int_rmul (typeIs_int s k t) F.entry_int_rmul (F.args_int_rmul_2 _ _) (int_rmul_tuple k t l its.toArray n dd sl)
        ⟨ho, rfl, ⟨_, ho, rfl⟩, call_meets F.slot_tuple_mul ⟨_, ho, rfl⟩ F.entry_tuple_mul (F.args_tuple_mul_2 _ _) (tuple_mul1 l its.toArray n dd sl k t c0 c1) ⟨ho, ⟨.ref l, H, I, rfl, q1 h4⟩⟩⟩)
  · have n1 : xs ≠ [] := fun e => h4 (.inl e)
    have n2 : k ≠ 1 := fun e => h4 (.inr e)
    have k0 : k = 0 := by
      by_cases h5 : 2 ≤ k
      · exact absurd ⟨n1, h5⟩ h3
      · omega
    subst k0
    have c1 : (its.toArray.isEmpty || (0 : Int) == 1) = false := by
      rw [hi]
      cases xs with
      | nil => exact absurd rfl n1
      | cons a b => rfl
    refine wpAny_binaryOp_repeat_ref (T := "tuple") (U := "int") (by decide) ⟨_, ho, rfl⟩ (fun s' => typeIs_int s' 0 t) noFill_tuple_mul F.fills_int_mul F.slot_int_rmul repeat_tuple F.slot_int_index.lookup
      (call_meets F.slot_int_rmul (typeIs_int s 0 t) F.entry_int_rmul (F.args_int_rmul_2 _ _) (int_rmul_tuple 0 t l its.toArray n dd sl)
        ⟨ho, rfl, ⟨_, ho, rfl⟩, call_meets F.slot_tuple_mul ⟨_, ho, rfl⟩ F.entry_tuple_mul (F.args_tuple_mul_2 _ _) (tuple_mul0 l its.toArray n dd sl 0 t c0 c1 rfl) ⟨ho, ?_⟩⟩)
    refine ⟨.ref s.heap.objs.size, _, I.laid (t' := s.toks) (o := .tup []) (fun b ob q => Heap.get?_push_of_some _ q) (Nat.le_refl _) ?_, rfl, q2 n1 n2 _ (I.hok.fresh (Nat.le_refl _))⟩
    exact ⟨Nat.zero_le _, [], .nil, IsTup.new _ _⟩
end
def BOp.py : BOp → Operator
  | .add => .Add
  | .sub => .Sub
  | .mul => .Mult
  | .div => .FloorDiv
  | .mod => .Mod
  | .pow => .Pow
theorem bin_addI (i j : Int) (m : Mem) : bin .add (.int i) (.int j) m = some (.int (i + j)) := rfl
theorem bin_subI (i j : Int) (m : Mem) : bin .sub (.int i) (.int j) m = some (.int (i - j)) := rfl
theorem bin_mulI (i j : Int) (m : Mem) : bin .mul (.int i) (.int j) m = if mulOk i j then some (.int (i * j)) else none := rfl
theorem bin_divI (i j : Int) (m : Mem) : bin .div (.int i) (.int j) m = if divOk j then some (.int (i.fdiv j)) else none := rfl
theorem bin_modI (i j : Int) (m : Mem) : bin .mod (.int i) (.int j) m = if j ≠ 0 then some (.int (i.fmod j)) else none := rfl
theorem bin_powI (i j : Int) (m : Mem) : bin .pow (.int i) (.int j) m = if powOk i j then some (.int (i ^ j.toNat)) else none := rfl
theorem bin_addS (x y : Str) (m : Mem) : bin .add (.str x) (.str y) m = if x.length + y.length ≤ LIM then some (.str (x ++ y)) else none := rfl
theorem bin_addT (xs ys : List D) (m : Mem) : bin .add (.tup xs) (.tup ys) m = if xs.length + ys.length ≤ LIM then some (.tup (xs ++ ys)) else none := rfl
theorem bin_addL (xs ys : List D) (m : Mem) : bin .add (.lst xs) (.lst ys) m = if xs.length + ys.length ≤ LIM then some (.lst (xs ++ ys)) else none := rfl
theorem bin_mulT (xs : List D) (k : Int) (m : Mem) : bin .mul (.tup xs) (.int k) m = if decide (xs.length ≤ 1000) && !xs.isEmpty && decide (0 ≤ k) && decide (k ≤ 1000) then some (.tup (List.replicate k.toNat xs).flatten) else none := rfl
/-- two numbers -/
theorem bin_num {op : BOp} {a b d : D} {m : Mem} (h : bin op a b m = some d) (ho : op ≠ .add ∧ op ≠ .mul) : ∃ i j, a = .int i ∧ b = .int j := by
  cases op <;> first
    | exact absurd rfl ho.1
    | exact absurd rfl ho.2
    | (cases a <;> cases b <;> first | exact ⟨_, _, rfl, rfl⟩ | (unfold bin at h; cases h))
theorem bin_mul {a b d : D} {m : Mem} (h : bin .mul a b m = some d) : (∃ i j, a = .int i ∧ b = .int j) ∨ (∃ xs k, a = .tup xs ∧ b = .int k) := by
  cases a <;> cases b <;> first | exact .inl ⟨_, _, rfl, rfl⟩ | exact .inr ⟨_, _, rfl, rfl⟩ | (unfold bin at h; cases h)
theorem bin_add {a b d : D} {m : Mem} (h : bin .add a b m = some d) : (∃ i j, a = .int i ∧ b = .int j) ∨ (∃ x y, a = .str x ∧ b = .str y) ∨ (∃ xs ys, a = .tup xs ∧ b = .tup ys) ∨
    ∃ xs ys, lstOf m a = some xs ∧ lstOf m b = some ys ∧ xs.length + ys.length ≤ LIM ∧ d = .lst (xs ++ ys) := by
  have gen : ∀ {a b : D}, (match lstOf m a, lstOf m b with | some xs, some ys => if xs.length + ys.length ≤ LIM then some (D.lst (xs ++ ys)) else none | _, _ => none) = some d →
      ∃ xs ys, lstOf m a = some xs ∧ lstOf m b = some ys ∧ xs.length + ys.length ≤ LIM ∧ d = .lst (xs ++ ys) := by
    intro a b h
    cases e1 : lstOf m a with
    | none => rw [e1] at h; cases h
    | some xs =>
      cases e2 : lstOf m b with
      | none => rw [e1, e2] at h; cases h
      | some ys =>
        rw [e1, e2] at h
        simp only at h
        split at h
        · cases h; exact ⟨xs, ys, rfl, rfl, by assumption, rfl⟩
        · cases h
  cases a <;> cases b <;> first
    | exact .inl ⟨_, _, rfl, rfl⟩
    | exact .inr (.inl ⟨_, _, rfl, rfl⟩)
    | exact .inr (.inr (.inl ⟨_, _, rfl, rfl⟩))
    | (unfold bin at h; cases h; done)
    | (unfold bin at h; exact .inr (.inr (.inr (gen h))))
theorem mulOk_ok {i j : Int} (h : mulOk i j = true) : IntMulOk i j := by
  unfold mulOk at h
  simp only [Bool.or_eq_true, decide_eq_true_eq] at h
  rcases h with (h | h) | h
  · exact CMul.ok (.inl (by omega))
  · exact CMul.ok (.inr (by omega))
  · exact CMulW.ok h
section
variable {X : Cx} {K : Fr'}
theorem op_bin (op : BOp) : OpR X (binaryOp op.py) (r2 X.K (Rep X.K) fun x y m => .of (bin op x y m) m) := by
  intro pins s σ H v u vv uu Q I rv ru h
  obtain ⟨g, M, x, y, d, M', R, rx, ry, he, hQ⟩ := h
  obtain ⟨he, rfl⟩ := of_ok he
  have now : ∀ {w : V}, Rep X.K g H d w → Q w H := fun hw => hQ g H _ (.refl g H) R hw
  have num : ∀ {i j : Int}, x = .int i → y = .int j → v = .int i ∧ u = .int j := fun e1 e2 => ⟨rep_int (e1 ▸ rx), rep_int (e2 ▸ ry)⟩
  cases op with
  | add =>
    rcases bin_add he with ⟨i, j, e1, e2⟩ | ⟨a, b, e1, e2⟩ | ⟨xs, ys, e1, e2⟩ | ⟨xs, ys, e1, e2, hz, e3⟩
    · obtain ⟨rfl, rfl⟩ := num e1 e2
      subst e1 e2
      cases he
      exact op_add pins s σ H _ _ vv uu Q I rv ru ⟨i, j, rfl, rfl, now (int_rep _)⟩
    · subst e1 e2
      obtain rfl := rep_str rx
      obtain rfl := rep_str ry
      rw [bin_addS] at he
      split at he
      · cases he
        exact op_add_str pins s σ H _ _ vv uu Q I rv ru ⟨a, b, rfl, rfl, Nat.le_trans (by assumption) LIM_line, now (str_rep _)⟩
      · cases he
    · subst e1 e2
      rw [Rep] at rx ry
      obtain ⟨a, vs, rfl, h1, h2, h3⟩ := rx
      obtain ⟨b, ws, rfl, k1, k2, k3⟩ := ry
      rw [bin_addT] at he
      split at he
      · rename_i hz
        cases he
        have l1 := h3.length
        have l2 := k3.length
        refine op_catA pins s σ H _ _ vv uu Q I rv ru ⟨a, b, vs, ws, rfl, rfl, h1, k1, by rw [l1, l2]; exact Nat.le_trans hz LIM_line, fun e => ?_, fun _ e => ?_, fun _ _ p hp => ?_⟩
        · have e' : xs = [] := by rw [e] at l1; exact List.eq_nil_of_length_eq_zero l1.symm
          refine now ?_
          rw [e', List.nil_append, Rep]
          exact ⟨b, ws, rfl, k1, k2, k3⟩
        · have e' : ys = [] := by rw [e] at l2; exact List.eq_nil_of_length_eq_zero l2.symm
          refine now ?_
          rw [e', List.append_nil, Rep]
          exact ⟨a, vs, rfl, h1, h2, h3⟩
        · exact hQ g _ _ (.new hp) (R.new hp) (newTup hp (by rw [List.length_append]; exact Nat.le_trans hz LIM_line) (h3.append k3))
      · cases he
    · subst e3
      obtain ⟨a, vs, rfl, h1, h2, h3⟩ := lst_at R rx e1
      obtain ⟨b, ws, rfl, k1, k2, k3⟩ := lst_at R ry e2
      exact op_cat pins s σ H _ _ vv uu Q I rv ru ⟨a, b, vs, ws, rfl, rfl, h1, k1, by rw [h3.length, k3.length]; exact Nat.le_trans hz LIM_line,
        fun p hp => hQ g _ _ (.new hp) (R.new hp) (R.newLst hp (by rw [List.length_append]; exact Nat.le_trans hz LIM_line) (h3.append k3))⟩
  | sub =>
    obtain ⟨i, j, e1, e2⟩ := bin_num he ⟨by decide, by decide⟩
    obtain ⟨rfl, rfl⟩ := num e1 e2
    subst e1 e2
    cases he
    exact op_sub pins s σ H _ _ vv uu Q I rv ru ⟨i, j, rfl, rfl, now (int_rep _)⟩
  | mul =>
    rcases bin_mul he with ⟨i, j, e1, e2⟩ | ⟨xs, k, e1, e2⟩
    · obtain ⟨rfl, rfl⟩ := num e1 e2
      subst e1 e2
      rw [bin_mulI] at he
      split at he
      · rename_i hm
        cases he
        obtain ⟨t, rfl⟩ := rv
        obtain ⟨t', rfl⟩ := ru
        exact mul_int ⟨.int _, H, I.tok _, ⟨_, rfl⟩, now (int_rep _)⟩ (mulOk_ok hm)
      · cases he
    · subst e1 e2
      rw [Rep] at rx
      obtain ⟨a, vs, rfl, h1, h2, h3⟩ := rx
      obtain rfl := rep_int ry
      rw [bin_mulT] at he
      split at he
      · rename_i hc
        cases he
        simp only [Bool.and_eq_true, decide_eq_true_eq] at hc
        obtain ⟨⟨⟨c1, c2⟩, c3⟩, c4⟩ := hc
        have l1 := h3.length
        refine op_repA pins s σ H _ _ vv uu Q I rv ru ⟨a, k, vs, rfl, rfl, h1, c3, c4, by omega, fun e => ?_, fun _ _ p hp => ?_⟩
        · refine now ?_
          rcases e with e | e
          · have e' : xs = [] := by rw [e] at l1; exact List.eq_nil_of_length_eq_zero l1.symm
            rw [e'] at c2
            cases c2
          · subst e
            have ex : (List.replicate (1 : Int).toNat xs).flatten = xs := by
              show (List.replicate 1 xs).flatten = xs
              simp
            rw [ex, Rep]
            exact ⟨a, vs, rfl, h1, h2, h3⟩
        · refine hQ g _ _ (.new hp) (R.new hp) (newTup hp ?_ (h3.flat _))
          rw [PyProof.Rows.lm_len_rep_flat, sizeLine_eq]
          have a1 : k.toNat * xs.length ≤ 1000 * 1000 := Nat.mul_le_mul (by omega) c1
          omega
      · cases he
  | div =>
    obtain ⟨i, j, e1, e2⟩ := bin_num he ⟨by decide, by decide⟩
    obtain ⟨rfl, rfl⟩ := num e1 e2
    subst e1 e2
    rw [bin_divI] at he
    split at he
    · rename_i hc
      cases he
      unfold divOk at hc
      simp only [Bool.and_eq_true, Bool.or_eq_true, decide_eq_true_eq] at hc
      rcases hc.2 with h1 | ⟨h1, h2⟩
      · exact op_fdivN pins s σ H _ _ vv uu Q I rv ru ⟨i, j, rfl, rfl, ⟨hc.1, h1⟩, now (int_rep _)⟩
      · refine op_fdivW pins s σ H _ _ vv uu Q I rv ru ⟨i, j, rfl, rfl, ⟨h1, h2⟩, ?_⟩
        show Q (.int (i / j)) H
        rw [← Int.fdiv_eq_ediv_of_nonneg i (show 0 ≤ j by omega)]
        exact now (int_rep _)
    · cases he
  | mod =>
    obtain ⟨i, j, e1, e2⟩ := bin_num he ⟨by decide, by decide⟩
    obtain ⟨rfl, rfl⟩ := num e1 e2
    subst e1 e2
    rw [bin_modI] at he
    split at he
    · rename_i hc
      cases he
      exact op_modN pins s σ H _ _ vv uu Q I rv ru ⟨i, j, rfl, rfl, hc, now (int_rep _)⟩
    · cases he
  | pow =>
    obtain ⟨i, j, e1, e2⟩ := bin_num he ⟨by decide, by decide⟩
    obtain ⟨rfl, rfl⟩ := num e1 e2
    subst e1 e2
    rw [bin_powI] at he
    split at he
    · rename_i hc
      cases he
      unfold powOk at hc
      simp only [Bool.and_eq_true, decide_eq_true_eq] at hc
      exact op_pow pins s σ H _ _ vv uu Q I rv ru ⟨i, j, rfl, rfl, ⟨hc.1.1, hc.1.2, hc.2⟩, now (int_rep _)⟩
    · cases he
end
/-! ### comparisons -/
def COp.py : COp → CmpOp
  | .eq => .Eq
  | .ne => .NotEq
  | .lt => .Lt
  | .le => .LtE
  | .gt => .Gt
  | .ge => .GtE
  | .is => .Is
  | .isnot => .IsNot
  | .mem => .In
  | .notmem => .NotIn
theorem deref_lst {m : Mem} {n : Nat} {xs : List D} (h : m[n]? = some (.lst xs)) : deref m (.obj n) = .lst xs := by
  show (match m[n]? with | some (.lst xs) => D.lst xs | _ => .obj n) = _
  rw [h]
theorem deref_obj {m : Mem} {n : Nat} (h : ∀ xs, m[n]? ≠ some (.lst xs)) : deref m (.obj n) = .obj n := by
  show (match m[n]? with | some (.lst xs) => D.lst xs | _ => .obj n) = _
  split
  · rename_i xs e
    exact absurd e (h xs)
  · rfl
/-- what == sees of a value -/
theorem sees {K : Fr'} {g : Sg} {H : Hp} {M : Mem} (R : Rel K g H M) {x : D} {v : V} (rx : Rep K g H x v) (p : D.plain 40 (deref M x) = true) :
    Dp K H v (deref M x).py ∧ SeqAt.shaped (deref M x).py = true := by
  have fin : ∀ {d : D}, Dp K H v d.py ∧ d.py.canLay0 = true ∧ d.py.depth ≤ 40 → Dp K H v d.py ∧ SeqAt.shaped d.py = true := fun h =>
    ⟨h.1, by unfold SeqAt.shaped; rw [h.2.1, decide_eq_true (by omega)]; rfl⟩
  cases x with
  | obj n =>
    rw [Rep] at rx
    obtain ⟨a, e1, hn⟩ := rx
    by_cases hc : ∃ ys, M[n]? = some (.lst ys)
    · obtain ⟨ys, hc⟩ := hc
      rw [deref_lst hc] at p ⊢
      obtain ⟨b, h1, _, vs, h3, h4, h5⟩ := R.cell n _ hc
      rw [hn] at h1
      cases h1
      unfold D.plain at p
      obtain ⟨q1, q2, q3⟩ := py_dps p h5
      have q3 : PyData.depthAll (D.pys ys) ≤ 39 := q3
      subst e1
      exact fin ⟨.lst (.of h3) q1, by simp only [D.py, PyData.canLay0]; exact q2, by simp only [D.py, PyData.depth]; omega⟩
    · rw [deref_obj fun xs e => hc ⟨xs, e⟩] at p
      unfold D.plain at p
      cases p
  | _ => exact fin (py_dp p rx)
theorem eqD_cases {a b : D} {k : Bool} (h : eqD a b = some k) : (∃ i j, a = .int i ∧ b = .int j ∧ k = (i == j)) ∨ (∃ x y, a = .str x ∧ b = .str y ∧ k = (x == y)) ∨ (∃ x y, a = .bl x ∧ b = .bl y ∧ k = (x == y)) ∨
    (a = .non ∧ b = .non ∧ k = true) ∨ (D.plain 40 a = true ∧ D.plain 40 b = true ∧ k = D.eqv a b) := by
  have gen : ∀ {a b : D}, (if (D.plain 40 a && D.plain 40 b) = true then some (D.eqv a b) else none) = some k → (D.plain 40 a = true ∧ D.plain 40 b = true ∧ k = D.eqv a b) := by
    intro a b h
    split at h
    · rename_i hc
      cases h
      exact ⟨(Bool.and_eq_true_iff.mp hc).1, (Bool.and_eq_true_iff.mp hc).2, rfl⟩
    · cases h
  cases a <;> cases b <;> first
    | (cases h; exact .inl ⟨_, _, rfl, rfl, rfl⟩)
    | (cases h; exact .inr (.inl ⟨_, _, rfl, rfl, rfl⟩))
    | (cases h; exact .inr (.inr (.inl ⟨_, _, rfl, rfl, rfl⟩)))
    | (cases h; exact .inr (.inr (.inr (.inl ⟨rfl, rfl, rfl⟩))))
    | exact .inr (.inr (.inr (.inr (gen h))))
theorem deref_scal {m : Mem} {x d : D} (h : deref m x = d) (hd : ∀ xs, d ≠ .lst xs) (ho : ∀ n, d ≠ .obj n) : x = d := by
  cases x with
  | obj n =>
    by_cases hc : ∃ ys, m[n]? = some (.lst ys)
    · obtain ⟨ys, hc⟩ := hc
      rw [deref_lst hc] at h
      exact absurd h.symm (hd _)
    · rw [deref_obj fun xs e => hc ⟨xs, e⟩] at h
      exact absurd h.symm (ho _)
  | _ => exact h
theorem flatD_V {K : Fr'} {g : Sg} {H : Hp} {d : D} {v : V} (h : Rep K g H d v) (f : flatD d = true) : L2.flatV v = true := by
  cases d <;> first
    | (rw [rep_int h]; rfl)
    | (rw [rep_str h]; rfl)
    | (rw [rep_bl h]; rfl)
    | (rw [rep_non h]; rfl)
    | (unfold flatD at f; cases f)
theorem flatDs_V {K : Fr'} {g : Sg} {H : Hp} : ∀ {ds : List D} {vs : List V}, Reps K g H ds vs → ds.all flatD = true → vs.all L2.flatV = true
  | [], vs, h, _ => by rw [Reps.nil_iff] at h; rw [h]; rfl
  | d :: ds, vs, h, f => by
    obtain ⟨v, r, e, h1, h2⟩ := Reps.cons_iff.mp h
    rw [List.all_cons] at f
    rw [e, List.all_cons, flatD_V h1 (Bool.and_eq_true_iff.mp f).1, flatDs_V h2 (Bool.and_eq_true_iff.mp f).2]
    rfl
theorem flat_eqv {K : Fr'} {g : Sg} {H : Hp} {a b : D} {v u : V} (h1 : Rep K g H a v) (h2 : Rep K g H b u) (f1 : flatD a = true) (f2 : flatD b = true) : L2.eqV v u = D.eqv a b := by
  cases a <;> cases b <;> first
    | (unfold flatD at f1; cases f1; done)
    | (unfold flatD at f2; cases f2; done)
    | (simp only [Rep] at h1 h2; subst h1 h2; simp only [L2.eqV, D.eqv])
theorem flat_any {K : Fr'} {g : Sg} {H : Hp} {x : D} {u : V} (hx : Rep K g H x u) (fx : flatD x = true) : ∀ {ds : List D} {vs : List V}, Reps K g H ds vs → ds.all flatD = true → (vs.any fun y => L2.eqV y u) = ds.any fun y => D.eqv y x
  | [], vs, h, _ => by rw [Reps.nil_iff] at h; rw [h]; rfl
  | d :: ds, vs, h, f => by
    obtain ⟨v, r, e, h1, h2⟩ := Reps.cons_iff.mp h
    rw [List.all_cons] at f
    obtain ⟨f1, f2⟩ := Bool.and_eq_true_iff.mp f
    rw [e, List.any_cons, List.any_cons, flat_eqv h1 hx f1 fx, flat_any hx fx h2 f2]
theorem plain_any {x : D} {n : Nat} (hx : D.plain n x = true) : ∀ {ds : List D}, D.plains n ds = true → ((D.pys ds).any fun z => PyData.eqv z x.py) = ds.any fun y => D.eqv y x
  | [], _ => rfl
  | d :: ds, h => by
    unfold D.plains at h
    obtain ⟨h1, h2⟩ := Bool.and_eq_true_iff.mp h
    rw [D.pys, List.any_cons, List.any_cons, py_eqv h1 hx, plain_any hx h2]
theorem one_sign {x : Str} (h : x.length = 1) : x = ⟨#[x.cps.getD 0 0]⟩ := by
  obtain ⟨cps⟩ := x
  have h' : cps.size = 1 := h
  obtain ⟨l⟩ := cps
  match l, h' with
  | [c], _ => rfl
/-- in, for lists and tuples -/
theorem mem_rule {X : Cx} {pins : List (Addr × Obj)} {s : Shared} {σ : L2.St} {H : Hp} {v u : V} {vv uu : Value} {Q : VK} {g : Sg} {M : Mem} {x y : D} {k : Bool} (hu : X.A.units + 65 < cLine) (I : L2.Inv X pins σ H s) (rv : L2.RelV v vv) (ru : L2.RelV u uu)
    (R : Rel X.K g H M) (rx : Rep X.K g H x v) (ry : Rep X.K g H y u) (e : memS M x y = some k) :
    (Q (.bl k) H → wpAny (model X.prog X.w) X.A (compareOp .In vv uu) (EP X pins σ Q) X.xe s) ∧ (Q (.bl (!k)) H → wpAny (model X.prog X.w) X.A (compareOp .NotIn vv uu) (EP X pins σ Q) X.xe s) := by
  have flat : ∀ {ys : List D} {p : Addr} {vs : List V}, u = .ref p → (SqL X.K H p vs ∨ SqT X.K H p vs) → Reps X.K g H ys vs → flatD x = true → ys.all flatD = true → k = (ys.any fun y => D.eqv y x) →
      (Q (.bl k) H → wpAny (model X.prog X.w) X.A (compareOp .In vv uu) (EP X pins σ Q) X.xe s) ∧ (Q (.bl (!k)) H → wpAny (model X.prog X.w) X.A (compareOp .NotIn vv uu) (EP X pins σ Q) X.xe s) := by
    intro ys p vs e1 h1 h3 f1 f2 ek
    have ea : inV v vs = k := by
      unfold inV
      rw [flat_any rx f1 h3 f2, ek]
    refine ⟨fun q => op_in_seq pins s σ H v u vv uu Q I rv ru ⟨p, vs, e1, h1, flatD_V rx f1, flatDs_V h3 f2, ?_⟩, fun q => op_notIn_seq pins s σ H v u vv uu Q I rv ru ⟨p, vs, e1, h1, flatD_V rx f1, flatDs_V h3 f2, ?_⟩⟩
    · rw [ea]; exact q
    · rw [ea]; exact q
  unfold memS at e
  cases hl : lstOf M y with
  | some ys =>
    rw [hl] at e
    obtain ⟨p, vs, e1, h1, h2, h3⟩ := lst_at R ry hl
    have e : memL x ys = some k := e
    unfold memL at e
    split at e
    · rename_i hc
      cases e
      exact flat e1 (.inl (.of h1)) h3 (Bool.and_eq_true_iff.mp hc).1 (Bool.and_eq_true_iff.mp hc).2 rfl
    · split at e
      · rename_i hc
        cases e
        obtain ⟨p1, p2⟩ := Bool.and_eq_true_iff.mp hc
        obtain ⟨a1, a2, a3⟩ := py_dp p1 rx
        obtain ⟨b1, b2, b3⟩ := py_dps p2 h3
        have s1 : SeqAt.shaped x.py = true := by unfold SeqAt.shaped; rw [a2, decide_eq_true (by omega)]; rfl
        have s2 : SeqAt.shaped (.list (D.pys ys)) = true := by
          unfold SeqAt.shaped
          rw [show PyData.canLay0 (.list (D.pys ys)) = true by simp only [PyData.canLay0]; exact b2, decide_eq_true (by simp only [PyData.depth]; omega)]
          rfl
        subst e1
        refine ⟨fun q => op_inD hu pins s σ H v _ vv uu Q I rv ru ⟨x.py, D.pys ys, a1, .lst (.of h1) b1, s1, s2, ?_⟩, fun q => op_notInD hu pins s σ H v _ vv uu Q I rv ru ⟨x.py, D.pys ys, a1, .lst (.of h1) b1, s1, s2, ?_⟩⟩
        · rw [plain_any p1 p2]; exact q
        · rw [plain_any p1 p2]; exact q
      · cases e
  | none =>
    rw [hl] at e
    cases y with
    | tup ys =>
      have e : memD x ys = some k := e
      unfold memD at e
      split at e
      · rename_i hc
        cases e
        rw [Rep] at ry
        obtain ⟨p, vs, e1, h1, h2, h3⟩ := ry
        exact flat e1 (.inr h1) h3 (Bool.and_eq_true_iff.mp hc).1 (Bool.and_eq_true_iff.mp hc).2 rfl
      · cases e
    | _ => cases e
theorem dec_eq {α : Type} [DecidableEq α] [BEq α] [LawfulBEq α] (x y : α) (f : α → V) (hf : ∀ x y, f x = f y → x = y) : decide (f x = f y) = (x == y) := by
  by_cases e : x = y
  · subst e; simp
  · rw [decide_eq_false (fun q => e (hf _ _ q))]; exact (beq_eq_false_iff_ne.mpr e).symm
section
variable {X : Cx}
theorem op_cmp (op : COp) (hu : X.A.units + 65 < cLine) : OpR X (compareOp op.py) (r2 X.K (Rep X.K) fun x y m => .of ((cmp op x y m).map .bl) m) := by
  intro pins s σ H v u vv uu Q I rv ru h
  obtain ⟨g, M, x, y, d, M', R, rx, ry, he, hQ⟩ := h
  obtain ⟨he, rfl⟩ := of_ok he
  obtain ⟨k, hk, rfl⟩ : ∃ k, cmp op x y M' = some k ∧ D.bl k = d := by
    cases q : cmp op x y M' with
    | none => rw [q] at he; cases he
    | some k => rw [q] at he; exact ⟨k, rfl, Option.some.inj he⟩
  have now : Q (.bl k) H := hQ g H _ (.refl g H) R (bl_rep _)
  have eqs : ∀ {k : Bool}, eqD (deref M' x) (deref M' y) = some k → (scal v u = true ∧ k = decide (v = u)) ∨ (∃ d e, Dp X.K H v d ∧ Dp X.K H u e ∧ SeqAt.shaped d = true ∧ SeqAt.shaped e = true ∧ k = PyData.eqv d e) := by
    intro k e
    rcases eqD_cases e with ⟨i, j, e1, e2, e3⟩ | ⟨i, j, e1, e2, e3⟩ | ⟨i, j, e1, e2, e3⟩ | ⟨e1, e2, e3⟩ | ⟨p1, p2, e3⟩
    · have e1 := deref_scal e1 (by simp) (by simp)
      have e2 := deref_scal e2 (by simp) (by simp)
      subst e1 e2
      rw [rep_int rx, rep_int ry]
      exact .inl ⟨rfl, by rw [e3, dec_eq i j V.int fun _ _ q => V.int.inj q]⟩
    · have e1 := deref_scal e1 (by simp) (by simp)
      have e2 := deref_scal e2 (by simp) (by simp)
      subst e1 e2
      rw [rep_str rx, rep_str ry]
      exact .inl ⟨rfl, by rw [e3, dec_eq i j V.str fun _ _ q => V.str.inj q]⟩
    · have e1 := deref_scal e1 (by simp) (by simp)
      have e2 := deref_scal e2 (by simp) (by simp)
      subst e1 e2
      rw [rep_bl rx, rep_bl ry]
      exact .inl ⟨rfl, by rw [e3, dec_eq i j V.bl fun _ _ q => V.bl.inj q]⟩
    · have e1 := deref_scal e1 (by simp) (by simp)
      have e2 := deref_scal e2 (by simp) (by simp)
      subst e1 e2
      rw [rep_non rx, rep_non ry]
      exact .inl ⟨rfl, by rw [e3]; rfl⟩
    · obtain ⟨a1, a2⟩ := sees R rx p1
      obtain ⟨b1, b2⟩ := sees R ry p2
      exact .inr ⟨_, _, a1, b1, a2, b2, by rw [e3, py_eqv p1 p2]⟩
  cases op with
  | eq =>
    have hk : eqD (deref M' x) (deref M' y) = some k := hk
    rcases eqs hk with ⟨e1, e2⟩ | ⟨d, e, h1, h2, h3, h4, h5⟩
    · exact op_eq pins s σ H v u vv uu Q I rv ru ⟨e1, by rw [← e2]; exact now⟩
    · exact op_eqD (by omega) pins s σ H v u vv uu Q I rv ru ⟨d, e, h1, h2, h3, h4, by rw [← h5]; exact now⟩
  | ne =>
    obtain ⟨j, hj, rfl⟩ : ∃ j, eqD (deref M' x) (deref M' y) = some j ∧ (!j) = k := by
      have hk : (eqD (deref M' x) (deref M' y)).map (!·) = some k := hk
      cases q : eqD (deref M' x) (deref M' y) with
      | none => rw [q] at hk; cases hk
      | some j => rw [q] at hk; exact ⟨j, rfl, Option.some.inj hk⟩
    rcases eqs hj with ⟨e1, e2⟩ | ⟨d, e, h1, h2, h3, h4, h5⟩
    · exact op_ne pins s σ H v u vv uu Q I rv ru ⟨e1, by rw [← e2]; exact now⟩
    · exact op_neD (by omega) pins s σ H v u vv uu Q I rv ru ⟨d, e, h1, h2, h3, h4, by rw [← h5]; exact now⟩
  | lt =>
    cases x <;> cases y <;> first
      | (cases hk; done)
      | (obtain rfl := rep_int rx; obtain rfl := rep_int ry; cases hk; exact op_lt pins s σ H _ _ vv uu Q I rv ru ⟨_, _, rfl, rfl, now⟩)
      | (obtain rfl := rep_str rx; obtain rfl := rep_str ry; cases hk; exact op_lt_str pins s σ H _ _ vv uu Q I rv ru ⟨_, _, rfl, rfl, now⟩)
  | le =>
    cases x <;> cases y <;> first
      | (cases hk; done)
      | (obtain rfl := rep_int rx; obtain rfl := rep_int ry; cases hk; exact op_le pins s σ H _ _ vv uu Q I rv ru ⟨_, _, rfl, rfl, now⟩)
  | gt =>
    cases x <;> cases y <;> first
      | (cases hk; done)
      | (obtain rfl := rep_int rx; obtain rfl := rep_int ry; cases hk; exact op_gt pins s σ H _ _ vv uu Q I rv ru ⟨_, _, rfl, rfl, now⟩)
  | ge =>
    cases x <;> cases y <;> first
      | (cases hk; done)
      | (obtain rfl := rep_int rx; obtain rfl := rep_int ry; cases hk; exact op_ge pins s σ H _ _ vv uu Q I rv ru ⟨_, _, rfl, rfl, now⟩)
  | is =>
    cases y with
    | non =>
      obtain rfl := rep_non ry
      refine op_isN pins s σ H v _ vv uu Q I rv ru ⟨rfl, ?_⟩
      have e : decide (v = .non) = k := by
        cases x <;> (cases hk; simp only [Rep] at rx; first | (subst rx; rfl) | (obtain ⟨_, _, e, _⟩ := rx; subst e; rfl) | (obtain ⟨_, e, _⟩ := rx; subst e; rfl))
      rw [e]; exact now
    | bl b =>
      obtain rfl := rep_bl ry
      cases x with
      | bl c =>
        obtain rfl := rep_bl rx
        cases hk
        exact op_isBl pins s σ H _ _ vv uu Q I rv ru ⟨c, b, rfl, rfl, by rw [← Bool.beq_eq_decide_eq]; exact now⟩
      | _ => cases hk
    | _ => cases hk
  | isnot =>
    cases y with
    | non =>
      obtain rfl := rep_non ry
      refine op_notN pins s σ H v _ vv uu Q I rv ru ⟨rfl, ?_⟩
      have e : (!decide (v = .non)) = k := by
        cases x <;> (cases hk; simp only [Rep] at rx; first | (subst rx; rfl) | (obtain ⟨_, _, e, _⟩ := rx; subst e; rfl) | (obtain ⟨_, e, _⟩ := rx; subst e; rfl))
      rw [e]; exact now
    | bl b =>
      obtain rfl := rep_bl ry
      cases x with
      | bl c =>
        obtain rfl := rep_bl rx
        cases hk
        exact op_notBl pins s σ H _ _ vv uu Q I rv ru ⟨c, b, rfl, rfl, by rw [← Bool.beq_eq_decide_eq]; exact now⟩
      | _ => cases hk
    | _ => cases hk
  | mem =>
    cases y with
    | str z =>
      obtain rfl := rep_str ry
      cases x with
      | str c =>
        obtain rfl := rep_str rx
        have hk : (if c.length = 1 then some (decide ((c.cps.getD 0 0) ∈ z.cps.toList)) else none) = some k := hk
        split at hk
        · rename_i h1
          cases hk
          exact op_in_sign pins s σ H _ _ vv uu Q I rv ru ⟨c.cps.getD 0 0, z, congrArg V.str (one_sign h1), rfl, now⟩
        · cases hk
      | _ => cases hk
    | _ => exact (mem_rule hu I rv ru R rx ry hk).1 now
  | notmem =>
    have nm : ∀ {y : D}, (memS M' x y).map (!·) = some k → Rep X.K g H y u → wpAny (model X.prog X.w) X.A (compareOp .NotIn vv uu) (EP X pins σ Q) X.xe s := by
      intro y hk ry
      cases q : memS M' x y with
      | none => rw [q] at hk; cases hk
      | some j =>
        rw [q] at hk
        have e : (!j) = k := Option.some.inj hk
        exact (mem_rule hu I rv ru R rx ry q).2 (by rw [e]; exact now)
    cases y with
    | str z =>
      obtain rfl := rep_str ry
      cases x with
      | str c =>
        obtain rfl := rep_str rx
        have hk : (if c.length = 1 then some (!decide ((c.cps.getD 0 0) ∈ z.cps.toList)) else none) = some k := hk
        split at hk
        · rename_i h1
          cases hk
          exact op_notIn_sign pins s σ H _ _ vv uu Q I rv ru ⟨c.cps.getD 0 0, z, congrArg V.str (one_sign h1), rfl, now⟩
        · cases hk
      | _ => cases hk
    | _ =>
      refine nm ?_ ry
      exact hk
end
end Rf
namespace Rf
open PySem PySem.Spec PyProof.Rows L2
section
variable {X : Cx}
/-! ### items, slices -/
theorem ix_any : IxR X (r2 X.K (Rep X.K) fun x y m => .of (idx x y m) m) := by
  intro value slice pins s σ H v u vv uu Q I rv ru h hs
  obtain ⟨g, M, x, y, d, M', R, rx, ry, he, hQ⟩ := h
  obtain ⟨he, rfl⟩ := of_ok he
  have now : ∀ {w : V}, Rep X.K g H d w → Q w H := fun hw => hQ g H _ (.refl g H) R hw
  cases y with
  | int i =>
    obtain rfl := rep_int ry
    have sq : ∀ {xs : List D}, seqOf M' x = some xs → nth xs i = some d → wpAny (model X.prog X.w) X.A (subscriptTail value slice vv uu) (EP X pins σ Q) X.xe s := by
      intro xs e1 e2
      obtain ⟨a, vs, rfl, h1, h2, h3⟩ := seq_at R rx e1
      obtain ⟨w, q1, q2⟩ := h3.atI e2
      rcases h1 with h1 | h1
      · exact ix_list value slice pins s σ H _ _ vv uu Q I rv ru ⟨a, vs, i, w, rfl, rfl, h1, q1, now q2⟩ hs
      · exact ix_tup value slice pins s σ H _ _ vv uu Q I rv ru ⟨a, vs, i, w, rfl, rfl, h1, q1, now q2⟩ hs
    have gen : ∀ {x : D}, (∀ z, x ≠ .str z) → idx x (.int i) M' = some d → ∃ xs, seqOf M' x = some xs ∧ nth xs i = some d := by
      intro x hx h0
      have h : (match seqOf M' x with | some xs => nth xs i | none => none) = some d := by
        cases x with
        | str z => exact absurd rfl (hx z)
        | _ => exact h0
      cases q : seqOf M' x with
      | none => rw [q] at h; cases h
      | some xs => rw [q] at h; exact ⟨xs, rfl, h⟩
    cases x with
    | str z =>
      obtain rfl := rep_str rx
      have he : (if z.length ≤ LIM then (nth z.cps.toList i).map fun c => D.str ⟨#[c]⟩ else none) = some d := he
      split at he
      · rename_i hz
        cases q : nth z.cps.toList i with
        | none => rw [q] at he; cases he
        | some c =>
          rw [q] at he
          cases he
          exact ix_str value slice pins s σ H _ _ vv uu Q I rv ru ⟨z, i, c, rfl, rfl, Nat.le_trans hz LIM_line, q, now (str_rep _)⟩ hs
      · cases he
    | _ =>
      obtain ⟨xs, e1, e2⟩ := gen (by intro z q; cases q) he
      exact sq e1 e2
  | _ => cases he
def rSl (K : Fr') : V → Option Int → Option Int → Hp → VK → Prop := fun v lo hi H Q => ∃ g M x d, Rel K g H M ∧ Rep K g H x v ∧ slice x lo hi M = some d ∧ ∀ g' H' w, Tr g H g' H' → Rel K g' H' M → Rep K g' H' d w → Q w H'
theorem sl_any : SlR X (rSl X.K) := by
  intro pins s σ H v vv vl vu lo hi sl Q I rv hs pl pu h
  obtain ⟨g, M, x, d, R, rx, he, hQ⟩ := h
  have now : ∀ {w : V}, Rep X.K g H d w → Q w H := fun hw => hQ g H _ (.refl g H) R hw
  have ls : ∀ {x : D}, Rep X.K g H x v → (lstOf M x).map (fun xs => D.lst (cut xs lo hi)) = some d → ∃ T id, typeLookup (.type T) "__getitem__" = pure (some (.builtin id)) ∧ s.TypeIs vv T ∧ wpAny (model X.prog X.w) X.A (getItem vv (.ref sl)) (EP X pins σ Q) X.xe s := by
    intro x rx he
    cases q : lstOf M x with
    | none => rw [q] at he; cases he
    | some xs =>
      rw [q] at he
      cases he
      obtain ⟨a, vs, rfl, h1, h2, h3⟩ := lst_at R rx q
      exact sl_list pins s σ H _ vv vl vu lo hi sl Q I rv hs pl pu ⟨a, vs, rfl, .of h1, fun p hp => hQ g _ _ (.new hp) (R.new hp) (R.newLst hp (Nat.le_trans (cut_length _ _ _) h2) (h3.cut lo hi))⟩
  cases x with
  | tup xs =>
    cases he
    rw [Rep] at rx
    obtain ⟨a, vs, rfl, h1, h2, h3⟩ := rx
    refine sl_tupA pins s σ H _ vv vl vu lo hi sl Q I rv hs pl pu ⟨a, vs, rfl, h1, fun e => now ?_, fun _ p hp => hQ g _ _ (.new hp) (R.new hp) (newTup hp (Nat.le_trans (cut_length _ _ _) h2) (h3.cut lo hi))⟩
    have e' : cut xs lo hi = xs := by
      unfold cut
      rw [← h3.length, e.1, e.2, List.drop_zero, Nat.sub_zero, h3.length]
      exact List.take_length
    rw [e', Rep]
    exact ⟨a, vs, rfl, h1, h2, h3⟩
  | str z =>
    obtain rfl := rep_str rx
    have he : (if z.length ≤ LIM then some (D.str (L2.cutS z lo hi)) else none) = some d := he
    split at he
    · rename_i hz
      cases he
      exact sl_str pins s σ H _ vv vl vu lo hi sl Q I rv hs pl pu ⟨z, rfl, Nat.le_trans hz LIM_line, now (str_rep _)⟩
    · cases he
  | _ => exact ls rx he
/-! ### calls of built-ins -/
theorem rep_ints1 {K : Fr'} {g : Sg} {H : Hp} {ns : List Int} {vs : List V} (h : Reps K g H (ns.map D.int) vs) : vs = ns.map V.int := reps_ints h
theorem foldl_max_mem : ∀ (r : List Int) (x : Int), r.foldl max x ∈ x :: r ∧ ∀ y ∈ x :: r, y ≤ r.foldl max x
  | [], x => ⟨by simp, fun y hy => by simp at hy; rw [hy]; exact Int.le_refl _⟩
  | a :: r, x => by
    obtain ⟨h1, h2⟩ := foldl_max_mem r (max x a)
    show List.foldl max (max x a) r ∈ x :: a :: r ∧ ∀ y ∈ x :: a :: r, y ≤ List.foldl max (max x a) r
    have h3 := h2 (max x a) List.mem_cons_self
    refine ⟨?_, fun y hy => ?_⟩
    · rcases List.mem_cons.mp h1 with e | e
      · rw [e]
        by_cases hx : a ≤ x
        · rw [Int.max_eq_left hx]; exact List.mem_cons_self
        · rw [Int.max_eq_right (by omega)]; exact List.mem_cons_of_mem _ List.mem_cons_self
      · exact List.mem_cons_of_mem _ (List.mem_cons_of_mem _ e)
    · rcases List.mem_cons.mp hy with e | hy
      · rw [e]; omega
      · rcases List.mem_cons.mp hy with e | hy
        · rw [e]; omega
        · exact h2 y (List.mem_cons_of_mem _ hy)
theorem foldl_min_mem : ∀ (r : List Int) (x : Int), r.foldl min x ∈ x :: r ∧ ∀ y ∈ x :: r, r.foldl min x ≤ y
  | [], x => ⟨by simp, fun y hy => by simp at hy; rw [hy]; exact Int.le_refl _⟩
  | a :: r, x => by
    obtain ⟨h1, h2⟩ := foldl_min_mem r (min x a)
    show List.foldl min (min x a) r ∈ x :: a :: r ∧ ∀ y ∈ x :: a :: r, List.foldl min (min x a) r ≤ y
    have h3 := h2 (min x a) List.mem_cons_self
    refine ⟨?_, fun y hy => ?_⟩
    · rcases List.mem_cons.mp h1 with e | e
      · rw [e]
        by_cases hx : x ≤ a
        · rw [Int.min_eq_left hx]; exact List.mem_cons_self
        · rw [Int.min_eq_right (by omega)]; exact List.mem_cons_of_mem _ List.mem_cons_self
      · exact List.mem_cons_of_mem _ (List.mem_cons_of_mem _ e)
    · rcases List.mem_cons.mp hy with e | hy
      · rw [e]; omega
      · rcases List.mem_cons.mp hy with e | hy
        · rw [e]; omega
        · exact h2 y (List.mem_cons_of_mem _ hy)
theorem maxOf_is {ns : List Int} {n m : Int} (h : maxOf ns = some n) (h1 : m ∈ ns) (h2 : ∀ y ∈ ns, y ≤ m) : m = n := by
  cases ns with
  | nil => cases h
  | cons x r =>
    cases h
    obtain ⟨q1, q2⟩ := foldl_max_mem r x
    have := q2 m h1
    have := h2 _ q1
    omega
theorem minOf_is {ns : List Int} {n m : Int} (h : minOf ns = some n) (h1 : m ∈ ns) (h2 : ∀ y ∈ ns, m ≤ y) : m = n := by
  cases ns with
  | nil => cases h
  | cons x r =>
    cases h
    obtain ⟨q1, q2⟩ := foldl_min_mem r x
    have := q2 m h1
    have := h2 _ q1
    omega
def rP (K : Fr') (p : Prim) : List V → Hp → VK → Prop := rS K (Rep K) fun ds m => .of (prim p ds m) m
/-- the built-in of a prim -/
def Prim.val : Prim → Value
  | .len => .builtin "len"
  | .abs => .builtin "abs"
  | .min2 => .builtin "min"
  | .max2 => .builtin "max"
  | .sum => .builtin "sum"
  | .min1 => .builtin "min"
  | .max1 => .builtin "max"
  | .tuple => .type "tuple"
  | .int => .type "int"
theorem reps_one {K : Fr'} {g : Sg} {H : Hp} {d : D} {vs : List V} (h : Reps K g H [d] vs) : ∃ v, vs = [v] ∧ Rep K g H d v := by
  obtain ⟨v, r, e, h1, h2⟩ := Reps.cons_iff.mp h
  rw [Reps.nil_iff] at h2
  subst h2
  exact ⟨v, e, h1⟩
theorem reps_two {K : Fr'} {g : Sg} {H : Hp} {d e : D} {vs : List V} (h : Reps K g H [d, e] vs) : ∃ v u, vs = [v, u] ∧ Rep K g H d v ∧ Rep K g H e u := by
  obtain ⟨v, r, e, h1, h2⟩ := Reps.cons_iff.mp h
  obtain ⟨u, rfl, h3⟩ := reps_one h2
  exact ⟨v, u, e, h1, h3⟩
theorem map_some {α β : Type} {o : Option α} {f : α → β} {b : β} (h : o.map f = some b) : ∃ a, o = some a ∧ f a = b := by
  cases o with
  | none => cases h
  | some a => exact ⟨a, rfl, Option.some.inj h⟩
theorem bnd_some {α β : Type} {o : Option α} {f : α → Option β} {b : β} (h : o.bind f = some b) : ∃ a, o = some a ∧ f a = some b := by
  cases o with
  | none => cases h
  | some a => exact ⟨a, rfl, h⟩
theorem prim_ok (hc : X.calm = true) (p : Prim) : CallR X p.val (rP X.K p) := by
  intro pins s σ H vs us Q I r h
  obtain ⟨g, M, ds, d, M', R, rs, he, hQ⟩ := h
  obtain ⟨he, rfl⟩ := of_ok he
  have now : ∀ {w : V}, Rep X.K g H d w → Q w H := fun hw => hQ g H _ (.refl g H) R hw
  have sums : ∀ {a : D} {ns : List Int} {v : V}, Rep X.K g H a v → intsIn M' a = some ns → ∃ p, v = .ref p ∧ SqL X.K H p (ns.map V.int) := by
    intro a ns v ra e
    obtain ⟨xs, q, e2⟩ := bnd_some e
    obtain ⟨p, ws, e1, h1, _, h3⟩ := lst_at R ra q
    rw [intsOf_map e2] at h3
    rw [reps_ints h3] at h1
    exact ⟨p, e1, .of h1⟩
  match ds, rs, he with
  | [], _, he => cases he
  | _ :: _ :: _ :: _, _, he => cases he
  | [a, b], rs, he =>
    have he : prim2 p a b = some d := he
    obtain ⟨v, u, rfl, ra, rb⟩ := reps_two rs
    obtain ⟨i, j, e1, e2⟩ : ∃ i j, a = .int i ∧ b = .int j := by
      cases a <;> cases b <;> first | exact ⟨_, _, rfl, rfl⟩ | cases he
    subst e1 e2
    obtain rfl := rep_int ra
    obtain rfl := rep_int rb
    cases p <;> first
      | (cases he; done)
      | (cases he; exact call_min2 hc pins s σ H _ us Q I r ⟨i, j, rfl, now (int_rep _)⟩)
      | (cases he; exact call_max2 hc pins s σ H _ us Q I r ⟨i, j, rfl, now (int_rep _)⟩)
  | [a], rs, he =>
    have he : prim1 p a M' = some d := he
    obtain ⟨v, rfl, ra⟩ := reps_one rs
    cases p with
    | min2 => cases he
    | max2 => cases he
    | len =>
      have sq : ∀ {a : D}, Rep X.K g H a v → (seqOf M' a).map (fun xs => D.int xs.length) = some d → wpAny (model X.prog X.w) X.A (call (Prim.len.val) us) (EP X pins σ Q) X.xe s := by
        intro a ra he
        obtain ⟨xs, q, rfl⟩ := map_some he
        obtain ⟨p, ws, rfl, h1, h2, h3⟩ := seq_at R ra q
        exact call_len_seq pins s σ H [.ref p] us Q I r ⟨p, ws, rfl, h1, by rw [h3.length]; exact now (int_rep _)⟩
      cases a with
      | str z =>
        obtain rfl := rep_str ra
        have he : (if z.length ≤ LIM then some (D.int z.length) else none) = some d := he
        split at he
        · rename_i hz
          cases he
          exact call_len_str pins s σ H _ us Q I r ⟨z, rfl, Nat.le_trans hz LIM_line, now (int_rep _)⟩
        · cases he
      | _ => exact sq ra he
    | abs =>
      cases a <;> first
        | (cases he; done)
        | (obtain rfl := rep_int ra; cases he; exact call_abs pins s σ H _ us Q I r ⟨_, rfl, now (int_rep _)⟩)
    | sum =>
      obtain ⟨ns, q, rfl⟩ := map_some he
      obtain ⟨p, rfl, h1⟩ := sums ra q
      exact cr_sum hc pins s σ H _ us Q I r ⟨p, ns, rfl, h1, now (int_rep _)⟩
    | min1 =>
      obtain ⟨n, q, rfl⟩ := map_some he
      obtain ⟨ns, q1, q2⟩ := bnd_some q
      obtain ⟨p, rfl, h1⟩ := sums ra q1
      refine cr_min hc pins s σ H _ us Q I r ⟨p, ns, rfl, h1, ?_, fun m h2 h3 => ?_⟩
      · cases ns with
        | nil => cases q2
        | cons x r => exact Nat.succ_pos _
      · rw [minOf_is q2 h2 h3]; exact now (int_rep _)
    | max1 =>
      obtain ⟨n, q, rfl⟩ := map_some he
      obtain ⟨ns, q1, q2⟩ := bnd_some q
      obtain ⟨p, rfl, h1⟩ := sums ra q1
      refine cr_max hc pins s σ H _ us Q I r ⟨p, ns, rfl, h1, ?_, fun m h2 h3 => ?_⟩
      · cases ns with
        | nil => cases q2
        | cons x r => exact Nat.succ_pos _
      · rw [maxOf_is q2 h2 h3]; exact now (int_rep _)
    | tuple =>
      have ls : ∀ {a : D}, Rep X.K g H a v → (lstOf M' a).map .tup = some d → wpAny (model X.prog X.w) X.A (call (Prim.tuple.val) us) (EP X pins σ Q) X.xe s := by
        intro a ra he
        obtain ⟨xs, q, rfl⟩ := map_some he
        obtain ⟨p, ws, rfl, h1, h2, h3⟩ := lst_at R ra q
        exact call_tuple_of pins s σ H [.ref p] us Q I r ⟨p, ws, rfl, .inl ⟨.of h1, fun l hl => hQ g _ _ (.new hl) (R.new hl) (newTup hl h2 h3)⟩⟩
      cases a with
      | tup xs =>
        cases he
        have ra' := ra
        rw [Rep] at ra'
        obtain ⟨p, ws, rfl, h1, h2, h3⟩ := ra'
        exact call_tuple_of pins s σ H [.ref p] us Q I r ⟨p, ws, rfl, .inr ⟨h1, now ra⟩⟩
      | _ => exact ls ra he
    | int =>
      cases a <;> first
        | (cases he; done)
        | (obtain rfl := rep_int ra; cases he; exact call_int1 pins s σ H _ us Q I r (.inl ⟨_, rfl, now (int_rep _)⟩))
        | (obtain rfl := rep_bl ra; cases he; exact call_int1 pins s σ H _ us Q I r (.inr ⟨_, rfl, now (int_rep _)⟩))
/-! ### isinstance -/
def Ty.nm : Ty → String
  | .tuple => "tuple"
  | .list => "list"
  | .bool => "bool"
  | .int => "int"
  | .str => "str"
def tyOf (m : Mem) : D → Option String
  | .non => some "NoneType"
  | .bl _ => some "bool"
  | .int _ => some "int"
  | .str _ => some "str"
  | .tup _ => some "tuple"
  | .lst _ => some "list"
  | .scr _ => some "list"
  | .obj n => (match m[n]? with
    | some (.lst _) => some "list"
    | _ => none)
theorem isTy_kit {m : Mem} {d : D} {t : Ty} {k : Bool} (h : isTy m d t = some k) : ∃ n, tyOf m d = some n ∧ kitB n t.nm = some k := by
  have lists : (t == .list) = k → kitB "list" t.nm = some k := fun e => by subst e; cases t <;> decide +kernel
  cases d with
  | non => cases h; exact ⟨_, rfl, by cases t <;> decide +kernel⟩
  | bl _ => cases h; exact ⟨_, rfl, by cases t <;> decide +kernel⟩
  | int _ => cases h; exact ⟨_, rfl, by cases t <;> decide +kernel⟩
  | str _ => cases h; exact ⟨_, rfl, by cases t <;> decide +kernel⟩
  | tup _ => cases h; exact ⟨_, rfl, by cases t <;> decide +kernel⟩
  | lst _ => exact ⟨_, rfl, lists (Option.some.inj h)⟩
  | scr _ => exact ⟨_, rfl, lists (Option.some.inj h)⟩
  | obj n =>
    have h : (match m[n]? with | some (.lst _) => some (t == .list) | _ => none) = some k := h
    cases q : m[n]? with
    | none => rw [q] at h; cases h
    | some c =>
      rw [q] at h
      cases c with
      | ins c fs => cases h
      | lst xs => exact ⟨"list", by unfold tyOf; simp only [q], lists (Option.some.inj h)⟩
theorem tyX_of {K : Fr'} {g : Sg} {H : Hp} {M : Mem} (R : Rel K g H M) {d : D} {v : V} {n : String} (rd : Rep K g H d v) (h : tyOf M d = some n) : TyX K H v (.type n) := by
  cases d with
  | non => cases h; rw [rep_non rd]; exact .base .non
  | bl b => cases h; rw [rep_bl rd]; exact .base (.bl b)
  | int i => cases h; rw [rep_int rd]; exact .base (.int i)
  | str s => cases h; rw [rep_str rd]; exact .base (.str s)
  | tup xs =>
    cases h
    rw [Rep] at rd
    obtain ⟨a, vs, rfl, h1, _⟩ := rd
    rcases h1 with (h1 | ⟨o, h1⟩) | ⟨o, its, n, h1, h2, _⟩
    · exact .base (.tup h1)
    · exact .fTuple h1
    · exact .kTuple h1 h2
  | lst xs =>
    cases h
    rw [Rep] at rd
    obtain ⟨a, vs, rfl, h1, _⟩ := rd
    exact .base (.lst h1)
  | scr xs =>
    cases h
    rw [Rep] at rd
    obtain ⟨a, vs, rfl, h1, _⟩ := rd
    rcases h1 with ⟨o, h1⟩ | ⟨o, its, n, h1, h2, _⟩
    · exact .base (.frz h1)
    · exact .kList h1 h2
  | obj k =>
    rw [Rep] at rd
    obtain ⟨a, rfl, hn⟩ := rd
    have h : (match M[k]? with | some (.lst _) => some "list" | _ => none) = some n := h
    cases q : M[k]? with
    | none => rw [q] at h; cases h
    | some c =>
      rw [q] at h
      cases c with
      | ins c fs => cases h
      | lst xs =>
        cases h
        obtain ⟨b, h1, _, vs, h3, _⟩ := R.cell k _ q
        rw [hn] at h1
        cases h1
        exact .base (.lst h3)
/-! ### truth -/
theorem tru_any {K : Fr'} {g : Sg} {H : Hp} {M : Mem} (R : Rel K g H M) {d : D} {v : V} {k : Bool} (rd : Rep K g H d v) (h : truth M d = some k) : TruV K v H k := by
  have sq : ∀ {d : D}, Rep K g H d v → (seqOf M d).map (fun xs => !xs.isEmpty) = some k → TruV K v H k := by
    intro d rd h
    cases q : seqOf M d with
    | none => rw [q] at h; cases h
    | some xs =>
      rw [q] at h
      cases h
      obtain ⟨a, vs, rfl, h1, h2, h3⟩ := seq_at R rd q
      have e : xs.isEmpty = vs.isEmpty := by
        have l := h3.length
        cases xs with
        | nil => cases vs with
          | nil => rfl
          | cons _ _ => cases l
        | cons _ _ => cases vs with
          | nil => cases l
          | cons _ _ => rfl
      rcases h1 with h1 | h1
      · exact .inl ⟨vs, h1, by show (!xs.isEmpty) = _; rw [e]⟩
      · exact .inr (.inl ⟨vs, h1, by show (!xs.isEmpty) = _; rw [e]⟩)
  cases d with
  | non => cases h; rw [rep_non rd]; exact rfl
  | bl b => cases h; rw [rep_bl rd]; exact rfl
  | int i => cases h; rw [rep_int rd]; exact rfl
  | str s =>
    rw [rep_str rd]
    have h : (if s.length ≤ LIM then some ((s.length : Int) != 0) else none) = some k := h
    split at h
    · rename_i hz
      cases h
      exact ⟨Nat.le_trans hz LIM_line, rfl⟩
    · cases h
  | _ => exact sq rd h
end
end Rf
namespace Rf
open PySem PySem.Spec PyProof.Rows L2
/-! ### forms of the syntax -/
def notStar : Expr → Bool
  | .Starred .. => false
  | _ => true
theorem star_cons {e : Expr} {es : List Expr} {env : PySem.Env} (h : notStar e = true) : starEach (e :: es) env = (false, eval e env) :: starEach es env := by
  cases e <;> first | rfl | cases h
theorem star_any {env : PySem.Env} {pos : Pos} : ∀ {es : List Expr}, es.all notStar = true → (backTo pos (starEach es env)).any (·.1) = false
  | [], _ => rfl
  | e :: es, h => by
    rw [List.all_cons] at h
    obtain ⟨h1, h2⟩ := Bool.and_eq_true_iff.mp h
    rw [star_cons h1]
    show (false || (backTo pos (starEach es env)).any (·.1)) = false
    rw [star_any h2]
    rfl
theorem asg_cons {e : Expr} {es : List Expr} {env : PySem.Env} (h : notStar e = true) : assignEach (e :: es) env = (false, assign e env) :: assignEach es env := by
  cases e <;> first | rfl | cases h
def notSlice : Expr → Bool
  | .Slice .. => false
  | _ => true
theorem plain_ix {b : Expr} (h : notSlice b = true) : PlainIx b := by
  intro o i
  cases b <;> first | rfl | cases h
def plainTest : Expr → Bool
  | .UnaryOp .Not _ _ => false
  | .BoolOp .. => false
  | .IfExp .. => false
  | .Compare .. => false
  | _ => true
theorem plain_test {e : Expr} {env : PySem.Env} (h : plainTest e = true) (whole : Sem Value) : isTrue e env whole = (do let v ← whole; standAt e.pos; holding [v] (truthy v)) := by
  cases e <;> first
    | rfl
    | (cases h; done)
    | (rename_i op x p; cases op <;> first | rfl | cases h)
def notComp : Expr → Bool
  | .ListComp .. => false
  | .SetComp .. => false
  | .DictComp .. => false
  | _ => true
theorem no_swap {v : Expr} {t : Option Expr} {l : Nat} {env : PySem.Env} (h : notComp v = true) : swapsWith v t l env = pure false := by
  cases v <;> first | rfl | cases h
def plainBase : Expr → Bool
  | .Name .. => true
  | .Attribute .. => true
  | .Subscript .. => true
  | _ => false
theorem plain_base {e : Expr} {f : Str} {env : PySem.Env} (h : plainBase e = true) : attributeBase e f env (eval e env) = eval e env := by
  cases e <;> first | rfl | cases h
def notSet : Expr → Bool
  | .Set .. => false
  | _ => true
theorem no_mark {op : CmpOp} {b : Expr} (h : notSet b = true) : behindInMarks op b = false := by
  cases b <;> first | rfl | cases h
theorem no_fold {e : Expr} {env : PySem.Env} (h : notSet e = true) (x : Value) : foldedSetIterable e env x = pure x := by
  cases e <;> first | rfl | cases h
section
variable {X : Cx} {a b c : Expr} {es : List Expr} {pos : Pos} {fa fb fc : Env → Mem → Res D} {fs : Env → Mem → Res (List D)} {ft : Env → Mem → Res Bool}
theorem tG_imp {α β : Type} {K : Fr'} {Rp : Sg → Hp → α → β → Prop} {f : Env → Mem → Res α} {σ : L2.St} {H : Hp} {Q Q' : β → Hp → Prop} (h : tG K Rp f σ H Q) (i : ∀ v H, Q v H → Q' v H) : tG K Rp f σ H Q' := by
  obtain ⟨g, r, M, x, M', h1, h2, h3, h4⟩ := h
  exact ⟨g, r, M, x, M', h1, h2, h3, fun g' H' v t R p => i v H' (h4 g' H' v t R p)⟩
theorem e_var {i : Nat} {x : Str} {F : Fx} (hN : X.N[i]? = some x) (hv : Vis X.env.scope x) (hd : (x == ("__debug__" : Str)) = false) (hcd : (x == ("__classdict__" : Str)) = false) : PE X (.Name x pos) (tE X.K (evE F (.var i))) := by
  refine PE.imp (pe_var hN hv hd hcd) fun σ H Q h => ?_
  obtain ⟨g, r, M, d, M', R, S, e, q⟩ := h
  have e : (match r[i]? with | some (some d) => Res.ok d M | _ => .no) = .ok d M' := by rw [evE] at e; exact e
  try dsimp only at e
  split at e
  · rename_i d' hd'
    cases e
    obtain ⟨v, h1, h2⟩ := S.2 i d hd'
    exact ⟨v, h1, q g H v (.refl g H) R h2⟩
  · cases e
theorem e_now {d : D} {v : V} {e : Expr} (h : PE X e (tC v)) (hv : ∀ g H, Rep X.K g H d v) : PE X e (tE X.K fun _ m => .ok d m) := by
  refine PE.imp h fun σ H Q q => ?_
  obtain ⟨g, r, M, d', M', R, S, e, q⟩ := q
  cases e
  exact q g H v (.refl g H) R (hv g H)
theorem a_nil : PA X [] (tAs X.K fun _ m => .ok [] m) := by
  refine PA.imp pa_nil fun σ H Q q => ?_
  obtain ⟨g, r, M, d', M', R, S, e, q⟩ := q
  cases e
  exact q g H [] (.refl g H) R .nil
theorem a_cons (ha : PE X a (tE X.K fa)) (hs : PA X es (tAs X.K fs)) (hn : notStar a = true) : PA X (a :: es) (tAs X.K fun r m => (fa r m).bind fun x m1 => (fs r m1).bind fun xs m2 => .ok (x :: xs) m2) := by
  refine PA.imp (pa_cons ha hs (star_cons hn)) fun σ H Q q => ?_
  obtain ⟨g, r, M, d', M', R, S, e, q⟩ := q
  obtain ⟨x, M1, e1, e2⟩ := bind_ok e
  obtain ⟨xs, M2, e3, e4⟩ := bind_ok e2
  cases e4
  exact ⟨g, r, M, x, M1, R, S, e1, fun g1 H1 v t1 R1 p1 => ⟨g1, r, M1, xs, M', R1, S.tr t1.toTq, e3, fun g2 H2 u t2 R2 p2 => q g2 H2 _ (t1.trans t2) R2 (.cons (p1.tr t2.toTq) p2)⟩⟩
theorem e_tup {k : Nat} (h : PA X es (tAs X.K fs)) : PE X (.Tuple es k pos) (tE X.K fun r m => (fs r m).bind fun ds m1 => if ds.length ≤ LIM then .ok (.tup ds) m1 else .no) := by
  refine PE.imp (pe_tup h) fun σ H Q q => ?_
  refine tG_imp (bindS q) fun vs H1 q1 => ?_
  clear q
  have q := q1
  obtain ⟨g, M, xs, d, M', R, rs, e, q⟩ := q
  try dsimp only at e
  split at e
  · rename_i hz
    cases e
    have hz := Nat.le_trans hz LIM_line
    exact ⟨by rw [rs.length]; exact hz, fun p hp => q g _ _ (.new hp) (R.new hp) (newTup hp hz rs)⟩
  · cases e
/-- a new list, as a value or a cell -/
theorem newL_ok {K : Fr'} {g : Sg} {H : Hp} {M M' : Mem} {cell : Bool} {xs : List D} {vs : List V} {d : D} {p : Addr} {Q : VK} (R : Rel K g H M) (hz : xs.length ≤ sizeLine) (rs : Reps K g H xs vs) (e : newL cell xs M = .ok d M') (hp : H p = none)
    (q : ∀ g' H' w, Tr g H g' H' → Rel K g' H' M' → Rep K g' H' d w → Q w H') : Q (.ref p) (upd H p (.lst vs)) := by
  unfold newL at e
  cases cell with
  | false =>
    cases e
    exact q g _ _ (.new hp) (R.new hp) (R.newLst hp hz rs)
  | true =>
    cases e
    refine q (g.grow M.length p) _ _ (.grow R hp) (R.grow hp ⟨vs, upd_same, hz, rs.tr (Tr.grow R hp).toTq⟩) ?_
    rw [Rep]
    exact ⟨p, rfl, Sg.grow_at⟩
theorem e_lst {cell : Bool} (h : PA X es (tAs X.K fs)) : PE X (.List es pos) (tE X.K fun r m => (fs r m).bind fun ds m1 => if ds.length ≤ LIM then newL cell ds m1 else .no) := by
  refine PE.imp (pe_lst h) fun σ H Q q => ?_
  refine tG_imp (bindS q) fun vs H1 q1 => ?_
  clear q
  have q := q1
  obtain ⟨g, M, xs, d, M', R, rs, e, q⟩ := q
  try dsimp only at e
  split at e
  · rename_i hz
    have hz := Nat.le_trans hz LIM_line
    exact ⟨by rw [rs.length]; exact hz, fun p hp => newL_ok R hz rs e hp q⟩
  · cases e
theorem e_bin {op : BOp} (ha : PE X a (tE X.K fa)) (hb : PE X b (tE X.K fb)) : PE X (.BinOp a op.py b pos) (tE X.K fun r m => (fa r m).bind fun x m1 => (fb r m1).bind fun y m2 => .of (bin op x y m2) m2) :=
  PE.imp (pe_op (op_bin op) ha hb) fun _ _ _ q => bind2 q
theorem e_rep {cell : Bool} (ha : PE X a (tE X.K fa)) (hb : PE X b (tE X.K fb)) : PE X (.BinOp a .Mult b pos) (tE X.K fun r m => (fa r m).bind fun x m1 => (fb r m1).bind fun y m2 => (match rep x y m2 with
    | some ds => newL cell ds m2
    | none => .no)) := by
  refine PE.imp (pe_op op_rep ha hb) fun σ H Q q => ?_
  refine tG_imp (bind2 q) fun v H1 q0 => tG_imp q0 fun u H2 q1 => ?_
  clear q
  have q := q1
  obtain ⟨g, M, x, y, d, M', R, rx, ry, e, q⟩ := q
  try dsimp only at e
  split at e
  · rename_i ds hr
    unfold rep at hr
    split at hr
    · rename_i xs k h1
      split at hr
      · rename_i hk
        cases hr
        unfold repOk at hk
        simp only [Bool.and_eq_true, decide_eq_true_eq] at hk
        obtain ⟨p, vs, rfl, h2, h3, h4⟩ := lst_at R rx h1
        obtain rfl := rep_int ry
        have l := h4.length
        refine ⟨p, k, vs, rfl, rfl, h2, hk.1.1, hk.1.2, by rw [l]; exact Nat.le_trans hk.2 LIM_line, fun l hl => newL_ok R ?_ (h4.flat _) e hl q⟩
        rw [PyProof.Rows.lm_len_rep_flat, Nat.mul_comm]
        exact Nat.le_trans hk.2 LIM_line
      · cases hr
    · cases hr
  · cases e
theorem e_neg (ha : PE X a (tE X.K fa)) : PE X (.UnaryOp .USub a pos) (tE X.K fun r m => (fa r m).bind fun x m1 => (match x with
    | .int i => .ok (.int (-i)) m1
    | _ => .no)) := by
  refine PE.imp (pe_un un_neg ha) fun σ H Q q => ?_
  refine tG_imp (bind1 q) fun v H1 q1 => ?_
  clear q
  have q := q1
  obtain ⟨g, M, x, d, M', R, rx, e, q⟩ := q
  try dsimp only at e
  split at e
  · rename_i i
    cases e
    exact ⟨i, rep_int rx, q g H1 _ (.refl g H1) R (int_rep _)⟩
  · cases e
theorem e_cmp {op : COp} (hu : X.A.units + 65 < cLine) (ha : PE X a (tE X.K fa)) (hb : PE X b (tE X.K fb)) (hn : notSet b = true) :
    PE X (.Compare a [op.py] [b] pos) (tE X.K fun r m => (fa r m).bind fun x m1 => (fb r m1).bind fun y m2 => .of ((cmp op x y m2).map .bl) m2) :=
  PE.imp (pe_cmpR (op_cmp op hu) ha hb (no_mark hn)) fun _ _ _ q => bind2 q
theorem t_cmp {op : COp} (hu : X.A.units + 65 < cLine) (ha : PE X a (tE X.K fa)) (hb : PE X b (tE X.K fb)) (hn : notSet b = true) :
    PT X (.Compare a [op.py] [b] pos) (tT X.K fun r m => (fa r m).bind fun x m1 => (fb r m1).bind fun y m2 => .of (cmp op x y m2) m2) := by
  refine PT.imp (pt_cmpR (op_cmp op hu) ha hb (no_mark hn)) fun σ H Q q => ?_
  refine bind2 (Rp := Rep X.K) (h := fun x y m => .of ((cmp op x y m).map .bl) m) ?_
  obtain ⟨g, r, M, k, M', R, S, e, q⟩ := q
  obtain ⟨x, M1, e1, e2⟩ := bind_ok e
  obtain ⟨y, M2, e3, e4⟩ := bind_ok e2
  obtain ⟨e4, rfl⟩ := of_ok e4
  refine ⟨g, r, M, .bl k, M', R, S, ?_, fun g' H' v t R' p => ⟨k, rep_bl p, q g' H' k t R' rfl⟩⟩
  show (fa r M).bind _ = _
  rw [e1]
  show (fb r M1).bind _ = _
  rw [e3]
  show Res.of ((cmp op x y M').map D.bl) M' = _
  rw [e4]
  rfl
theorem r2_imp {α β : Type} {K : Fr'} {Rp : Sg → Hp → α → β → Prop} {h : D → D → Mem → Res α} {v u : V} {H : Hp} {Q Q' : β → Hp → Prop} (q : r2 K Rp h v u H Q) (i : ∀ v H, Q v H → Q' v H) : r2 K Rp h v u H Q' := by
  obtain ⟨g, M, x, y, a, M', h1, h2, h3, h4, h5⟩ := q
  exact ⟨g, M, x, y, a, M', h1, h2, h3, h4, fun g' H' w t R p => i w H' (h5 g' H' w t R p)⟩
/-- what a chain of two comparisons comes to -/
theorem chain_t {op op2 : COp} {σ : L2.St} {H : Hp} {Q : VK} (q : tE X.K (fun r m => (fa r m).bind fun x m1 => (fb r m1).bind fun y m2 => (match cmp op x y m2 with
    | some true => (fc r m2).bind fun z m3 => .of ((cmp op2 y z m3).map .bl) m3
    | some false => .ok (.bl false) m2
    | none => .no)) σ H Q) :
    tChain (r2 X.K (Rep X.K) fun x y m => .of ((cmp op x y m).map .bl) m) (r2 X.K (Rep X.K) fun x y m => .of ((cmp op2 x y m).map .bl) m) (tE X.K fa) (tE X.K fb) (tE X.K fc) σ H Q := by
  obtain ⟨g, r, M, d, M', R, S, e, q⟩ := q
  obtain ⟨x, M1, e1, e2⟩ := bind_ok e
  obtain ⟨y, M2, e3, e4⟩ := bind_ok e2
  refine ⟨g, r, M, x, M1, R, S, e1, fun g1 H1 v t1 R1 p1 => ⟨g1, r, M1, y, M2, R1, S.tr t1.toTq, e3, fun g2 H2 u t2 R2 p2 => ?_⟩⟩
  have S2 := (S.tr t1.toTq).tr t2.toTq
  cases hk : cmp op x y M2 with
  | none => rw [hk] at e4; cases e4
  | some k =>
    rw [hk] at e4
    refine ⟨g2, M2, x, y, .bl k, M2, R2, p1.tr t2.toTq, p2, by show Res.of ((cmp op x y M2).map D.bl) M2 = _; rw [hk]; rfl, fun g3 H3 w t3 R3 p3 => ⟨k, rep_bl p3, ?_⟩⟩
    cases k with
    | false =>
      rw [if_neg Bool.false_ne_true]
      cases e4
      exact q g3 H3 _ ((t1.trans t2).trans t3) R3 (bl_rep _)
    | true =>
      rw [if_pos rfl]
      obtain ⟨z, M3, e5, e6⟩ := bind_ok e4
      exact ⟨g3, r, M2, z, M3, R3, S2.tr t3.toTq, e5, fun g4 H4 w4 t4 R4 p4 => ⟨g4, M3, y, z, d, M', R4, (p2.tr t3.toTq).tr t4.toTq, p4, e6, fun g5 H5 w5 t5 R5 p5 => q g5 H5 w5 ((((t1.trans t2).trans t3).trans t4).trans t5) R5 p5⟩⟩
theorem e_chain {op op2 : COp} (hu : X.A.units + 65 < cLine) (ha : PE X a (tE X.K fa)) (hb : PE X b (tE X.K fb)) (hc : PE X c (tE X.K fc)) (hn : notSet c = true) :
    PE X (.Compare a [op.py, op2.py] [b, c] pos) (tE X.K fun r m => (fa r m).bind fun x m1 => (fb r m1).bind fun y m2 => (match cmp op x y m2 with
      | some true => (fc r m2).bind fun z m3 => .of ((cmp op2 y z m3).map .bl) m3
      | some false => .ok (.bl false) m2
      | none => .no)) :=
  PE.imp (pe_chain (op_cmp op hu) (op_cmp op2 hu) ha hb hc (show behindInMarks op2.py c = false from no_mark hn)) fun _ _ _ q => chain_t q
theorem t_chain {op op2 : COp} (hu : X.A.units + 65 < cLine) (ha : PE X a (tE X.K fa)) (hb : PE X b (tE X.K fb)) (hc : PE X c (tE X.K fc)) (hn : notSet c = true) :
    PT X (.Compare a [op.py, op2.py] [b, c] pos) (tT X.K fun r m => (fa r m).bind fun x m1 => (fb r m1).bind fun y m2 => (match cmp op x y m2 with
      | some true => (fc r m2).bind fun z m3 => .of (cmp op2 y z m3) m3
      | some false => .ok false m2
      | none => .no)) := by
  refine PT.imp (pt_chain (op_cmp op hu) (op_cmp op2 hu) ha hb hc (show behindInMarks op2.py c = false from no_mark hn)) fun σ H Q q => ?_
  refine chain_t ?_
  obtain ⟨g, r, M, k, M', R, S, e, q⟩ := q
  obtain ⟨x, M1, e1, e2⟩ := bind_ok e
  obtain ⟨y, M2, e3, e4⟩ := bind_ok e2
  refine ⟨g, r, M, .bl k, M', R, S, ?_, fun g' H' v t R' p => ⟨k, rep_bl p, q g' H' k t R' rfl⟩⟩
  show (fa r M).bind _ = _
  rw [e1]
  show (fb r M1).bind _ = _
  rw [e3]
  show (match cmp op x y M2 with
      | some true => (fc r M2).bind fun z m3 => Res.of ((cmp op2 y z m3).map D.bl) m3
      | some false => Res.ok (D.bl false) M2
      | none => Res.no) = _
  cases hk : cmp op x y M2 with
  | none => rw [hk] at e4; cases e4
  | some k2 =>
    rw [hk] at e4
    cases k2 with
    | false => cases e4; rfl
    | true =>
      obtain ⟨z, M3, e5, e6⟩ := bind_ok e4
      obtain ⟨e6, rfl⟩ := of_ok e6
      show (fc r M2).bind _ = _
      rw [e5]
      show Res.of ((cmp op2 y z M').map D.bl) M' = _
      rw [e6]
      rfl
/-! chains of any length -/
/-- the reading of what stands behind the first value of a chain -/
def tCh (K : Fr') (f : D → Env → Mem → Res Bool) : V → L2.St → Hp → (Bool → Hp → Prop) → Prop := fun y σ H Q => ∃ g r M d k M', Rel K g H M ∧ RelS K g H r σ ∧ Rep K g H d y ∧ f d r M = .ok k M' ∧ ∀ g' H', Tr g H g' H' → Rel K g' H' M' → Q k H'
structure PCh (X : Cx) (ops : List CmpOp) (cs : List Expr) (f : D → Env → Mem → Res Bool) : Prop where
  ne : ops ≠ [] ∧ cs ≠ []
  val : ∀ (pos : Pos) (pins : List (Addr × Obj)) (s : Shared) (σ : L2.St) (H : Hp) (y : V) (u : Value) (Q : VK), Inv X pins σ H s → RelV y u → tCh X.K f y σ H (fun k H' => Q (.bl k) H') → wpAny (model X.prog X.w) X.A (compareChain pos u ops (evalEach cs X.env)) (EP X pins σ Q) X.xe s
  tst : ∀ (pos : Pos) (pins : List (Addr × Obj)) (s : Shared) (σ : L2.St) (H : Hp) (y : V) (u : Value) (Q : Bool → Hp → Prop), Inv X pins σ H s → RelV y u → tCh X.K f y σ H Q → wpAny (model X.prog X.w) X.A (testChain pos u ops (evalEach cs X.env)) (TP X pins σ Q) X.xe s
theorem evalEach_cons {e : Expr} {es : List Expr} {env : PySem.Env} : evalEach (e :: es) env = eval e env :: evalEach es env := rfl
theorem ch_last {op : COp} (hu : X.A.units + 65 < cLine) (hb : PE X b (tE X.K fb)) : PCh X [op.py] [b] (fun x r m => (fb r m).bind fun y m1 => .of (cmp op x y m1) m1) := by
  refine ⟨⟨by simp, by simp⟩, fun pos pins s σ H y u Q I ry q => ?_, fun pos pins s σ H y u Q I ry q => ?_⟩
  · obtain ⟨g, r, M, d, k, M', R, S, rd, e, q⟩ := q
    obtain ⟨z, M1, e1, e2⟩ := bind_ok e
    obtain ⟨e2, rfl⟩ := of_ok e2
    refine chain_last (thn (hb.run pins s σ H (fun w H1 => ∃ g1, Tr g H g1 H1 ∧ Rel X.K g1 H1 M' ∧ Rep X.K g1 H1 z w) I ⟨g, r, M, z, M', R, S, e1, fun g1 H1 w t1 R1 p1 => ⟨g1, t1, R1, p1⟩⟩) fun w s1 ⟨zv, H1, I1, r1, g1, t1, R1, p1⟩ => ?_)
    refine op_cmp op hu pins s1 σ H1 y zv u w Q I1 ry r1 ⟨g1, M', d, z, .bl k, M', R1, rd.tr t1.toTq, p1, by show Res.of ((cmp op d z M').map D.bl) M' = _; rw [e2]; rfl, fun g2 H2 w2 t2 R2 p2 => ?_⟩
    rw [rep_bl p2]
    exact q g2 H2 (t1.trans t2) R2
  · obtain ⟨g, r, M, d, k, M', R, S, rd, e, q⟩ := q
    obtain ⟨z, M1, e1, e2⟩ := bind_ok e
    obtain ⟨e2, rfl⟩ := of_ok e2
    refine test_last (thn (hb.run pins s σ H (fun w H1 => ∃ g1, Tr g H g1 H1 ∧ Rel X.K g1 H1 M' ∧ Rep X.K g1 H1 z w) I ⟨g, r, M, z, M', R, S, e1, fun g1 H1 w t1 R1 p1 => ⟨g1, t1, R1, p1⟩⟩) fun w s1 ⟨zv, H1, I1, r1, g1, t1, R1, p1⟩ => ?_)
    refine thn (op_cmp op hu pins s1 σ H1 y zv u w (fun w H2 => w = .bl k ∧ Q k H2) I1 ry r1 ⟨g1, M', d, z, .bl k, M', R1, rd.tr t1.toTq, p1, by show Res.of ((cmp op d z M').map D.bl) M' = _; rw [e2]; rfl, fun g2 H2 w2 t2 R2 p2 => ⟨rep_bl p2, q g2 H2 (t1.trans t2) R2⟩⟩) fun c s2 ⟨zv2, H2, I2, r2, e, q2⟩ => ?_
    subst e
    cases r2
    exact wpAny_truthy_bool ⟨H2, I2, q2⟩
theorem ch_link {op : COp} {ops : List CmpOp} {f : D → Env → Mem → Res Bool} (hu : X.A.units + 65 < cLine) (hb : PE X b (tE X.K fb)) (hc : PCh X ops es f) : PCh X (op.py :: ops) (b :: es) (fun x r m => (fb r m).bind fun y m1 => condR (cmp op x y m1) (f y r m1) (.ok false m1)) := by
  obtain ⟨⟨n1, n2⟩, hv, ht⟩ := hc
  cases ops with
  | nil => exact absurd rfl n1
  | cons op' ops =>
  cases es with
  | nil => exact absurd rfl n2
  | cons c es =>
  have key : ∀ {g : Sg} {H : Hp} {M : Mem} {d : D} {y : V} {r : Env} {σ : L2.St} {k : Bool} {M' : Mem}, RelS X.K g H r σ → ((fb r M).bind fun y m1 => condR (cmp op d y m1) (f y r m1) (.ok false m1)) = .ok k M' → ∃ z M1 k1, fb r M = .ok z M1 ∧ cmp op d z M1 = some k1 ∧ (if k1 = true then f z r M1 else .ok false M1) = .ok k M' := by
    intro g H M d y r σ k M' S e
    obtain ⟨z, M1, e1, e2⟩ := bind_ok e
    cases hk : cmp op d z M1 with
    | none => rw [hk] at e2; cases e2
    | some k1 =>
      rw [hk] at e2
      refine ⟨z, M1, k1, e1, hk, ?_⟩
      cases k1 <;> exact e2
  refine ⟨⟨by simp, by simp⟩, fun pos pins s σ H y u Q I ry q => ?_, fun pos pins s σ H y u Q I ry q => ?_⟩
  · obtain ⟨g, r, M, d, k, M', R, S, rd, e, q⟩ := q
    obtain ⟨z, M1, k1, e1, e2, e3⟩ := key (y := y) S e
    refine chain_link (thn (hb.run pins s σ H (fun w H1 => ∃ g1, Tr g H g1 H1 ∧ Rel X.K g1 H1 M1 ∧ Rep X.K g1 H1 z w) I ⟨g, r, M, z, M1, R, S, e1, fun g1 H1 w t1 R1 p1 => ⟨g1, t1, R1, p1⟩⟩) fun w s1 ⟨zv, H1, I1, r1, g1, t1, R1, p1⟩ => ?_)
    refine thn (op_cmp op hu pins s1 σ H1 y zv u w (fun w H2 => w = .bl k1 ∧ ∃ g2, Tr g1 H1 g2 H2 ∧ Rel X.K g2 H2 M1) I1 ry r1 ⟨g1, M1, d, z, .bl k1, M1, R1, rd.tr t1.toTq, p1, by show Res.of ((cmp op d z M1).map D.bl) M1 = _; rw [e2]; rfl, fun g2 H2 w2 t2 R2 p2 => ⟨rep_bl p2, g2, t2, R2⟩⟩) fun cv s2 ⟨zv2, H2, I2, r2, e, g2, t2, R2⟩ => ?_
    subst e
    cases r2
    refine wpAny_truthy_bool ?_
    cases k1 with
    | false =>
      rw [if_neg Bool.false_ne_true] at e3
      cases e3
      exact ite_ff ⟨.bl false, H2, I2, rfl, q g2 H2 (t1.trans t2) R2⟩
    | true =>
      rw [if_pos rfl] at e3
      exact ite_tt (hv pos pins s2 σ H2 zv w Q I2 r1 ⟨g2, r, M1, z, k, M', R2, (S.tr t1.toTq).tr t2.toTq, p1.tr t2.toTq, e3, fun g3 H3 t3 R3 => q g3 H3 ((t1.trans t2).trans t3) R3⟩)
  · obtain ⟨g, r, M, d, k, M', R, S, rd, e, q⟩ := q
    obtain ⟨z, M1, k1, e1, e2, e3⟩ := key (y := y) S e
    refine test_link (thn (hb.run pins s σ H (fun w H1 => ∃ g1, Tr g H g1 H1 ∧ Rel X.K g1 H1 M1 ∧ Rep X.K g1 H1 z w) I ⟨g, r, M, z, M1, R, S, e1, fun g1 H1 w t1 R1 p1 => ⟨g1, t1, R1, p1⟩⟩) fun w s1 ⟨zv, H1, I1, r1, g1, t1, R1, p1⟩ => ?_)
    refine thn (op_cmp op hu pins s1 σ H1 y zv u w (fun w H2 => w = .bl k1 ∧ ∃ g2, Tr g1 H1 g2 H2 ∧ Rel X.K g2 H2 M1) I1 ry r1 ⟨g1, M1, d, z, .bl k1, M1, R1, rd.tr t1.toTq, p1, by show Res.of ((cmp op d z M1).map D.bl) M1 = _; rw [e2]; rfl, fun g2 H2 w2 t2 R2 p2 => ⟨rep_bl p2, g2, t2, R2⟩⟩) fun cv s2 ⟨zv2, H2, I2, r2, e, g2, t2, R2⟩ => ?_
    subst e
    cases r2
    refine wpAny_truthy_bool ?_
    cases k1 with
    | false =>
      rw [if_neg Bool.false_ne_true] at e3
      cases e3
      exact ite_ff ⟨H2, I2, q g2 H2 (t1.trans t2) R2⟩
    | true =>
      rw [if_pos rfl] at e3
      exact ite_tt (ht pos pins s2 σ H2 zv w Q I2 r1 ⟨g2, r, M1, z, k, M', R2, (S.tr t1.toTq).tr t2.toTq, p1.tr t2.toTq, e3, fun g3 H3 t3 R3 => q g3 H3 ((t1.trans t2).trans t3) R3⟩)
theorem e_chn {o1 o2 : CmpOp} {ops : List CmpOp} {f : D → Env → Mem → Res Bool} (ha : PE X a (tE X.K fa)) (hc : PCh X (o1 :: o2 :: ops) (b :: c :: es) f) (hm : lastMarks (o1 :: o2 :: ops) (b :: c :: es) = false) :
    PE X (.Compare a (o1 :: o2 :: ops) (b :: c :: es) pos) (tE X.K fun r m => (fa r m).bind fun x m1 => (f x r m1).bind fun k m2 => .ok (.bl k) m2) := by
  refine ⟨fun pins s σ H Q I q => ?_⟩
  obtain ⟨g, r, M, d, M', R, S, e, q⟩ := q
  obtain ⟨x, M1, e1, e2⟩ := bind_ok e
  obtain ⟨k, M2, e3, e4⟩ := bind_ok e2
  cases e4
  refine Compare_chain (thn (ha.run pins s σ H (fun w H1 => ∃ g1, Tr g H g1 H1 ∧ Rel X.K g1 H1 M1 ∧ Rep X.K g1 H1 x w) I ⟨g, r, M, x, M1, R, S, e1, fun g1 H1 w t1 R1 p1 => ⟨g1, t1, R1, p1⟩⟩) fun w s1 ⟨zv, H1, I1, r1, g1, t1, R1, p1⟩ => ?_) hm
  exact hc.val pos pins s1 σ H1 zv w Q I1 r1 ⟨g1, r, M1, x, k, M', R1, S.tr t1.toTq, p1, e3, fun g2 H2 t2 R2 => q g2 H2 _ (t1.trans t2) R2 (bl_rep _)⟩
theorem t_chn {o1 o2 : CmpOp} {ops : List CmpOp} {f : D → Env → Mem → Res Bool} (ha : PE X a (tE X.K fa)) (hc : PCh X (o1 :: o2 :: ops) (b :: c :: es) f) (hm : lastMarks (o1 :: o2 :: ops) (b :: c :: es) = false) :
    PT X (.Compare a (o1 :: o2 :: ops) (b :: c :: es) pos) (tT X.K fun r m => (fa r m).bind fun x m1 => f x r m1) := by
  refine ⟨fun pins s σ H Q I q => ?_⟩
  obtain ⟨g, r, M, k, M', R, S, e, q⟩ := q
  obtain ⟨x, M1, e1, e2⟩ := bind_ok e
  refine isTrue_chain (thn (ha.run pins s σ H (fun w H1 => ∃ g1, Tr g H g1 H1 ∧ Rel X.K g1 H1 M1 ∧ Rep X.K g1 H1 x w) I ⟨g, r, M, x, M1, R, S, e1, fun g1 H1 w t1 R1 p1 => ⟨g1, t1, R1, p1⟩⟩) fun w s1 ⟨zv, H1, I1, r1, g1, t1, R1, p1⟩ => ?_) hm
  exact hc.tst pos pins s1 σ H1 zv w Q I1 r1 ⟨g1, r, M1, x, k, M', R1, S.tr t1.toTq, p1, e2, fun g2 H2 t2 R2 => q g2 H2 k (t1.trans t2) R2 rfl⟩
theorem e_and {rest : List Expr} (ha : PE X a (tE X.K fa)) (hb : PE X (.BoolOp .And (b :: rest) pos) (tE X.K fb)) : PE X (.BoolOp .And (a :: b :: rest) pos) (tE X.K fun r m => (fa r m).bind fun x m1 => (match x with
    | .bl true => fb r m1
    | .bl false => .ok (.bl false) m1
    | _ => .no)) := by
  refine PE.imp (pe_and ha hb) fun σ H Q q => ?_
  obtain ⟨g, r, M, d, M', R, S, e, q⟩ := q
  obtain ⟨x, M1, e1, e2⟩ := bind_ok e
  refine ⟨g, r, M, x, M1, R, S, e1, fun g1 H1 v t1 R1 p1 => ?_⟩
  try dsimp only at e2
  split at e2
  · exact ⟨true, rep_bl p1, by rw [if_pos rfl]; exact ⟨g1, r, M1, d, M', R1, S.tr t1.toTq, e2, fun g2 H2 u t2 R2 p2 => q g2 H2 u (t1.trans t2) R2 p2⟩⟩
  · cases e2
    exact ⟨false, rep_bl p1, by rw [if_neg Bool.false_ne_true]; exact q g1 H1 _ t1 R1 (bl_rep _)⟩
  · cases e2
theorem e_or {rest : List Expr} (ha : PE X a (tE X.K fa)) (hb : PE X (.BoolOp .Or (b :: rest) pos) (tE X.K fb)) : PE X (.BoolOp .Or (a :: b :: rest) pos) (tE X.K fun r m => (fa r m).bind fun x m1 => (match x with
    | .bl true => .ok (.bl true) m1
    | .bl false => fb r m1
    | _ => .no)) := by
  refine PE.imp (pe_or ha hb) fun σ H Q q => ?_
  obtain ⟨g, r, M, d, M', R, S, e, q⟩ := q
  obtain ⟨x, M1, e1, e2⟩ := bind_ok e
  refine ⟨g, r, M, x, M1, R, S, e1, fun g1 H1 v t1 R1 p1 => ?_⟩
  try dsimp only at e2
  split at e2
  · cases e2
    exact ⟨true, rep_bl p1, by rw [if_pos rfl]; exact q g1 H1 _ t1 R1 (bl_rep _)⟩
  · exact ⟨false, rep_bl p1, by rw [if_neg Bool.false_ne_true]; exact ⟨g1, r, M1, d, M', R1, S.tr t1.toTq, e2, fun g2 H2 u t2 R2 p2 => q g2 H2 u (t1.trans t2) R2 p2⟩⟩
  · cases e2
theorem e_not (ha : PE X a (tE X.K fa)) : PE X (.UnaryOp .Not a pos) (tE X.K fun r m => (fa r m).bind fun x m1 => (match x with
    | .bl b => .ok (.bl (!b)) m1
    | _ => .no)) := by
  refine PE.imp (pe_not ha) fun σ H Q q => ?_
  refine tG_imp (bind1 q) fun v H1 q1 => ?_
  clear q
  have q := q1
  obtain ⟨g, M, x, d, M', R, rx, e, q⟩ := q
  try dsimp only at e
  split at e
  · rename_i i
    cases e
    exact ⟨i, rep_bl rx, q g H1 _ (.refl g H1) R (bl_rep _)⟩
  · cases e
theorem e_ite {t : Expr} (ht : PT X t (tT X.K ft)) (ha : PE X a (tE X.K fa)) (hb : PE X b (tE X.K fb)) : PE X (.IfExp t a b pos) (tE X.K fun r m => (ft r m).bind fun k m1 => if k = true then fa r m1 else fb r m1) := by
  refine PE.imp (pe_ifExp ht ha hb) fun σ H Q q => ?_
  obtain ⟨g, r, M, d, M', R, S, e, q⟩ := q
  obtain ⟨k, M1, e1, e2⟩ := bind_ok e
  refine ⟨g, r, M, k, M1, R, S, e1, fun g1 H1 v t1 R1 p1 => ?_⟩
  subst p1
  cases k with
  | true => exact ⟨g1, r, M1, d, M', R1, S.tr t1.toTq, e2, fun g2 H2 u t2 R2 p2 => q g2 H2 u (t1.trans t2) R2 p2⟩
  | false => exact ⟨g1, r, M1, d, M', R1, S.tr t1.toTq, e2, fun g2 H2 u t2 R2 p2 => q g2 H2 u (t1.trans t2) R2 p2⟩
theorem e_idx (ha : PE X a (tE X.K fa)) (hb : PE X b (tE X.K fb)) (hn : notSlice b = true) : PE X (.Subscript a b pos) (tE X.K fun r m => (fa r m).bind fun x m1 => (fb r m1).bind fun y m2 => .of (idx x y m2) m2) :=
  PE.imp (pe_ix ix_any ha hb (plain_ix hn)) fun _ _ _ q => bind2 q
theorem PO.imp {e : Option Expr} {t t' : TO} (h : PO X e t) (i : ∀ σ H Q, t' σ H Q → t σ H Q) : PO X e t' := ⟨fun pins s σ H Q I q => h.run pins s σ H Q I (i σ H Q q)⟩
theorem o_none : PO X none (tO X.K fun _ m => .ok none m) := by
  refine PO.imp po_none fun σ H Q q => ?_
  obtain ⟨g, r, M, d, M', R, S, e, q⟩ := q
  cases e
  exact q g H none (.refl g H) R rfl
theorem o_some (ha : PE X a (tE X.K fa)) : PO X (some a) (tO X.K fun r m => (fa r m).bind fun x m1 => (match x with
    | .int i => .ok (some i) m1
    | _ => .no)) := by
  refine PO.imp (po_some ha) fun σ H Q q => ?_
  refine tG_imp (bind1 q) fun v H1 q1 => ?_
  clear q
  have q := q1
  obtain ⟨g, M, x, d, M', R, rx, e, q⟩ := q
  try dsimp only at e
  split at e
  · rename_i i
    cases e
    exact ⟨i, rep_int rx, q g H1 _ (.refl g H1) R rfl⟩
  · cases e
theorem e_slice {lo hi : Option Expr} {fl fh : Env → Mem → Res (Option Int)} {p2 : Pos} (ha : PE X a (tE X.K fa)) (hl : PO X lo (tO X.K fl)) (hh : PO X hi (tO X.K fh)) :
    PE X (.Subscript a (.Slice lo hi none p2) pos) (tE X.K fun r m => (fa r m).bind fun x m1 => (fl r m1).bind fun l m2 => (fh r m2).bind fun h m3 => .of (slice x l h m3) m3) := by
  refine PE.imp (pe_slice sl_any ha hl hh) fun σ H Q q => ?_
  obtain ⟨g, r, M, d, M', R, S, e, q⟩ := q
  obtain ⟨x, M1, e1, e⟩ := bind_ok e
  obtain ⟨l, M2, e2, e⟩ := bind_ok e
  obtain ⟨h, M3, e3, e⟩ := bind_ok e
  obtain ⟨e, rfl⟩ := of_ok e
  refine ⟨g, r, M, x, M1, R, S, e1, fun g1 H1 v t1 R1 p1 => ⟨g1, r, M1, l, M2, R1, S.tr t1.toTq, e2, fun g2 H2 l' t2 R2 p2 => ⟨g2, r, M2, h, M', R2, (S.tr t1.toTq).tr t2.toTq, e3, fun g3 H3 h' t3 R3 p3 => ?_⟩⟩⟩
  subst p2 p3
  exact ⟨g3, M', x, d, R3, (p1.tr t2.toTq).tr t3.toTq, e, fun g4 H4 w t4 R4 p4 => q g4 H4 w (((t1.trans t2).trans t3).trans t4) R4 p4⟩
theorem e_rev {k : Nat} {p1 p2 p3 : Pos} (ha : PE X a (tE X.K fa)) : PE X (.Subscript a (.Slice none none (some (.UnaryOp .USub (.Constant (.int 1) k p1) p2)) p3) pos) (tE X.K fun r m => (fa r m).bind fun x m1 => .of ((lstOf m1 x).map fun xs => .lst xs.reverse) m1) := by
  refine PE.imp (pe_revL ha) fun σ H Q q => ?_
  refine tG_imp (bind1 q) fun v H1 q1 => ?_
  clear q
  have q := q1
  obtain ⟨g, M, x, d, M', R, rx, e, q⟩ := q
  obtain ⟨e, rfl⟩ := of_ok e
  obtain ⟨xs, e1, rfl⟩ := map_some e
  obtain ⟨p, vs, rfl, h1, h2, h3⟩ := lst_at R rx e1
  exact ⟨p, vs, rfl, .of h1, fun l hl => q g _ _ (.new hl) (R.new hl) (R.newLst hl (by rw [List.length_reverse]; exact h2) h3.reverse)⟩
/-! ### calls -/
theorem all_star (h : es.all notStar = true) (hne : es ≠ []) : ∃ e r, es = e :: r ∧ notStar e = true ∧ r.all notStar = true := by
  cases es with
  | nil => exact absurd rfl hne
  | cons e r =>
    rw [List.all_cons] at h
    exact ⟨e, r, rfl, (Bool.and_eq_true_iff.mp h).1, (Bool.and_eq_true_iff.mp h).2⟩
theorem e_prim {x : Str} {p : Prim} {pp : Pos} (hc : X.calm = true) (hg : Gl X x) (hm : X.mg x = none) (hv : bootBuiltins x = some p.val) (ha : PA X (a :: es) (tAs X.K fs)) (hn : (x ≠ ("__name__" : Str))) (hdb : (x == ("__debug__" : Str)) = false) (h1 : notStar a = true) (h2 : es.all notStar = true) :
    PE X (.Call (.Name x pp) (a :: es) [] pos) (tE X.K fun r m => (fs r m).bind fun ds m1 => .of (prim p ds m1) m1) := by
  have fin : ∀ {t : TE}, (∀ σ H Q, tCB (rP X.K p) (tAs X.K fs) σ H Q → t σ H Q) → True := fun _ => trivial
  have go : PE X (.Call (.Name x pp) (a :: es) [] pos) (tCB (rP X.K p) (tAs X.K fs)) := by
    cases p
    case tuple => exact pe_callTy (prim_ok hc .tuple) hg hm hv ha hn hdb (star_cons h1) (star_any h2)
    case int => exact pe_callTy (prim_ok hc .int) hg hm hv ha hn hdb (star_cons h1) (star_any h2)
    case len => exact pe_callB (prim_ok hc .len) hg hm hv ha hn hdb (star_cons h1) (star_any h2)
    case abs => exact pe_callB (prim_ok hc .abs) hg hm hv ha hn hdb (star_cons h1) (star_any h2)
    case min2 => exact pe_callB (prim_ok hc .min2) hg hm hv ha hn hdb (star_cons h1) (star_any h2)
    case max2 => exact pe_callB (prim_ok hc .max2) hg hm hv ha hn hdb (star_cons h1) (star_any h2)
    case sum => exact pe_callB (prim_ok hc .sum) hg hm hv ha hn hdb (star_cons h1) (star_any h2)
    case min1 => exact pe_callB (prim_ok hc .min1) hg hm hv ha hn hdb (star_cons h1) (star_any h2)
    case max1 => exact pe_callB (prim_ok hc .max1) hg hm hv ha hn hdb (star_cons h1) (star_any h2)
  exact PE.imp go fun _ _ _ q => bindS q
theorem e_isi {t : Ty} {x y : Str} {pp p2 : Pos} (hg : Gl X x) (hm : X.mg x = none) (hv : bootBuiltins x = some (.builtin "isinstance")) (hg2 : Gl X y) (hm2 : X.mg y = none) (hv2 : bootBuiltins y = some (.type t.nm)) (ha : PE X a (tE X.K fa))
    (hn : (x ≠ ("__name__" : Str))) (hdb : (x == ("__debug__" : Str)) = false) (hn2 : (y ≠ ("__name__" : Str))) (hdb2 : (y == ("__debug__" : Str)) = false) (h1 : notStar a = true) :
    PE X (.Call (.Name x pp) [a, .Name y p2] [] pos) (tE X.K fun r m => (fa r m).bind fun x m1 => .of ((isTy m1 x t).map .bl) m1) := by
  refine PE.imp (pe_callB call_isi hg hm hv (pa_cons ha (pa_cons (pe_bltn (v := .ty t.nm) hg2 hm2 hv2 rfl hn2 hdb2) pa_nil) (star_cons h1)) hn hdb (star_cons h1) rfl) fun σ H Q q => ?_
  refine tG_imp (bind1 q) fun v H1 q1 => ?_
  clear q
  have q := q1
  obtain ⟨g, M, x, d, M', R, rx, e, q⟩ := q
  obtain ⟨e, rfl⟩ := of_ok e
  obtain ⟨k, e1, rfl⟩ := map_some e
  obtain ⟨n, e2, e3⟩ := isTy_kit e1
  exact ⟨v, .ty t.nm, .type n, .type t.nm, k, rfl, .ty _, tyX_of R rx e2, kit_ty e3, q g H1 _ (.refl g H1) R (bl_rep _)⟩
theorem e_list {cell : Bool} {x : Str} {pp : Pos} (hg : Gl X x) (hm : X.mg x = none) (hv : bootBuiltins x = some (.type "list")) (ha : PE X a (tE X.K fa)) (hn : (x ≠ ("__name__" : Str))) (hdb : (x == ("__debug__" : Str)) = false) (h1 : notStar a = true) :
    PE X (.Call (.Name x pp) [a] [] pos) (tE X.K fun r m => (fa r m).bind fun x m1 => (match seqOf m1 x with
      | some ds => newL cell ds m1
      | none => .no)) := by
  refine PE.imp (pe_callTy call_list_of hg hm hv (pa_cons ha pa_nil (star_cons h1)) hn hdb (star_cons h1) rfl) fun σ H Q q => ?_
  refine tG_imp (bind1 q) fun v H1 q1 => ?_
  clear q
  have q := q1
  obtain ⟨g, M, x, d, M', R, rx, e, q⟩ := q
  try dsimp only at e
  split at e
  · rename_i ds e1
    obtain ⟨p, vs, rfl, h1, h2, h3⟩ := seq_at R rx e1
    exact ⟨p, vs, rfl, h1, fun l hl => newL_ok R h2 h3 e hl q⟩
  · cases e
theorem reps_range {K : Fr'} {g : Sg} {H : Hp} (lo : Int) : ∀ is : List Nat, Reps K g H (is.map fun (i : Nat) => D.int (lo + (i : Nat))) (is.map fun (i : Nat) => V.int (lo + (i : Nat)))
  | [] => .nil
  | i :: is => .cons (int_rep _) (reps_range lo is)
theorem range_reps {K : Fr'} {g : Sg} {H : Hp} (lo hi : Int) : Reps K g H (rangeL lo hi) (rgV lo hi) := reps_range lo _
theorem rangeL_length (lo hi : Int) : (rangeL lo hi).length = (hi - lo).toNat := by unfold rangeL; rw [List.length_map, List.length_range]
theorem rangeS_some {x y : D} {ds : List D} (h : rangeS x y = some ds) : ∃ lo hi, x = .int lo ∧ y = .int hi ∧ rangeOk lo hi = true ∧ ds = rangeL lo hi := by
  unfold rangeS at h
  split at h
  · split at h
    · cases h
      exact ⟨_, _, rfl, rfl, by assumption, rfl⟩
    · cases h
  · cases h
theorem rangeOk_ok {lo hi : Int} (h : rangeOk lo hi = true) : (-(2 ^ 62) ≤ lo ∧ lo < 2 ^ 62 ∧ -(2 ^ 62) ≤ hi ∧ hi < 2 ^ 62) ∧ (hi - lo).toNat ≤ LIM := by
  unfold rangeOk at h
  exact @of_decide_eq_true _ (Classical.propDecidable _) h
theorem rgOk_of {lo hi : Int} (h : rangeOk lo hi = true) : RgOk lo hi := by
  obtain ⟨⟨a, b, c, d⟩, e⟩ := rangeOk_ok h
  exact ⟨a, b, c, d, Nat.le_trans e (by decide)⟩
/-- range(a, b), range(b) as an argument -/
def tRgD (K : Fr') (f1 f2 : Env → Mem → Res D) : L2.St → Hp → (Int → Int → Hp → Prop) → Prop := fun σ H Q => tE K f1 σ H fun v H1 => tE K f2 σ H1 fun u H2 => ∃ i j, v = .int i ∧ u = .int j ∧ Q i j H2
theorem e_listR {cell : Bool} {x : Str} {pp : Pos} {te : L2.St → Hp → (Int → Int → Hp → Prop) → Prop} (hc : X.calm = true) (hg : Gl X "list") (hm : X.mg "list" = none) (hr : PRg X a te) (hi : ∀ σ H Q, tRgD X.K fa fb σ H Q → te σ H Q) (h1 : notStar a = true) :
    PE X (.Call (.Name "list" pp) [a] [] pos) (tE X.K fun r m => (fa r m).bind fun x m1 => (fb r m1).bind fun y m2 => (match rangeS x y with
      | some ds => newL cell ds m2
      | none => .no)) := by
  refine PE.imp (pe_listRg hc hg hm hr (star_cons h1)) fun σ H Q q => hi _ _ _ ?_
  refine tG_imp (bind2 q) fun v H1 q0 => tG_imp q0 fun u H2 q1 => ?_
  clear q
  have q := q1
  obtain ⟨g, M, x, y, d, M', R, rx, ry, e, q⟩ := q
  try dsimp only at e
  split at e
  · rename_i ds e1
    obtain ⟨lo, hi, rfl, rfl, ok, rfl⟩ := rangeS_some e1
    refine ⟨lo, hi, rep_int rx, rep_int ry, rgOk_of ok, fun p hp => newL_ok R ?_ (range_reps lo hi) e hp q⟩
    rw [rangeL_length]
    exact Nat.le_trans (rangeOk_ok ok).2 LIM_line
  · cases e
theorem e_tupR {x : Str} {pp : Pos} {te : L2.St → Hp → (Int → Int → Hp → Prop) → Prop} (hc : X.calm = true) (hg : Gl X "tuple") (hm : X.mg "tuple" = none) (hr : PRg X a te) (hi : ∀ σ H Q, tRgD X.K fa fb σ H Q → te σ H Q) (h1 : notStar a = true) :
    PE X (.Call (.Name "tuple" pp) [a] [] pos) (tE X.K fun r m => (fa r m).bind fun x m1 => (fb r m1).bind fun y m2 => .of ((rangeS x y).map .tup) m2) := by
  refine PE.imp (pe_tupRg hc hg hm hr (star_cons h1)) fun σ H Q q => hi _ _ _ ?_
  refine tG_imp (bind2 q) fun v H1 q0 => tG_imp q0 fun u H2 q1 => ?_
  clear q
  have q := q1
  obtain ⟨g, M, x, y, d, M', R, rx, ry, e, q⟩ := q
  obtain ⟨e', rfl⟩ := of_ok e
  obtain ⟨ds, e1, rfl⟩ := map_some e'
  obtain ⟨lo, hi, rfl, rfl, ok, rfl⟩ := rangeS_some e1
  refine ⟨lo, hi, rep_int rx, rep_int ry, rgOk_of ok, fun p hp => q g _ _ (.new hp) (R.new hp) (newTup hp ?_ (range_reps lo hi))⟩
  rw [rangeL_length]
  exact Nat.le_trans (rangeOk_ok ok).2 LIM_line
theorem prg_one {pp : Pos} (hg : Gl X "range") (hm : X.mg "range" = none) (ha : PE X a (tE X.K fa)) (h1 : notStar a = true) : ∃ te, PRg X (.Call (.Name "range" pp) [a] [] pos) te ∧ ∀ σ H Q, tRgD X.K (fun _ m => .ok (.int 0) m) fa σ H Q → te σ H Q := by
  refine ⟨_, prg_1 hg hm ha (star_cons h1), fun σ H Q q => ?_⟩
  obtain ⟨g, r, M, d, M', R, S, e, q⟩ := q
  cases e
  refine tG_imp (q g H (.int 0) (.refl g H) R (int_rep 0)) fun u H2 q => ?_
  obtain ⟨i, j, e1, e2, q⟩ := q
  cases e1
  exact ⟨j, e2, q⟩
theorem prg_two {pp : Pos} (hg : Gl X "range") (hm : X.mg "range" = none) (ha : PE X a (tE X.K fa)) (hb : PE X b (tE X.K fb)) (h1 : notStar a = true) (h2 : notStar b = true) : ∃ te, PRg X (.Call (.Name "range" pp) [a, b] [] pos) te ∧ ∀ σ H Q, tRgD X.K fa fb σ H Q → te σ H Q :=
  ⟨_, prg_2 hg hm ha hb (star_cons h1) (star_cons h2) (star_any (by rw [List.all_cons, h2]; rfl)), fun _ _ _ q => q⟩
end
end Rf
namespace PySem
open Sem (wp)
open AutoSeq1 (wpAny_loadPart')
theorem rf_enum_newT (l : Addr) (items : Array Value) :
    Meets (Builtin.«enumerate.__new__» ⟨[.type "enumerate", .ref l], []⟩) (fun _ R s => s.heap.IsTuple l items ∧
      R (.ok (.ret (.ref (s.heap.push { cls := .type "tuple_iterator", data := .fields #[.ref l, .int 0 0] }).objs.size)))
        { s with heap := (s.heap.push { cls := .type "tuple_iterator", data := .fields #[.ref l, .int 0 0] }).push { cls := .type "enumerate", data := .fields #[.none, .bool false, .ref s.heap.objs.size, rawInt 0, .none, .none] } }) :=
  .of_wp fun prog w A R s h => by
    obtain ⟨hp, g, d, tk, os⟩ := s; obtain ⟨hL, h⟩ := h
    have hsub := sub_enumerate
    wp_walk using wpAny_pyIter_tuple hL
    refine wpAny_stack_any fun st => wpAny_pure ?_
    split
    · rename_i c _ _ _ _ _
      cases (c == Value.type "enumerate")
      · wp_walk using wpAny_pyIter_tuple hL
        exact ⟨_, rfl, h⟩
      · wp_walk using wpAny_pyIter_tuple hL
        exact ⟨_, rfl, h⟩
    · wp_walk using wpAny_pyIter_tuple hL
      exact ⟨_, rfl, h⟩
section
variable {prog : Program} {w : World} {A : Around} {E : Value → Shared → Prop} {s : Shared}
theorem rf_call_enumT {l : Addr} {items : Array Value} {Q : Value → Shared → Prop} (hL : s.heap.IsTuple l items)
    (h : ∀ h', IsEnum h' (s.heap.objs.size + 1) s.heap.objs.size 0 .none → h'.IsTupleIter s.heap.objs.size l 0 → h'.objs.size = s.heap.objs.size + 2 →
      (∀ b o, s.heap.get? b = some o → h'.get? b = some o) → Q (.ref (s.heap.objs.size + 1)) { s with heap := h' }) :
    wpAny (model prog w) A (call (.type "enumerate") [.ref l]) Q E s := by
  refine callType_new F.called_enumerate (by decide) (F.typeCall_enumerate_1 _) (F.newCall_enumerate_1 _) (fun obj => F.args_object_init_2 obj _) F.entry_enumerate_new
    (rf_enum_newT l items) ⟨hL, ?_⟩
  have hz : (s.heap.push { cls := .type "tuple_iterator", data := .fields #[.ref l, .int 0 0] }).objs.size = s.heap.objs.size + 1 := Heap.size_push ..
  show _ ∧ _
  rw [hz]
  have he : IsEnum ((s.heap.push { cls := .type "tuple_iterator", data := .fields #[.ref l, .int 0 0] }).push
      { cls := .type "enumerate", data := .fields #[.none, .bool false, .ref s.heap.objs.size, rawInt 0, .none, .none] }) (s.heap.objs.size + 1) s.heap.objs.size 0 .none := by
    have := Heap.get?_push_size (s.heap.push { cls := .type "tuple_iterator", data := .fields #[.ref l, .int 0 0] })
      (o := { cls := .type "enumerate", data := .fields #[.none, .bool false, .ref s.heap.objs.size, rawInt 0, .none, .none] }) rfl
    rw [hz] at this; exact this
  refine ⟨⟨_, he, rfl⟩, h _ he ⟨_, Heap.get?_push_of_some _ (Heap.get?_push_size _ rfl), rfl, rfl⟩ (by rw [Heap.size_push, hz]) fun b o x => Heap.get?_push_of_some _ (Heap.get?_push_of_some _ x)⟩
end
end PySem
namespace Rf
open PySem PySem.Spec PyProof.Rows L2
/-- the tuple at a, each item in a new pair -/
def IteT (K : Fr') (a : Addr) : It :=
  ⟨fun i H => ∃ (xs : List V) (x : V), SqT K H a xs ∧ xs[i]? = some x, fun i H v H' => ∃ T x, v = .ref T ∧ H T = none ∧ H' = upd H T (.tup [.int (i : Nat), x]) ∧ ∀ xs, SqT K H a xs → xs[i]? = some x, fun i H => ∃ xs : List V, SqT K H a xs ∧ xs.length = i⟩
theorem turn_enumT {P : Program} {w : World} {K : Fr'} {elts : List Expr} {kk : Nat} {tpos : Pos} (a e it : Addr) (hai : a ≠ it) (hae : a ≠ e) :
    Turn P w K (.Tuple elts kk tpos) (IteT K a) [e, it] e (fun i h => (∃ old, IsEnum h e it ((i : Nat) : Int) old) ∧ h.IsTupleIter it a i ∧ e ≠ it) where
  mem := by simp
  obj := fun i h st b hb => by
    obtain ⟨⟨old, he⟩, ⟨o, ho, hc, hd⟩, _⟩ := st
    have e' : b = e ∨ b = it := by simpa using hb
    rcases e' with z | z
    · rw [z]; exact ⟨_, he, fun v q => nomatch q⟩
    · rw [z]; exact ⟨o, ho, fun v q => by rw [hd] at q; cases q⟩
  keep := fun i h h' st k => let ⟨⟨old, he⟩, hi, hne⟩ := st; ⟨⟨old, k e (by simp) _ he⟩, hi.at fun o q => k it (by simp) o q, hne⟩
  item := by
    intro X hP hw hK hc i pins s σ H E I hf st hg
    subst hP hw hK
    obtain ⟨⟨old, he⟩, hit, hne⟩ := st
    obtain ⟨xs, x, hq, hx⟩ := hg
    obtain ⟨its, rv, p, hz⟩ := I.tuple hq
    obtain ⟨u, hu, ru⟩ := rv.get hx
    have hlt : i < its.toArray.size := by
      rw [List.size_toArray]
      exact (List.getElem?_eq_some_iff.mp hu).1
    have hel : e < s.heap.objs.size := Heap.lt_size he
    have hil : it < s.heap.objs.size := by obtain ⟨_, q, _⟩ := hit; exact Heap.lt_size q
    have D := Draws.tuple (prog := X.prog) (w := X.w) (A := X.A.in1) (I.ok.hd hc) it a hai its.toArray
    refine wpAny_pyNext_enum_itemD D he ⟨hit, p⟩ hlt hne (by simp [hne, Ne.symm hae]) fun u' h' tk hu' ho hst hT hsz hk => ?_
    obtain rfl : u' = u := by
      have q : its.toArray[i]? = some u' := hu'
      rw [List.getElem?_toArray, hu] at q
      exact (Option.some.inj q).symm
    obtain ⟨hit', _⟩ := hst
    refine ⟨_, rfl, wpAny_letOwnedTupleGo_enum (s := { s with heap := h', toks := tk + 1 }) ho fun h'' he' sb => ?_⟩
    have hT2 : h''.get? s.heap.objs.size = some { cls := .type "tuple", data := .seq #[.int i tk, u'] } := (sb.2 _ (Nat.ne_of_gt hel)).trans hT
    have new : ObjOk X.prog X.w (upd H s.heap.objs.size (.tup [.int (i : Nat), x])) h'' s.heap.objs.size (.tup [.int (i : Nat), x]) :=
      ⟨by show 2 ≤ sizeLine; decide, [.int i tk, u'], .cons ⟨_, rfl⟩ (.cons ru .nil), ⟨_, hT2, rfl, _, rfl⟩⟩
    have I1 : L2.Inv X pins σ (upd H s.heap.objs.size (.tup [.int (i : Nat), x])) { s with heap := h'', toks := tk + 1 } :=
      I.turnedNew (ch := [e, it]) (fun b ob hb q => (sb.2 b (fun z => hb (by simp [z]))).trans (hk b ob (fun z => hb (by simp [z])) (fun z => hb (by simp [z])) q)) hf (Nat.le_refl _) new
    refine ⟨.ref s.heap.objs.size, _, I1, rfl, ⟨_, x, rfl, I.hok.fresh (Nat.le_refl _), rfl, fun ys hy => by rw [I.tuple_inj hy hq]; exact hx⟩, ⟨⟨u', ?_⟩, hit'.at fun o q => (sb.2 it (Ne.symm hne)).trans q, hne⟩, fun b hb => ?_⟩
    · have e1 : ((i + 1 : Nat) : Int) = (i : Int) + 1 := by omega
      rw [e1]; exact he'
    · have hb' : b < s.heap.objs.size := by
        have e' : b = e ∨ b = it := by simpa using hb
        rcases e' with z | z
        · rw [z]; exact hel
        · rw [z]; exact hil
      rw [upd_ne (Nat.ne_of_lt hb')]
      exact (hf b hb).1
  done := by
    intro X hP hw hK hc i pins s σ H E I hf st hg
    subst hP hw hK
    obtain ⟨⟨old, he⟩, hit, hne⟩ := st
    obtain ⟨xs, hq, hx⟩ := hg
    obtain ⟨its, rv, p, hz⟩ := I.tuple hq
    obtain ⟨f0, f1, f2, f3, f4, f5⟩ := hf it (by simp)
    have hl := rv.length
    have D := Draws.tuple (prog := X.prog) (w := X.w) (A := X.A.in1) (I.ok.hd hc) it a hai its.toArray
    have hn : i = its.toArray.size := by rw [List.size_toArray]; omega
    exact wpAny_pyNext_enum_endD D he ⟨by rw [← hn]; exact hit, p⟩ fun h' eb => ⟨rfl, I.turned (t' := s.toks) (fun b o hb q => eb b o hb q) f0 f1 f3 f4 f5⟩
  self := fun A i s Q E st h => let ⟨⟨_, he⟩, _⟩ := st; wpAny_pyIter_enum he h
def iEnumT (K : Fr') (ta : TA) : TI := fun σ H R => ta σ H fun vs H1 => ∃ a xs, vs = [.ref a] ∧ ((SqL K H1 a xs ∧ R (Ite K a) H1) ∨ (SqT K H1 a xs ∧ R (IteT K a) H1))
theorem pi_enumA {X : Cx} {e : Expr} {ta : TA} {p pos tpos : Pos} {elts : List Expr} {kk : Nat} (hg : Gl X "enumerate") (hm : X.mg "enumerate" = none) (ha : PA X [e] ta) (hs : starEach [e] X.env = [(false, eval e X.env)]) :
    PI X (.Tuple elts kk tpos) (.Call (.Name "enumerate" p) [e] [] pos) (iEnumT X.K ta) := by
  refine ⟨fun pins s σ H R I h => ?_⟩
  refine Call_ (ld_blt I hg hm boot_enumerate (PyProof.Rows.callWith_type1 (thn (ha.run pos pins s σ H _ I h) fun us s1 ⟨vs, H1, I1, r1, q1⟩ => ?_) hs rfl))
  obtain ⟨a, xs, ex, q⟩ := q1
  subst ex
  cases r1 with
  | cons r rr =>
    cases rr
    cases r
    have fresh : ∀ b, b = s1.heap.objs.size + 1 ∨ b = s1.heap.objs.size → FpOk X pins H1 b := fun b e' => by
      have hle : s1.heap.objs.size ≤ b := by
        rcases e' with z | z
        · rw [z]; exact Nat.le_add_right _ _
        · rw [z]; exact Nat.le_refl _
      exact I1.fpOk hle (I1.hok.fresh hle)
    rcases q with ⟨hq, q⟩ | ⟨hq, q⟩
    · obtain ⟨its, rv, p', hz⟩ := I1.list hq
      refine call_enumerate_list p'.isList fun h' he hit hsz hk => wpAny_pyIter_enum he ?_
      have I2 : L2.Inv X pins σ H1 { s1 with heap := h' } := I1.kept (t' := s1.toks) hk
      exact ⟨s1.heap.objs.size + 1, [s1.heap.objs.size + 1, s1.heap.objs.size], _, _, H1, rfl, I2, turn_enum a (s1.heap.objs.size + 1) s1.heap.objs.size, ⟨⟨.none, he⟩, hit, Nat.succ_ne_self _⟩, fun b hb => fresh b (by simpa using hb), q⟩
    · obtain ⟨its, rv, p', hz⟩ := I1.tuple hq
      have hlt : a < s1.heap.objs.size := p'.lt
      refine rf_call_enumT (show s1.heap.IsTuple a its.toArray from p') fun h' he hit hsz hk => wpAny_pyIter_enum he ?_
      have I2 : L2.Inv X pins σ H1 { s1 with heap := h' } := I1.kept (t' := s1.toks) hk
      exact ⟨s1.heap.objs.size + 1, [s1.heap.objs.size + 1, s1.heap.objs.size], _, _, H1, rfl, I2, turn_enumT a (s1.heap.objs.size + 1) s1.heap.objs.size (Nat.ne_of_lt hlt) (Nat.ne_of_lt (Nat.lt_succ_of_lt hlt)), ⟨⟨.none, he⟩, hit, Nat.succ_ne_self _⟩, fun b hb => fresh b (by simpa using hb), q⟩
end Rf
namespace Rf
open PySem PySem.Spec PyProof.Rows L2
/-- what a def promises: what the evaluator says of it -/
def spD (K : Fr') (f : List D → Mem → Res D) : Sp := fun vs H Q _ => rS K (Rep K) f vs H Q
section
variable {X : Cx} {a b c : Expr} {es : List Expr} {pos : Pos} {fa fb fc : Env → Mem → Res D} {fs : Env → Mem → Res (List D)} {ft : Env → Mem → Res Bool}
variable {k : Nat} {f : Addr} {fd : FuncData} {ps : List Str} {h : List D → Mem → Res D}
/-- a reading of no arguments -/
theorem no_args {α β : Type} {Rp : Sg → Hp → α → β → Prop} {σ : L2.St} {H : Hp} {Q : β → Hp → Prop} {h : List D → Mem → Res α} (q : tG X.K Rp (fun r m => (Res.ok [] m).bind h) σ H Q) : rS X.K Rp h [] H Q := by
  obtain ⟨g, r, M, d, M', R, S, e, q⟩ := q
  exact ⟨g, M, [], d, M', R, .nil, e, q⟩
theorem e_call0 {x : Str} {p : Pos} (F : FnOk X.prog X.w X.K X.mg X.base CX0 k f fd ps (spD X.K h)) (hr : Room k X.A) (hg : Gl X x) (hm : X.mg x = some (.ref f)) (hk : PySem.W.keepIn X.K (.ref f) = true) (hb : Binds X.K fd ps [])
    (hdb : (x == ("__debug__" : Str)) = false) : PE X (.Call (.Name x p) [] [] pos) (tE X.K fun r m => (Res.ok [] m).bind h) :=
  PE.imp (pe_call0 F hr hg hm hk hb .nil pass0 hdb) fun _ _ _ q => no_args q
theorem e_call {x : Str} {p : Pos} (F : FnOk X.prog X.w X.K X.mg X.base CX0 k f fd ps (spD X.K h)) (hr : Room k X.A) (hg : Gl X x) (hm : X.mg x = some (.ref f)) (hk : PySem.W.keepIn X.K (.ref f) = true) (hb : Binds X.K fd ps [])
    (ha : PA X (a :: es) (tAs X.K fs)) (hdb : (x == ("__debug__" : Str)) = false) (h1 : notStar a = true) (h2 : es.all notStar = true) : PE X (.Call (.Name x p) (a :: es) [] pos) (tE X.K fun r m => (fs r m).bind h) := by
  refine PE.imp (pe_call F hr hg hm hk hb .nil pass0 ha hdb (star_cons h1) (star_any h2)) fun σ H Q q => ?_
  refine tG_imp (bindS q) fun vs H1 q => ?_
  show rS X.K (Rep X.K) h (vs ++ []) H1 Q
  rw [List.append_nil]
  exact q
/-- the new instance -/
theorem made {cn : Str} {vs : List V} {H1 : Hp} {Q : VK} (cl : Cls X.K (He.ga X.K cn))
    (q : rS X.K (Rep X.K) (fun ds m1 => (h (.obj m1.length :: ds) (m1 ++ [.ins cn []])).bind fun v m2 => (match v with
      | .non => .ok (.obj m1.length) m2
      | _ => .no)) vs H1 Q) :
    ∀ x dx, H1 x = none → H1 dx = none → dx ≠ x → spD X.K h (.ref x :: (vs ++ [])) (upd (upd H1 dx (.own x)) x (.ins (He.ga X.K cn) dx [])) (fun v H2 => v = .non ∧ Q (.ref x) H2) E0 := by
  intro x dx hx hd hne
  obtain ⟨g, M, ds, d, M', R, rs, e, q⟩ := q
  obtain ⟨v, M2, e1, e2⟩ := bind_ok e
  rw [List.append_nil]
  have R1 : Rel X.K g (upd H1 dx (.own x)) M := R.new hd
  have n1 : (upd H1 dx (.own x)) x = none := by rw [upd_ne (Ne.symm hne)]; exact hx
  have t1 : Tr g H1 g (upd H1 dx (.own x)) := .new hd
  have t2 : Tr g (upd H1 dx (.own x)) (g.grow M.length x) (upd (upd H1 dx (.own x)) x (.ins (He.ga X.K cn) dx [])) := .grow R1 n1
  have R2 : Rel X.K (g.grow M.length x) (upd (upd H1 dx (.own x)) x (.ins (He.ga X.K cn) dx [])) (M ++ [.ins cn []]) := R1.grow n1 ⟨dx, [], upd_same, .nil, cl, fun _ z => nomatch z⟩
  refine ⟨g.grow M.length x, M ++ [.ins cn []], .obj M.length :: ds, v, M2, R2, .cons ?_ (rs.tr (t1.trans t2).toTq), e1, fun g3 H3 w t3 R3 p3 => ?_⟩
  · rw [Rep]
    exact ⟨x, rfl, Sg.grow_at⟩
  · split at e2
    · cases e2
      refine ⟨rep_non p3, q g3 H3 _ ((t1.trans t2).trans t3) R3 ?_⟩
      rw [Rep]
      exact ⟨x, rfl, t3.obj _ _ Sg.grow_at⟩
    · cases e2
theorem e_make {cn : Str} {p : Pos} (M : Mk X.K (He.ga X.K cn) f) (cl : Cls X.K (He.ga X.K cn)) (F : FnOk X.prog X.w X.K X.mg X.base CX0 k f fd ps (spD X.K h)) (hr : Room (k + 1) X.A) (hg : Gl X cn) (hm : X.mg cn = some (.ref (He.ga X.K cn))) (hb : Binds X.K fd ps [])
    (ha : PA X (a :: es) (tAs X.K fs)) (hdb : (cn == ("__debug__" : Str)) = false) (h1 : notStar a = true) (h2 : es.all notStar = true) :
    PE X (.Call (.Name cn p) (a :: es) [] pos) (tE X.K fun r m => (fs r m).bind fun ds m1 => (h (.obj m1.length :: ds) (m1 ++ [.ins cn []])).bind fun v m2 => (match v with
      | .non => .ok (.obj m1.length) m2
      | _ => .no)) := by
  refine PE.imp (pe_make M F hr hg hm hb .nil pass0 ha hdb (star_cons h1) (star_any h2)) fun σ H Q q => ?_
  exact tG_imp (bindS q) fun vs H1 q => made cl q
theorem e_make0 {cn : Str} {p : Pos} (M : Mk X.K (He.ga X.K cn) f) (cl : Cls X.K (He.ga X.K cn)) (F : FnOk X.prog X.w X.K X.mg X.base CX0 k f fd ps (spD X.K h)) (hr : Room (k + 1) X.A) (hg : Gl X cn) (hm : X.mg cn = some (.ref (He.ga X.K cn))) (hb : Binds X.K fd ps [])
    (hdb : (cn == ("__debug__" : Str)) = false) :
    PE X (.Call (.Name cn p) [] [] pos) (tE X.K fun r m => (Res.ok [] m).bind fun ds m1 => (h (.obj m1.length :: ds) (m1 ++ [.ins cn []])).bind fun v m2 => (match v with
      | .non => .ok (.obj m1.length) m2
      | _ => .no)) :=
  PE.imp (pe_make0 M F hr hg hm hb .nil pass0 hdb) fun _ _ _ q => made cl (no_args q)
/-- an instance -/
theorem ins_at {K : Fr'} {g : Sg} {H : Hp} {M : Mem} (R : Rel K g H M) {d : D} {v : V} {cn : Str} {fs : List (Str × D)} (rd : Rep K g H d v) (e : clsOf M d = some (cn, fs)) :
    ∃ n a dx vfs, d = .obj n ∧ M[n]? = some (.ins cn fs) ∧ v = .ref a ∧ g.φ n = some a ∧ g.R a ∧ H a = some (.ins (He.ga K cn) dx vfs) ∧ Flds K g H fs vfs ∧ Cls K (He.ga K cn) ∧ ∀ p ∈ fs, NoAttr K (He.ga K cn) p.1 := by
  cases d with
  | obj n =>
    have e : (match M[n]? with | some (.ins c fs) => some (c, fs) | _ => none) = some (cn, fs) := e
    cases hc : M[n]? with
    | none => rw [hc] at e; cases e
    | some c =>
      rw [hc] at e
      cases c with
      | lst xs => cases e
      | ins c2 fs2 =>
        cases e
        rw [Rep] at rd
        obtain ⟨a, rfl, hn⟩ := rd
        obtain ⟨b, h1, h2, dx, vfs, h3, h4, h5⟩ := R.cell n _ hc
        rw [hn] at h1
        cases h1
        exact ⟨n, a, dx, vfs, rfl, hc, rfl, hn, h2, h3, h4, h5⟩
  | _ => cases e
/-- what a method of a class is -/
structure MethOk (X : Cx) (k : Nat) (cn m : Str) (h : List D → Mem → Res D) : Prop where
  ex : ∃ f fd ps, Cls X.K (He.ga X.K cn) ∧ Meth X.K (He.ga X.K cn) m f ∧ Binds X.K fd ps [] ∧ FnOk X.prog X.w X.K X.mg X.base CX0 k f fd ps (spD X.K h)
abbrev methE (F : Fx) (mn : Str) (fo : Env → Mem → Res D) (fs : Env → Mem → Res (List D)) : Env → Mem → Res D := fun r m => (fo r m).bind fun x m1 => (match clsOf m1 x with
    | some (c, fs') => if fs'.lookup mn = none then (match F.meth c mn with
      | some f => (fs r m1).bind fun ds m2 => F.call f (x :: ds) m2
      | none => .no) else .no
    | none => .no)
theorem meth_eq {mn : Str} {o : Expr} {apos : Pos} {args : List Expr} {env : PySem.Env} (hb : plainBase o = true) (hs : args.all notStar = true) (hn : args.length < 20) (hl : (apos.endLine == pos.line) = true) : ∃ pl : Sem Bool, eval (.Call (.Attribute o mn apos) args [] pos) env = (do
      let ov ← eval o env
      standAt apos.atName
      let (f, first) ← holding [ov] (getMethod ov mn pl)
      callWith pos f first (backTo pos (starEach args env)) (backToKw pos (keywordEach [] env))) := by
  refine ⟨do return (← importBound o env).getD true, ?_⟩
  have all : ∀ {es : List Expr}, es.all notStar = true → (backTo pos (starEach es env)).all (fun x => !x.1) = true := by
    intro es
    induction es with
    | nil => intro _; rfl
    | cons e es ih =>
      intro h
      rw [List.all_cons] at h
      obtain ⟨h1, h2⟩ := Bool.and_eq_true_iff.mp h
      rw [star_cons h1]
      show (!false && (backTo pos (starEach es env)).all (fun x => !x.1)) = true
      rw [ih h2]
      rfl
  have hf : methodCallForm (args.length + ([] : List Keyword).length) (backTo pos (starEach args env)) (backToKw pos (keywordEach [] env)) = true := by
    unfold methodCallForm
    rw [all hs]
    show (true && true && decide (args.length + 0 + 0 < 30)) = true
    rw [decide_eq_true (by omega)]
    rfl
  rw [arm_eval_Call, plain_base hb]
  unfold methodCall
  rw [hf]
  unfold calleeOf methodCallPos
  rw [hl]
  rfl
theorem e_meth {F : Fx} {mn : Str} {o : Expr} {apos : Pos} {fo : Env → Mem → Res D} (hM : ∀ cn i, F.meth cn mn = some i → MethOk X k cn mn (F.call i)) (hr : Room k X.A) (hb : plainBase o = true) (ho : PE X o (tE X.K fo))
    (ha : PA X (a :: es) (tAs X.K fs)) (h1 : notStar a = true) (h2 : es.all notStar = true) (hn : (a :: es).length < 20) (hl : (apos.endLine == pos.line) = true) : PE X (.Call (.Attribute o mn apos) (a :: es) [] pos) (tE X.K (methE F mn fo fs)) := by
  obtain ⟨pl, ht⟩ := meth_eq (env := X.env) (mn := mn) hb (show (a :: es).all notStar = true by rw [List.all_cons, h1, h2]; rfl) hn hl
  refine ⟨fun pins s σ H Q I q => ?_⟩
  obtain ⟨g, r, M, d, M', R, S, e, q⟩ := q
  obtain ⟨x, M1, e1, e2⟩ := bind_ok e
  cases hc : clsOf M1 x with
  | none => rw [hc] at e2; cases e2
  | some p =>
    obtain ⟨cn, fs'⟩ := p
    rw [hc] at e2
    dsimp only at e2
    split at e2
    · rename_i hl
      cases hi : F.meth cn mn with
      | none => rw [hi] at e2; cases e2
      | some i =>
        rw [hi] at e2
        obtain ⟨⟨f, fd, ps, cl, me, bi, fo⟩⟩ := hM cn i hi
        refine (pe_meth ho cl me fo hr bi .nil pass0 ha (star_cons h1) (star_any h2) ht).run pins s σ H Q I ⟨g, r, M, x, M1, R, S, e1, fun g1 H1 v t1 R1 p1 => ?_⟩
        obtain ⟨n, a', dx, vfs, rfl, hn, rfl, hφ, _, hH, hF, _, _⟩ := ins_at R1 p1 hc
        obtain ⟨ds, M2, e3, e4⟩ := bind_ok e2
        refine ⟨a', dx, vfs, rfl, hH, (Flds.look hF).1 hl, g1, r, M1, ds, M2, R1, S.tr t1.toTq, e3, fun g2 H2 vs t2 R2 p2 => ?_⟩
        refine ⟨g2, M2, .obj n :: ds, d, M', R2, ?_, e4, fun g3 H3 w t3 R3 p3 => q g3 H3 w ((t1.trans t2).trans t3) R3 p3⟩
        rw [List.append_nil]
        exact .cons (p1.tr t2.toTq) p2
    · cases e2
theorem e_meth0 {F : Fx} {mn : Str} {o : Expr} {apos : Pos} {fo : Env → Mem → Res D} (hM : ∀ cn i, F.meth cn mn = some i → MethOk X k cn mn (F.call i)) (hr : Room k X.A) (hb : plainBase o = true) (ho : PE X o (tE X.K fo)) (hl : (apos.endLine == pos.line) = true) :
    PE X (.Call (.Attribute o mn apos) [] [] pos) (tE X.K (methE F mn fo fun _ m => .ok [] m)) := by
  obtain ⟨pl, ht⟩ := meth_eq (env := X.env) (mn := mn) (args := []) hb rfl (by decide) hl
  refine ⟨fun pins s σ H Q I q => ?_⟩
  obtain ⟨g, r, M, d, M', R, S, e, q⟩ := q
  obtain ⟨x, M1, e1, e2⟩ := bind_ok e
  cases hc : clsOf M1 x with
  | none => rw [hc] at e2; cases e2
  | some p =>
    obtain ⟨cn, fs'⟩ := p
    rw [hc] at e2
    dsimp only at e2
    split at e2
    · rename_i hl
      cases hi : F.meth cn mn with
      | none => rw [hi] at e2; cases e2
      | some i =>
        rw [hi] at e2
        obtain ⟨⟨f, fd, ps, cl, me, bi, fo⟩⟩ := hM cn i hi
        refine (pe_meth0 ho cl me fo hr bi .nil pass0 ht).run pins s σ H Q I ⟨g, r, M, x, M1, R, S, e1, fun g1 H1 v t1 R1 p1 => ?_⟩
        obtain ⟨n, a', dx, vfs, rfl, hn, rfl, hφ, _, hH, hF, _, _⟩ := ins_at R1 p1 hc
        refine ⟨a', dx, vfs, rfl, hH, (Flds.look hF).1 hl, ?_⟩
        exact ⟨g1, M1, [.obj n], d, M', R1, .cons p1 .nil, e2, fun g3 H3 w t3 R3 p3 => q g3 H3 w (t1.trans t3) R3 p3⟩
    · cases e2
theorem fld_cls {m : Mem} {d : D} {fn : Str} {v : D} (h : fldOf m d fn = some v) : ∃ cn fs, clsOf m d = some (cn, fs) ∧ fs.lookup fn = some v := by
  cases d with
  | obj n =>
    have h : (match m[n]? with | some (.ins _ fs) => fs.lookup fn | _ => none) = some v := h
    cases hc : m[n]? with
    | none => rw [hc] at h; cases h
    | some c =>
      rw [hc] at h
      cases c with
      | lst xs => cases h
      | ins c fs =>
        refine ⟨c, fs, ?_, h⟩
        show (match m[n]? with | some (.ins c fs) => some (c, fs) | _ => none) = _
        rw [hc]
  | _ => cases h
theorem mem_of_look {α : Type} {f : Str} {v : α} : ∀ {l : List (Str × α)}, l.lookup f = some v → ∃ p ∈ l, p.1 = f
  | (k, x) :: r, h => by
    rw [List.lookup_cons] at h
    cases hb : (f == k) with
    | true => exact ⟨(k, x), List.mem_cons_self, (beq_iff_eq.mp hb).symm⟩
    | false =>
      rw [hb] at h
      obtain ⟨p, h1, h2⟩ := mem_of_look h
      exact ⟨p, List.mem_cons_of_mem _ h1, h2⟩
theorem e_attr {fn : Str} (ha : PE X a (tE X.K fa)) (hb : plainBase a = true) : PE X (.Attribute a fn pos) (tE X.K fun r m => (fa r m).bind fun x m1 => .of (fldOf m1 x fn) m1) := by
  refine PE.imp (pe_fld ha (plain_base hb)) fun σ H Q q => ?_
  refine tG_imp (bind1 q) fun v H1 q => ?_
  obtain ⟨g, M, x, d, M', R, rx, e, q⟩ := q
  obtain ⟨e, rfl⟩ := of_ok e
  obtain ⟨cn, fs, e1, e2⟩ := fld_cls e
  obtain ⟨n, a', dx, vfs, rfl, hn, rfl, hφ, _, hH, hF, cl, na⟩ := ins_at R rx e1
  obtain ⟨w, h1, h2⟩ := (Flds.look hF).2 d e2
  obtain ⟨p, hp, hpf⟩ := mem_of_look e2
  exact ⟨a', _, dx, vfs, w, rfl, hH, cl, hpf ▸ na p hp, h1, q g H1 w (.refl g H1) R h2⟩
theorem few_one {e : Expr} {env : PySem.Env} (h1 : notStar e = true) : ((backTo pos (starEach [e] env)).all (fun x => !x.1) && (backToKw pos (keywordEach [] env)).all (fun x => x.1.isSome)
      && decide ([e].length + ([] : List Keyword).length + (if ([] : List Keyword).isEmpty then 0 else 1) < 30)) = true := by
  rw [star_cons h1]
  rfl
theorem isl_at {K : Fr'} {g : Sg} {H : Hp} {M : Mem} (R : Rel K g H M) {d : D} {v : V} (rd : Rep K g H d v) (e : (lstOf M d).isSome = true) : tyV K "list" v H := by
  obtain ⟨xs, h⟩ := Option.isSome_iff_exists.mp e
  obtain ⟨p, vs, rfl, h1, _⟩ := lst_at R rd h
  exact .inl ⟨rfl, vs, .of h1⟩
theorem e_append {apos : Pos} (ha : PE X a (tE X.K fa)) (hb : plainBase a = true) (he : PE X b (tE X.K fb)) (h1 : notStar b = true) (hl : (apos.endLine == pos.line) = true) :
    PE X (.Call (.Attribute a "append" apos) [b] [] pos) (tE X.K fun r m => (fa r m).bind fun x m1 => if (lstOf m1 x).isSome = true then (fb r m1).bind fun y m2 => addTo x y m2 else .no) := by
  refine PE.imp (pe_bm PySem.F.plainAttrs_list PySem.F.slot_list_append PySem.F.type_list_append mt_append ha (pa_cons he pa_nil (star_cons h1)) (plain_base hb) (few_one h1) hl (star_cons h1) rfl) fun σ H Q q => ?_
  obtain ⟨g, r, M, d, M', R, S, e, q⟩ := q
  obtain ⟨x, M1, e1, e2⟩ := bind_ok e
  split at e2
  · rename_i hx
    obtain ⟨y, M2, e3, e4⟩ := bind_ok e2
    refine ⟨g, r, M, x, M1, R, S, e1, fun g1 H1 v t1 R1 p1 => ⟨isl_at R1 p1 hx, g1, r, M1, y, M2, R1, S.tr t1.toTq, e3, fun g2 H2 u t2 R2 p2 => ?_⟩⟩
    unfold addTo at e4
    split at e4
    · rename_i n
      split at e4
      · rename_i xs hc
        split at e4
        · rename_i hz
          cases e4
          rw [Rep] at p1
          obtain ⟨p, rfl, hn⟩ := p1
          obtain ⟨p', h7, h8, vs, h9, h10, h11⟩ := R2.cell n _ hc
          have hn2 := t2.obj n _ hn
          rw [hn2] at h7
          cases h7
          have t3 : Tr g2 H2 g2 (upd H2 p (.lst (vs ++ [u]))) := .poke R2 hn2 h8 (c := .lst xs) ⟨vs, h9, h10, h11⟩
          exact ⟨p, vs, u, rfl, rfl, h9, by rw [h11.length]; exact Nat.lt_of_lt_of_le hz LIM_line,
            q g2 _ _ ((t1.trans t2).trans t3) (R2.poke hn2 h8 (c := .lst xs) ⟨vs, h9, h10, h11⟩ ⟨_, upd_same, by rw [List.length_append, List.length_singleton]; exact Nat.le_trans (Nat.succ_le_of_lt hz) LIM_line, (h11.tr t3.toTq).append (.cons (p2.tr t3.toTq) .nil)⟩) non_rep⟩
        · cases e4
      · cases e4
    · cases e4
  · cases e2
theorem e_index {apos : Pos} (ha : PE X a (tE X.K fa)) (hb : plainBase a = true) (he : PE X b (tE X.K fb)) (h1 : notStar b = true) (hl : (apos.endLine == pos.line) = true) :
    PE X (.Call (.Attribute a "index" apos) [b] [] pos) (tE X.K fun r m => (fa r m).bind fun x m1 => if (lstOf m1 x).isSome = true then (fb r m1).bind fun y m2 => .of (placeOf m2 x y) m2 else .no) := by
  refine PE.imp (pe_bm PySem.F.plainAttrs_list PySem.F.slot_list_index PySem.F.type_list_index mt_index ha (pa_cons he pa_nil (star_cons h1)) (plain_base hb) (few_one h1) hl (star_cons h1) rfl) fun σ H Q q => ?_
  obtain ⟨g, r, M, d, M', R, S, e, q⟩ := q
  obtain ⟨x, M1, e1, e2⟩ := bind_ok e
  split at e2
  · rename_i hx
    obtain ⟨y, M2, e3, e4⟩ := bind_ok e2
    obtain ⟨e4, rfl⟩ := of_ok e4
    refine ⟨g, r, M, x, M1, R, S, e1, fun g1 H1 v t1 R1 p1 => ⟨isl_at R1 p1 hx, g1, r, M1, y, M', R1, S.tr t1.toTq, e3, fun g2 H2 u t2 R2 p2 => ?_⟩⟩
    unfold placeOf at e4
    split at e4
    · rename_i xs hc
      split at e4
      · rename_i hf
        obtain ⟨k, hk, rfl⟩ := map_some e4
        obtain ⟨f1, f2⟩ := Bool.and_eq_true_iff.mp hf
        obtain ⟨p, vs, rfl, h2, h3, h4⟩ := lst_at R2 (p1.tr t2.toTq) hc
        obtain ⟨hlt, hk1, hk2⟩ := List.findIdx?_eq_some_iff_getElem.mp hk
        obtain ⟨z, hz, rz⟩ := h4.get (List.getElem?_eq_getElem hlt)
        have fl : ∀ d ∈ xs, flatD d = true := List.all_eq_true.mp f2
        refine ⟨p, vs, u, k, z, rfl, rfl, .of h2, flatD_V p2 f1, flatDs_V h4 f2, hz, ?_, fun j z' hj hz' => ?_, q g2 H2 _ (t1.trans t2) R2 (int_rep _)⟩
        · rw [flat_eqv rz p2 (fl _ (List.getElem_mem hlt)) f1]
          exact hk1
        · obtain ⟨d, hd, rd⟩ := h4.get' hz'
          have hjl : j < xs.length := Nat.lt_trans hj hlt
          rw [List.getElem?_eq_getElem hjl] at hd
          cases hd
          rw [flat_eqv rd p2 (fl _ (List.getElem_mem hjl)) f1]
          simpa using hk2 j hj
      · cases e4
    · cases e4
  · cases e2
end
end Rf
namespace Rf
open PySem PySem.Spec PyProof.Rows L2
/-! ### what is walked -/
/-- an iterator that gives the items of a source, one a turn -/
def WalkD (K : Fr') (s : Src) (J : It) (g : Sg) (H : Hp) : Prop := s.items.length ≤ sizeLine ∧ ∃ (G : Hp → Prop) (Y : Nat → Hp → V → Hp → Prop), Walk J s.items.length G Y ∧
  (∀ g' H' M', Tr g H g' H' → Rel K g' H' M' → still s.guard M' = true → G H') ∧
  ∀ i x g' H1 H2 M', i < s.items.length → Tr g H g' H1 → Rel K g' H1 M' → still s.guard M' = true → Y i H1 x H2 → ∃ d, s.items[i]? = some d ∧ Tr g' H1 g' H2 ∧ Rel K g' H2 M' ∧ Rep K g' H2 d x
def tI (K : Fr') (f : Env → Mem → Res Src) : TI := fun σ H R => ∃ g r M s M', Rel K g H M ∧ RelS K g H r σ ∧ f r M = .ok s M' ∧ ∀ g' H' J, Tr g H g' H' → Rel K g' H' M' → WalkD K s J g' H' → R J H'
theorem PI.imp {X : Cx} {tg e : Expr} {t t' : TI} (h : PI X tg e t) (i : ∀ σ H R, t' σ H R → t σ H R) : PI X tg e t' := ⟨fun pins s σ H R I q => h.run pins s σ H R I (i σ H R q)⟩
/-- three ways -/
theorem PI.or {X : Cx} {tg e : Expr} {t t' : TI} (h : PI X tg e t) (h' : PI X tg e t') : PI X tg e (fun σ H R => t σ H R ∨ t' σ H R) := ⟨fun pins s σ H R I q => q.elim (h.run pins s σ H R I) (h'.run pins s σ H R I)⟩
theorem still_nil (m : Mem) : still [] m = true := rfl
theorem still_one {n : Nat} {xs : List D} {m : Mem} (h : still [(n, xs)] m = true) : m[n]? = some (.lst xs) := by
  unfold still at h
  simp only [List.all_cons, List.all_nil, Bool.and_true, decide_eq_true_eq] at h
  exact h
theorem still_app {a b : List (Nat × List D)} {m : Mem} (h : still (a ++ b) m = true) : still a m = true ∧ still b m = true := by
  unfold still at h ⊢
  rw [List.all_append] at h
  exact Bool.and_eq_true_iff.mp h
section
variable {K : Fr'} {g : Sg} {H : Hp} {M : Mem}
/-- a list or tuple that stands still while its guard says so -/
def Stands (K : Fr') (gd : List (Nat × List D)) (items : List D) (g : Sg) (H : Hp) (a : Addr) (Sq : Hp → List V → Prop) : Prop :=
  ∀ g' H' M', Tr g H g' H' → Rel K g' H' M' → still gd M' = true → ∃ vs, Sq H' vs ∧ Reps K g' H' items vs
def IsL (M : Mem) (d : D) (s : Src) : Prop := (∃ xs, d = .lst xs ∧ s = ⟨xs, []⟩) ∨ ∃ n xs, d = .obj n ∧ M[n]? = some (.lst xs) ∧ s = ⟨xs, [(n, xs)]⟩
theorem src_kind {d : D} {s : Src} (e : seqSrc M d = some s) : (∃ xs, d = .tup xs ∧ s = ⟨xs, []⟩) ∨ IsL M d s := by
  cases d with
  | tup xs => cases e; exact .inl ⟨xs, rfl, rfl⟩
  | lst xs => cases e; exact .inr (.inl ⟨xs, rfl, rfl⟩)
  | obj n =>
    have e4 : (match M[n]? with | some (.lst xs) => some (⟨xs, [(n, xs)]⟩ : Src) | _ => none) = some s := e
    split at e4
    · rename_i xs hc
      cases e4
      exact .inr (.inr ⟨n, xs, rfl, hc, rfl⟩)
    · cases e4
  | _ => cases e
theorem tup_stand {xs : List D} {v : V} (rd : Rep K g H (.tup xs) v) : ∃ p vs, v = .ref p ∧ SqT K H p vs ∧ xs.length ≤ sizeLine ∧ Stands K [] xs g H p fun H' vs => SqT K H' p vs := by
  rw [Rep] at rd
  obtain ⟨a, vs, rfl, h1, h2, h3⟩ := rd
  exact ⟨a, vs, rfl, h1, h2, fun g' H' M' t R' _ => ⟨vs, t.toTq.sqt h1, h3.tr t.toTq⟩⟩
theorem l_stand (R : Rel K g H M) {d : D} {v : V} {s : Src} (l : IsL M d s) (rd : Rep K g H d v) : ∃ p vs, v = .ref p ∧ SqL K H p vs ∧ s.items.length ≤ sizeLine ∧ Stands K s.guard s.items g H p fun H' vs => SqL K H' p vs := by
  rcases l with ⟨xs, rfl, rfl⟩ | ⟨n, xs, rfl, hc, rfl⟩
  · rw [Rep] at rd
    obtain ⟨a, vs, rfl, h1, h2, h3, h4⟩ := rd
    exact ⟨a, vs, rfl, .of h1, h3, fun g' H' M' t R' _ => ⟨vs, .of (t.lst a vs h1 h2).1, h4.tr t.toTq⟩⟩
  · rw [Rep] at rd
    obtain ⟨a, rfl, hn⟩ := rd
    obtain ⟨b, h1, _, vs, h3, h4, h5⟩ := R.cell n _ hc
    rw [hn] at h1
    cases h1
    refine ⟨a, vs, rfl, .of h3, h4, fun g' H' M' t R' st => ?_⟩
    obtain ⟨b, k1, _, ws, k3, k4, k5⟩ := R'.cell n _ (still_one st)
    rw [t.obj n a hn] at k1
    cases k1
    exact ⟨ws, .of k3, k5⟩
theorem walk_l {gd : List (Nat × List D)} {items : List D} {a : Addr} (hz : items.length ≤ sizeLine) (st : Stands K gd items g H a (fun H' vs => SqL K H' a vs)) : WalkD K ⟨items, gd⟩ (Itl K a) g H := by
  refine ⟨hz, fun H' => ∃ vs, SqL K H' a vs ∧ vs.length = items.length, fun i H1 x H2 => H2 = H1 ∧ ∀ vs, SqL K H1 a vs → vs[i]? = some x, ⟨fun i H' hi ⟨vs, h1, h2⟩ => ?_, fun H' ⟨vs, h1, h2⟩ => ⟨vs, h1, Nat.le_of_eq h2⟩, fun i H1 x H2 hi _ y => y⟩, fun g' H' M' t R' s => ?_, fun i x g' H1 H2 M' hi t R' s y => ?_⟩
  · have hl : i < vs.length := by rw [h2]; exact hi
    exact ⟨vs, vs[i], h1, by simp [hl]⟩
  · obtain ⟨vs, h1, h2⟩ := st g' H' M' t R' s
    exact ⟨vs, h1, h2.length⟩
  · obtain ⟨vs, h1, h2⟩ := st g' H1 M' t R' s
    obtain ⟨rfl, y⟩ := y
    obtain ⟨d, h3, h4⟩ := h2.get' (y vs h1)
    exact ⟨d, h3, .refl _ _, R', h4⟩
theorem walk_t {gd : List (Nat × List D)} {items : List D} {a : Addr} (hz : items.length ≤ sizeLine) (st : Stands K gd items g H a (fun H' vs => SqT K H' a vs)) : WalkD K ⟨items, gd⟩ (Itt K a) g H := by
  refine ⟨hz, fun H' => ∃ vs, SqT K H' a vs ∧ vs.length = items.length, fun i H1 x H2 => H2 = H1 ∧ ∀ vs, SqT K H1 a vs → vs[i]? = some x, ⟨fun i H' hi ⟨vs, h1, h2⟩ => ?_, fun H' ⟨vs, h1, h2⟩ => ⟨vs, h1, Nat.le_of_eq h2⟩, fun i H1 x H2 hi _ y => y⟩, fun g' H' M' t R' s => ?_, fun i x g' H1 H2 M' hi t R' s y => ?_⟩
  · have hl : i < vs.length := by rw [h2]; exact hi
    exact ⟨vs, vs[i], h1, by simp [hl]⟩
  · obtain ⟨vs, h1, h2⟩ := st g' H' M' t R' s
    exact ⟨vs, h1, h2.length⟩
  · obtain ⟨vs, h1, h2⟩ := st g' H1 M' t R' s
    obtain ⟨rfl, y⟩ := y
    obtain ⟨d, h3, h4⟩ := h2.get' (y vs h1)
    exact ⟨d, h3, .refl _ _, R', h4⟩
theorem enumL_get {items : List D} {i : Nat} {d : D} (h : items[i]? = some d) : (enumL items)[i]? = some (.tup [.int (i : Nat), d]) := by
  unfold enumL
  rw [List.getElem?_mapIdx, h]
  rfl
theorem enumL_length (items : List D) : (enumL items).length = items.length := by unfold enumL; rw [List.length_mapIdx]
theorem pair_rep {d e : D} {x y : V} {T : Addr} (hT : H T = none) (h1 : Rep K g H d x) (h2 : Rep K g H e y) : Rep K g (upd H T (.tup [x, y])) (.tup [d, e]) (.ref T) :=
  newTup hT (by show 2 ≤ sizeLine; decide) (.cons h1 (.cons h2 .nil))
theorem walk_el {gd : List (Nat × List D)} {items : List D} {a : Addr} (hz : items.length ≤ sizeLine) (st : Stands K gd items g H a (fun H' vs => SqL K H' a vs)) : WalkD K ⟨enumL items, gd⟩ (Ite K a) g H := by
  refine ⟨by rw [enumL_length]; exact hz, fun H' => ∃ vs, SqL K H' a vs ∧ vs.length = items.length, fun i H1 v H2 => ∃ T x, v = .ref T ∧ H1 T = none ∧ H2 = upd H1 T (.tup [.int (i : Nat), x]) ∧ ∀ vs, SqL K H1 a vs → vs[i]? = some x, ⟨fun i H' hi ⟨vs, h1, h2⟩ => ?_, fun H' ⟨vs, h1, h2⟩ => ⟨vs, h1, ?_⟩, fun i H1 x H2 hi _ y => y⟩, fun g' H' M' t R' s => ?_, fun i x g' H1 H2 M' hi t R' s y => ?_⟩
  · have hl : i < vs.length := by rw [h2]; rw [enumL_length] at hi; exact hi
    exact ⟨vs, vs[i], h1, by simp [hl]⟩
  · rw [enumL_length]; exact Nat.le_of_eq h2
  · obtain ⟨vs, h1, h2⟩ := st g' H' M' t R' s
    exact ⟨vs, h1, h2.length⟩
  · obtain ⟨vs, h1, h2⟩ := st g' H1 M' t R' s
    obtain ⟨T, x, rfl, hT, rfl, y⟩ := y
    obtain ⟨d, h3, h4⟩ := h2.get' (y vs h1)
    exact ⟨_, enumL_get h3, .new hT, R'.new hT, pair_rep hT (int_rep _) h4⟩
theorem walk_et {gd : List (Nat × List D)} {items : List D} {a : Addr} (hz : items.length ≤ sizeLine) (st : Stands K gd items g H a (fun H' vs => SqT K H' a vs)) : WalkD K ⟨enumL items, gd⟩ (IteT K a) g H := by
  refine ⟨by rw [enumL_length]; exact hz, fun H' => ∃ vs, SqT K H' a vs ∧ vs.length = items.length, fun i H1 v H2 => ∃ T x, v = .ref T ∧ H1 T = none ∧ H2 = upd H1 T (.tup [.int (i : Nat), x]) ∧ ∀ vs, SqT K H1 a vs → vs[i]? = some x, ⟨fun i H' hi ⟨vs, h1, h2⟩ => ?_, fun H' ⟨vs, h1, h2⟩ => ⟨vs, h1, ?_⟩, fun i H1 x H2 hi _ y => y⟩, fun g' H' M' t R' s => ?_, fun i x g' H1 H2 M' hi t R' s y => ?_⟩
  · have hl : i < vs.length := by rw [h2]; rw [enumL_length] at hi; exact hi
    exact ⟨vs, vs[i], h1, by simp [hl]⟩
  · show vs.length = (enumL items).length; rw [enumL_length]; exact h2
  · obtain ⟨vs, h1, h2⟩ := st g' H' M' t R' s
    exact ⟨vs, h1, h2.length⟩
  · obtain ⟨vs, h1, h2⟩ := st g' H1 M' t R' s
    obtain ⟨T, x, rfl, hT, rfl, y⟩ := y
    obtain ⟨d, h3, h4⟩ := h2.get' (y vs h1)
    exact ⟨_, enumL_get h3, .new hT, R'.new hT, pair_rep hT (int_rep _) h4⟩
theorem zipL_length (xs ys : List D) : (zipL xs ys).length = min xs.length ys.length := by unfold zipL; rw [List.length_map, List.length_zip]
theorem zipL_get {xs ys : List D} {i : Nat} {d e : D} (h1 : xs[i]? = some d) (h2 : ys[i]? = some e) : (zipL xs ys)[i]? = some (.tup [d, e]) := by
  unfold zipL
  have e : (xs.zip ys)[i]? = some (d, e) := List.getElem?_zip_eq_some.mpr ⟨h1, h2⟩
  rw [List.getElem?_map, e]
  rfl
theorem walk_zl {gd gd2 : List (Nat × List D)} {xs ys : List D} {a b : Addr} (hz : xs.length ≤ sizeLine) (st : Stands K gd xs g H a (fun H' vs => SqL K H' a vs)) (st2 : Stands K gd2 ys g H b (fun H' vs => SqL K H' b vs)) : WalkD K ⟨zipL xs ys, gd ++ gd2⟩ (Itz K a b) g H := by
  refine ⟨by rw [zipL_length]; omega, fun H' => ∃ vs ws, SqL K H' a vs ∧ vs.length = xs.length ∧ SqL K H' b ws ∧ ws.length = ys.length, fun i H1 v H2 => ∃ T x y, v = .ref T ∧ H1 T = none ∧ H2 = upd H1 T (.tup [x, y]) ∧ (∀ vs, SqL K H1 a vs → vs[i]? = some x) ∧ ∀ vs, SqL K H1 b vs → vs[i]? = some y,
    ⟨fun i H' hi ⟨vs, ws, h1, h2, h3, h4⟩ => ?_, fun H' ⟨vs, ws, h1, h2, h3, h4⟩ => ⟨vs, ws, h1, h3, ?_⟩, fun i H1 x H2 hi _ y => y⟩, fun g' H' M' t R' s => ?_, fun i x g' H1 H2 M' hi t R' s y => ?_⟩
  · rw [zipL_length] at hi
    have hl : i < vs.length := by omega
    have hl2 : i < ws.length := by omega
    exact ⟨vs, ws, vs[i], ws[i], h1, h3, by simp [hl], by simp [hl2]⟩
  · rw [zipL_length]; omega
  · obtain ⟨s1, s2⟩ := still_app s
    obtain ⟨vs, h1, h2⟩ := st g' H' M' t R' s1
    obtain ⟨ws, h3, h4⟩ := st2 g' H' M' t R' s2
    exact ⟨vs, ws, h1, h2.length, h3, h4.length⟩
  · obtain ⟨s1, s2⟩ := still_app s
    obtain ⟨vs, h1, h2⟩ := st g' H1 M' t R' s1
    obtain ⟨ws, h3, h4⟩ := st2 g' H1 M' t R' s2
    obtain ⟨T, x, z, rfl, hT, rfl, y1, y2⟩ := y
    obtain ⟨d, h5, h6⟩ := h2.get' (y1 vs h1)
    obtain ⟨e, h7, h8⟩ := h4.get' (y2 ws h3)
    exact ⟨_, zipL_get h5 h7, .new hT, R'.new hT, pair_rep hT h6 h8⟩
theorem walk_zt {gd gd2 : List (Nat × List D)} {xs ys : List D} {a b : Addr} (hz : xs.length ≤ sizeLine) (st : Stands K gd xs g H a (fun H' vs => SqT K H' a vs)) (st2 : Stands K gd2 ys g H b (fun H' vs => SqT K H' b vs)) : WalkD K ⟨zipL xs ys, gd ++ gd2⟩ (RZ.ItzT K a b) g H := by
  refine ⟨by rw [zipL_length]; omega, fun H' => ∃ vs ws, SqT K H' a vs ∧ vs.length = xs.length ∧ SqT K H' b ws ∧ ws.length = ys.length, fun i H1 v H2 => ∃ T x y, v = .ref T ∧ H1 T = none ∧ H2 = upd H1 T (.tup [x, y]) ∧ (∀ vs, SqT K H1 a vs → vs[i]? = some x) ∧ ∀ vs, SqT K H1 b vs → vs[i]? = some y,
    ⟨fun i H' hi ⟨vs, ws, h1, h2, h3, h4⟩ => ?_, fun H' ⟨vs, ws, h1, h2, h3, h4⟩ => ⟨vs, ws, h1, h3, ?_⟩, fun i H1 x H2 hi _ y => y⟩, fun g' H' M' t R' s => ?_, fun i x g' H1 H2 M' hi t R' s y => ?_⟩
  · rw [zipL_length] at hi
    have hl : i < vs.length := by omega
    have hl2 : i < ws.length := by omega
    exact ⟨vs, ws, vs[i], ws[i], h1, h3, by simp [hl], by simp [hl2]⟩
  · rw [zipL_length]; omega
  · obtain ⟨s1, s2⟩ := still_app s
    obtain ⟨vs, h1, h2⟩ := st g' H' M' t R' s1
    obtain ⟨ws, h3, h4⟩ := st2 g' H' M' t R' s2
    exact ⟨vs, ws, h1, h2.length, h3, h4.length⟩
  · obtain ⟨s1, s2⟩ := still_app s
    obtain ⟨vs, h1, h2⟩ := st g' H1 M' t R' s1
    obtain ⟨ws, h3, h4⟩ := st2 g' H1 M' t R' s2
    obtain ⟨T, x, z, rfl, hT, rfl, y1, y2⟩ := y
    obtain ⟨d, h5, h6⟩ := h2.get' (y1 vs h1)
    obtain ⟨e, h7, h8⟩ := h4.get' (y2 ws h3)
    exact ⟨_, zipL_get h5 h7, .new hT, R'.new hT, pair_rep hT h6 h8⟩
theorem walk_r {lo hi : Int} (ok : rangeOk lo hi = true) : WalkD K ⟨rangeL lo hi, []⟩ (Itr lo (hi - lo).toNat) g H := by
  have hl : (rangeL lo hi).length = (hi - lo).toNat := rangeL_length lo hi
  refine ⟨by rw [hl]; exact Nat.le_trans (rangeOk_ok ok).2 LIM_line, fun _ => True, YFn fun i => .int (lo + i), by rw [hl]; exact walk_range, fun _ _ _ _ _ _ => trivial, fun i x g' H1 H2 M' hi' t R' s y => ?_⟩
  obtain ⟨rfl, rfl⟩ := y
  refine ⟨.int (lo + (i : Nat)), ?_, .refl _ _, R', int_rep _⟩
  unfold rangeL
  rw [List.getElem?_map, List.getElem?_range (by rw [hl] at hi'; exact hi')]
  rfl
theorem walk_s {z : Str} (hz : z.length ≤ sizeLine) : WalkD K ⟨z.cps.toList.map fun c => .str ⟨#[c]⟩, []⟩ (Its z) g H := by
  have hl : (z.cps.toList.map fun c => D.str ⟨#[c]⟩).length = z.cps.size := by rw [List.length_map, Array.length_toList]
  refine ⟨by rw [hl]; exact hz, fun _ => True, fun i H v H' => H' = H ∧ ∃ c, z.cps[i]? = some c ∧ v = .str ⟨#[c]⟩, by rw [hl]; exact walk_str, fun _ _ _ _ _ _ => trivial, fun i x g' H1 H2 M' hi' t R' s y => ?_⟩
  obtain ⟨rfl, c, h1, rfl⟩ := y
  refine ⟨.str ⟨#[c]⟩, ?_, .refl _ _, R', str_rep _⟩
  rw [List.getElem?_map, Array.getElem?_toList, h1]
  rfl
end
section
variable {X : Cx} {a b : Expr} {es : List Expr} {tg : Expr} {pos : Pos} {fa fb : Env → Mem → Res D}
theorem srcOf_seq {m : Mem} {d : D} {s : Src} (h : srcOf m d = some s) : seqSrc m d = some s ∨ ∃ z, d = .str z ∧ z.length ≤ LIM ∧ s = ⟨z.cps.toList.map fun c => .str ⟨#[c]⟩, []⟩ := by
  cases d with
  | str z =>
    have h : (if z.length ≤ LIM then some (⟨z.cps.toList.map fun c => .str ⟨#[c]⟩, []⟩ : Src) else none) = some s := h
    split at h
    · cases h
      exact .inr ⟨z, rfl, by assumption, rfl⟩
    · cases h
  | _ => exact .inl h
theorem i_ex (ha : PE X a (tE X.K fa)) : PI X tg a (tI X.K fun r m => (fa r m).bind fun x m1 => .of (srcOf m1 x) m1) := by
  refine PI.imp (PI.or (PI.or (pi_list ha) (pi_tup ha)) (pi_str ha)) fun σ H R q => ?_
  obtain ⟨g, r, M, s, M', Rl, S, e, q⟩ := q
  obtain ⟨x, M1, e1, e2⟩ := bind_ok e
  obtain ⟨e2', rfl⟩ := of_ok e2
  rcases srcOf_seq e2' with e3 | ⟨z, rfl, hz, rfl⟩
  · rcases src_kind e3 with ⟨xs, rfl, rfl⟩ | l
    · refine .inl (.inr ⟨g, r, M, _, M', Rl, S, e1, fun g1 H1 v t1 R1 p1 => ?_⟩)
      obtain ⟨p, vs, rfl, h1, h2, st⟩ := tup_stand p1
      exact ⟨p, rfl, ⟨vs, h1⟩, q g1 H1 _ t1 R1 (walk_t h2 st)⟩
    · refine .inl (.inl ⟨g, r, M, _, M', Rl, S, e1, fun g1 H1 v t1 R1 p1 => ?_⟩)
      obtain ⟨p, vs, rfl, h1, h2, st⟩ := l_stand R1 l p1
      exact ⟨p, rfl, ⟨vs, h1⟩, q g1 H1 _ t1 R1 (walk_l h2 st)⟩
  · exact .inr ⟨g, r, M, _, M', Rl, S, e1, fun g1 H1 v t1 R1 p1 => ⟨z, rep_str p1, q g1 H1 _ t1 R1 (walk_s (Nat.le_trans hz LIM_line))⟩⟩
theorem i_range1 {pp : Pos} (hg : Gl X "range") (hm : X.mg "range" = none) (ha : PE X a (tE X.K fa)) (h1 : notStar a = true) : PI X tg (.Call (.Name "range" pp) [a] [] pos) (tI X.K fun r m => (fa r m).bind fun x m1 => .of ((rangeS (.int 0) x).map fun xs => ⟨xs, []⟩) m1) := by
  refine PI.imp (pi_range1 hg hm (pa_cons ha pa_nil (star_cons h1)) (star_cons h1)) fun σ H R q => ?_
  obtain ⟨g, r, M, s, M', Rl, S, e, q⟩ := q
  obtain ⟨x, M1, e1, e2⟩ := bind_ok e
  obtain ⟨e2', rfl⟩ := of_ok e2
  obtain ⟨ds, e3, rfl⟩ := map_some e2'
  obtain ⟨lo, hi, e4, rfl, ok, rfl⟩ := rangeS_some e3
  cases e4
  refine ⟨g, r, M, _, M', Rl, S, e1, fun g1 H1 v t1 R1 p1 => ?_⟩
  obtain ⟨⟨b1, b2, b3, b4⟩, b5⟩ := rangeOk_ok ok
  refine ⟨hi, by rw [rep_int p1], b3, b4, ?_⟩
  have w : WalkD X.K ⟨rangeL 0 hi, []⟩ (Itr 0 (hi - 0).toNat) g1 H1 := walk_r ok
  rw [Int.sub_zero] at w
  exact q g1 H1 _ t1 R1 w
theorem i_range2 {pp : Pos} (hg : Gl X "range") (hm : X.mg "range" = none) (ha : PE X a (tE X.K fa)) (hb : PE X b (tE X.K fb)) (h1 : notStar a = true) (h2 : notStar b = true) :
    PI X tg (.Call (.Name "range" pp) [a, b] [] pos) (tI X.K fun r m => (fa r m).bind fun x m1 => (fb r m1).bind fun y m2 => .of ((rangeS x y).map fun xs => ⟨xs, []⟩) m2) := by
  refine PI.imp (pi_range2 hg hm (pa_cons ha (pa_cons hb pa_nil (star_cons h2)) (star_cons h1)) (by rw [star_cons h1, star_cons h2]; rfl) (star_cons h2)) fun σ H R q => ?_
  obtain ⟨g, r, M, s, M', Rl, S, e, q⟩ := q
  obtain ⟨x, M1, e1, e⟩ := bind_ok e
  obtain ⟨y, M2, e2, e⟩ := bind_ok e
  obtain ⟨e', rfl⟩ := of_ok e
  obtain ⟨ds, e3, rfl⟩ := map_some e'
  obtain ⟨lo, hi, rfl, rfl, ok, rfl⟩ := rangeS_some e3
  refine ⟨g, r, M, _, M1, Rl, S, e1, fun g1 H1 v t1 R1 p1 => ⟨g1, r, M1, _, M', R1, S.tr t1.toTq, e2, fun g2 H2 u t2 R2 p2 => ?_⟩⟩
  refine ⟨lo, hi, by rw [rep_int p1, rep_int p2], (rangeOk_ok ok).1, q g2 H2 _ (t1.trans t2) R2 (walk_r ok)⟩
theorem i_enum {pp tpos : Pos} {elts : List Expr} {kk : Nat} (hg : Gl X "enumerate") (hm : X.mg "enumerate" = none) (ha : PE X a (tE X.K fa)) (h1 : notStar a = true) :
    PI X (.Tuple elts kk tpos) (.Call (.Name "enumerate" pp) [a] [] pos) (tI X.K fun r m => (fa r m).bind fun x m1 => .of ((seqSrc m1 x).map fun s => ⟨enumL s.items, s.guard⟩) m1) := by
  refine PI.imp (pi_enumA hg hm (pa_cons ha pa_nil (star_cons h1)) (star_cons h1)) fun σ H R q => ?_
  obtain ⟨g, r, M, s, M', Rl, S, e, q⟩ := q
  obtain ⟨x, M1, e1, e2⟩ := bind_ok e
  obtain ⟨e2', rfl⟩ := of_ok e2
  obtain ⟨s0, e3, rfl⟩ := map_some e2'
  refine ⟨g, r, M, _, M', Rl, S, e1, fun g1 H1 v t1 R1 p1 => ?_⟩
  rcases src_kind e3 with ⟨xs, rfl, rfl⟩ | l
  · obtain ⟨p, vs, rfl, h1, h2, st⟩ := tup_stand p1
    exact ⟨p, vs, rfl, .inr ⟨h1, q g1 H1 _ t1 R1 (walk_et h2 st)⟩⟩
  · obtain ⟨p, vs, rfl, h1, h2, st⟩ := l_stand R1 l p1
    exact ⟨p, vs, rfl, .inl ⟨h1, q g1 H1 _ t1 R1 (walk_el h2 st)⟩⟩
theorem seqSrc_tr {m : Mem} {d : D} {s : Src} (h : seqSrc m d = some s) : IsL m d s → True := fun _ => trivial
theorem i_zip {pp tpos : Pos} {elts : List Expr} {kk : Nat} (hg : Gl X "zip") (hm : X.mg "zip" = none) (ha : PE X a (tE X.K fa)) (hb : PE X b (tE X.K fb)) (h1 : notStar a = true) (h2 : notStar b = true) :
    PI X (.Tuple elts kk tpos) (.Call (.Name "zip" pp) [a, b] [] pos) (tI X.K fun r m => (fa r m).bind fun x m1 => (fb r m1).bind fun y m2 => zipS x y m2) := by
  refine PI.imp (RZ.pi_zipA hg hm (pa_cons ha (pa_cons hb pa_nil (star_cons h2)) (star_cons h1)) (by rw [star_cons h1]) (star_any (by rw [List.all_cons, h2]; rfl))) fun σ H R q => ?_
  obtain ⟨g, r, M, s, M', Rl, S, e, q⟩ := q
  obtain ⟨x, M1, e1, e⟩ := bind_ok e
  obtain ⟨y, M2, e2, e⟩ := bind_ok e
  refine ⟨g, r, M, _, M1, Rl, S, e1, fun g1 H1 v t1 R1 p1 => ⟨g1, r, M1, _, M2, R1, S.tr t1.toTq, e2, fun g2 H2 u t2 R2 p2 => ?_⟩⟩
  have p1 := p1.tr t2.toTq
  unfold zipS at e
  split at e
  · rename_i s1 s2 e3 e4
    split at e
    · rename_i hk
      cases e
      rcases src_kind e3 with ⟨xs, rfl, rfl⟩ | l1
      · rcases src_kind e4 with ⟨ys, rfl, rfl⟩ | l2
        · obtain ⟨p, vs, rfl, h1, h2, st⟩ := tup_stand p1
          obtain ⟨p', ws, rfl, h3, h4, st2⟩ := tup_stand p2
          exact ⟨p, p', vs, ws, rfl, .inr ⟨h1, h3, q g2 H2 _ (t1.trans t2) R2 (walk_zt h2 st st2)⟩⟩
        · rcases l2 with ⟨ys, rfl, _⟩ | ⟨n, ys, rfl, _, _⟩ <;> cases hk
      · rcases src_kind e4 with ⟨ys, rfl, rfl⟩ | l2
        · rcases l1 with ⟨ys, rfl, _⟩ | ⟨n, ys, rfl, _, _⟩ <;> cases hk
        · obtain ⟨p, vs, rfl, h1, h2, st⟩ := l_stand R2 l1 p1
          obtain ⟨p', ws, rfl, h3, h4, st2⟩ := l_stand R2 l2 p2
          exact ⟨p, p', vs, ws, rfl, .inl ⟨h1, h3, q g2 H2 _ (t1.trans t2) R2 (walk_zl h2 st st2)⟩⟩
    · cases e
  · cases e
end
end Rf
namespace Rf
open PySem PySem.Spec PyProof.Rows L2
section
variable {X : Cx} {a b c : Expr} {es : List Expr} {pos : Pos} {fa fb fc : Env → Mem → Res D} {fs : Env → Mem → Res (List D)} {ft fu : Env → Mem → Res Bool}
/-! ### tests -/
theorem t_val (ha : PE X a (tE X.K fa)) (hp : plainTest a = true) : PT X a (tT X.K fun r m => (fa r m).bind fun x m1 => .of (truth m1 x) m1) := by
  refine PT.imp (pt_truth ha (plain_test hp)) fun σ H Q q => ?_
  refine tG_imp (bind1 q) fun v H1 q1 => ?_
  obtain ⟨g, M, x, k, M', R, rx, e, q⟩ := q1
  obtain ⟨e', rfl⟩ := of_ok e
  exact ⟨k, tru_any R rx e', q g H1 k (.refl g H1) R rfl⟩
theorem tT_then {P : Bool → Hp → Prop} {σ : L2.St} {H : Hp} {g : Sg} {r : Env} {M M1 : Mem} {k : Bool} (R : Rel X.K g H M) (S : RelS X.K g H r σ) (e : ft r M = .ok k M1)
    (h : ∀ g1 H1, Tr g H g1 H1 → Rel X.K g1 H1 M1 → P k H1) : tT X.K ft σ H P := ⟨g, r, M, k, M1, R, S, e, fun g1 H1 v t R1 p => by rw [← p]; exact h g1 H1 t R1⟩
theorem t_and {rest : List Expr} (ha : PT X a (tT X.K ft)) (hb : PW X (.BoolOp .And (b :: rest) pos) (tT X.K fu)) : PW X (.BoolOp .And (a :: b :: rest) pos) (tT X.K fun r m => (ft r m).bind fun k m1 => if k = true then fu r m1 else .ok false m1) := by
  refine ⟨fun wh pins s σ H Q I q => (pw_and ha hb).run wh pins s σ H Q I ?_⟩
  obtain ⟨g, r, M, k, M', R, S, e, q⟩ := q
  obtain ⟨x, M1, e1, e2⟩ := bind_ok e
  refine tT_then R S e1 fun g1 H1 t1 R1 => ?_
  cases x with
  | true => exact ⟨g1, r, M1, k, M', R1, S.tr t1.toTq, e2, fun g2 H2 v t2 R2 p => q g2 H2 v (t1.trans t2) R2 p⟩
  | false => cases e2; exact q g1 H1 false t1 R1 rfl
theorem t_or {rest : List Expr} (ha : PT X a (tT X.K ft)) (hb : PW X (.BoolOp .Or (b :: rest) pos) (tT X.K fu)) : PW X (.BoolOp .Or (a :: b :: rest) pos) (tT X.K fun r m => (ft r m).bind fun k m1 => if k = true then .ok true m1 else fu r m1) := by
  refine ⟨fun wh pins s σ H Q I q => (pw_or ha hb).run wh pins s σ H Q I ?_⟩
  obtain ⟨g, r, M, k, M', R, S, e, q⟩ := q
  obtain ⟨x, M1, e1, e2⟩ := bind_ok e
  refine tT_then R S e1 fun g1 H1 t1 R1 => ?_
  cases x with
  | true => cases e2; exact q g1 H1 true t1 R1 rfl
  | false => exact ⟨g1, r, M1, k, M', R1, S.tr t1.toTq, e2, fun g2 H2 v t2 R2 p => q g2 H2 v (t1.trans t2) R2 p⟩
theorem t_not (ha : PT X a (tT X.K ft)) : PT X (.UnaryOp .Not a pos) (tT X.K fun r m => (ft r m).bind fun k m1 => .ok (!k) m1) := by
  refine PT.imp (pt_not ha) fun σ H Q q => ?_
  obtain ⟨g, r, M, k, M', R, S, e, q⟩ := q
  obtain ⟨x, M1, e1, e2⟩ := bind_ok e
  cases e2
  exact tT_then R S e1 fun g1 H1 t1 R1 => q g1 H1 _ t1 R1 rfl
theorem pt_of {t : TT} (h : PT X a t) : PTs X [a] t := pts_one h
theorem ts_nil : PTs X [] (tT X.K fun _ m => .ok true m) := by
  refine ⟨fun pins s σ H Q I q => pts_nil.run pins s σ H Q I ?_⟩
  obtain ⟨g, r, M, k, M', R, S, e, q⟩ := q
  cases e
  exact q g H true (.refl g H) R rfl
end
/-! ### targets -/
mutual
def G.slots : G → List Nat
  | .name i => [i]
  | .tup gs => Gs.slots gs
def Gs.slots : Gs → List Nat
  | .nil => []
  | .cons g gs => G.slots g ++ Gs.slots gs
end
def Gs.len : Gs → Nat
  | .nil => 0
  | .cons _ gs => gs.len + 1
theorem wipe_set {σ : L2.St} {i : Nat} {x : Option V} : ∀ {vs : List Nat}, i ∈ vs → L2.wipe (σ.set i x) vs = L2.wipe σ vs
  | v :: vs, h => by
    unfold L2.wipe
    by_cases hi : i ∈ vs
    · rw [wipe_set hi]
    · have e : i = v := by
        rcases List.mem_cons.mp h with e | e
        · exact e
        · exact absurd e hi
      subst e
      have comm : ∀ {vs : List Nat}, i ∉ vs → L2.wipe (σ.set i x) vs = (L2.wipe σ vs).set i x := by
        intro vs
        induction vs with
        | nil => intro _; rfl
        | cons w ws ih =>
          intro hn
          have h1 : i ≠ w := fun e => hn (by rw [e]; exact List.mem_cons_self)
          have h2 : i ∉ ws := fun m => hn (List.mem_cons_of_mem _ m)
          unfold L2.wipe
          rw [ih h2, List.set_comm _ _ h1]
      rw [comm hi, List.set_set]
theorem wipe_twice {σ : L2.St} : ∀ {vs ws : List Nat}, (∀ i ∈ vs, i ∈ ws) → L2.wipe (L2.wipe σ vs) ws = L2.wipe σ ws
  | [], ws, _ => rfl
  | v :: vs, ws, h => by
    show L2.wipe ((L2.wipe σ vs).set v none) ws = _
    rw [wipe_set (h v List.mem_cons_self), wipe_twice fun i hi => h i (List.mem_cons_of_mem _ hi)]
/-- what a target does to the slots -/
def tGt (K : Fr') (gs : List Nat) (f : D → Env → Option Env) : TG := fun v σ H Q => ∃ g r M d r', Rel K g H M ∧ RelS K g H r σ ∧ Rep K g H d v ∧ f d r = some r' ∧
  ∀ σ', RelS K g H r' σ' → (∀ vs : List Nat, (∀ i ∈ gs, i ∈ vs) → L2.wipe σ' vs = L2.wipe σ vs) → Q σ' H
def tGts (K : Fr') (gs : List Nat) (f : List D → Env → Option Env) : TGs := fun vs σ H Q => ∃ g r M ds r', Rel K g H M ∧ RelS K g H r σ ∧ Reps K g H ds vs ∧ f ds r = some r' ∧
  ∀ σ', RelS K g H r' σ' → (∀ vs : List Nat, (∀ i ∈ gs, i ∈ vs) → L2.wipe σ' vs = L2.wipe σ vs) → Q σ' H
section
variable {X : Cx} {pos : Pos}
theorem PG.imp {e : Expr} {t t' : TG} (h : PG X e t) (i : ∀ v σ H Q, t' v σ H Q → t v σ H Q) : PG X e t' := ⟨fun pins s σ H v u Q I r q => h.run pins s σ H v u Q I r (i v σ H Q q)⟩
theorem PGs.imp {e : List Expr} {t t' : TGs} (h : PGs X e t) (i : ∀ v σ H Q, t' v σ H Q → t v σ H Q) : PGs X e t' := ⟨fun pins s σ H v u Q I r q => h.run pins s σ H v u Q I r (i v σ H Q q)⟩
theorem g_name {i : Nat} {x : Str} (hN : X.N.Nodup) (hi : X.N[i]? = some x) (hx : Loc X.env.scope x) (hf : X.fn x = true ∨ X.env.scope.names.lookup x = some .local) : PG X (.Name x pos) (tGt X.K (G.slots (.name i)) (bindG (.name i))) := by
  refine PG.imp (pg_name hN hi hx hf) fun v σ H Q q => ?_
  obtain ⟨g, r, M, d, r', R, S, rd, e, q⟩ := q
  unfold bindG at e
  split at e
  · cases e
    exact q _ (S.set rd) fun vs h => wipe_set (h i (by unfold G.slots; exact List.mem_cons_self))
  · cases e
theorem gs_nil : PGs X [] (tGts X.K [] (bindGs .nil)) := by
  refine PGs.imp pgs_nil fun vs σ H Q q => ?_
  obtain ⟨g, r, M, ds, r', R, S, rd, e, q⟩ := q
  unfold bindGs at e
  cases ds with
  | nil =>
    cases e
    rw [Reps.nil_iff] at rd
    exact ⟨rd, q σ S fun _ _ => rfl⟩
  | cons d ds => cases e
theorem gs_cons {e : Expr} {es : List Expr} {G' : G} {Gr : Gs} (h1 : PG X e (tGt X.K G'.slots (bindG G'))) (h2 : PGs X es (tGts X.K Gr.slots (bindGs Gr))) (hn : notStar e = true) : PGs X (e :: es) (tGts X.K (Gs.slots (.cons G' Gr)) (bindGs (.cons G' Gr))) := by
  refine PGs.imp (pgs_cons h1 h2 (by rw [asg_cons hn]; rfl)) fun vs σ H Q q => ?_
  obtain ⟨g, r, M, ds, r', R, S, rd, e, q⟩ := q
  unfold bindGs at e
  cases ds with
  | nil => cases e
  | cons d ds =>
    obtain ⟨r1, e1, e2⟩ := bnd_some e
    obtain ⟨v, vr, rfl, hv, hr⟩ := Reps.cons_iff.mp rd
    refine ⟨v, vr, rfl, g, r, M, d, r1, R, S, hv, e1, fun σ1 S1 w1 => ⟨g, r1, M, ds, r', R, S1, hr, e2, fun σ2 S2 w2 => q σ2 S2 fun vs h => ?_⟩⟩
    have h' : ∀ i ∈ G'.slots ++ Gr.slots, i ∈ vs := fun i hi => h i (by unfold Gs.slots; exact hi)
    rw [w2 vs fun i hi => h' i (List.mem_append_right _ hi), w1 vs fun i hi => h' i (List.mem_append_left _ hi)]
theorem asg_all {env : PySem.Env} : ∀ {es : List Expr}, es.all notStar = true → (assignEach es env).findIdx? (·.1) = none ∧ (assignEach es env).length = es.length
  | [], _ => ⟨rfl, rfl⟩
  | e :: es, h => by
    rw [List.all_cons] at h
    obtain ⟨h1, h2⟩ := Bool.and_eq_true_iff.mp h
    obtain ⟨q1, q2⟩ := asg_all (env := env) h2
    rw [asg_cons h1]
    refine ⟨?_, by rw [List.length_cons, List.length_cons, q2]⟩
    rw [List.findIdx?_cons]
    simp only [Bool.false_eq_true, if_false]
    rw [q1]
    rfl
theorem bindGs_len : ∀ {gs : Gs} {ds : List D} {r r' : Env}, bindGs gs ds r = some r' → ds.length = gs.len
  | .nil, ds, r, r', h => by
    unfold bindGs at h
    cases ds with
    | nil => rfl
    | cons d ds => cases h
  | .cons g gs, ds, r, r', h => by
    unfold bindGs at h
    cases ds with
    | nil => cases h
    | cons d ds =>
      obtain ⟨r1, e1, e2⟩ := bnd_some h
      rw [List.length_cons, bindGs_len e2]
      rfl
theorem g_tup {es : List Expr} {k : Nat} {Gr : Gs} (hc : X.calm = true) (h : PGs X es (tGts X.K Gr.slots (bindGs Gr))) (hs : es.all notStar = true) (hl : es.length = Gr.len) : PG X (.Tuple es k pos) (tGt X.K (G.slots (.tup Gr)) (bindG (.tup Gr))) := by
  refine PG.imp (pg_tup hc h (asg_all hs).2 (asg_all hs).1) fun v σ H Q q => ?_
  obtain ⟨g, r, M, d, r', R, S, rd, e, q⟩ := q
  unfold bindG at e
  cases d with
  | tup ds =>
    have e : bindGs Gr ds r = some r' := e
    rw [Rep] at rd
    obtain ⟨a, vs, rfl, h1, h2, h3⟩ := rd
    refine ⟨a, vs, rfl, h1, by rw [h3.length, bindGs_len e, hl], g, r, M, ds, r', R, S, h3, e, fun σ' S' w => q σ' S' fun vs hv => w vs fun i hi => hv i (by unfold G.slots; exact hi)⟩
  | _ => cases e
end
/-! ### list comprehensions -/
noncomputable def stepF (G' : G) (own : List Nat) (r : Env) (ft : Env → Mem → Res Bool) (fe : Env → Mem → Res D) : D → Mem → Res (Option D) := fun x m2 => (match bindG G' x (wipe r own) with
    | some r2 => ((ft r2 m2).bind fun k m3 => if k = true then (fe r2 m3).bind fun y m4 => .ok (some y) m4 else .ok none m3).calm
    | none => .no)
noncomputable def compE (cell : Bool) (fi : Env → Mem → Res Src) (G' : G) (own : List Nat) (ft : Env → Mem → Res Bool) (fe : Env → Mem → Res D) : Env → Mem → Res D := fun r m => (fi r m).bind fun s m1 => (compF s.guard (stepF G' own r ft fe) s.items m1).bind fun ds m2 => newL cell ds m2
theorem compF_still {g : List (Nat × List D)} {step : D → Mem → Res (Option D)} {xs ds : List D} {m m' : Mem} (h : compF g step xs m = .ok ds m') : still g m = true := by
  cases xs with
  | nil =>
    unfold compF at h
    split at h
    · assumption
    · cases h
  | cons x xs =>
    unfold compF at h
    split at h
    · assumption
    · cases h
theorem comp_t {K : Fr'} {cell : Bool} {fi : Env → Mem → Res Src} {G' : G} {own : List Nat} {ft : Env → Mem → Res Bool} {fe : Env → Mem → Res D} {σ : L2.St} {H : Hp} {Q : VK} (ho : ∀ i ∈ G'.slots, i ∈ own)
    (q : tE K (compE cell fi G' own ft fe) σ H Q) : tLc (tI K fi) (tGt K G'.slots (bindG G')) (tT K ft) (tE K fe) own σ H Q := by
  obtain ⟨g, r, M, d, M', R, S, e, q⟩ := q
  obtain ⟨s, M1, e1, e2⟩ := bind_ok e
  obtain ⟨ds, M2, e3, e4⟩ := bind_ok e2
  refine ⟨g, r, M, s, M1, R, S, e1, fun g1 H1 J t1 R1 W => ?_⟩
  obtain ⟨hz, G, Y, wk, wG, wY⟩ := W
  intro D hD
  refine lc_it wk (Pv := fun i Hi => ∃ gi Mi acc done todo, Tr g1 H1 gi Hi ∧ Rel K gi Hi Mi ∧ Hi D = some (.lst acc) ∧ gi.R D ∧ (∀ n, gi.φ n ≠ some D) ∧ Reps K gi Hi done acc ∧ done.length ≤ i ∧ compF s.guard (stepF G' own r ft fe) (s.items.drop i) Mi = .ok todo M2 ∧ ds = done ++ todo) ?_ (fun i Hi hi p => ?_) (fun i x Hi H' hi p y => ?_) fun Hi p => ?_
  · exact ⟨g1.hold D, M1, [], [], ds, .hold hD, R1.hold hD, upd_same, .inr rfl, R1.noP hD, .nil, Nat.zero_le _, by rw [List.drop_zero]; exact e3, rfl⟩
  · obtain ⟨gi, Mi, acc, done, todo, ti, Ri, _, _, _, _, _, ec, _⟩ := p
    exact wG gi Hi Mi ti Ri (compF_still ec)
  · obtain ⟨gi, Mi, acc, done, todo, ti, Ri, hacc, hR, hφ, hreps, hlen, ec, eds⟩ := p
    have st := compF_still ec
    obtain ⟨xd, hx, t2, R2, rx⟩ := wY i x gi Hi H' Mi hi ti Ri st y
    have hdrop : s.items.drop i = xd :: s.items.drop (i + 1) := by
      obtain ⟨h1, h2⟩ := List.getElem?_eq_some_iff.mp hx
      rw [List.drop_eq_getElem_cons h1, h2]
    rw [hdrop] at ec
    unfold compF at ec
    rw [if_pos st] at ec
    obtain ⟨o, M3, e5, e6⟩ := bind_ok ec
    obtain ⟨ys, M4, e7, e8⟩ := bind_ok e6
    have hM : M4 = M2 := by cases e8; rfl
    subst hM
    have htodo : todo = consO o ys := by cases e8; rfl
    have e5 : stepF G' own r ft fe xd Mi = .ok o M3 := e5
    unfold stepF at e5
    split at e5
    · rename_i r2 hb
      have e5 := calm_ok e5
      obtain ⟨k, M5, e9, e10⟩ := bind_ok e5
      have S1 : RelS K gi H' (wipe r own) (L2.wipe σ own) := (((S.tr t1.toTq).tr ti.toTq).tr t2.toTq).wipe own
      refine ⟨gi, wipe r own, Mi, xd, r2, R2, S1, rx, hb, fun σ2 S2 w2 => ⟨?_, gi, r2, Mi, k, M5, R2, S2, e9, fun g3 H3 k' t3 R3 ek => ?_⟩⟩
      · rw [w2 own ho]
        exact wipe_twice fun i hi => hi
      · subst ek
        obtain ⟨ha2, hr2, hp2⟩ := t2.held D _ hR hφ hacc
        obtain ⟨ha3, hr3, hp3⟩ := t3.held D _ hr2 hp2 ha2
        have tt := (ti.trans t2).trans t3
        cases k with
        | false =>
          rw [if_neg Bool.false_ne_true]
          rw [if_neg Bool.false_ne_true] at e10
          cases e10
          refine ⟨g3, M3, acc, done, ys, tt, R3, ha3, hr3, hp3, hreps.tr (t2.trans t3).toTq, Nat.le_succ_of_le hlen, e7, ?_⟩
          rw [eds, htodo]
          rfl
        | true =>
          rw [if_pos rfl]
          rw [if_pos rfl] at e10
          obtain ⟨yd, M6, e11, e12⟩ := bind_ok e10
          cases e12
          refine ⟨g3, r2, M5, yd, M3, R3, S2.tr t3.toTq, e11, fun g4 H4 v t4 R4 p4 => ?_⟩
          obtain ⟨ha4, hr4, hp4⟩ := t4.held D _ hr3 hp3 ha3
          have tad : Tq g4 H4 g4 (upd H4 D (.lst (acc ++ [v]))) := .add hr4 ha4
          refine ⟨acc, ha4, ?_, g4, M3, acc ++ [v], done ++ [yd], ys, (tt.trans t4).add hD hr4 ha4, R4.add hr4 ha4 hp4, upd_same, hr4, hp4, ((hreps.tr ((t2.trans t3).trans t4).toTq).tr tad).append (.cons (p4.tr tad) .nil), ?_, e7, ?_⟩
          · rw [hreps.length]
            exact Nat.lt_of_le_of_lt hlen (Nat.lt_of_lt_of_le hi hz)
          · rw [List.length_append, List.length_singleton]; omega
          · rw [eds, htodo, List.append_assoc]; rfl
    · cases e5
  · obtain ⟨gi, Mi, acc, done, todo, ti, Ri, hacc, hR, hφ, hreps, hlen, ec, eds⟩ := p
    rw [List.drop_length] at ec
    have st := compF_still ec
    unfold compF at ec
    rw [if_pos st] at ec
    cases ec
    rw [List.append_nil] at eds
    subst eds
    have hz' : ds.length ≤ sizeLine := Nat.le_trans hlen hz
    unfold newL at e4
    cases cell with
    | false =>
      cases e4
      refine q (gi.drop D) Hi _ (t1.trans (ti.drop hD)) (Ri.drop hφ) ?_
      rw [Rep]
      exact ⟨D, acc, rfl, hacc, fun z => z.2 rfl, hz', hreps.tr .drop⟩
    | true =>
      cases e4
      refine q (gi.grow _ D) Hi _ (t1.trans (ti.lift hD Ri hR)) (Ri.lift (c := .lst ds) hR hφ ⟨acc, hacc, hz', hreps⟩) ?_
      rw [Rep]
      exact ⟨D, rfl, Sg.grow_at⟩
/-! ### statements -/
def tS (K : Fr') (f : Env → Mem → Res (Flow × Env)) : TS := fun D σ H => ∃ g r M fl r' M', Rel K g H M ∧ RelS K g H r σ ∧ f r M = .ok (fl, r') M' ∧
  ∀ g' H', Tr g H g' H' → Rel K g' H' M' → match fl with
    | .next => ∀ σ', RelS K g' H' r' σ' → D.nx σ' H'
    | .ret d => ∀ v, Rep K g' H' d v → D.rt v H'
    | .brk => ∀ σ', RelS K g' H' r' σ' → D.bk σ' H'
    | .cont => ∀ σ', RelS K g' H' r' σ' → D.ct σ' H'
section
variable {X : Cx} {a b c : Expr} {es : List Expr} {pos : Pos} {fa fb fc : Env → Mem → Res D} {fs : Env → Mem → Res (List D)} {ft fu : Env → Mem → Res Bool} {f1 f2 : Env → Mem → Res (Flow × Env)} {st : Stmt} {sts sts2 : List Stmt}
theorem s_pass : PS X (.Pass pos) (tS X.K fun r m => .ok (.next, r) m) := PS.imp ps_pass fun D σ H ⟨g, r, M, fl, r', M', R, S, e, q⟩ => by
  cases e
  exact q g H (.refl g H) R σ S
theorem s_brk : PS X (.Break pos) (tS X.K fun r m => .ok (.brk, r) m) := PS.imp ps_break fun D σ H ⟨g, r, M, fl, r', M', R, S, e, q⟩ => by
  cases e
  exact q g H (.refl g H) R σ S
theorem s_cont : PS X (.Continue pos) (tS X.K fun r m => .ok (.cont, r) m) := PS.imp ps_continue fun D σ H ⟨g, r, M, fl, r', M', R, S, e, q⟩ => by
  cases e
  exact q g H (.refl g H) R σ S
theorem s_retN : PS X (.Return none pos) (tS X.K fun r m => .ok (.ret .non, r) m) := PS.imp ps_retN fun D σ H ⟨g, r, M, fl, r', M', R, S, e, q⟩ => by
  cases e
  exact q g H (.refl g H) R .non non_rep
theorem s_ret (ha : PE X a (tE X.K fa)) : PS X (.Return (some a) pos) (tS X.K fun r m => (fa r m).bind fun d m1 => .ok (.ret d, r) m1) := PS.imp (ps_ret ha) fun D σ H ⟨g, r, M, fl, r', M', R, S, e, q⟩ => by
  obtain ⟨d, M1, e1, e2⟩ := bind_ok e
  cases e2
  exact ⟨g, r, M, d, M', R, S, e1, fun g1 H1 v t1 R1 p1 => q g1 H1 t1 R1 v p1⟩
theorem s_expr (ha : PE X a (tE X.K fa)) (hn : notComp a = true) : PS X (.Expr a pos) (tS X.K fun r m => (fa r m).bind fun _ m1 => .ok (.next, r) m1) := PS.imp (ps_expr ha (no_swap hn)) fun D σ H ⟨g, r, M, fl, r', M', R, S, e, q⟩ => by
  obtain ⟨d, M1, e1, e2⟩ := bind_ok e
  cases e2
  exact ⟨g, r, M, d, M', R, S, e1, fun g1 H1 v t1 R1 p1 => q g1 H1 t1 R1 σ (S.tr t1.toTq)⟩
/-- a value is stored -/
theorem asg_t {G' : G} {te : TE} {σ : L2.St} {H : Hp} {D : Ends} (hi : ∀ Q, tE X.K fa σ H Q → te σ H Q) (q : tS X.K (fun r m => (fa r m).bind fun d m1 => (match bindG G' d r with
    | some r' => .ok (.next, r') m1
    | none => .no)) D σ H) : tAsg te (tGt X.K G'.slots (bindG G')) D σ H := by
  obtain ⟨g, r, M, fl, r', M', R, S, e, q⟩ := q
  obtain ⟨d, M1, e1, e2⟩ := bind_ok e
  refine hi _ ⟨g, r, M, d, M1, R, S, e1, fun g1 H1 v t1 R1 p1 => ?_⟩
  split at e2
  · rename_i r2 hb
    cases e2
    exact ⟨g1, r, M', d, r', R1, S.tr t1.toTq, p1, hb, fun σ' S' _ => q g1 H1 t1 R1 σ' S'⟩
  · cases e2
theorem s_asg {tg : Expr} {G' : G} (ha : PE X a (tE X.K fa)) (hg : PG X tg (tGt X.K G'.slots (bindG G'))) (hn : notStar tg = true) (hs : swapsWithSole [tg] a pos.line X.env = pure false) (hw : swappedStores [tg] a X.env = pure none) :
    PS X (.Assign [tg] a pos) (tS X.K fun r m => (fa r m).bind fun d m1 => (match bindG G' d r with
      | some r' => .ok (.next, r') m1
      | none => .no)) :=
  PS.imp (ps_asg ha hg hs hw (by rw [asg_cons hn]; rfl)) fun _ _ _ q => asg_t (fun _ h => h) q
/-- name = value, whatever the value is -/
theorem s_set {x : Str} {i : Nat} {p : Pos} (hN : X.N.Nodup) (hi : X.N[i]? = some x) (hx : Loc X.env.scope x) (hf : X.fn x = true ∨ X.env.scope.names.lookup x = some .local) (ha : PE X a (tE X.K fa)) (hs : swapsWith a (some (.Name x p)) pos.line X.env = pure false) :
    PS X (.Assign [.Name x p] a pos) (tS X.K fun r m => (fa r m).bind fun d m1 => (match bindG (.name i) d r with
      | some r' => .ok (.next, r') m1
      | none => .no)) := by
  refine PS.imp (ps_set hN hi hx ha hs hf) fun D σ H q => ?_
  obtain ⟨g, r, M, fl, r', M', R, S, e, q⟩ := q
  obtain ⟨d, M1, e1, e2⟩ := bind_ok e
  refine ⟨g, r, M, d, M1, R, S, e1, fun g1 H1 v t1 R1 p1 => ?_⟩
  unfold bindG at e2
  split at e2
  · rename_i r2 hb
    split at hb
    · cases hb
      cases e2
      exact q g1 H1 t1 R1 _ ((S.tr t1.toTq).set p1)
    · cases hb
  · cases e2
theorem s_par2 {x y : Str} {i j : Nat} {px py pt : Pos} {kt k2 : Nat} {pt2 : Pos} (hc : X.calm = true) (hN : X.N.Nodup) (hi : X.N[i]? = some x) (hj : X.N[j]? = some y) (hij : i ≠ j)
    (hx : X.env.scope.names.lookup x = some .local) (hy : X.env.scope.names.lookup y = some .local) (ha : PE X a (tE X.K fa)) (hb : PE X b (tE X.K fb)) (h1 : notStar a = true) (h2 : notStar b = true)
    (hw : swappedStores [.Tuple [.Name x px, .Name y py] kt pt] (.Tuple [a, b] k2 pt2) X.env = pure (some [x, y])) :
    PS X (.Assign [.Tuple [.Name x px, .Name y py] kt pt] (.Tuple [a, b] k2 pt2) pos) (tS X.K fun r m => (fa r m).bind fun x m1 => (fb r m1).bind fun y m2 => if i < r.length ∧ j < r.length then .ok (.next, (r.set i (some x)).set j (some y)) m2 else .no) := by
  refine PS.imp (ps_par hc hN hi hj hij hx hy (pa_cons ha (pa_cons hb pa_nil (star_cons h2)) (star_cons h1)) hw) fun D σ H q => ?_
  obtain ⟨g, r, M, fl, r', M', R, S, e, q⟩ := q
  obtain ⟨u, M1, e1, e⟩ := bind_ok e
  obtain ⟨w, M2, e2, e⟩ := bind_ok e
  split at e
  · cases e
    refine ⟨g, r, M, u, M1, R, S, e1, fun g1 H1 v t1 R1 p1 => ⟨g1, r, M1, w, M', R1, S.tr t1.toTq, e2, fun g2 H2 v2 t2 R2 p2 => ⟨v, v2, rfl, ?_⟩⟩⟩
    exact q g2 H2 (t1.trans t2) R2 _ ((((S.tr t1.toTq).tr t2.toTq).set (p1.tr t2.toTq)).set p2)
  · cases e
theorem s_par3 {x y z : Str} {i j l : Nat} {px py pz pt : Pos} {kt k2 : Nat} {pt2 : Pos} (hc : X.calm = true) (hN : X.N.Nodup) (hi : X.N[i]? = some x) (hj : X.N[j]? = some y) (hl : X.N[l]? = some z) (hij : i ≠ j) (hil : i ≠ l) (hjl : j ≠ l)
    (hx : X.env.scope.names.lookup x = some .local) (hy : X.env.scope.names.lookup y = some .local) (hz : X.env.scope.names.lookup z = some .local) (ha : PE X a (tE X.K fa)) (hb : PE X b (tE X.K fb)) (hcc : PE X c (tE X.K fc)) (h1 : notStar a = true) (h2 : notStar b = true) (h3 : notStar c = true)
    (hw : swappedStores [.Tuple [.Name x px, .Name y py, .Name z pz] kt pt] (.Tuple [a, b, c] k2 pt2) X.env = pure (some [x, y, z])) :
    PS X (.Assign [.Tuple [.Name x px, .Name y py, .Name z pz] kt pt] (.Tuple [a, b, c] k2 pt2) pos) (tS X.K fun r m => (fa r m).bind fun x m1 => (fb r m1).bind fun y m2 => (fc r m2).bind fun z m3 =>
      if i < r.length ∧ j < r.length ∧ l < r.length then .ok (.next, ((r.set i (some x)).set j (some y)).set l (some z)) m3 else .no) := by
  refine PS.imp (ps_par3 hc hN hi hj hl hij hil hjl hx hy hz (pa_cons ha (pa_cons hb (pa_cons hcc pa_nil (star_cons h3)) (star_cons h2)) (star_cons h1)) hw) fun D σ H q => ?_
  obtain ⟨g, r, M, fl, r', M', R, S, e, q⟩ := q
  obtain ⟨u, M1, e1, e⟩ := bind_ok e
  obtain ⟨w, M2, e2, e⟩ := bind_ok e
  obtain ⟨w3, M3, e3, e⟩ := bind_ok e
  split at e
  · cases e
    refine ⟨g, r, M, u, M1, R, S, e1, fun g1 H1 v t1 R1 p1 => ⟨g1, r, M1, w, M2, R1, S.tr t1.toTq, e2, fun g2 H2 v2 t2 R2 p2 => ⟨g2, r, M2, w3, M', R2, (S.tr t1.toTq).tr t2.toTq, e3, fun g3 H3 v3 t3 R3 p3 => ⟨v, v2, v3, rfl, ?_⟩⟩⟩⟩
    exact q g3 H3 ((t1.trans t2).trans t3) R3 _ ((((((S.tr t1.toTq).tr t2.toTq).tr t3.toTq).set ((p1.tr t2.toTq).tr t3.toTq)).set (p2.tr t3.toTq)).set p3)
  · cases e
end
end Rf
namespace Rf
open PySem PySem.Spec PyProof.Rows L2
section
variable {X : Cx} {a b c : Expr} {es : List Expr} {pos : Pos} {fa fb fc : Env → Mem → Res D} {fs : Env → Mem → Res (List D)} {ft fu : Env → Mem → Res Bool} {f1 f2 : Env → Mem → Res (Flow × Env)} {st : Stmt} {sts sts2 : List Stmt}
/-! ### the flow -/
/-- the ends behind a flow -/
def endF (K : Fr') (D : Ends) (g : Sg) (H : Hp) (M' : Mem) (fl : Flow) (r' : Env) : Prop := ∀ g' H', Tr g H g' H' → Rel K g' H' M' → match fl with
    | .next => ∀ σ', RelS K g' H' r' σ' → D.nx σ' H'
    | .ret d => ∀ v, Rep K g' H' d v → D.rt v H'
    | .brk => ∀ σ', RelS K g' H' r' σ' → D.bk σ' H'
    | .cont => ∀ σ', RelS K g' H' r' σ' → D.ct σ' H'
theorem ss_nil : PSs X [] (tS X.K fun r m => .ok (.next, r) m) := PSs.imp pss_nil fun D σ H ⟨g, r, M, fl, r', M', R, S, e, q⟩ => by
  cases e
  exact q g H (.refl g H) R σ S
theorem ss_cons (h1 : PS X st (tS X.K f1)) (h2 : PSs X sts (tS X.K f2)) : PSs X (st :: sts) (tS X.K fun r m => (f1 r m).bind fun fr m1 => (match fr.1 with
    | .next => f2 fr.2 m1
    | f => .ok (f, fr.2) m1)) := by
  refine PSs.imp (pss_cons h1 h2) fun D σ H q => ?_
  obtain ⟨g, r, M, fl, r', M', R, S, e, q⟩ := q
  obtain ⟨⟨f0, r0⟩, M1, e1, e2⟩ := bind_ok e
  cases f0 with
  | next => exact ⟨g, r, M, .next, r0, M1, R, S, e1, fun g1 H1 t1 R1 σ1 S1 => ⟨g1, r0, M1, fl, r', M', R1, S1, e2, fun g2 H2 t2 R2 => q g2 H2 (t1.trans t2) R2⟩⟩
  | ret d => cases e2; exact ⟨g, r, M, .ret d, r0, M', R, S, e1, fun g1 H1 t1 R1 => q g1 H1 t1 R1⟩
  | brk => cases e2; exact ⟨g, r, M, .brk, r0, M', R, S, e1, fun g1 H1 t1 R1 => q g1 H1 t1 R1⟩
  | cont => cases e2; exact ⟨g, r, M, .cont, r0, M', R, S, e1, fun g1 H1 t1 R1 => q g1 H1 t1 R1⟩
theorem s_ite (ht : PT X a (tT X.K ft)) (h1 : PSs X sts (tS X.K f1)) (h2 : PSs X sts2 (tS X.K f2)) : PS X (.If a sts sts2 pos) (tS X.K fun r m => (ft r m).bind fun k m1 => if k = true then f1 r m1 else f2 r m1) := by
  refine PS.imp (ps_if ht h1 h2) fun D σ H q => ?_
  obtain ⟨g, r, M, fl, r', M', R, S, e, q⟩ := q
  obtain ⟨k, M1, e1, e2⟩ := bind_ok e
  refine ⟨g, r, M, k, M1, R, S, e1, fun g1 H1 v t1 R1 p => ?_⟩
  subst p
  cases k with
  | true => exact ⟨g1, r, M1, fl, r', M', R1, S.tr t1.toTq, e2, fun g2 H2 t2 R2 => q g2 H2 (t1.trans t2) R2⟩
  | false => exact ⟨g1, r, M1, fl, r', M', R1, S.tr t1.toTq, e2, fun g2 H2 t2 R2 => q g2 H2 (t1.trans t2) R2⟩
theorem s_while {N : Nat} (hp : PassesOwn (model X.prog X.w) X.A X.env X.xe) (ht : PT X a (tT X.K ft)) (h1 : PSs X sts (tS X.K f1)) : PS X (.While a sts [] pos) (tS X.K fun r m => whileF ft f1 N r m) := by
  refine PS.imp (ps_while hp ht h1) fun D σ H q => ?_
  obtain ⟨g, r, M, fl, r', M', R, S, e, q⟩ := q
  refine ⟨fun n σ1 H1 => ∃ g1 r1 M1, Tr g H g1 H1 ∧ Rel X.K g1 H1 M1 ∧ RelS X.K g1 H1 r1 σ1 ∧ whileF ft f1 n r1 M1 = .ok (fl, r') M', ⟨N, g, r, M, .refl g H, R, S, e⟩, fun n σ1 H1 w => ?_⟩
  obtain ⟨g1, r1, M1, t1, R1, S1, e1⟩ := w
  cases n with
  | zero => unfold whileF at e1; cases e1
  | succ n =>
    unfold whileF at e1
    obtain ⟨k, M2, e2, e3⟩ := bind_ok e1
    refine ⟨g1, r1, M1, k, M2, R1, S1, e2, fun g2 H2 v t2 R2 p => ?_⟩
    subst p
    cases k with
    | false =>
      rw [if_neg Bool.false_ne_true] at e3 ⊢
      cases e3
      exact q g2 H2 (t1.trans t2) R2 σ1 (S1.tr t2.toTq)
    | true =>
      rw [if_pos rfl] at e3 ⊢
      obtain ⟨⟨f0, r0⟩, M3, e4, e5⟩ := bind_ok e3
      refine ⟨fun σ' H' => ∃ g1 r1 M1, Tr g H g1 H' ∧ Rel X.K g1 H' M1 ∧ RelS X.K g1 H' r1 σ' ∧ whileF ft f1 n r1 M1 = .ok (fl, r') M', fun σ' H' w => ⟨n, Nat.lt_succ_self n, w⟩, ?_⟩
      refine ⟨g2, r1, M2, f0, r0, M3, R2, S1.tr t2.toTq, e4, fun g3 H3 t3 R3 => ?_⟩
      have tt := (t1.trans t2).trans t3
      cases f0 with
      | next => exact fun σ' S' => ⟨g3, r0, M3, tt, R3, S', e5⟩
      | cont => exact fun σ' S' => ⟨g3, r0, M3, tt, R3, S', e5⟩
      | brk => cases e5; exact fun σ' S' => q g3 H3 tt R3 σ' S'
      | ret d => cases e5; exact q g3 H3 tt R3
theorem forF_still {gd : List (Nat × List D)} {body : D → Env → Mem → Res (Flow × Env)} {xs : List D} {r : Env} {m m' : Mem} {z : Flow × Env} (h : forF gd body xs r m = .ok z m') : still gd m = true := by
  cases xs with
  | nil =>
    unfold forF at h
    split at h
    · assumption
    · cases h
  | cons x xs =>
    unfold forF at h
    split at h
    · assumption
    · cases h
theorem s_for {tg : Expr} {G' : G} {fi : Env → Mem → Res Src} (hp : PassesOwn (model X.prog X.w) X.A X.env X.xe) (hc : X.calm = true) (hi : PI X tg a (tI X.K fi)) (hg : PG X tg (tGt X.K G'.slots (bindG G'))) (hb : PSs X sts (tS X.K f1)) (hs : notSet a = true) :
    PS X (.For tg a sts [] pos) (tS X.K fun r m => (fi r m).bind fun s m1 => forF s.guard (fun x r2 m2 => (match bindG G' x r2 with
      | some r3 => f1 r3 m2
      | none => .no)) s.items r m1) := by
  refine PS.imp (ps_for hp hc hi hg hb (no_fold hs)) fun D σ H q => ?_
  obtain ⟨g, r, M, fl, r', M', R, S, e, q⟩ := q
  obtain ⟨s, M1, e1, e2⟩ := bind_ok e
  refine ⟨g, r, M, s, M1, R, S, e1, fun g1 H1 J t1 R1 W => ?_⟩
  obtain ⟨hz, G, Y, wk, wG, wY⟩ := W
  refine for_it wk (fun i σi Hi => ∃ gi ri Mi, Tr g1 H1 gi Hi ∧ Rel X.K gi Hi Mi ∧ RelS X.K gi Hi ri σi ∧ forF s.guard (fun x r2 m2 => (match bindG G' x r2 with
      | some r3 => f1 r3 m2
      | none => .no)) (s.items.drop i) ri Mi = .ok (fl, r') M') ?_ (fun i σi Hi hi p => ?_) (fun i x σi Hi H' hi p y => ?_) fun σi Hi p => ?_
  · exact ⟨g1, r, M1, .refl g1 H1, R1, S.tr t1.toTq, by rw [List.drop_zero]; exact e2⟩
  · obtain ⟨gi, ri, Mi, ti, Ri, Si, ec⟩ := p
    exact wG gi Hi Mi ti Ri (forF_still ec)
  · obtain ⟨gi, ri, Mi, ti, Ri, Si, ec⟩ := p
    have st := forF_still ec
    obtain ⟨xd, hx, t2, R2, rx⟩ := wY i x gi Hi H' Mi hi ti Ri st y
    have hdrop : s.items.drop i = xd :: s.items.drop (i + 1) := by
      obtain ⟨h1, h2⟩ := List.getElem?_eq_some_iff.mp hx
      rw [List.drop_eq_getElem_cons h1, h2]
    rw [hdrop] at ec
    unfold forF at ec
    rw [if_pos st] at ec
    obtain ⟨⟨f0, r0⟩, M3, e5, e6⟩ := bind_ok ec
    split at e5
    · rename_i r2 hb
      refine ⟨gi, ri, Mi, xd, r2, R2, Si.tr t2.toTq, rx, hb, fun σ2 S2 _ => ⟨gi, r2, Mi, f0, r0, M3, R2, S2, e5, fun g3 H3 t3 R3 => ?_⟩⟩
      have tt := (ti.trans t2).trans t3
      cases f0 with
      | next => exact fun σ' S' => ⟨g3, r0, M3, tt, R3, S', e6⟩
      | cont => exact fun σ' S' => ⟨g3, r0, M3, tt, R3, S', e6⟩
      | brk => cases e6; exact fun σ' S' => q g3 H3 (t1.trans tt) R3 σ' S'
      | ret d => cases e6; exact q g3 H3 (t1.trans tt) R3
    · cases e5
  · obtain ⟨gi, ri, Mi, ti, Ri, Si, ec⟩ := p
    have st := forF_still ec
    rw [List.drop_length] at ec
    unfold forF at ec
    rw [if_pos st] at ec
    cases ec
    exact q gi Hi (t1.trans ti) Ri σi Si
/-! ### op= -/
def rAug : TIp := fun x y H Q => (∃ i j, x = .int i ∧ y = .int j ∧ Q (.int (i + j)) H) ∨ ∃ s t, x = .str s ∧ y = .str t ∧ s.length + t.length ≤ sizeLine ∧ Q (.str (s ++ t)) H
theorem ip_aug : PIp X .Add rAug := by
  intro pins s σ H x y v u Q I r1 r2 h
  rcases h with ⟨i, j, rfl, rfl, q⟩ | ⟨i, j, rfl, rfl, hz, q⟩
  · obtain ⟨t, rfl⟩ := r1
    obtain ⟨t', rfl⟩ := r2
    exact iadd_int ⟨.int _, H, I.tok _, ⟨_, rfl⟩, q⟩
  · obtain ⟨t, rfl⟩ := r1
    obtain ⟨t', rfl⟩ := r2
    exact iadd_str (fun t' tk => ⟨.str _, H, I.tok _, ⟨_, rfl⟩, q⟩) hz
theorem s_aug {x : Str} {i : Nat} {p : Pos} (hN : X.N.Nodup) (hi : X.N[i]? = some x) (hx : Loc X.env.scope x) (hf : X.fn x = true ∨ X.env.scope.names.lookup x = some .local) (ha : PE X a (tE X.K fa)) :
    PS X (.AugAssign (.Name x p) .Add a pos) (tS X.K fun r m => (match r[i]? with
    | some (some x) => (fa r m).bind fun y m1 => (match bin .add x y m1, x with
      | some z, .int _ => .ok (.next, r.set i (some z)) m1
      | some z, .str _ => .ok (.next, r.set i (some z)) m1
      | _, _ => .no)
    | _ => .no)) := by
  refine PS.imp (ps_aug hN hi hx ha ip_aug hf) fun D σ H q => ?_
  obtain ⟨g, r, M, fl, r', M', R, S, e, q⟩ := q
  dsimp only at e
  split at e
  · rename_i d hd
    obtain ⟨y, M1, e1, e2⟩ := bind_ok e
    obtain ⟨v, hv, rd⟩ := S.2 i d hd
    refine ⟨v, hv, g, r, M, y, M1, R, S, e1, fun g1 H1 u t1 R1 p1 => ?_⟩
    have rd1 := rd.tr t1.toTq
    split at e2
    · rename_i z n hb
      cases e2
      rcases bin_add hb with ⟨i, j, e3, e4⟩ | ⟨_, _, e3, _⟩ | ⟨_, _, e3, _⟩ | ⟨_, _, e3, _⟩
      · cases e3; subst e4
        rw [bin_addI] at hb
        cases hb
        rw [rep_int rd1, rep_int p1]
        exact .inl ⟨_, _, rfl, rfl, q g1 H1 t1 R1 _ ((S.tr t1.toTq).set (int_rep _))⟩
      · cases e3
      · cases e3
      · cases e3
    · rename_i z n hb
      cases e2
      rcases bin_add hb with ⟨i, j, e3, e4⟩ | ⟨_, _, e3, e4⟩ | ⟨_, _, e3, _⟩ | ⟨_, _, e3, _⟩
      · cases e3
      · cases e3; subst e4
        rw [bin_addS] at hb
        split at hb
        · rename_i hz
          cases hb
          rw [rep_str rd1, rep_str p1]
          exact .inr ⟨_, _, rfl, rfl, Nat.le_trans hz LIM_line, q g1 H1 t1 R1 _ ((S.tr t1.toTq).set (str_rep _))⟩
        · cases hb
      · cases e3
      · cases e3
    · cases e2
  · cases e
/-! ### o[i] = v -/
theorem sub_store (h : notSlice b = true) (v : Value) (env : PySem.Env) : assign (.Subscript a b pos) env v = (do
      let ov ← holding [v] (eval a env)
      let iv ← holding [v, ov] (eval b env)
      standAt pos
      holding [v, ov, iv] (setItem ov iv v)
      release [v, ov, iv] []) := by
  cases b <;> first | rfl | cases h
theorem s_setI {p : Pos} (hv : PE X c (tE X.K fc)) (ho : PE X a (tE X.K fa)) (hi : PE X b (tE X.K fb)) (hn : notSlice b = true) :
    PS X (.Assign [.Subscript a b p] c pos) (tS X.K fun r m => (fc r m).bind fun v m1 => (fa r m1).bind fun x m2 => (fb r m2).bind fun y m3 => (match x, y with
    | .obj n, .int k => (match m3[n]? with
      | some (.lst xs) => (match place xs.length k with
        | some j => .ok (.next, r) (m3.set n (.lst (xs.set j v)))
        | none => .no)
      | _ => .no)
    | _, _ => .no)) := by
  refine PS.imp (ps_asg hv (pg_sub ho hi set_list fun v => sub_store hn v _) (by cases c <;> rfl) (by cases c <;> rfl) rfl) fun D σ H q => ?_
  obtain ⟨g, r, M, fl, r', M', R, S, e, q⟩ := q
  obtain ⟨v, M1, e1, e⟩ := bind_ok e
  obtain ⟨x, M2, e2, e⟩ := bind_ok e
  obtain ⟨y, M3, e3, e⟩ := bind_ok e
  refine ⟨g, r, M, v, M1, R, S, e1, fun g1 H1 vv t1 R1 p1 => ⟨g1, r, M1, x, M2, R1, S.tr t1.toTq, e2, fun g2 H2 vo t2 R2 p2 => ⟨g2, r, M2, y, M3, R2, (S.tr t1.toTq).tr t2.toTq, e3, fun g3 H3 vi t3 R3 p3 => ?_⟩⟩⟩
  have hxy : ∃ n k, x = .obj n ∧ y = .int k := by
    cases x with
    | obj n =>
      cases y with
      | int k => exact ⟨n, k, rfl, rfl⟩
      | _ => cases e
    | _ => cases e
  obtain ⟨n, k, rfl, rfl⟩ := hxy
  dsimp only at e
  split at e
  · rename_i xs hc
    split at e
    · rename_i j hj
      cases e
      have p2' := p2.tr t3.toTq
      rw [Rep] at p2'
      obtain ⟨a, rfl, hn⟩ := p2'
      obtain ⟨b, h1, h2, vs, h3, h4, h5⟩ := R3.cell n _ hc
      rw [hn] at h1
      cases h1
      rw [rep_int p3]
      have pv := (p1.tr t2.toTq).tr t3.toTq
      have t4 : Tr g3 H3 g3 (upd H3 a (.lst (vs.set j vv))) := .poke R3 hn h2 (c := .lst xs) ⟨vs, h3, h4, h5⟩
      refine ⟨a, vs, k, j, rfl, rfl, h3, by rw [h5.length]; exact hj, ?_⟩
      exact q g3 _ (((t1.trans t2).trans t3).trans t4) (R3.poke hn h2 (c := .lst xs) ⟨vs, h3, h4, h5⟩ ⟨_, upd_same, by rw [List.length_set]; exact h4, Reps.set (pv.tr t4.toTq) j (h5.tr t4.toTq)⟩) σ ((((S.tr t1.toTq).tr t2.toTq).tr t3.toTq).tr t4.toTq)
    · cases e
  · cases e
/-! ### o.f = v -/
theorem s_setF {f : Str} {p : Pos} {F : Fx} (hA : ∀ cn f, F.attr cn f = true → Cls X.K (He.ga X.K cn) ∧ NoAttr X.K (He.ga X.K cn) f) (hv : PE X c (tE X.K fc)) (ho : PE X a (tE X.K fa)) :
    PS X (.Assign [.Attribute a f p] c pos) (tS X.K fun r m => (fc r m).bind fun v m1 => (fa r m1).bind fun x m2 => (match x with
    | .obj n => (match m2[n]? with
      | some (.ins c fs) => if fs.length < 900 ∧ F.attr c f = true then .ok (.next, r) (m2.set n (.ins c (putD f v fs))) else .no
      | _ => .no)
    | _ => .no)) := by
  refine PS.imp (ps_fld ho hv (by cases c <;> rfl)) fun D σ H q => ?_
  obtain ⟨g, r, M, fl, r', M', R, S, e, q⟩ := q
  obtain ⟨v, M1, e1, e⟩ := bind_ok e
  obtain ⟨x, M2, e2, e⟩ := bind_ok e
  refine ⟨g, r, M, v, M1, R, S, e1, fun g1 H1 vv t1 R1 p1 => ⟨g1, r, M1, x, M2, R1, S.tr t1.toTq, e2, fun g2 H2 vo t2 R2 p2 => ?_⟩⟩
  split at e
  · rename_i n
    split at e
    · rename_i cn fs hc
      split at e
      · rename_i hk
        cases e
        rw [Rep] at p2
        obtain ⟨a, rfl, hn⟩ := p2
        obtain ⟨b, h1, h2, dx, vfs, h3, h4, h5, h6⟩ := R2.cell n _ hc
        rw [hn] at h1
        cases h1
        obtain ⟨k1, k2⟩ := hA _ _ hk.2
        have pv := p1.tr t2.toTq
        have t4 : Tr g2 H2 g2 (upd H2 a (.ins (He.ga X.K cn) dx (putF f vv vfs))) := .poke R2 hn h2 (c := .ins cn fs) ⟨dx, vfs, h3, h4, h5, h6⟩
        refine ⟨a, He.ga X.K cn, dx, vfs, rfl, h3, k1, k2, by rw [h4.length]; omega, ?_⟩
        refine q g2 _ ((t1.trans t2).trans t4) (R2.poke hn h2 (c := .ins cn fs) ⟨dx, vfs, h3, h4, h5, h6⟩ ⟨dx, _, upd_same, Flds.put (pv.tr t4.toTq) (h4.tr t4.toTq), h5, fun p hp => ?_⟩) σ (((S.tr t1.toTq).tr t2.toTq).tr t4.toTq)
        rcases Flds.keys hp with h | ⟨z, hz, h⟩
        · rw [h]; exact k2
        · rw [← h]; exact h6 z hz
      · cases e
    · cases e
  · cases e
end
end Rf
namespace Rf
open PySem PySem.Spec PyProof.Rows L2
section
variable {X : Cx} {a b c : Expr} {es : List Expr} {pos : Pos} {fa fb fc : Env → Mem → Res D} {ft fu : Env → Mem → Res Bool}
theorem s_augF {f : Str} {p : Pos} (ho : PE X a (tE X.K fa)) (hv : PE X c (tE X.K fc)) :
    PS X (.AugAssign (.Attribute a f p) .Add c pos) (tS X.K fun r m => (fa r m).bind fun x m1 => (match fldOf m1 x f with
    | some (.int i) => (fc r m1).bind fun y m2 => augTo m1 m2 x f i y r
    | _ => .no)) := by
  refine PS.imp (ps_fldaug ho hv in_add) fun D σ H q => ?_
  obtain ⟨g, r, M, fl, r', M', R, S, e, q⟩ := q
  obtain ⟨x, M1, e1, e⟩ := bind_ok e
  refine ⟨g, r, M, x, M1, R, S, e1, fun g1 H1 v t1 R1 p1 => ?_⟩
  split at e
  · rename_i i hf
    obtain ⟨y, M2, e2, e⟩ := bind_ok e
    obtain ⟨cn, fs, hcl, hl⟩ := fld_cls hf
    obtain ⟨n, a, dx, vfs, rfl, hM, rfl, hn, hr, h3, h4, h5, h6⟩ := ins_at R1 p1 hcl
    obtain ⟨vi, hvi, rvi⟩ := (Flds.look h4).2 _ hl
    rw [rep_int rvi] at hvi
    obtain ⟨z, hz, hz'⟩ := mem_of_look hl
    refine ⟨a, He.ga X.K cn, dx, vfs, .int i, rfl, h3, h5, hz' ▸ h6 z hz, hvi, g1, r, M1, y, M2, R1, S.tr t1.toTq, e2, fun g2 H2 w t2 R2 p2 => ?_⟩
    unfold augTo at e
    cases y with
    | int j =>
      dsimp only at e
      split at e
      · rename_i c fs1 c2 fs2 hc1 hc2
        rw [hcl] at hc1
        cases hc1
        split at e
        · rename_i hk
          cases e
          obtain ⟨k1, k2⟩ := hk
          subst k1
          obtain ⟨n', a', dx', vfs', e3, hM', e4, hn', hr', h3', h4', h5', h6'⟩ := ins_at R2 (p1.tr t2.toTq) hc2
          cases e3; cases e4
          refine ⟨i, j, rfl, rep_int p2, dx', vfs', h3', by rw [h4'.length]; omega, ?_⟩
          have t4 : Tr g2 H2 g2 (upd H2 a (.ins (He.ga X.K c2) dx' (putF f (.int (i + j)) vfs'))) := .poke R2 hn' hr' (c := .ins c2 fs2) ⟨dx', vfs', h3', h4', h5', h6'⟩
          refine q g2 _ ((t1.trans t2).trans t4) (R2.poke hn' hr' (c := .ins c2 fs2) ⟨dx', vfs', h3', h4', h5', h6'⟩ ⟨dx', _, upd_same, Flds.put (int_rep _) (h4'.tr t4.toTq), h5', fun p hp => ?_⟩) σ (((S.tr t1.toTq).tr t2.toTq).tr t4.toTq)
          rcases Flds.keys hp with h | ⟨w, hw, h⟩
          · rw [h]; exact hz' ▸ h6 z hz
          · rw [← h]; exact h6' w hw
        · cases e
      · cases e
    | _ => cases e
  · cases e
/-! ### list comprehensions in a place -/
section
variable {elt tg iter : Expr} {ifs : List Expr} {scope : Scope} {own : List (Str × Nat)} {fi : Env → Mem → Res Src} {G' : G} {fe : Env → Mem → Res D} {cell : Bool}
theorem e_comp (hc : X.calm = true) (hN : X.N.Nodup) (hi : PI X tg iter (tI X.K fi)) (ok : BlkOk X.N X.env.scope scope own)
    (hg : ∀ (s : Shared) (H : Hp) (C : Addr) (cl : List (Str × Addr)) (fp : List Addr), PG (X.blk s H scope (compEnvC scope cl C X.env) fp) tg (tGt X.K G'.slots (bindG G')))
    (ht : ∀ (s : Shared) (H : Hp) (C : Addr) (cl : List (Str × Addr)) (fp : List Addr), PTs (X.blk s H scope (compEnvC scope cl C X.env) fp) ifs (tT X.K ft))
    (he : ∀ (s : Shared) (H : Hp) (C : Addr) (cl : List (Str × Addr)) (fp : List Addr), PE (X.blk s H scope (compEnvC scope cl C X.env) fp) elt (tE X.K fe)) (hs : notSet iter = true) (ho : ∀ i ∈ G'.slots, i ∈ own.map (·.2)) :
    PE X (.ListComp elt [⟨tg, iter, ifs, 0⟩] scope pos) (tE X.K (compE cell fi G' (own.map (·.2)) ft fe)) :=
  PE.imp (pe_lc hc hN hi ok hg ht he (no_fold hs)) fun _ _ _ q => comp_t ho q
theorem s_setLc {i : Nat} {y : Str} {py spos : Pos} (hc : X.calm = true) (hN : X.N.Nodup) (hy : X.N[i]? = some y) (hyl : X.env.scope.names.lookup y = some .local)
    (hsw : swapsWith (.ListComp elt [⟨tg, iter, ifs, 0⟩] scope pos) (some (.Name y py)) spos.line X.env = pure true) (hi : PI X tg iter (tI X.K fi)) (ok : BlkOk X.N X.env.scope scope own)
    (hg : ∀ (s : Shared) (H : Hp) (C : Addr) (cl : List (Str × Addr)) (fp : List Addr), PG (X.blk s H scope (compEnvC scope cl C X.env) fp) tg (tGt X.K G'.slots (bindG G')))
    (ht : ∀ (s : Shared) (H : Hp) (C : Addr) (cl : List (Str × Addr)) (fp : List Addr), PTs (X.blk s H scope (compEnvC scope cl C X.env) fp) ifs (tT X.K ft))
    (he : ∀ (s : Shared) (H : Hp) (C : Addr) (cl : List (Str × Addr)) (fp : List Addr), PE (X.blk s H scope (compEnvC scope cl C X.env) fp) elt (tE X.K fe)) (hs : notSet iter = true) (ho : ∀ i ∈ G'.slots, i ∈ own.map (·.2)) :
    PS X (.Assign [.Name y py] (.ListComp elt [⟨tg, iter, ifs, 0⟩] scope pos) spos) (tS X.K fun r m => (compE cell fi G' (own.map (·.2)) ft fe r m).bind fun d m1 => (match bindG (.name i) d r with
      | some r' => .ok (.next, r') m1
      | none => .no)) := by
  refine PS.imp (ps_setLc hc hN hy hyl hsw hi ok hg ht he (no_fold hs)) fun D σ H q => ?_
  obtain ⟨g, r, M, fl, r', M', R, S, e, q⟩ := q
  obtain ⟨d, M1, e1, e2⟩ := bind_ok e
  refine comp_t ho ⟨g, r, M, d, M1, R, S, e1, fun g1 H1 v t1 R1 p1 => ?_⟩
  unfold bindG at e2
  split at e2
  · rename_i r2 hb
    split at hb
    · cases hb
      cases e2
      exact q g1 H1 t1 R1 _ ((S.tr t1.toTq).set p1)
    · cases hb
  · cases e2
end
end
end Rf
namespace Rf
open PySem PySem.Spec PyProof.Rows L2
/-! ### from the syntax to the IR -/
structure Ctx where
  N : List Str
  sc : Scope
  fn : Str → Bool
structure Tab where
  free : List Str
  consts : List (Str × D)
  fns : List (Str × Nat)
  classes : List (Str × Nat)
  cells : List (Nat × Nat)
def Tab.isCell (T : Tab) (p : Pos) : Bool := T.cells.contains (p.line, p.col)
def ixOf : List Str → Str → Option Nat
  | [], _ => none
  | y :: r, x => if y = x then some 0 else (ixOf r x).map (· + 1)
theorem ixOf_ok : ∀ {N : List Str} {x : Str} {i : Nat}, ixOf N x = some i → N[i]? = some x
  | [], _, _, h => by cases h
  | y :: r, x, i, h => by
    unfold ixOf at h
    split at h
    · rename_i e
      cases h
      rw [e]; rfl
    · obtain ⟨k, hk, rfl⟩ := map_some h
      exact (ixOf_ok hk : r[k]? = some x)
def visC (sc : Scope) (x : Str) : Bool := match sc.names.lookup x with
  | some .local => true
  | some .cell => true
  | some .free => true
  | _ => false
theorem visC_ok {sc : Scope} {x : Str} (h : visC sc x = true) : Vis sc x := by
  unfold visC at h
  split at h
  · exact .inl (by assumption)
  · exact .inr (.inl (by assumption))
  · exact .inr (.inr (by assumption))
  · cases h
def stoC (c : Ctx) (x : Str) : Bool := match c.sc.names.lookup x with
  | some .local => true
  | some .cell => c.fn x
  | _ => false
def locC (c : Ctx) (x : Str) : Bool := match c.sc.names.lookup x with
  | some .local => true
  | _ => false
theorem locC_ok {c : Ctx} {x : Str} (h : locC c x = true) : c.sc.names.lookup x = some .local := by
  unfold locC at h
  split at h
  · assumption
  · cases h
theorem stoC_ok {c : Ctx} {x : Str} (h : stoC c x = true) : Loc c.sc x ∧ (c.fn x = true ∨ c.sc.names.lookup x = some .local) := by
  unfold stoC at h
  split at h
  · rename_i e; exact ⟨.inl e, .inr e⟩
  · rename_i e; exact ⟨.inr e, .inl h⟩
  · cases h
def okN (x : Str) : Bool := !(x == ("__debug__" : Str)) && !(x == ("__classdict__" : Str)) && !(decide (x = ("__name__" : Str)))
theorem okN_ok {x : Str} (h : okN x = true) : (x == ("__debug__" : Str)) = false ∧ (x == ("__classdict__" : Str)) = false ∧ x ≠ ("__name__" : Str) := by
  unfold okN at h
  simp only [Bool.and_eq_true, Bool.not_eq_true', decide_eq_false_iff_not] at h
  exact ⟨h.1.1, h.1.2, h.2⟩
def glC (c : Ctx) (x : Str) : Bool := okN x && (match c.sc.names.lookup x with
  | some .globalImplicit => true
  | _ => false)
theorem glC_ok {c : Ctx} {x : Str} (h : glC c x = true) : okN x = true ∧ c.sc.names.lookup x = some .globalImplicit := by
  unfold glC at h
  obtain ⟨h1, h2⟩ := Bool.and_eq_true_iff.mp h
  refine ⟨h1, ?_⟩
  split at h2
  · assumption
  · cases h2
def constOf : Const → Option D
  | .int i => some (.int i)
  | .str s => some (.str s)
  | .bool b => some (.bl b)
  | .none => some .non
  | _ => none
def opOf : Operator → Option BOp
  | .Add => some .add
  | .Sub => some .sub
  | .Mult => some .mul
  | .FloorDiv => some .div
  | .Mod => some .mod
  | .Pow => some .pow
  | _ => none
theorem opOf_ok {o : Operator} {b : BOp} (h : opOf o = some b) : o = b.py := by cases o <;> cases h <;> rfl
def copOf : CmpOp → COp
  | .Eq => .eq
  | .NotEq => .ne
  | .Lt => .lt
  | .LtE => .le
  | .Gt => .gt
  | .GtE => .ge
  | .Is => .is
  | .IsNot => .isnot
  | .In => .mem
  | .NotIn => .notmem
theorem copOf_ok (o : CmpOp) : (copOf o).py = o := by cases o <;> rfl
structure Cmp where
  e : Ctx → Expr → Option E
  t : Ctx → Expr → Option T
def Cmp.es (C : Cmp) (c : Ctx) : List Expr → Option Es
  | [] => some .nil
  | e :: es => if notStar e then (C.e c e).bind fun a => (Cmp.es C c es).map fun r => .cons a r else none
def Cmp.o (C : Cmp) (c : Ctx) : Option Expr → Option O
  | none => some .none
  | some e => (C.e c e).map .some
def cName (T : Tab) (c : Ctx) (x : Str) : Option E :=
  if visC c.sc x then (if okN x then (ixOf c.N x).map .var else none) else if glC c x then (T.consts.lookup x).map .const else none
def isListD : Expr → Bool
  | .List .. => true
  | _ => false
def cBin (C : Cmp) (T : Tab) (c : Ctx) (a : Expr) (op : Operator) (b : Expr) (pos : Pos) : Option E :=
  if isListD a then (match op with
    | .Mult => (C.e c a).bind fun a => (C.e c b).map fun b => .rep (T.isCell pos) a b
    | .Add => (C.e c a).bind fun a => (C.e c b).map fun b => .bin .add a b
    | _ => none)
  else (opOf op).bind fun o => (C.e c a).bind fun a => (C.e c b).map fun b => .bin o a b
def cUn (C : Cmp) (c : Ctx) (op : UnaryOp) (a : Expr) : Option E := match op with
  | .USub => (C.e c a).map .neg
  | .Not => (C.e c a).map .not
  | _ => none
def cCh (C : Cmp) (c : Ctx) : List CmpOp → List Expr → Option Ch
  | [], _ => none
  | op :: ops, es => (match es with
    | [] => none
    | e :: es => if ops.isEmpty && es.isEmpty then (C.e c e).map fun a => .last (copOf op) a else (C.e c e).bind fun a => (cCh C c ops es).map fun r => .link (copOf op) a r)
def cCmp (C : Cmp) (c : Ctx) (l : Expr) (ops : List CmpOp) (cs : List Expr) : Option E := match ops, cs with
  | [op], [b] => if notSet b then (C.e c l).bind fun a => (C.e c b).map fun b => .cmp (copOf op) a b else none
  | [op, op2], [b, d] => if notSet d then (C.e c l).bind fun a => (C.e c b).bind fun b => (C.e c d).map fun d => .chain (copOf op) (copOf op2) a b d else none
  | o1 :: o2 :: ops, b :: d :: cs => if !(lastMarks (o1 :: o2 :: ops) (b :: d :: cs)) then (C.e c l).bind fun a => (cCh C c (o1 :: o2 :: ops) (b :: d :: cs)).map fun r => .chn a r else none
  | _, _ => none
def cCmpT (C : Cmp) (c : Ctx) (l : Expr) (ops : List CmpOp) (cs : List Expr) : Option T := match ops, cs with
  | [op], [b] => if notSet b then (C.e c l).bind fun a => (C.e c b).map fun b => .cmp (copOf op) a b else none
  | [op, op2], [b, d] => if notSet d then (C.e c l).bind fun a => (C.e c b).bind fun b => (C.e c d).map fun d => .chain (copOf op) (copOf op2) a b d else none
  | o1 :: o2 :: ops, b :: d :: cs => if !(lastMarks (o1 :: o2 :: ops) (b :: d :: cs)) then (C.e c l).bind fun a => (cCh C c (o1 :: o2 :: ops) (b :: d :: cs)).map fun r => .chn a r else none
  | _, _ => none
def cAnd (C : Cmp) (c : Ctx) : List Expr → Option E
  | [] => none
  | [a] => C.e c a
  | a :: b :: r => (C.e c a).bind fun a => (cAnd C c (b :: r)).map fun b => .and a b
def cOr (C : Cmp) (c : Ctx) : List Expr → Option E
  | [] => none
  | [a] => C.e c a
  | a :: b :: r => (C.e c a).bind fun a => (cOr C c (b :: r)).map fun b => .or a b
def cAndT (C : Cmp) (c : Ctx) : List Expr → Option T
  | [] => none
  | [a] => C.t c a
  | a :: b :: r => (C.t c a).bind fun a => (cAndT C c (b :: r)).map fun b => .and a b
def cOrT (C : Cmp) (c : Ctx) : List Expr → Option T
  | [] => none
  | [a] => C.t c a
  | a :: b :: r => (C.t c a).bind fun a => (cOrT C c (b :: r)).map fun b => .or a b
def cSub (C : Cmp) (c : Ctx) (a : Expr) (b : Expr) : Option E := match b with
  | .Slice none none (some (.UnaryOp .USub (.Constant (.int 1) _ _) _)) _ => (C.e c a).map .rev
  | .Slice lo hi none _ => (C.e c a).bind fun a => (C.o c lo).bind fun lo => (C.o c hi).map fun hi => .slice a lo hi
  | b => if notSlice b then (C.e c a).bind fun a => (C.e c b).map fun b => .idx a b else none
def primOf (x : Str) (n : Nat) : Option Prim :=
  if x = "len" then some .len
  else if x = "abs" then some .abs
  else if x = "min" then some (if n = 1 then .min1 else .min2)
  else if x = "max" then some (if n = 1 then .max1 else .max2)
  else if x = "sum" then some .sum
  else if x = "tuple" then some .tuple
  else if x = "int" then some .int
  else none
def tyC (x : Str) : Option Ty :=
  if x = "tuple" then some .tuple
  else if x = "list" then some .list
  else if x = "bool" then some .bool
  else if x = "int" then some .int
  else if x = "str" then some .str
  else none
def bltC (T : Tab) (c : Ctx) (x : Str) : Bool := glC c x && T.free.contains x
/-- range(..) as an argument: its two ends -/
def cRg (C : Cmp) (T : Tab) (c : Ctx) : Expr → Option (E × E)
  | .Call (.Name x _) args [] _ => if x = "range" ∧ bltC T c x = true then (match args with
    | [a] => if notStar a then (C.e c a).map fun a => (.const (.int 0), a) else none
    | [a, b] => if notStar a && notStar b then (C.e c a).bind fun a => (C.e c b).map fun b => (a, b) else none
    | _ => none) else none
  | _ => none
def cBlt (C : Cmp) (T : Tab) (c : Ctx) (x : Str) (args : List Expr) (pos : Pos) : Option E :=
  if x = "isinstance" then (match args with
    | [a, .Name y _] => if notStar a && bltC T c y then (tyC y).bind fun t => (C.e c a).map fun a => .isi a t else none
    | _ => none)
  else if x = "list" then (match args with
    | [a] => if notStar a then (match cRg C T c a with
      | some (lo, hi) => some (.listR (T.isCell pos) lo hi)
      | none => (C.e c a).map fun a => .list (T.isCell pos) a) else none
    | _ => none)
  else (match primOf x args.length with
    | some p => (match args with
      | [] => none
      | a :: r => (match (if x = "tuple" ∧ r = [] ∧ notStar a = true then cRg C T c a else none) with
        | some (lo, hi) => some (.tupR lo hi)
        | none => (C.es c (a :: r)).map fun es => .prim p es))
    | none => none)
def cCallN (C : Cmp) (T : Tab) (c : Ctx) (x : Str) (args : List Expr) (pos : Pos) : Option E :=
  if glC c x then (match T.fns.lookup x with
    | some i => (C.es c args).map fun es => .call i es
    | none => (match T.classes.lookup x with
      | some i => (C.es c args).map fun es => .make x i es
      | none => if T.free.contains x then cBlt C T c x args pos else none)) else none
def cCallM (C : Cmp) (c : Ctx) (o : Expr) (m : Str) (apos : Pos) (args : List Expr) (pos : Pos) : Option E :=
  if plainBase o && (apos.endLine == pos.line) then
    (if m = "append" then (match args with
      | [b] => if notStar b then (C.e c o).bind fun o => (C.e c b).map fun b => .append o b else none
      | _ => none)
    else if m = "index" then (match args with
      | [b] => if notStar b then (C.e c o).bind fun o => (C.e c b).map fun b => .index o b else none
      | _ => none)
    else if args.length < 20 then (C.e c o).bind fun o => (C.es c args).map fun es => .meth m o es else none)
  else none
def cCall (C : Cmp) (T : Tab) (c : Ctx) (f : Expr) (args : List Expr) (pos : Pos) : Option E := match f with
  | .Name x _ => cCallN C T c x args pos
  | .Attribute o m apos => cCallM C c o m apos args pos
  | _ => none
def mapG (f : Expr → Option G) : List Expr → Option Gs
  | [] => some .nil
  | e :: es => (f e).bind fun g => (mapG f es).map fun r => .cons g r
def cG : Nat → Ctx → Expr → Option G
  | 0, _, _ => none
  | n + 1, c, e => (match e with
    | .Name x _ => if stoC c x then (ixOf c.N x).map .name else none
    | .Tuple es _ _ => if es.all notStar then (mapG (cG n c) es).map .tup else none
    | _ => none)
def isTupE : Expr → Bool
  | .Tuple .. => true
  | _ => false
/-- what is walked, by a for to the target tg -/
def cI (C : Cmp) (T : Tab) (c : Ctx) (tg it : Expr) : Option I := match it with
  | .Call (.Name x _) args [] _ =>
    if x = "range" then (if bltC T c x then (match args with
      | [a] => if notStar a then (C.e c a).map .range1 else none
      | [a, b] => if notStar a && notStar b then (C.e c a).bind fun a => (C.e c b).map fun b => .range2 a b else none
      | _ => none) else none)
    else if x = "enumerate" then (if bltC T c x && isTupE tg then (match args with
      | [a] => if notStar a then (C.e c a).map .enum else none
      | _ => none) else none)
    else if x = "zip" then (if bltC T c x && isTupE tg then (match args with
      | [a, b] => if notStar a && notStar b then (C.e c a).bind fun a => (C.e c b).map fun b => .zip a b else none
      | _ => none) else none)
    else (C.e c it).map .ex
  | _ => if notSet it then (C.e c it).map .ex else none
def Ctx.blk (c : Ctx) (scope : Scope) : Ctx := ⟨c.N, relS scope c.sc, fun x => scope.names.lookup x == some .cell⟩
def ownOf (N : List Str) (scope : Scope) : List (Str × Nat) := scope.names.filterMap fun y => match y.2 with
  | .local => (ixOf N y.1).map fun i => (y.1, i)
  | .cell => (ixOf N y.1).map fun i => (y.1, i)
  | _ => none
def cTs (C : Cmp) (c : Ctx) : List Expr → Option T
  | [] => some .tru
  | [a] => C.t c a
  | _ => none
def subB (xs ys : List Nat) : Bool := xs.all fun i => ys.contains i
def cComp (C : Cmp) (T : Tab) (c : Ctx) (elt : Expr) (gens : List Comprehension) (scope : Scope) (pos : Pos) : Option E := match gens with
  | [⟨tg, it, ifs, 0⟩] =>
    if blkC c.N c.sc scope (ownOf c.N scope) && notSet it then
      (cI C T c tg it).bind fun i => (cG 4 (c.blk scope) tg).bind fun g => (cTs C (c.blk scope) ifs).bind fun t => (C.e (c.blk scope) elt).bind fun e =>
        if subB g.slots ((ownOf c.N scope).map (·.2)) then some (.comp (T.isCell pos) e g i t ((ownOf c.N scope).map (·.2))) else none
    else none
  | _ => none
def stepE (C : Cmp) (T : Tab) (c : Ctx) : Expr → Option E
  | .Constant k _ _ => (constOf k).map .const
  | .Name x _ => cName T c x
  | .Tuple es _ _ => (C.es c es).map .tup
  | .List es pos => (C.es c es).map (.lst (T.isCell pos))
  | .BinOp a op b pos => cBin C T c a op b pos
  | .UnaryOp op a _ => cUn C c op a
  | .Compare l ops cs _ => cCmp C c l ops cs
  | .BoolOp .And vs _ => cAnd C c vs
  | .BoolOp .Or vs _ => cOr C c vs
  | .IfExp t a b _ => (C.t c t).bind fun t => (C.e c a).bind fun a => (C.e c b).map fun b => .ite t a b
  | .Subscript a b _ => cSub C c a b
  | .Attribute o f _ => if plainBase o then (C.e c o).map fun o => .attr o f else none
  | .Call f args [] pos => cCall C T c f args pos
  | .ListComp elt gens scope pos => cComp C T c elt gens scope pos
  | _ => none
def stepT (C : Cmp) (c : Ctx) : Expr → Option T
  | .Compare l ops cs _ => cCmpT C c l ops cs
  | .BoolOp .And vs _ => cAndT C c vs
  | .BoolOp .Or vs _ => cOrT C c vs
  | .UnaryOp .Not a _ => (C.t c a).map .not
  | e => if plainTest e then (C.e c e).map .val else none
def cmpN (T : Tab) : Nat → Cmp
  | 0 => ⟨fun _ _ => none, fun _ _ => none⟩
  | n + 1 => ⟨stepE (cmpN T n) T, stepT (cmpN T n)⟩
/-! statements -/
def cAsgN (C : Cmp) (T : Tab) (c : Ctx) (x : Str) (p : Pos) (v : Expr) (pos : Pos) : Option S :=
  if stoC c x then (ixOf c.N x).bind fun i => (match v with
    | .ListComp elt gens scope vpos =>
      if decide (c.sc.kind = .function) && locC c x && (p.line == vpos.line) && !(scope.names.any fun (n, k) => n == x && (k == .local || k == .cell)) then (cComp C T c elt gens scope vpos).map fun e => .asg (.name i) e
      else if !locC c x then (cComp C T c elt gens scope vpos).map fun e => .asg (.name i) e else none
    | v => if notComp v then (C.e c v).map fun e => .asg (.name i) e else none) else none
def nmOf : Expr → Option (Str × Pos)
  | .Name x p => some (x, p)
  | _ => none
/-- a, b = .., .. with plain local names on one line, the values no constants -/
def isLocE (c : Ctx) : Expr → Bool
  | .Name x _ => locC c x
  | _ => false
def parC (c : Ctx) (ts vs : List Expr) : Bool := decide (c.sc.kind = .function) && vs.all notStar && !(vs.all (foldedForSure 8)) && !(vs.all (constantsAlone 8))
def cPar (C : Cmp) (c : Ctx) (ts vs : List Expr) : Option S := match ts, vs with
  | [.Name x px, .Name y py], [a, b] => if parC c ts vs && locC c x && locC c y && (py.line == px.line) then (ixOf c.N x).bind fun i => (ixOf c.N y).bind fun j => if i = j then none else (C.e c a).bind fun a => (C.e c b).map fun b => .par2 i j a b else none
  | [.Name x px, .Name y py, .Name z pz], [a, b, d] => if parC c ts vs && locC c x && locC c y && locC c z && (py.line == px.line) && (pz.line == px.line) then (ixOf c.N x).bind fun i => (ixOf c.N y).bind fun j => (ixOf c.N z).bind fun l => if i = j ∨ i = l ∨ j = l then none else (C.e c a).bind fun a => (C.e c b).bind fun b => (C.e c d).map fun d => .par3 i j l a b d else none
  | _, _ => none
def cAsg (C : Cmp) (T : Tab) (c : Ctx) (tg v : Expr) (pos : Pos) : Option S := match tg with
  | .Name x p => cAsgN C T c x p v pos
  | .Tuple ts k tp => (match v with
    | .Tuple vs k2 vp => if vs.all (foldedForSure 8) then (cG 4 c (.Tuple ts k tp)).bind fun g => (C.e c (.Tuple vs k2 vp)).map fun e => .asg g e
      else if vs.all notStar && !(ts.all (isLocE c)) then (cG 4 c (.Tuple ts k tp)).bind fun g => (C.e c (.Tuple vs k2 vp)).map fun e => .asg g e
      else cPar C c ts vs
    | v => (cG 4 c (.Tuple ts k tp)).bind fun g => (C.e c v).map fun e => .asg g e)
  | .Subscript o i _ => if notSlice i then (C.e c v).bind fun v => (C.e c o).bind fun o => (C.e c i).map fun i => .setI o i v else none
  | .Attribute o f _ => (C.e c v).bind fun v => (C.e c o).map fun o => .setF o f v
  | _ => none
def cAug (C : Cmp) (c : Ctx) (tg v : Expr) : Option S := match tg with
  | .Name x _ => if stoC c x then (ixOf c.N x).bind fun i => (C.e c v).map fun e => .aug i .add e else none
  | .Attribute o f _ => (C.e c o).bind fun o => (C.e c v).map fun v => .augF o f v
  | _ => none
def stepS (C : Cmp) (T : Tab) (c : Ctx) (R : List Stmt → Option Ss) : Stmt → Option S
  | .Pass _ => some .pass
  | .Break _ => some .brk
  | .Continue _ => some .cont
  | .Return none _ => some .retN
  | .Return (some e) _ => (C.e c e).map .ret
  | .Expr e _ => if notComp e then (C.e c e).map .expr else none
  | .Assign [tg] v pos => cAsg C T c tg v pos
  | .AugAssign tg .Add v _ => cAug C c tg v
  | .If t a b _ => (C.t c t).bind fun t => (R a).bind fun a => (R b).map fun b => .ite t a b
  | .For tg it body [] _ => if notSet it then (cI C T c tg it).bind fun i => (cG 4 c tg).bind fun g => (R body).map fun b => .loop g i b else none
  | .While t body [] _ => (C.t c t).bind fun t => (R body).map fun b => .while t b
  | _ => none
def mapS (f : Stmt → Option S) : List Stmt → Option Ss
  | [] => some .nil
  | s :: ss => (f s).bind fun a => (mapS f ss).map fun r => .cons a r
def cSs (C : Cmp) (T : Tab) (c : Ctx) : Nat → List Stmt → Option Ss
  | 0, _ => none
  | n + 1, ss => mapS (stepS C T c (cSs C T c n)) ss
end Rf
namespace Rf
open PySem PySem.Spec PyProof.Rows L2
/-! ### the compiler is sound: expressions -/
structure Glob (T : Tab) (F : Fx) (k : Nat) (P : Program) (w : World) (K : Fr') (mg : Str → Option Value) (base : Heap) : Prop where
  free : ∀ x, T.free.contains x = true → mg x = none
  con : ∀ x d, T.consts.lookup x = some d → ∃ u v, mg x = some u ∧ RelV v u ∧ ∀ g H, Rep K g H d v
  fns : ∀ x i, T.fns.lookup x = some i → ∃ f fd ps, FnOk P w K mg base CX0 k f fd ps (spD K (F.call i)) ∧ mg x = some (.ref f) ∧ PySem.W.keepIn K (.ref f) = true ∧ Binds K fd ps []
  cls : ∀ x i, T.classes.lookup x = some i → ∃ f fd ps, Mk K (He.ga K x) f ∧ Cls K (He.ga K x) ∧ FnOk P w K mg base CX0 k f fd ps (spD K (F.call i)) ∧ mg x = some (.ref (He.ga K x)) ∧ Binds K fd ps []
  meth : ∀ cn m i, F.meth cn m = some i → ∃ f fd ps, Cls K (He.ga K cn) ∧ Meth K (He.ga K cn) m f ∧ Binds K fd ps [] ∧ FnOk P w K mg base CX0 k f fd ps (spD K (F.call i))
  attr : ∀ cn f, F.attr cn f = true → Cls K (He.ga K cn) ∧ NoAttr K (He.ga K cn) f
structure Fits (T : Tab) (F : Fx) (k : Nat) (c : Ctx) (X : Cx) : Prop where
  N : X.N = c.N
  sc : X.env.scope = c.sc
  fn : X.fn = c.fn
  nd : c.N.Nodup
  calm : X.calm = true
  pass : PassesOwn (model X.prog X.w) X.A X.env X.xe
  room : Room (k + 1) X.A
  glob : Glob T F k X.prog X.w X.K X.mg X.base
section
variable {T : Tab} {F : Fx} {k : Nat} {c : Ctx} {X : Cx}
theorem Fits.blk (h : Fits T F k c X) {s : Shared} {H : Hp} {scope : Scope} {cl : List (Str × Addr)} {C : Addr} {fp : List Addr} : Fits T F k (c.blk scope) (X.blk s H scope (compEnvC scope cl C X.env) fp) :=
  ⟨h.N, by show relS scope X.env.scope = relS scope c.sc; rw [h.sc], rfl, h.nd, h.calm, .never, h.room, h.glob⟩
theorem Fits.nod (h : Fits T F k c X) : X.N.Nodup := by rw [h.N]; exact h.nd
theorem Fits.hu (h : Fits T F k c X) : X.A.units + 65 < cLine := by have := h.room.un; omega
theorem Fits.rm (h : Fits T F k c X) : Room k X.A := h.room.mono (Nat.le_succ k)
theorem Fits.gl (h : Fits T F k c X) {x : Str} (e : glC c x = true) : Gl X x := by
  show X.env.scope.names.lookup x = _
  rw [h.sc]; exact (glC_ok e).2
theorem Fits.ix (h : Fits T F k c X) {x : Str} {i : Nat} (e : ixOf c.N x = some i) : X.N[i]? = some x := by rw [h.N]; exact ixOf_ok e
theorem Fits.vis (h : Fits T F k c X) {x : Str} (e : visC c.sc x = true) : Vis X.env.scope x := by rw [h.sc]; exact visC_ok e
theorem Fits.sto (h : Fits T F k c X) {x : Str} (e : stoC c x = true) : Loc X.env.scope x ∧ (X.fn x = true ∨ X.env.scope.names.lookup x = some .local) := by
  rw [h.sc, h.fn]; exact stoC_ok e
theorem Fits.loc (h : Fits T F k c X) {x : Str} (e : locC c x = true) : X.env.scope.names.lookup x = some .local := by rw [h.sc]; exact locC_ok e
end
/-- what a compiler of expressions promises -/
structure Snd (T : Tab) (F : Fx) (k : Nat) (C : Cmp) : Prop where
  e : ∀ {c X e e'}, Fits T F k c X → C.e c e = some e' → PE X e (tE X.K (evE F e'))
  t : ∀ {c X e t'}, Fits T F k c X → C.t c e = some t' → PT X e (tT X.K (evT F t'))
theorem PE.cast {X : Cx} {e : Expr} {f g : Env → Mem → Res D} (h : PE X e (tE X.K f)) (q : ∀ r m, g r m = f r m) : PE X e (tE X.K g) := by
  have : g = f := funext fun r => funext fun m => q r m
  rw [this]; exact h
theorem PT.cast {X : Cx} {e : Expr} {f g : Env → Mem → Res Bool} (h : PT X e (tT X.K f)) (q : ∀ r m, g r m = f r m) : PT X e (tT X.K g) := by
  have : g = f := funext fun r => funext fun m => q r m
  rw [this]; exact h
theorem PW.cast {X : Cx} {e : Expr} {f g : Env → Mem → Res Bool} (h : PW X e (tT X.K f)) (q : ∀ r m, g r m = f r m) : PW X e (tT X.K g) := by
  have : g = f := funext fun r => funext fun m => q r m
  rw [this]; exact h
theorem PA.cast {X : Cx} {e : List Expr} {f g : Env → Mem → Res (List D)} (h : PA X e (tAs X.K f)) (q : ∀ r m, g r m = f r m) : PA X e (tAs X.K g) := by
  have : g = f := funext fun r => funext fun m => q r m
  rw [this]; exact h
theorem PO.cast {X : Cx} {e : Option Expr} {f g : Env → Mem → Res (Option Int)} (h : PO X e (tO X.K f)) (q : ∀ r m, g r m = f r m) : PO X e (tO X.K g) := by
  have : g = f := funext fun r => funext fun m => q r m
  rw [this]; exact h
theorem PI.cast {X : Cx} {tg e : Expr} {f g : Env → Mem → Res Src} (h : PI X tg e (tI X.K f)) (q : ∀ r m, g r m = f r m) : PI X tg e (tI X.K g) := by
  have : g = f := funext fun r => funext fun m => q r m
  rw [this]; exact h
theorem PS.cast {X : Cx} {e : Stmt} {f g : Env → Mem → Res (Flow × Env)} (h : PS X e (tS X.K f)) (q : ∀ r m, g r m = f r m) : PS X e (tS X.K g) := by
  have : g = f := funext fun r => funext fun m => q r m
  rw [this]; exact h
theorem PSs.cast {X : Cx} {e : List Stmt} {f g : Env → Mem → Res (Flow × Env)} (h : PSs X e (tS X.K f)) (q : ∀ r m, g r m = f r m) : PSs X e (tS X.K g) := by
  have : g = f := funext fun r => funext fun m => q r m
  rw [this]; exact h
theorem if_some {α : Type} {p : Prop} [Decidable p] {o : Option α} {a : α} (h : (if p then o else none) = some a) : p ∧ o = some a := by
  split at h
  · exact ⟨by assumption, h⟩
  · cases h
section
variable {T : Tab} {F : Fx} {k : Nat} {c : Ctx} {X : Cx} {C : Cmp}
theorem es_snd (S : Snd T F k C) (h : Fits T F k c X) : ∀ {es : List Expr} {es' : Es}, C.es c es = some es' → PA X es (tAs X.K (evEs F es')) ∧ es.all notStar = true
  | [], _, e => by
    cases e
    exact ⟨PA.cast a_nil fun r m => by rw [evEs] <;> rfl, rfl⟩
  | e :: es, es', q => by
    unfold Cmp.es at q
    obtain ⟨h1, q⟩ := if_some q
    obtain ⟨a, q1, q⟩ := bnd_some q
    obtain ⟨r, q2, rfl⟩ := map_some q
    obtain ⟨i1, i2⟩ := es_snd S h q2
    refine ⟨PA.cast (a_cons (S.e h q1) i1 h1) fun r m => by rw [evEs] <;> rfl, ?_⟩
    rw [List.all_cons, h1, i2]; rfl
theorem es_len (S : Snd T F k C) : ∀ {es : List Expr} {es' : Es}, C.es c es = some es' → es = [] → es' = .nil
  | [], _, e, _ => by cases e; rfl
theorem o_snd (S : Snd T F k C) (h : Fits T F k c X) {e : Option Expr} {o : O} (q : C.o c e = some o) : PO X e (tO X.K (evO F o)) := by
  cases e with
  | none => cases q; exact PO.cast o_none fun r m => by rw [evO] <;> rfl
  | some e =>
    obtain ⟨a, q1, rfl⟩ := map_some q
    exact PO.cast (o_some (S.e h q1)) fun r m => by rw [evO] <;> rfl
theorem const_snd {v : Const} {d : D} {j : Nat} {pos : Pos} (q : constOf v = some d) : PE X (.Constant v j pos) (tE X.K fun _ m => .ok d m) := by
  cases v <;> first
    | (cases q; done)
    | (cases q; exact e_now pe_int fun _ _ => int_rep _)
    | (cases q; exact e_now pe_str fun _ _ => str_rep _)
    | (cases q; exact e_now pe_bl fun _ _ => bl_rep _)
    | (cases q; exact e_now pe_non fun _ _ => non_rep)
theorem name_snd (h : Fits T F k c X) {x : Str} {pos : Pos} {e' : E} (q : cName T c x = some e') : PE X (.Name x pos) (tE X.K (evE F e')) := by
  unfold cName at q
  split at q
  · rename_i hv
    obtain ⟨hk, q⟩ := if_some q
    obtain ⟨i, hi, rfl⟩ := map_some q
    exact e_var (h.ix hi) (h.vis hv) (okN_ok hk).1 (okN_ok hk).2.1
  · obtain ⟨hg, q⟩ := if_some q
    obtain ⟨d, hd, rfl⟩ := map_some q
    obtain ⟨u, v, h1, h2, h3⟩ := h.glob.con x d hd
    refine PE.cast (e_now (pe_glob (h.gl hg) h1 h2 (okN_ok (glC_ok hg).1).1) h3) fun r m => by rw [evE] <;> rfl
theorem bin_snd (S : Snd T F k C) (h : Fits T F k c X) {a b : Expr} {op : Operator} {pos : Pos} {e' : E} (q : cBin C T c a op b pos = some e') : PE X (.BinOp a op b pos) (tE X.K (evE F e')) := by
  unfold cBin at q
  split at q
  · split at q
    · obtain ⟨x, q1, q⟩ := bnd_some q
      obtain ⟨y, q2, rfl⟩ := map_some q
      exact PE.cast (e_rep (S.e h q1) (S.e h q2)) fun r m => by rw [evE] <;> rfl
    · obtain ⟨x, q1, q⟩ := bnd_some q
      obtain ⟨y, q2, rfl⟩ := map_some q
      exact PE.cast (e_bin (op := .add) (S.e h q1) (S.e h q2)) fun r m => by rw [evE] <;> rfl
    · cases q
  · obtain ⟨o, q0, q⟩ := bnd_some q
    obtain ⟨x, q1, q⟩ := bnd_some q
    obtain ⟨y, q2, rfl⟩ := map_some q
    rw [opOf_ok q0]
    exact PE.cast (e_bin (S.e h q1) (S.e h q2)) fun r m => by rw [evE] <;> rfl
theorem un_snd (S : Snd T F k C) (h : Fits T F k c X) {a : Expr} {op : UnaryOp} {pos : Pos} {e' : E} (q : cUn C c op a = some e') : PE X (.UnaryOp op a pos) (tE X.K (evE F e')) := by
  unfold cUn at q
  split at q
  · obtain ⟨x, q1, rfl⟩ := map_some q
    exact PE.cast (e_neg (S.e h q1)) fun r m => by rw [evE] <;> rfl
  · obtain ⟨x, q1, rfl⟩ := map_some q
    exact PE.cast (e_not (S.e h q1)) fun r m => by rw [evE] <;> rfl
  · cases q
theorem ch_snd (S : Snd T F k C) (h : Fits T F k c X) : ∀ {ops : List CmpOp} {cs : List Expr} {r : Ch}, cCh C c ops cs = some r → PCh X ops cs (fun x e m => evC F r x e m)
  | [], _, _, q => by cases q
  | op :: ops, cs, r, q => by
    unfold cCh at q
    cases cs with
    | nil => cases q
    | cons e es =>
      dsimp only at q
      split at q
      · rename_i hk
        simp only [Bool.and_eq_true, List.isEmpty_iff] at hk
        obtain ⟨h1, h2⟩ := hk
        obtain ⟨a, q1, rfl⟩ := map_some q
        subst h1 h2
        have z := ch_last (op := copOf op) h.hu (S.e h q1)
        rw [copOf_ok] at z
        have e : (fun x r m => evC F (.last (copOf op) a) x r m) = fun x r m => (evE F a r m).bind fun y m1 => Res.of (cmp (copOf op) x y m1) m1 := by funext x r m; rw [evC]
        rw [e]
        exact z
      · obtain ⟨a, q1, q⟩ := bnd_some q
        obtain ⟨r', q2, rfl⟩ := map_some q
        have z := ch_link (op := copOf op) h.hu (S.e h q1) (ch_snd S h q2)
        rw [copOf_ok] at z
        have e : (fun x r m => evC F (.link (copOf op) a r') x r m) = fun x r m => (evE F a r m).bind fun y m1 => condR (cmp (copOf op) x y m1) (evC F r' y r m1) (.ok false m1) := by funext x r m; rw [evC]
        rw [e]
        exact z
theorem cmp_snd (S : Snd T F k C) (h : Fits T F k c X) {l : Expr} {ops : List CmpOp} {cs : List Expr} {pos : Pos} {e' : E} (q : cCmp C c l ops cs = some e') : PE X (.Compare l ops cs pos) (tE X.K (evE F e')) := by
  unfold cCmp at q
  split at q
  · rename_i op b
    obtain ⟨hn, q⟩ := if_some q
    obtain ⟨x, q1, q⟩ := bnd_some q
    obtain ⟨y, q2, rfl⟩ := map_some q
    have z := e_cmp (pos := pos) (op := copOf op) h.hu (S.e h q1) (S.e h q2) hn
    rw [copOf_ok] at z
    exact PE.cast z fun r m => by rw [evE] <;> rfl
  · rename_i op op2 b d
    obtain ⟨hn, q⟩ := if_some q
    obtain ⟨x, q1, q⟩ := bnd_some q
    obtain ⟨y, q2, q⟩ := bnd_some q
    obtain ⟨w, q3, rfl⟩ := map_some q
    have z := e_chain (pos := pos) (op := copOf op) (op2 := copOf op2) h.hu (S.e h q1) (S.e h q2) (S.e h q3) hn
    rw [copOf_ok, copOf_ok] at z
    exact PE.cast z fun r m => by rw [evE] <;> rfl
  · obtain ⟨hn, q⟩ := if_some q
    obtain ⟨x, q1, q⟩ := bnd_some q
    obtain ⟨y, q2, rfl⟩ := map_some q
    exact PE.cast (e_chn (S.e h q1) (ch_snd S h q2) (by simpa using hn)) fun r m => by rw [evE]
  · cases q
theorem cmpT_snd (S : Snd T F k C) (h : Fits T F k c X) {l : Expr} {ops : List CmpOp} {cs : List Expr} {pos : Pos} {e' : Rf.T} (q : cCmpT C c l ops cs = some e') : PT X (.Compare l ops cs pos) (tT X.K (evT F e')) := by
  unfold cCmpT at q
  split at q
  · rename_i op b
    obtain ⟨hn, q⟩ := if_some q
    obtain ⟨x, q1, q⟩ := bnd_some q
    obtain ⟨y, q2, rfl⟩ := map_some q
    have z := t_cmp (pos := pos) (op := copOf op) h.hu (S.e h q1) (S.e h q2) hn
    rw [copOf_ok] at z
    exact PT.cast z fun r m => by rw [evT] <;> rfl
  · rename_i op op2 b d
    obtain ⟨hn, q⟩ := if_some q
    obtain ⟨x, q1, q⟩ := bnd_some q
    obtain ⟨y, q2, q⟩ := bnd_some q
    obtain ⟨w, q3, rfl⟩ := map_some q
    have z := t_chain (pos := pos) (op := copOf op) (op2 := copOf op2) h.hu (S.e h q1) (S.e h q2) (S.e h q3) hn
    rw [copOf_ok, copOf_ok] at z
    exact PT.cast z fun r m => by rw [evT] <;> rfl
  · obtain ⟨hn, q⟩ := if_some q
    obtain ⟨x, q1, q⟩ := bnd_some q
    obtain ⟨y, q2, rfl⟩ := map_some q
    exact PT.cast (t_chn (S.e h q1) (ch_snd S h q2) (by simpa using hn)) fun r m => by rw [evT]
  · cases q
theorem and_snd (S : Snd T F k C) (h : Fits T F k c X) {pos : Pos} : ∀ {vs : List Expr} {e' : E}, cAnd C c vs = some e' → PE X (.BoolOp .And vs pos) (tE X.K (evE F e'))
  | [], _, q => by cases q
  | [a], _, q => pe_one (S.e h q)
  | a :: b :: r, e', q => by
    unfold cAnd at q
    obtain ⟨x, q1, q⟩ := bnd_some q
    obtain ⟨y, q2, rfl⟩ := map_some q
    exact PE.cast (e_and (S.e h q1) (and_snd S h q2)) fun r m => by rw [evE] <;> rfl
theorem or_snd (S : Snd T F k C) (h : Fits T F k c X) {pos : Pos} : ∀ {vs : List Expr} {e' : E}, cOr C c vs = some e' → PE X (.BoolOp .Or vs pos) (tE X.K (evE F e'))
  | [], _, q => by cases q
  | [a], _, q => pe_one (S.e h q)
  | a :: b :: r, e', q => by
    unfold cOr at q
    obtain ⟨x, q1, q⟩ := bnd_some q
    obtain ⟨y, q2, rfl⟩ := map_some q
    exact PE.cast (e_or (S.e h q1) (or_snd S h q2)) fun r m => by rw [evE] <;> rfl
theorem andT_snd (S : Snd T F k C) (h : Fits T F k c X) {pos : Pos} : ∀ {vs : List Expr} {e' : Rf.T}, cAndT C c vs = some e' → PW X (.BoolOp .And vs pos) (tT X.K (evT F e'))
  | [], _, q => by cases q
  | [a], _, q => pw_and1 (S.t h q)
  | a :: b :: r, e', q => by
    unfold cAndT at q
    obtain ⟨x, q1, q⟩ := bnd_some q
    obtain ⟨y, q2, rfl⟩ := map_some q
    exact PW.cast (t_and (S.t h q1) (andT_snd S h q2)) fun r m => by rw [evT] <;> rfl
theorem orT_snd (S : Snd T F k C) (h : Fits T F k c X) {pos : Pos} : ∀ {vs : List Expr} {e' : Rf.T}, cOrT C c vs = some e' → PW X (.BoolOp .Or vs pos) (tT X.K (evT F e'))
  | [], _, q => by cases q
  | [a], _, q => pw_or1 (S.t h q)
  | a :: b :: r, e', q => by
    unfold cOrT at q
    obtain ⟨x, q1, q⟩ := bnd_some q
    obtain ⟨y, q2, rfl⟩ := map_some q
    exact PW.cast (t_or (S.t h q1) (orT_snd S h q2)) fun r m => by rw [evT] <;> rfl
theorem sub_snd (S : Snd T F k C) (h : Fits T F k c X) {a b : Expr} {pos : Pos} {e' : E} (q : cSub C c a b = some e') : PE X (.Subscript a b pos) (tE X.K (evE F e')) := by
  unfold cSub at q
  split at q
  · obtain ⟨x, q1, rfl⟩ := map_some q
    exact PE.cast (e_rev (S.e h q1)) fun r m => by rw [evE] <;> rfl
  · obtain ⟨x, q1, q⟩ := bnd_some q
    obtain ⟨y, q2, q⟩ := bnd_some q
    obtain ⟨z, q3, rfl⟩ := map_some q
    exact PE.cast (e_slice (S.e h q1) (o_snd S h q2) (o_snd S h q3)) fun r m => by rw [evE] <;> rfl
  · obtain ⟨hn, q⟩ := if_some q
    obtain ⟨x, q1, q⟩ := bnd_some q
    obtain ⟨y, q2, rfl⟩ := map_some q
    exact PE.cast (e_idx (S.e h q1) (S.e h q2) hn) fun r m => by rw [evE] <;> rfl
theorem primOf_ok {x : Str} {n : Nat} {p : Prim} (q : primOf x n = some p) : bootBuiltins x = some p.val := by
  unfold primOf at q
  split at q
  · rename_i e; cases q; subst e; rfl
  split at q
  · rename_i e; cases q; subst e; rfl
  split at q
  · rename_i e; cases q; subst e; split <;> rfl
  split at q
  · rename_i e; cases q; subst e; split <;> rfl
  split at q
  · rename_i e; cases q; subst e; rfl
  split at q
  · rename_i e; cases q; subst e; rfl
  split at q
  · rename_i e; cases q; subst e; rfl
  · cases q
theorem tyC_ok {x : Str} {t : Ty} (q : tyC x = some t) : bootBuiltins x = some (.type t.nm) := by
  unfold tyC at q
  split at q
  · rename_i e; cases q; subst e; rfl
  split at q
  · rename_i e; cases q; subst e; rfl
  split at q
  · rename_i e; cases q; subst e; rfl
  split at q
  · rename_i e; cases q; subst e; rfl
  split at q
  · rename_i e; cases q; subst e; rfl
  · cases q
theorem bltC_ok (h : Fits T F k c X) {x : Str} (q : bltC T c x = true) : Gl X x ∧ X.mg x = none ∧ okN x = true := by
  unfold bltC at q
  obtain ⟨q1, q2⟩ := Bool.and_eq_true_iff.mp q
  exact ⟨h.gl q1, h.glob.free x q2, (glC_ok q1).1⟩
theorem rg_snd (S : Snd T F k C) (h : Fits T F k c X) {a : Expr} {lo hi : E} (q : cRg C T c a = some (lo, hi)) :
    ∃ te, PRg X a te ∧ ∀ σ H Q, tRgD X.K (evE F lo) (evE F hi) σ H Q → te σ H Q := by
  unfold cRg at q
  split at q
  · rename_i x p args pos
    have z := if_some q
    clear q
    obtain ⟨⟨rfl, hb⟩, q⟩ := z
    obtain ⟨g1, g2, g3⟩ := bltC_ok h hb
    cases args with
    | nil => cases q
    | cons a r =>
      cases r with
      | nil =>
        obtain ⟨h1, q⟩ := if_some q
        obtain ⟨y, q1, e⟩ := map_some q
        cases e
        obtain ⟨te, z1, z2⟩ := prg_one (pos := pos) (pp := p) g1 g2 (S.e h q1) h1
        refine ⟨te, z1, fun σ H Q q => z2 σ H Q ?_⟩
        have : evE F (.const (.int 0)) = fun _ m => .ok (.int 0) m := by funext r m; rw [evE]
        rw [this] at q
        exact q
      | cons b r =>
        cases r with
        | nil =>
          obtain ⟨h1, q⟩ := if_some q
          obtain ⟨h1, h2⟩ := Bool.and_eq_true_iff.mp h1
          obtain ⟨x, q1, q⟩ := bnd_some q
          obtain ⟨y, q2, e⟩ := map_some q
          cases e
          exact prg_two g1 g2 (S.e h q1) (S.e h q2) h1 h2
        | cons d r => cases q
  · cases q
theorem blt_snd (S : Snd T F k C) (h : Fits T F k c X) {x : Str} {p pos : Pos} {args : List Expr} {e' : E} (hb : bltC T c x = true) (q : cBlt C T c x args pos = some e') : PE X (.Call (.Name x p) args [] pos) (tE X.K (evE F e')) := by
  obtain ⟨g1, g2, g3⟩ := bltC_ok h hb
  unfold cBlt at q
  split at q
  · rename_i hx
    subst hx
    split at q
    · rename_i a y p2
      obtain ⟨hk, q⟩ := if_some q
      obtain ⟨h1, h2⟩ := Bool.and_eq_true_iff.mp hk
      obtain ⟨f1, f2, f3⟩ := bltC_ok h h2
      obtain ⟨t, q1, q⟩ := bnd_some q
      obtain ⟨y, q2, rfl⟩ := map_some q
      exact PE.cast (e_isi g1 g2 rfl f1 f2 (tyC_ok q1) (S.e h q2) (okN_ok g3).2.2 (okN_ok g3).1 (okN_ok f3).2.2 (okN_ok f3).1 h1) fun r m => by rw [evE] <;> rfl
    · cases q
  split at q
  · rename_i hx
    subst hx
    split at q
    · obtain ⟨h1, q⟩ := if_some q
      split at q
      · rename_i lo hi hr
        cases q
        obtain ⟨te, z1, z2⟩ := rg_snd S h hr
        exact PE.cast (e_listR (x := "list") h.calm g1 g2 z1 z2 h1) fun r m => by rw [evE] <;> rfl
      · obtain ⟨y, q2, rfl⟩ := map_some q
        exact PE.cast (e_list g1 g2 rfl (S.e h q2) (okN_ok g3).2.2 (okN_ok g3).1 h1) fun r m => by rw [evE] <;> rfl
    · cases q
  split at q
  · rename_i pr hp
    split at q
    · cases q
    · rename_i a r
      split at q
      · rename_i lo hi hr
        cases q
        have z := if_some hr
        clear hr
        obtain ⟨⟨rfl, rfl, h1⟩, hr⟩ := z
        obtain ⟨te, z1, z2⟩ := rg_snd S h hr
        exact PE.cast (e_tupR (x := "tuple") h.calm g1 g2 z1 z2 h1) fun r m => by rw [evE] <;> rfl
      · obtain ⟨es, q1, rfl⟩ := map_some q
        obtain ⟨i1, i2⟩ := es_snd S h q1
        rw [List.all_cons] at i2
        obtain ⟨i2, i3⟩ := Bool.and_eq_true_iff.mp i2
        exact PE.cast (e_prim h.calm g1 g2 (primOf_ok hp) i1 (okN_ok g3).2.2 (okN_ok g3).1 i2 i3) fun r m => by rw [evE] <;> rfl
  · cases q
theorem callN_snd (S : Snd T F k C) (h : Fits T F k c X) {x : Str} {p pos : Pos} {args : List Expr} {e' : E} (q : cCallN C T c x args pos = some e') : PE X (.Call (.Name x p) args [] pos) (tE X.K (evE F e')) := by
  unfold cCallN at q
  obtain ⟨hg, q⟩ := if_some q
  split at q
  · rename_i i hi
    obtain ⟨es, q1, rfl⟩ := map_some q
    obtain ⟨i1, i2⟩ := es_snd S h q1
    obtain ⟨f, fd, ps, z1, z2, z3, z4⟩ := h.glob.fns x i hi
    cases args with
    | nil =>
      obtain rfl := es_len S q1 rfl
      exact PE.cast (e_call0 z1 h.rm (h.gl hg) z2 z3 z4 (okN_ok (glC_ok hg).1).1) fun r m => by rw [evE, evEs] <;> rfl
    | cons a r =>
      rw [List.all_cons] at i2
      obtain ⟨i2, i3⟩ := Bool.and_eq_true_iff.mp i2
      exact PE.cast (e_call z1 h.rm (h.gl hg) z2 z3 z4 i1 (okN_ok (glC_ok hg).1).1 i2 i3) fun r m => by rw [evE] <;> rfl
  · split at q
    · rename_i i hi
      obtain ⟨es, q1, rfl⟩ := map_some q
      obtain ⟨i1, i2⟩ := es_snd S h q1
      obtain ⟨f, fd, ps, z1, z2, z3, z4, z5⟩ := h.glob.cls x i hi
      cases args with
      | nil =>
        obtain rfl := es_len S q1 rfl
        exact PE.cast (e_make0 z1 z2 z3 h.room (h.gl hg) z4 z5 (okN_ok (glC_ok hg).1).1) fun r m => by rw [evE, evEs] <;> rfl
      | cons a r =>
        rw [List.all_cons] at i2
        obtain ⟨i2, i3⟩ := Bool.and_eq_true_iff.mp i2
        exact PE.cast (e_make z1 z2 z3 h.room (h.gl hg) z4 z5 i1 (okN_ok (glC_ok hg).1).1 i2 i3) fun r m => by rw [evE] <;> rfl
    · obtain ⟨hf, q⟩ := if_some q
      exact blt_snd S h (by unfold bltC; rw [hg, hf]; rfl) q
theorem callM_snd (S : Snd T F k C) (h : Fits T F k c X) {o : Expr} {m : Str} {apos pos : Pos} {args : List Expr} {e' : E} (q : cCallM C c o m apos args pos = some e') : PE X (.Call (.Attribute o m apos) args [] pos) (tE X.K (evE F e')) := by
  unfold cCallM at q
  have z := if_some q
  clear q
  obtain ⟨hk, q⟩ := z
  obtain ⟨hb, hl⟩ := Bool.and_eq_true_iff.mp hk
  by_cases hx : m = "append"
  · rw [if_pos hx] at q
    subst hx
    split at q
    · obtain ⟨h1, q⟩ := if_some q
      obtain ⟨x, q1, q⟩ := bnd_some q
      obtain ⟨y, q2, rfl⟩ := map_some q
      exact PE.cast (e_append (S.e h q1) hb (S.e h q2) h1 hl) fun r m => by rw [evE] <;> rfl
    · cases q
  rw [if_neg hx] at q
  by_cases hx : m = "index"
  · rw [if_pos hx] at q
    subst hx
    split at q
    · obtain ⟨h1, q⟩ := if_some q
      obtain ⟨x, q1, q⟩ := bnd_some q
      obtain ⟨y, q2, rfl⟩ := map_some q
      exact PE.cast (e_index (S.e h q1) hb (S.e h q2) h1 hl) fun r m => by rw [evE] <;> rfl
    · cases q
  rw [if_neg hx] at q
  obtain ⟨hn, q⟩ := if_some q
  obtain ⟨x, q1, q⟩ := bnd_some q
  obtain ⟨es, q2, rfl⟩ := map_some q
  obtain ⟨i1, i2⟩ := es_snd S h q2
  have hM : ∀ cn i, F.meth cn m = some i → MethOk X k cn m (F.call i) := fun cn i e => ⟨h.glob.meth cn m i e⟩
  cases args with
  | nil =>
    obtain rfl := es_len S q2 rfl
    exact PE.cast (e_meth0 hM h.rm hb (S.e h q1) hl) fun r m => by rw [evE]; simp only [evEs] <;> rfl
  | cons a r =>
    rw [List.all_cons] at i2
    obtain ⟨i2, i3⟩ := Bool.and_eq_true_iff.mp i2
    exact PE.cast (e_meth hM h.rm hb (S.e h q1) i1 i2 i3 hn hl) fun r m => by rw [evE] <;> rfl
theorem call_snd (S : Snd T F k C) (h : Fits T F k c X) {f : Expr} {pos : Pos} {args : List Expr} {e' : E} (q : cCall C T c f args pos = some e') : PE X (.Call f args [] pos) (tE X.K (evE F e')) := by
  unfold cCall at q
  split at q
  · exact callN_snd S h q
  · exact callM_snd S h q
  · cases q
end
end Rf
namespace Rf
open PySem PySem.Spec PyProof.Rows L2
section
variable {T : Tab} {F : Fx} {k : Nat} {c : Ctx} {X : Cx} {C : Cmp}
theorem i_snd (S : Snd T F k C) (h : Fits T F k c X) {tg it : Expr} {i : I} (q : cI C T c tg it = some i) : PI X tg it (tI X.K (evI F i)) := by
  unfold cI at q
  split at q
  · rename_i x args p pos
    by_cases hx : x = "range"
    · rw [if_pos hx] at q
      have z := if_some q
      clear q
      obtain ⟨hb, q⟩ := z
      obtain ⟨g1, g2, g3⟩ := bltC_ok h hb
      subst hx
      split at q
      · obtain ⟨h1, q⟩ := if_some q
        obtain ⟨a, q1, rfl⟩ := map_some q
        exact PI.cast (i_range1 g1 g2 (S.e h q1) h1) fun r m => by rw [evI] <;> rfl
      · obtain ⟨h1, q⟩ := if_some q
        obtain ⟨h1, h2⟩ := Bool.and_eq_true_iff.mp h1
        obtain ⟨a, q1, q⟩ := bnd_some q
        obtain ⟨b, q2, rfl⟩ := map_some q
        exact PI.cast (i_range2 g1 g2 (S.e h q1) (S.e h q2) h1 h2) fun r m => by rw [evI] <;> rfl
      · cases q
    rw [if_neg hx] at q
    by_cases hx : x = "enumerate"
    · rw [if_pos hx] at q
      have z := if_some q
      clear q
      obtain ⟨hb, q⟩ := z
      obtain ⟨hb, ht⟩ := Bool.and_eq_true_iff.mp hb
      obtain ⟨g1, g2, g3⟩ := bltC_ok h hb
      subst hx
      cases tg <;> first
        | (cases ht; done)
        | (split at q
           · obtain ⟨h1, q⟩ := if_some q
             obtain ⟨a, q1, rfl⟩ := map_some q
             exact PI.cast (i_enum g1 g2 (S.e h q1) h1) fun r m => by rw [evI] <;> rfl
           · cases q)
    rw [if_neg hx] at q
    by_cases hx : x = "zip"
    · rw [if_pos hx] at q
      have z := if_some q
      clear q
      obtain ⟨hb, q⟩ := z
      obtain ⟨hb, ht⟩ := Bool.and_eq_true_iff.mp hb
      obtain ⟨g1, g2, g3⟩ := bltC_ok h hb
      subst hx
      cases tg <;> first
        | (cases ht; done)
        | (split at q
           · obtain ⟨h1, q⟩ := if_some q
             obtain ⟨h1, h2⟩ := Bool.and_eq_true_iff.mp h1
             obtain ⟨a, q1, q⟩ := bnd_some q
             obtain ⟨b, q2, rfl⟩ := map_some q
             exact PI.cast (i_zip g1 g2 (S.e h q1) (S.e h q2) h1 h2) fun r m => by rw [evI] <;> rfl
           · cases q)
    rw [if_neg hx] at q
    obtain ⟨a, q1, rfl⟩ := map_some q
    exact PI.cast (i_ex (S.e h q1)) fun r m => by rw [evI] <;> rfl
  · obtain ⟨h1, q⟩ := if_some q
    obtain ⟨a, q1, rfl⟩ := map_some q
    exact PI.cast (i_ex (S.e h q1)) fun r m => by rw [evI] <;> rfl
theorem mapG_len {f : Expr → Option G} : ∀ {es : List Expr} {gs : Gs}, mapG f es = some gs → es.length = gs.len
  | [], _, q => by cases q; rfl
  | e :: es, gs, q => by
    unfold mapG at q
    obtain ⟨g, q1, q⟩ := bnd_some q
    obtain ⟨r, q2, rfl⟩ := map_some q
    rw [List.length_cons, mapG_len q2]; rfl
theorem g_snd (h : Fits T F k c X) : ∀ {n : Nat} {e : Expr} {g : G}, cG n c e = some g → PG X e (tGt X.K g.slots (bindG g))
  | 0, _, _, q => by cases q
  | n + 1, e, g, q => by
    have gs_snd : ∀ {es : List Expr} {gs : Gs}, es.all notStar = true → mapG (cG n c) es = some gs → PGs X es (tGts X.K gs.slots (bindGs gs)) := by
      intro es
      induction es with
      | nil => intro gs _ q; cases q; exact gs_nil
      | cons e es ih =>
        intro gs hs q
        unfold mapG at q
        obtain ⟨g, q1, q⟩ := bnd_some q
        obtain ⟨r, q2, rfl⟩ := map_some q
        rw [List.all_cons] at hs
        obtain ⟨h1, h2⟩ := Bool.and_eq_true_iff.mp hs
        exact gs_cons (g_snd h q1) (ih h2 q2) h1
    unfold cG at q
    split at q
    · rename_i x p
      obtain ⟨h1, q⟩ := if_some q
      obtain ⟨i, q1, rfl⟩ := map_some q
      exact g_name h.nod (h.ix q1) (h.sto h1).1 (h.sto h1).2
    · obtain ⟨h1, q⟩ := if_some q
      obtain ⟨gs, q1, rfl⟩ := map_some q
      exact g_tup h.calm (gs_snd h1 q1) h1 (mapG_len q1)
    · cases q
theorem ts_snd (S : Snd T F k C) (h : Fits T F k c X) {ifs : List Expr} {t : Rf.T} (q : cTs C c ifs = some t) : PTs X ifs (tT X.K (evT F t)) := by
  unfold cTs at q
  split at q
  · cases q
    have : evT F .tru = fun _ m => .ok true m := by funext r m; rw [evT]
    rw [this]
    exact ts_nil
  · exact pt_of (S.t h q)
  · cases q
theorem subB_ok {xs ys : List Nat} (q : subB xs ys = true) : ∀ i ∈ xs, i ∈ ys := fun i hi => by
  unfold subB at q
  rw [List.all_eq_true] at q
  have := q i hi
  simpa using this
/-- the parts of a comprehension -/
theorem comp_parts (S : Snd T F k C) (h : Fits T F k c X) {elt : Expr} {gens : List Comprehension} {scope : Scope} {pos : Pos} {e' : E} (q : cComp C T c elt gens scope pos = some e') :
    ∃ (tg it : Expr) (ifs : List Expr) (i : I) (g : G) (t : Rf.T) (e : E) (own : List (Str × Nat)), gens = [⟨tg, it, ifs, 0⟩] ∧ BlkOk X.N X.env.scope scope own ∧ notSet it = true ∧ PI X tg it (tI X.K (evI F i)) ∧
      (∀ (s : Shared) (H : Hp) (C : Addr) (cl : List (Str × Addr)) (fp : List Addr), PG (X.blk s H scope (compEnvC scope cl C X.env) fp) tg (tGt X.K g.slots (bindG g))) ∧
      (∀ (s : Shared) (H : Hp) (C : Addr) (cl : List (Str × Addr)) (fp : List Addr), PTs (X.blk s H scope (compEnvC scope cl C X.env) fp) ifs (tT X.K (evT F t))) ∧
      (∀ (s : Shared) (H : Hp) (C : Addr) (cl : List (Str × Addr)) (fp : List Addr), PE (X.blk s H scope (compEnvC scope cl C X.env) fp) elt (tE X.K (evE F e))) ∧
      (∀ i ∈ g.slots, i ∈ own.map (·.2)) ∧ ∀ r m, evE F e' r m = compE (T.isCell pos) (evI F i) g (own.map (·.2)) (evT F t) (evE F e) r m := by
  unfold cComp at q
  split at q
  · rename_i tg it ifs
    obtain ⟨hk, q⟩ := if_some q
    obtain ⟨hb, hn⟩ := Bool.and_eq_true_iff.mp hk
    obtain ⟨i, q1, q⟩ := bnd_some q
    obtain ⟨g, q2, q⟩ := bnd_some q
    obtain ⟨t, q3, q⟩ := bnd_some q
    obtain ⟨e, q4, q⟩ := bnd_some q
    obtain ⟨hs, q⟩ := if_some q
    cases q
    refine ⟨tg, it, ifs, i, g, t, e, _, rfl, by rw [h.N, h.sc]; exact blkOk_by hb, hn, i_snd S h q1, fun s H C cl fp => ?_, fun s H C cl fp => ?_, fun s H C cl fp => ?_, subB_ok hs, fun r m => ?_⟩
    · exact g_snd (X := X.blk s H scope (compEnvC scope cl C X.env) fp) h.blk q2
    · exact ts_snd (X := X.blk s H scope (compEnvC scope cl C X.env) fp) S h.blk q3
    · exact S.e (X := X.blk s H scope (compEnvC scope cl C X.env) fp) h.blk q4
    · rw [evE]; rfl
  · cases q
theorem comp_snd (S : Snd T F k C) (h : Fits T F k c X) {elt : Expr} {gens : List Comprehension} {scope : Scope} {pos : Pos} {e' : E} (q : cComp C T c elt gens scope pos = some e') : PE X (.ListComp elt gens scope pos) (tE X.K (evE F e')) := by
  obtain ⟨tg, it, ifs, i, g, t, e, own, rfl, h1, h2, h3, h4, h5, h6, h7, h8⟩ := comp_parts S h q
  exact PE.cast (e_comp h.calm h.nod h3 h1 h4 h5 h6 h2 h7) h8
theorem stepE_snd (S : Snd T F k C) (h : Fits T F k c X) {e : Expr} {e' : E} (q : stepE C T c e = some e') : PE X e (tE X.K (evE F e')) := by
  unfold stepE at q
  split at q
  · obtain ⟨d, q1, rfl⟩ := map_some q
    exact PE.cast (const_snd q1) fun r m => by rw [evE]
  · exact name_snd h q
  · obtain ⟨es, q1, rfl⟩ := map_some q
    exact PE.cast (e_tup (es_snd S h q1).1) fun r m => by rw [evE] <;> rfl
  · obtain ⟨es, q1, rfl⟩ := map_some q
    exact PE.cast (e_lst (es_snd S h q1).1) fun r m => by rw [evE] <;> rfl
  · exact bin_snd S h q
  · exact un_snd S h q
  · exact cmp_snd S h q
  · exact and_snd S h q
  · exact or_snd S h q
  · obtain ⟨t, q1, q⟩ := bnd_some q
    obtain ⟨a, q2, q⟩ := bnd_some q
    obtain ⟨b, q3, rfl⟩ := map_some q
    exact PE.cast (e_ite (S.t h q1) (S.e h q2) (S.e h q3)) fun r m => by rw [evE] <;> rfl
  · exact sub_snd S h q
  · obtain ⟨hb, q⟩ := if_some q
    obtain ⟨a, q1, rfl⟩ := map_some q
    exact PE.cast (e_attr (S.e h q1) hb) fun r m => by rw [evE] <;> rfl
  · exact call_snd S h q
  · exact comp_snd S h q
  · cases q
theorem stepT_snd (S : Snd T F k C) (h : Fits T F k c X) {e : Expr} {e' : Rf.T} (q : stepT C c e = some e') : PT X e (tT X.K (evT F e')) := by
  unfold stepT at q
  split at q
  · exact cmpT_snd S h q
  · exact (andT_snd S h q).pt
  · exact (orT_snd S h q).pt
  · obtain ⟨t, q1, rfl⟩ := map_some q
    exact PT.cast (t_not (S.t h q1)) fun r m => by rw [evT] <;> rfl
  · obtain ⟨hb, q⟩ := if_some q
    obtain ⟨a, q1, rfl⟩ := map_some q
    exact PT.cast (t_val (S.e h q1) hb) fun r m => by rw [evT] <;> rfl
theorem cmpN_snd : ∀ n : Nat, Snd T F k (cmpN T n)
  | 0 => ⟨fun _ q => (nomatch q), fun _ q => (nomatch q)⟩
  | n + 1 => ⟨fun h q => stepE_snd (cmpN_snd n) h q, fun h q => stepT_snd (cmpN_snd n) h q⟩
end
end Rf
namespace Rf
open PySem PySem.Spec PyProof.Rows L2
section
variable {T : Tab} {F : Fx} {k : Nat} {c : Ctx} {X : Cx} {C : Cmp}
theorem block_fn {env : PySem.Env} (h : env.scope.kind = .function) : env.blockKind = .function := by unfold Env.blockKind; rw [h]; rfl
theorem asgN_snd (S : Snd T F k C) (h : Fits T F k c X) {x : Str} {p pos : Pos} {v : Expr} {s : Rf.S} (q : cAsgN C T c x p v pos = some s) : PS X (.Assign [.Name x p] v pos) (tS X.K (evS F s)) := by
  unfold cAsgN at q
  obtain ⟨hs, q⟩ := if_some q
  obtain ⟨i, q1, q⟩ := bnd_some q
  split at q
  · rename_i elt gens scope vpos _ _
    split at q
    case isFalse =>
      obtain ⟨hk, q⟩ := if_some q
      obtain ⟨e, q2, rfl⟩ := map_some q
      refine PS.cast (s_set h.nod (h.ix q1) (h.sto hs).1 (h.sto hs).2 (comp_snd S h q2) ?_) fun r m => by rw [evS] <;> rfl
      have hk2 : (X.env.kindOf x == some NameKind.local) = false := by
        show (X.env.scope.names.lookup x == _) = false
        rw [h.sc]
        unfold locC at hk
        split at hk
        · cases hk
        · rename_i hne
          simpa using hne
      unfold swapsWith
      simp only [hk2, Bool.and_false, Bool.false_and]
    rename_i hk
    obtain ⟨e, q2, rfl⟩ := map_some q
    simp only [Bool.and_eq_true, decide_eq_true_eq, Bool.not_eq_true'] at hk
    obtain ⟨⟨⟨k1, k2⟩, k3⟩, k4⟩ := hk
    obtain ⟨tg, it, ifs, i, g, t, e, own, rfl, h1, h2, h3, h4, h5, h6, h7, h8⟩ := comp_parts S h q2
    refine PS.cast (s_setLc (cell := T.isCell vpos) h.calm h.nod (h.ix q1) (h.loc k2) (sw_true (by rw [h.sc]; exact k1) (h.loc k2) k3 k4) h3 h1 h4 h5 h6 h2 h7) fun r m => ?_
    rw [evS, h8] <;> rfl
  · obtain ⟨hk, q⟩ := if_some q
    obtain ⟨e, q2, rfl⟩ := map_some q
    exact PS.cast (s_set h.nod (h.ix q1) (h.sto hs).1 (h.sto hs).2 (S.e h q2) (no_swap hk)) fun r m => by rw [evS] <;> rfl
theorem not_star_any {vs : List Expr} (h : vs.all notStar = true) : (vs.any fun | .Starred .. => true | _ => false) = false := by
  rw [List.any_eq_false]
  intro x hx
  have := List.all_eq_true.mp h x hx
  cases x <;> first | exact Bool.false_ne_true | cases this
theorem sw_par2 {env : PySem.Env} {x y : Str} {px py pt pv : Pos} {kt kv : Nat} {a b : Expr} (hf : env.scope.kind = .function) (hx : env.scope.names.lookup x = some .local) (hy : env.scope.names.lookup y = some .local) (hl : (py.line == px.line) = true) (hxy : x ≠ y)
    (hs : ([a, b] : List Expr).all notStar = true) (h1 : ([a, b] : List Expr).all (foldedForSure 8) = false) (h2 : ([a, b] : List Expr).all (constantsAlone 8) = false) : swappedStores [.Tuple [.Name x px, .Name y py] kt pt] (.Tuple [a, b] kv pv) env = pure (some [x, y]) := by
  have kx : env.kindOf x = some .local := hx
  have ky : env.kindOf y = some .local := hy
  have he : [x, y].eraseDups = [x, y] := by
    have : (y == x) = false := by simpa using Ne.symm hxy
    simp [List.eraseDups_cons, this]
  unfold swappedStores
  simp only [block_fn hf, not_star_any hs, h1, h2]
  simp only [List.filterMap_cons, List.filterMap_nil, kx, ky, List.head?_cons, Option.map_some, Option.getD_some, Expr.pos, hl, beq_self_eq_true, Bool.and_self, List.length_cons, List.length_nil, if_true]
  refine (if_neg (by decide)).trans ((if_neg fun h => Bool.false_ne_true ((not_star_any hs).symm.trans h)).trans ((if_neg ?_).trans rfl))
  rw [he]
  exact Bool.false_ne_true
theorem sw_par3 {env : PySem.Env} {x y z : Str} {px py pz pt pv : Pos} {kt kv : Nat} {a b d : Expr} (hf : env.scope.kind = .function) (hx : env.scope.names.lookup x = some .local) (hy : env.scope.names.lookup y = some .local) (hz : env.scope.names.lookup z = some .local) (hl : (py.line == px.line) = true) (hl2 : (pz.line == px.line) = true)
    (hxy : x ≠ y) (hxz : x ≠ z) (hyz : y ≠ z)
    (hs : ([a, b, d] : List Expr).all notStar = true) (h1 : ([a, b, d] : List Expr).all (foldedForSure 8) = false) (h2 : ([a, b, d] : List Expr).all (constantsAlone 8) = false) : swappedStores [.Tuple [.Name x px, .Name y py, .Name z pz] kt pt] (.Tuple [a, b, d] kv pv) env = pure (some [x, y, z]) := by
  have kx : env.kindOf x = some .local := hx
  have ky : env.kindOf y = some .local := hy
  have kz : env.kindOf z = some .local := hz
  have he : [x, y, z].eraseDups = [x, y, z] := by
    have e1 : (y == x) = false := by simpa using Ne.symm hxy
    have e2 : (z == x) = false := by simpa using Ne.symm hxz
    have e3 : (z == y) = false := by simpa using Ne.symm hyz
    simp [List.eraseDups_cons, e1, e2, e3]
  unfold swappedStores
  simp only [block_fn hf, not_star_any hs, h1, h2]
  simp only [List.filterMap_cons, List.filterMap_nil, kx, ky, kz, List.head?_cons, Option.map_some, Option.getD_some, Expr.pos, hl, hl2, beq_self_eq_true, Bool.and_self, List.length_cons, List.length_nil, if_true]
  refine (if_neg (by decide)).trans ((if_neg fun h => Bool.false_ne_true ((not_star_any hs).symm.trans h)).trans ((if_neg ?_).trans rfl))
  rw [he]
  exact Bool.false_ne_true
theorem sw_fold {env : PySem.Env} {ts vs : List Expr} {pt pv : Pos} {kt kv : Nat} (h1 : vs.all (foldedForSure 8) = true) : swappedStores [.Tuple ts kt pt] (.Tuple vs kv pv) env = pure none := by
  unfold swappedStores
  simp only [h1]
  split
  · rfl
  split
  · rfl
  split
  · rfl
  · rfl
theorem sw_cell {c : Ctx} {env : PySem.Env} (he : env.scope = c.sc) {ts vs : List Expr} {pt pv : Pos} {kt kv : Nat} (h1 : ts.all (isLocE c) = false) : swappedStores [.Tuple ts kt pt] (.Tuple vs kv pv) env = pure none := by
  have key : ∀ (f : Expr → Option Str) (_ : ∀ e, isLocE c e = false → f e = none) (ts : List Expr), ts.all (isLocE c) = false → (ts.filterMap f).length < ts.length := by
    intro f hf ts
    induction ts with
    | nil => intro h; cases h
    | cons t ts ih =>
      intro h
      rw [List.all_cons] at h
      rw [List.filterMap_cons]
      cases ht : isLocE c t with
      | false =>
        rw [hf t ht]
        exact Nat.lt_succ_of_le (List.length_filterMap_le _ _)
      | true =>
        rw [ht, Bool.true_and] at h
        cases f t with
        | none => exact Nat.lt_succ_of_lt (ih h)
        | some y => exact Nat.succ_lt_succ (ih h)
  unfold swappedStores
  dsimp only
  split
  · rfl
  split
  · rfl
  split
  · rfl
  · rename_i hn
    refine absurd ?_ hn
    simp only [Bool.or_eq_true]
    left
    simp only [bne_iff_ne, ne_eq]
    refine Nat.ne_of_lt (key _ (fun e he' => ?_) ts h1)
    cases e <;> try rfl
    rename_i x p
    have hk2 : (env.kindOf x == some NameKind.local) = false := by
      show (env.scope.names.lookup x == _) = false
      rw [he]
      have he2 : locC c x = false := he'
      unfold locC at he2
      split at he2
      · cases he2
      · rename_i hne
        simpa using hne
    simp only [hk2, Bool.false_and]
    rfl
theorem ne_of_ix {N : List Str} {x y : Str} {i j : Nat} (h1 : ixOf N x = some i) (h2 : ixOf N y = some j) (hij : i ≠ j) : x ≠ y := fun e => by
  subst e
  rw [h1] at h2
  cases h2
  exact hij rfl
theorem par_snd (S : Snd T F k C) (h : Fits T F k c X) {ts vs : List Expr} {k1 k2 : Nat} {p1 p2 pos : Pos} {s : Rf.S} (q : cPar C c ts vs = some s) : PS X (.Assign [.Tuple ts k1 p1] (.Tuple vs k2 p2) pos) (tS X.K (evS F s)) := by
  unfold cPar at q
  split at q
  · rename_i x px y py a b
    obtain ⟨hk, q⟩ := if_some q
    obtain ⟨i, q1, q⟩ := bnd_some q
    obtain ⟨j, q2, q⟩ := bnd_some q
    split at q
    · cases q
    · rename_i hij
      obtain ⟨a', q3, q⟩ := bnd_some q
      obtain ⟨b', q4, rfl⟩ := map_some q
      unfold parC at hk
      simp only [Bool.and_eq_true, decide_eq_true_eq, Bool.not_eq_true'] at hk
      obtain ⟨⟨⟨⟨⟨⟨c1, c2⟩, c3⟩, c4⟩, c5⟩, c6⟩, c7⟩ := hk
      have c2' := c2
      simp only [List.all_cons, List.all_nil, Bool.and_eq_true, and_true] at c2'
      exact PS.cast (s_par2 h.calm h.nod (h.ix q1) (h.ix q2) hij (h.loc c5) (h.loc c6) (S.e h q3) (S.e h q4) c2'.1 c2'.2 (sw_par2 (by rw [h.sc]; exact c1) (h.loc c5) (h.loc c6) c7 (ne_of_ix q1 q2 hij) c2 c3 c4)) fun r m => by rw [evS] <;> rfl
  · rename_i x px y py z pz a b d
    obtain ⟨hk, q⟩ := if_some q
    obtain ⟨i, q1, q⟩ := bnd_some q
    obtain ⟨j, q2, q⟩ := bnd_some q
    obtain ⟨l, q5, q⟩ := bnd_some q
    split at q
    · cases q
    · rename_i hij
      obtain ⟨a', q3, q⟩ := bnd_some q
      obtain ⟨b', q4, q⟩ := bnd_some q
      obtain ⟨d', q6, rfl⟩ := map_some q
      unfold parC at hk
      simp only [Bool.and_eq_true, decide_eq_true_eq, Bool.not_eq_true'] at hk
      obtain ⟨⟨⟨⟨⟨⟨⟨⟨c1, c2⟩, c3⟩, c4⟩, c5⟩, c6⟩, c8⟩, c7⟩, c9⟩ := hk
      have c2' := c2
      simp only [List.all_cons, List.all_nil, Bool.and_eq_true, and_true] at c2'
      have n1 : i ≠ j := fun e => hij (.inl e)
      have n2 : i ≠ l := fun e => hij (.inr (.inl e))
      have n3 : j ≠ l := fun e => hij (.inr (.inr e))
      exact PS.cast (s_par3 h.calm h.nod (h.ix q1) (h.ix q2) (h.ix q5) n1 n2 n3 (h.loc c5) (h.loc c6) (h.loc c8) (S.e h q3) (S.e h q4) (S.e h q6) c2'.1 c2'.2.1 c2'.2.2
        (sw_par3 (by rw [h.sc]; exact c1) (h.loc c5) (h.loc c6) (h.loc c8) c7 c9 (ne_of_ix q1 q2 n1) (ne_of_ix q1 q5 n2) (ne_of_ix q2 q5 n3) c2 c3 c4)) fun r m => by rw [evS] <;> rfl
  · cases q
theorem asg_snd (S : Snd T F k C) (h : Fits T F k c X) {tg v : Expr} {pos : Pos} {s : Rf.S} (q : cAsg C T c tg v pos = some s) : PS X (.Assign [tg] v pos) (tS X.K (evS F s)) := by
  unfold cAsg at q
  split at q
  · exact asgN_snd S h q
  · split at q
    · split at q
      · rename_i hf
        obtain ⟨g, q1, q⟩ := bnd_some q
        obtain ⟨e, q2, rfl⟩ := map_some q
        exact PS.cast (s_asg (S.e h q2) (g_snd h q1) rfl rfl (sw_fold hf)) fun r m => by rw [evS] <;> rfl
      split at q
      · rename_i hf
        obtain ⟨g, q1, q⟩ := bnd_some q
        obtain ⟨e, q2, rfl⟩ := map_some q
        simp only [Bool.and_eq_true, Bool.not_eq_true'] at hf
        exact PS.cast (s_asg (S.e h q2) (g_snd h q1) rfl rfl (sw_cell h.sc hf.2)) fun r m => by rw [evS] <;> rfl
      · exact par_snd S h q
    · rename_i hv
      obtain ⟨g, q1, q⟩ := bnd_some q
      obtain ⟨e, q2, rfl⟩ := map_some q
      refine PS.cast (s_asg (S.e h q2) (g_snd h q1) rfl ?_ ?_) fun r m => by rw [evS] <;> rfl
      · cases v <;> rfl
      · cases v <;> first | rfl | exact absurd rfl (hv _ _ _)
  · obtain ⟨hn, q⟩ := if_some q
    obtain ⟨v', q1, q⟩ := bnd_some q
    obtain ⟨o', q2, q⟩ := bnd_some q
    obtain ⟨i', q3, rfl⟩ := map_some q
    exact PS.cast (s_setI (S.e h q1) (S.e h q2) (S.e h q3) hn) fun r m => by rw [evS] <;> rfl
  · obtain ⟨v', q1, q⟩ := bnd_some q
    obtain ⟨o', q2, rfl⟩ := map_some q
    exact PS.cast (s_setF h.glob.attr (S.e h q1) (S.e h q2)) fun r m => by rw [evS] <;> rfl
  · cases q
theorem aug_snd (S : Snd T F k C) (h : Fits T F k c X) {tg v : Expr} {pos : Pos} {s : Rf.S} (q : cAug C c tg v = some s) : PS X (.AugAssign tg .Add v pos) (tS X.K (evS F s)) := by
  unfold cAug at q
  split at q
  · obtain ⟨hs, q⟩ := if_some q
    obtain ⟨i, q1, q⟩ := bnd_some q
    obtain ⟨v', q2, rfl⟩ := map_some q
    exact PS.cast (s_aug h.nod (h.ix q1) (h.sto hs).1 (h.sto hs).2 (S.e h q2)) fun r m => by rw [evS] <;> rfl
  · obtain ⟨o', q1, q⟩ := bnd_some q
    obtain ⟨v', q2, rfl⟩ := map_some q
    exact PS.cast (s_augF (S.e h q1) (S.e h q2)) fun r m => by rw [evS] <;> rfl
  · cases q
theorem stepS_snd (S : Snd T F k C) (h : Fits T F k c X) {R : List Stmt → Option Ss} (hR : ∀ {ss : List Stmt} {ss' : Ss}, R ss = some ss' → PSs X ss (tS X.K (evSs F ss'))) {st : Stmt} {s : Rf.S} (q : stepS C T c R st = some s) : PS X st (tS X.K (evS F s)) := by
  unfold stepS at q
  split at q
  · cases q; exact PS.cast s_pass fun r m => by rw [evS]
  · cases q; exact PS.cast s_brk fun r m => by rw [evS]
  · cases q; exact PS.cast s_cont fun r m => by rw [evS]
  · cases q; exact PS.cast s_retN fun r m => by rw [evS]
  · obtain ⟨e, q1, rfl⟩ := map_some q
    exact PS.cast (s_ret (S.e h q1)) fun r m => by rw [evS]
  · obtain ⟨hn, q⟩ := if_some q
    obtain ⟨e, q1, rfl⟩ := map_some q
    exact PS.cast (s_expr (S.e h q1) hn) fun r m => by rw [evS]
  · exact asg_snd S h q
  · exact aug_snd S h q
  · obtain ⟨t, q1, q⟩ := bnd_some q
    obtain ⟨a, q2, q⟩ := bnd_some q
    obtain ⟨b, q3, rfl⟩ := map_some q
    exact PS.cast (s_ite (S.t h q1) (hR q2) (hR q3)) fun r m => by rw [evS]
  · obtain ⟨hn, q⟩ := if_some q
    obtain ⟨i, q1, q⟩ := bnd_some q
    obtain ⟨g, q2, q⟩ := bnd_some q
    obtain ⟨b, q3, rfl⟩ := map_some q
    exact PS.cast (s_for h.pass h.calm (i_snd S h q1) (g_snd h q2) (hR q3) hn) fun r m => by rw [evS] <;> rfl
  · obtain ⟨t, q1, q⟩ := bnd_some q
    obtain ⟨b, q2, rfl⟩ := map_some q
    exact PS.cast (s_while h.pass (S.t h q1) (hR q2)) fun r m => by rw [evS]
  · cases q
theorem ss_snd (S : Snd T F k C) (h : Fits T F k c X) : ∀ {n : Nat} {ss : List Stmt} {ss' : Ss}, cSs C T c n ss = some ss' → PSs X ss (tS X.K (evSs F ss'))
  | 0, _, _, q => by cases q
  | n + 1, ss, ss', q => by
    unfold cSs at q
    have go : ∀ {ss : List Stmt} {ss' : Ss}, mapS (stepS C T c (cSs C T c n)) ss = some ss' → PSs X ss (tS X.K (evSs F ss')) := by
      intro ss
      induction ss with
      | nil => intro ss' q; cases q; exact PSs.cast ss_nil fun r m => by rw [evSs]
      | cons st ss ih =>
        intro ss' q
        unfold mapS at q
        obtain ⟨a, q1, q⟩ := bnd_some q
        obtain ⟨b, q2, rfl⟩ := map_some q
        exact PSs.cast (ss_cons (stepS_snd S h (fun q => ss_snd S h q) q1) (ih q2)) fun r m => by rw [evSs] <;> rfl
    exact go q
end
end Rf
namespace Rf
open PySem PySem.Spec PyProof.Rows L2
/-! ### what leaves a def: the cells that were made within are frozen -/
section
variable {K : Fr'} {g g' : Sg} {H H' : Hp} {M M1 : Mem} {n : Nat}
def Sg.low (g : Sg) (n : Nat) : Sg := ⟨fun k => if k < n then g.φ k else none, fun a => g.R a ∧ ∀ k, n ≤ k → g.φ k ≠ some a⟩
theorem Sg.low_lt {k : Nat} (h : k < n) : (g.low n).φ k = g.φ k := if_pos h
theorem Sg.low_ge {k : Nat} (h : ¬ k < n) : (g.low n).φ k = none := if_neg h
mutual
theorem Rep.low : ∀ {d : D} {v : V}, D.under n d = true → Rep K g H d v → Rep K (g.low n) H d v
  | .non, v, _, h => by rw [Rep] at h ⊢; exact h
  | .bl b, v, _, h => by rw [Rep] at h ⊢; exact h
  | .int b, v, _, h => by rw [Rep] at h ⊢; exact h
  | .str b, v, _, h => by rw [Rep] at h ⊢; exact h
  | .tup ds, v, u, h => by
    rw [Rep] at h ⊢
    rw [D.under] at u
    obtain ⟨a, vs, e, h1, h2, h3⟩ := h
    exact ⟨a, vs, e, h1, h2, Reps.low u h3⟩
  | .lst ds, v, u, h => by
    rw [Rep] at h ⊢
    rw [D.under] at u
    obtain ⟨a, vs, e, h1, h2, h3, h4⟩ := h
    exact ⟨a, vs, e, h1, fun z => h2 z.1, h3, Reps.low u h4⟩
  | .scr ds, v, u, h => by
    rw [Rep] at h ⊢
    rw [D.under] at u
    obtain ⟨a, vs, e, h1, h2, h3⟩ := h
    exact ⟨a, vs, e, h1, h2, Reps.low u h3⟩
  | .obj k, v, u, h => by
    rw [Rep] at h ⊢
    rw [D.under] at u
    obtain ⟨a, e, h1⟩ := h
    exact ⟨a, e, by rw [Sg.low_lt (of_decide_eq_true u)]; exact h1⟩
theorem Reps.low : ∀ {ds : List D} {vs : List V}, D.unders n ds = true → Reps K g H ds vs → Reps K (g.low n) H ds vs
  | [], vs, _, h => by rw [Reps.nil_iff] at h ⊢; exact h
  | d :: ds, vs, u, h => by
    rw [D.unders] at u
    obtain ⟨u1, u2⟩ := Bool.and_eq_true_iff.mp u
    obtain ⟨v, r, rfl, h1, h2⟩ := Reps.cons_iff.mp h
    exact .cons (Rep.low u1 h1) (Reps.low u2 h2)
end
theorem Flds.low : ∀ {fs : List (Str × D)} {vs : List (Str × V)}, (fs.all fun p => D.under n p.2) = true → Flds K g H fs vs → Flds K (g.low n) H fs vs
  | [], vs, _, h => by unfold Flds at h ⊢; exact h
  | p :: ps, vs, u, h => by
    rw [List.all_cons] at u
    obtain ⟨u1, u2⟩ := Bool.and_eq_true_iff.mp u
    unfold Flds at h ⊢
    obtain ⟨v, r, e, h1, h2⟩ := h
    exact ⟨v, r, e, Rep.low u1 h1, Flds.low u2 h2⟩
mutual
theorem Rep.frz (R : Rel K g H M) : ∀ {d d' : D} {v : V}, D.frz n M d = some d' → Rep K g H d v → Rep K (g.low n) H d' v
  | .non, _, v, u, h => by cases u; rw [Rep] at h ⊢; exact h
  | .bl b, _, v, u, h => by cases u; rw [Rep] at h ⊢; exact h
  | .int b, _, v, u, h => by cases u; rw [Rep] at h ⊢; exact h
  | .str b, _, v, u, h => by cases u; rw [Rep] at h ⊢; exact h
  | .tup ds, _, v, u, h => by
    rw [D.frz] at u
    obtain ⟨ds', u2, rfl⟩ := map_some u
    rw [Rep] at h ⊢
    obtain ⟨a, vs, e, h1, h2, h3⟩ := h
    obtain ⟨h4, h5⟩ := Reps.frz R u2 h3
    exact ⟨a, vs, e, h1, by rw [h5]; exact h2, h4⟩
  | .lst ds, _, v, u, h => by
    rw [D.frz] at u
    obtain ⟨ds', u2, rfl⟩ := map_some u
    rw [Rep] at h ⊢
    obtain ⟨a, vs, e, h1, h2, h3, h4⟩ := h
    obtain ⟨h5, h6⟩ := Reps.frz R u2 h4
    exact ⟨a, vs, e, h1, fun z => h2 z.1, by rw [h6]; exact h3, h5⟩
  | .scr ds, _, v, u, h => by rw [D.frz] at u; cases u
  | .obj k, d', v, u, h => by
    rw [D.frz] at u
    rw [Rep] at h
    obtain ⟨a, e, h1⟩ := h
    split at u
    · rename_i hk
      cases u
      rw [Rep]
      exact ⟨a, e, by rw [Sg.low_lt hk]; exact h1⟩
    · rename_i hk
      unfold frzCell at u
      split at u
      · rename_i xs hc
        obtain ⟨hu, u⟩ := if_some u
        cases u
        obtain ⟨b, h2, h3, vs, h4, h5, h6⟩ := R.cell k _ hc
        rw [h1] at h2
        cases h2
        rw [Rep]
        exact ⟨a, vs, e, h4, fun z => z.2 k (Nat.le_of_not_lt hk) h1, h5, Reps.low hu h6⟩
      · cases u
theorem Reps.frz (R : Rel K g H M) : ∀ {ds ds' : List D} {vs : List V}, D.frzs n M ds = some ds' → Reps K g H ds vs → Reps K (g.low n) H ds' vs ∧ ds'.length = ds.length
  | [], _, vs, u, h => by
    rw [D.frzs] at u
    cases u
    rw [Reps.nil_iff] at h ⊢
    exact ⟨h, rfl⟩
  | d :: ds, _, vs, u, h => by
    rw [D.frzs] at u
    obtain ⟨y, u1, u⟩ := bnd_some u
    obtain ⟨ys, u2, rfl⟩ := map_some u
    obtain ⟨v, r, rfl, h1, h2⟩ := Reps.cons_iff.mp h
    obtain ⟨h3, h4⟩ := Reps.frz R u2 h2
    exact ⟨.cons (Rep.frz R u1 h1) h3, by rw [List.length_cons, List.length_cons, h4]⟩
end
theorem Tr.low (R : Rel K g H M) (t : Tr g H g' H') : Tr g H (g'.low M.length) H' := by
  have lt : ∀ {k a}, g.φ k = some a → k < M.length := fun {k a} e => by
    refine Nat.lt_of_not_le fun h => ?_
    rw [R.out k h] at e
    cases e
  refine ⟨⟨t.tup, t.frz, fun a xs h r => ?_, fun k a e => ?_⟩, fun a o r m h => ?_⟩
  · obtain ⟨h1, h2⟩ := t.lst a xs h r
    exact ⟨h1, fun z => h2 z.1⟩
  · rw [Sg.low_lt (lt e)]; exact t.obj k a e
  · obtain ⟨h1, h2, h3⟩ := t.held a o r m h
    refine ⟨h1, ⟨h2, fun k _ => h3 k⟩, fun k e => ?_⟩
    by_cases hk : k < M.length
    · rw [Sg.low_lt hk] at e; exact h3 k e
    · rw [Sg.low_ge hk] at e; cases e
theorem Rel.low (R : Rel K g H M1) (h : (M1.take n).all (Cell.under n) = true) : Rel K (g.low n) H (M1.take n) := by
  refine ⟨fun k hk => ?_, fun k c e => ?_, fun i j a h1 h2 => ?_, fun a r => R.res a r.1⟩
  · by_cases hn : k < n
    · rw [Sg.low_lt hn]
      rw [List.length_take] at hk
      exact R.out k (by omega)
    · exact Sg.low_ge hn
  · have hkn : k < n := by
      have := (List.getElem?_eq_some_iff.mp e).1
      rw [List.length_take] at this
      omega
    have hu : Cell.under n c = true := by
      obtain ⟨h1, h2⟩ := List.getElem?_eq_some_iff.mp e
      exact List.all_eq_true.mp h c (h2 ▸ List.getElem_mem h1)
    have e' : M1[k]? = some c := by
      rw [List.getElem?_take] at e
      rw [if_pos hkn] at e
      exact e
    obtain ⟨a, h1, h2, h3⟩ := R.cell k c e'
    refine ⟨a, by rw [Sg.low_lt hkn]; exact h1, ⟨h2, fun j hj e2 => ?_⟩, ?_⟩
    · have := R.inj k j a h1 e2
      omega
    · cases c with
      | lst xs =>
        obtain ⟨vs, k1, k2, k3⟩ := h3
        exact ⟨vs, k1, k2, Reps.low hu k3⟩
      | ins cn fs =>
        obtain ⟨dx, vfs, k1, k2, k3⟩ := h3
        exact ⟨dx, vfs, k1, Flds.low hu k2, k3⟩
  · have l : ∀ {k a}, (g.low n).φ k = some a → g.φ k = some a := fun {k a} e => by
      by_cases hk : k < n
      · rw [Sg.low_lt hk] at e; exact e
      · rw [Sg.low_ge hk] at e; cases e
    exact R.inj i j a (l h1) (l h2)
theorem finish_ok {keep : Bool} {d a : D} {M' : Mem} {v : V} (R : Rel K g H M) (t : Tr g H g' H') (R1 : Rel K g' H' M1) (e : finish keep M.length d M1 = .ok a M') (h : Rep K g' H' d v) : ∃ g2, Tr g H g2 H' ∧ Rel K g2 H' M' ∧ Rep K g2 H' a v := by
  unfold finish at e
  split at e
  · cases e; exact ⟨g', t, R1, h⟩
  split at e
  · cases e; exact ⟨g', t, R1, h⟩
  split at e
  · rename_i hall
    split at e
    · rename_i d' hd
      cases e
      exact ⟨g'.low M.length, .low R t, R1.low hall, Rep.frz R1 hd h⟩
    · cases e
  · cases e
end
/-! ### how arguments bind -/
def argsC (p : Arguments) (ps : List Str) : Bool := p.posonlyargs.isEmpty && p.vararg.isNone && p.kwonlyargs.isEmpty && p.kwarg.isNone && decide (p.args.map (·.arg) = ps) && decide ps.Nodup
theorem zip_look : ∀ {ps : List Str} {us : List Value}, us.length = ps.length → ps.Nodup → ∀ (pre : List (Str × Value)), (∀ y ∈ ps, pre.lookup y = none) →
    (ps.filterMap fun n => ((pre ++ ps.zip us).lookup n).map (n, ·)) = ps.zip us
  | [], us, _, _, _, _ => by simp
  | p :: ps, [], h, _, _, _ => by simp at h
  | p :: ps, u :: us, h, nd, pre, hp => by
    have nd' := List.nodup_cons.mp nd
    have e1 : (pre ++ (p :: ps).zip (u :: us)).lookup p = some u := by
      rw [List.lookup_append, hp p List.mem_cons_self]
      simp [List.lookup_cons]
    rw [List.filterMap_cons, e1]
    simp only [Option.map_some]
    have e2 : pre ++ (p :: ps).zip (u :: us) = (pre ++ [(p, u)]) ++ ps.zip us := by simp
    rw [e2, zip_look (by simpa using h) nd'.2 (pre ++ [(p, u)]) fun y hy => ?_]
    · rfl
    · rw [List.lookup_append, hp y (List.mem_cons_of_mem _ hy)]
      have : (y == p) = false := by
        have : y ≠ p := fun e => nd'.1 (e ▸ hy)
        simpa using this
      simp [List.lookup_cons, this]
theorem zip_some {ps : List Str} {us : List Value} (h : us.length = ps.length) : (ps.filter fun n => ((ps.zip us).lookup n).isNone) = [] := by
  rw [List.filter_eq_nil_iff]
  intro x hx
  have : ∀ {ps : List Str} {us : List Value}, us.length = ps.length → x ∈ ps → ((ps.zip us).lookup x).isSome = true := by
    intro ps
    induction ps with
    | nil => intro us _ hx; cases hx
    | cons p ps ih =>
      intro us h hx
      cases us with
      | nil => simp at h
      | cons u us =>
        rw [List.zip_cons_cons, List.lookup_cons]
        by_cases e : (x == p) = true
        · rw [e]; rfl
        · have e' : (x == p) = false := by simpa using e
          rw [e']
          rcases List.mem_cons.mp hx with q | q
          · exact absurd q (by simpa using e)
          · exact ih (by simpa using h) q
  intro z
  have w := this h hx
  rw [Option.isNone_iff_eq_none] at z
  rw [z] at w
  cases w
theorem bind_plain {params : Arguments} {ps : List Str} (h : argsC params ps = true) {x qual : Str} {body : List Stmt} {scope : Scope} (kV doc pm : Value) (an : Option Addr) (cdv ct : Value) (us : List Value) (hl : us.length = ps.length) :
    bindArgs (PySem.W.fnOf x qual params body scope .none kV doc pm an cdv ct) ⟨us, []⟩ = pure (ps.zip us) := by
  unfold argsC at h
  simp only [Bool.and_eq_true, decide_eq_true_eq, List.isEmpty_iff, Option.isNone_iff_eq_none] at h
  obtain ⟨⟨⟨⟨⟨h1, h2⟩, h3⟩, h4⟩, h5⟩, h6⟩ := h
  have hd : seqItems? Value.none = pure none := rfl
  have hz := zip_look hl h6 [] fun _ _ => rfl
  simp only [List.nil_append] at hz
  have hz2 := zip_some hl
  unfold bindArgs
  simp only [h1, h2, h3, h4, h5, hd, List.map_nil, List.nil_append, List.append_nil, hl, List.forIn_nil, pure_bind, Option.getD_none, List.drop_nil, List.length_nil, Nat.sub_zero, List.take_length, hz2, hz, Nat.lt_irrefl, List.zip_nil_right, List.isEmpty_nil, Option.isNone_none, Bool.and_true, decide_false, Bool.false_eq_true, if_false, Bool.not_true, gt_iff_lt]
/-! ### all defs keep their promises -/
structure DefAt (T : Tab) (P : Prg) (K : Fr') (i : Nat) (f : Addr) (fd : FuncData) (ps : List Str) : Prop where
  ex : ∃ (x qual : Str) (params : Arguments) (body : List Stmt) (scope : Scope) (N : List Str) (d : FDef) (n : Nat), P.defs[i]? = some d ∧ FunD K x qual params body scope [] [] f fd ∧ FnScope N ps scope ∧
    cSs (cmpN T n) T ⟨N, scope, fun _ => true⟩ n body = some d.body ∧ ps.length = d.params ∧ N.length = d.slots ∧ argsC params ps = true
theorem DefAt.kp {T : Tab} {P : Prg} {K : Fr'} {i : Nat} {f : Addr} {fd : FuncData} {ps : List Str} (h : DefAt T P K i f fd ps) : PySem.W.keepIn K (.ref f) = true := by
  obtain ⟨x, qual, params, body, scope, N, d, n, h1, h2, h3, h4, h5, h6, h7⟩ := h.ex
  exact h2.kp
theorem DefAt.binds {T : Tab} {P : Prg} {K : Fr'} {i : Nat} {f : Addr} {fd : FuncData} {ps : List Str} (h : DefAt T P K i f fd ps) : Binds K fd ps [] := by
  obtain ⟨x, qual, params, body, scope, N, d, n, h1, h2, h3, h4, h5, h6, h7⟩ := h.ex
  exact h2.bindsN (bind_plain h7)
structure Facts (T : Tab) (P : Prg) (K : Fr') (mg : Str → Option Value) : Prop where
  free : ∀ x, T.free.contains x = true → mg x = none
  con : ∀ x d, T.consts.lookup x = some d → ∃ u v, mg x = some u ∧ RelV v u ∧ ∀ g H, Rep K g H d v
  fns : ∀ x i, T.fns.lookup x = some i → ∃ f fd ps, DefAt T P K i f fd ps ∧ mg x = some (.ref f)
  cls : ∀ x i, T.classes.lookup x = some i → ∃ f fd ps, DefAt T P K i f fd ps ∧ Mk K (He.ga K x) f ∧ Cls K (He.ga K x) ∧ mg x = some (.ref (He.ga K x))
  meth : ∀ cn m i, P.meths.lookup (cn, m) = some i → ∃ f fd ps, DefAt T P K i f fd ps ∧ Cls K (He.ga K cn) ∧ Meth K (He.ga K cn) m f
  attr : ∀ cn f, P.attrs.contains (cn, f) = true → Cls K (He.ga K cn) ∧ NoAttr K (He.ga K cn) f
noncomputable def fxOf (P : Prg) (turns k : Nat) : Fx := ⟨callF P turns k, fun c x => P.meths.lookup (c, x), fun c x => P.attrs.contains (c, x), turns⟩
theorem callF_some {P : Prg} {turns k i : Nat} {as : List D} {m m' : Mem} {a : D} (h : callF P turns (k + 1) i as m = .ok a m') : ∃ d, P.defs[i]? = some d ∧ as.length = d.params ∧
    ∃ fl r m1 d0, evSs (fxOf P turns k) d.body (startD d as) m = .ok (fl, r) m1 ∧ (fl = .ret d0 ∨ fl = .next ∧ d0 = .non) ∧ finish d.keep m.length d0 m1 = .ok a m' := by
  unfold callF at h
  split at h
  · rename_i d hd
    unfold runF at h
    split at h
    · rename_i hl
      split at h
      · rename_i d0 r m1 he
        exact ⟨d, hd, hl, _, r, m1, d0, he, .inl rfl, h⟩
      · rename_i r m1 he
        exact ⟨d, hd, hl, _, r, m1, .non, he, .inr ⟨rfl, rfl⟩, h⟩
      · cases h
      · cases h
      · cases h
    · cases h
  · cases h
theorem start_rel {K : Fr'} {g : Sg} {H : Hp} {d : FDef} {xs : List D} {vs : List V} {N : List Str} (h : Reps K g H xs vs) (hp : xs.length = d.params) (hN : N.length = d.slots) : RelS K g H (startD d xs) (L2.start N vs) := by
  unfold startD L2.start
  refine ⟨?_, fun i x e => ?_⟩
  · simp only [List.length_append, List.length_map, List.length_replicate, h.length, hN, hp]
  · by_cases hi : i < xs.length
    · rw [List.getElem?_append_left (by rw [List.length_map]; exact hi), List.getElem?_map] at e
      obtain ⟨y, e1, e2⟩ := map_some e
      cases e2
      obtain ⟨v, h1, h2⟩ := h.get e1
      refine ⟨v, ?_, h2⟩
      rw [List.getElem?_append_left (by rw [List.length_map, h.length]; exact hi), List.getElem?_map, h1]
      rfl
    · rw [List.getElem?_append_right (by rw [List.length_map]; omega), List.getElem?_replicate] at e
      split at e
      · cases e
      · cases e
theorem all_ok {T : Tab} {P : Prg} {prog : Program} {w : World} {K : Fr'} {mg : Str → Option Value} {base : Heap} {turns : Nat} (Fc : Facts T P K mg) : ∀ (k : Nat) {i : Nat} {f : Addr} {fd : FuncData} {ps : List Str}, DefAt T P K i f fd ps →
    FnOk prog w K mg base CX0 (2 * k) f fd ps (spD K (callF P turns k i))
  | 0, i, f, fd, ps, h => by
    have no : ∀ vs H Q (E : XK), spD K (callF P turns 0 i) vs H Q E → False := fun vs H Q E q => by
      obtain ⟨g, M, xs, a, M', h1, h2, h3, h4⟩ := q
      unfold callF at h3
      cases h3
    exact ⟨fun vs H Q E q => (no vs H Q E q).elim, fun A outer s H args us vs Q E _ _ _ _ q => (no vs H Q E q).elim⟩
  | k + 1, i, f, fd, ps, h => by
    obtain ⟨x, qual, params, body, scope, N, d, n, h1, h2, h3, h4, h5, h6, h7⟩ := h.ex
    have G : Glob T (fxOf P turns k) (2 * k) prog w K mg base := by
      refine ⟨Fc.free, Fc.con, fun x i q => ?_, fun x i q => ?_, fun cn m i q => ?_, Fc.attr⟩
      · obtain ⟨f, fd, ps, z1, z2⟩ := Fc.fns x i q
        exact ⟨f, fd, ps, all_ok Fc k z1, z2, z1.kp, z1.binds⟩
      · obtain ⟨f, fd, ps, z1, z2, z3, z4⟩ := Fc.cls x i q
        exact ⟨f, fd, ps, z2, z3, all_ok Fc k z1, z4, z1.binds⟩
      · obtain ⟨f, fd, ps, z1, z2, z3⟩ := Fc.meth cn m i q
        exact ⟨f, fd, ps, z2, z3, z1.binds, all_ok Fc k z1⟩
    have go : FnOk prog w K mg base CX0 (2 * k + 1 + 1) f fd ps (spD K (callF P turns (k + 1) i)) := by
      refine h2.ok h3 (fun vs H Q E q => ?_) fun cdv A outer s H vs Q E hr q => ⟨_, PSs.nox (ss_snd (cmpN_snd n) ⟨rfl, rfl, rfl, h3.nd, rfl, .never, hr, G⟩ h4), ?_⟩
      · obtain ⟨g, M, xs, a, M', R, hx, e, q⟩ := q
        obtain ⟨d', e1, e2, _⟩ := callF_some e
        rw [h1] at e1
        cases e1
        rw [hx.length, e2, h5]
      · obtain ⟨g, M, xs, a, M', R, hx, e, q⟩ := q
        obtain ⟨d', e1, e2, fl, r, m1, d0, e3, e4, e5⟩ := callF_some e
        rw [h1] at e1
        cases e1
        refine ⟨g, startD d xs, M, fl, r, m1, R, start_rel hx e2 h6, e3, fun g' H' t R' => ?_⟩
        rcases e4 with rfl | ⟨rfl, rfl⟩
        · intro v rv
          obtain ⟨g2, z1, z2, z3⟩ := finish_ok R t R' e5 rv
          exact q g2 H' v z1 z2 z3
        · intro σ' S'
          obtain ⟨g2, z1, z2, z3⟩ := finish_ok R t R' e5 (v := .non) non_rep
          exact q g2 H' .non z1 z2 z3
    exact go
end Rf
namespace Rf
open PySem PySem.Spec PyProof.Rows L2
/-! ### tables from a head's facts -/
def hasGlo (fa : List He.Fa) (x : Str) : Bool := fa.any fun f => match f with
  | .glo y => decide (y = x)
  | _ => false
def hasCls (fa : List He.Fa) (x : Str) : Bool := fa.any fun f => match f with
  | .cls y => decide (y = x)
  | _ => false
def hasMkr (fa : List He.Fa) (x : Str) : Bool := fa.any fun f => match f with
  | .mkr y => decide (y = x)
  | _ => false
def hasMeth (fa : List He.Fa) (x m : Str) : Bool := fa.any fun f => match f with
  | .meth y z => decide (y = x) && decide (z = m)
  | _ => false
def freeOf (fa : List He.Fa) : List Str := fa.filterMap fun f => match f with
  | .free y => some y
  | _ => none
def constsOf (fa : List He.Fa) : List (Str × D) := fa.filterMap fun f => match f with
  | .int y i => some (y, .int i)
  | .str y z => some (y, .str z)
  | _ => none
def attOf (fa : List He.Fa) : List (Str × Str) := fa.filterMap fun f => match f with
  | .noat y z => if hasCls fa y then some (y, z) else none
  | _ => none
def fnsOf (fa : List He.Fa) : Nat → List He.DefD → List (Str × Nat)
  | _, [] => []
  | n, d :: ds => (match d.at_ with
    | (x, none) => if hasGlo fa x then (x, n) :: fnsOf fa (n + 1) ds else fnsOf fa (n + 1) ds
    | _ => fnsOf fa (n + 1) ds)
def clsesOf (fa : List He.Fa) : Nat → List He.DefD → List (Str × Nat)
  | _, [] => []
  | n, d :: ds => (match d.at_ with
    | (x, some m) => if decide (m = "__init__") && hasGlo fa x && hasCls fa x && hasMkr fa x then (x, n) :: clsesOf fa (n + 1) ds else clsesOf fa (n + 1) ds
    | _ => clsesOf fa (n + 1) ds)
def metOf (fa : List He.Fa) : Nat → List He.DefD → List ((Str × Str) × Nat)
  | _, [] => []
  | n, d :: ds => (match d.at_ with
    | (x, some m) => if hasCls fa x && hasMeth fa x m then ((x, m), n) :: metOf fa (n + 1) ds else metOf fa (n + 1) ds
    | _ => metOf fa (n + 1) ds)
def tabOf (fa : List He.Fa) (fn : List He.DefD) (cells : List (Nat × Nat)) : Tab := ⟨freeOf fa, constsOf fa, fnsOf fa 0 fn, clsesOf fa 0 fn, cells⟩
/-- a def's slots, its parameters, whether its new cells live on -/
structure Inf where
  N : List Str
  ps : List Str
  keep : Bool
def mkDef (T : Tab) (d : He.DefD) (v : Inf) : Option FDef :=
  if d.dfl.isEmpty && d.kwd.isEmpty && C8.scC v.N v.ps d.scope && argsC d.params v.ps then (cSs (cmpN T 60) T ⟨v.N, d.scope, fun _ => true⟩ 60 d.body).map fun b => ⟨v.ps.length, v.N.length, b, v.keep⟩ else none
def defsOf (T : Tab) : List He.DefD → List Inf → Option (List FDef)
  | [], [] => some []
  | d :: ds, v :: vs => (mkDef T d v).bind fun a => (defsOf T ds vs).map fun r => a :: r
  | _, _ => none
theorem defsOf_at {T : Tab} : ∀ {fn : List He.DefD} {vs : List Inf} {defs : List FDef} {i : Nat} {d : He.DefD}, defsOf T fn vs = some defs → fn[i]? = some d → ∃ v a, vs[i]? = some v ∧ defs[i]? = some a ∧ mkDef T d v = some a
  | [], _, _, _, _, _, h => by cases h
  | d :: ds, [], _, _, _, q, _ => by cases q
  | d :: ds, v :: vs, defs, i, d', q, h => by
    unfold defsOf at q
    obtain ⟨a, q1, q⟩ := bnd_some q
    obtain ⟨r, q2, rfl⟩ := map_some q
    cases i with
    | zero => cases h; exact ⟨v, a, rfl, rfl, q1⟩
    | succ i => exact defsOf_at (i := i) q2 h
theorem fnsOf_at {fa : List He.Fa} {x : Str} {i : Nat} : ∀ {n : Nat} {fn : List He.DefD}, (x, i) ∈ fnsOf fa n fn → ∃ k d, i = n + k ∧ fn[k]? = some d ∧ d.at_ = (x, none) ∧ hasGlo fa x = true
  | _, [], h => by cases h
  | n, d :: ds, h => by
    have up : (x, i) ∈ fnsOf fa (n + 1) ds → ∃ k d', i = n + k ∧ (d :: ds)[k]? = some d' ∧ d'.at_ = (x, none) ∧ hasGlo fa x = true := fun h => by
      obtain ⟨k, d', e, h1, h2⟩ := fnsOf_at h
      exact ⟨k + 1, d', by omega, h1, h2⟩
    unfold fnsOf at h
    split at h
    · rename_i y ha
      split at h
      · rename_i hg
        rcases List.mem_cons.mp h with e | h
        · cases e; exact ⟨0, d, rfl, rfl, ha, hg⟩
        · exact up h
      · exact up h
    · exact up h
theorem clsesOf_at {fa : List He.Fa} {x : Str} {i : Nat} : ∀ {n : Nat} {fn : List He.DefD}, (x, i) ∈ clsesOf fa n fn → ∃ k d, i = n + k ∧ fn[k]? = some d ∧ d.at_ = (x, some ("__init__" : Str)) ∧ hasGlo fa x = true ∧ hasCls fa x = true ∧ hasMkr fa x = true
  | _, [], h => by cases h
  | n, d :: ds, h => by
    have up : (x, i) ∈ clsesOf fa (n + 1) ds → ∃ k d', i = n + k ∧ (d :: ds)[k]? = some d' ∧ d'.at_ = (x, some ("__init__" : Str)) ∧ hasGlo fa x = true ∧ hasCls fa x = true ∧ hasMkr fa x = true := fun h => by
      obtain ⟨k, d', e, h1, h2⟩ := clsesOf_at h
      exact ⟨k + 1, d', by omega, h1, h2⟩
    unfold clsesOf at h
    split at h
    · rename_i y m ha
      split at h
      · rename_i hg
        simp only [Bool.and_eq_true, decide_eq_true_eq] at hg
        obtain ⟨⟨⟨h1, h2⟩, h3⟩, h4⟩ := hg
        rcases List.mem_cons.mp h with e | h
        · cases e; subst h1; exact ⟨0, d, rfl, rfl, ha, h2, h3, h4⟩
        · exact up h
      · exact up h
    · exact up h
theorem metOf_at {fa : List He.Fa} {x m : Str} {i : Nat} : ∀ {n : Nat} {fn : List He.DefD}, ((x, m), i) ∈ metOf fa n fn → ∃ k d, i = n + k ∧ fn[k]? = some d ∧ d.at_ = (x, some m) ∧ hasCls fa x = true ∧ hasMeth fa x m = true
  | _, [], h => by cases h
  | n, d :: ds, h => by
    have up : ((x, m), i) ∈ metOf fa (n + 1) ds → ∃ k d', i = n + k ∧ (d :: ds)[k]? = some d' ∧ d'.at_ = (x, some m) ∧ hasCls fa x = true ∧ hasMeth fa x m = true := fun h => by
      obtain ⟨k, d', e, h1, h2⟩ := metOf_at h
      exact ⟨k + 1, d', by omega, h1, h2⟩
    unfold metOf at h
    split at h
    · rename_i y m' ha
      split at h
      · rename_i hg
        obtain ⟨h1, h2⟩ := Bool.and_eq_true_iff.mp hg
        rcases List.mem_cons.mp h with e | h
        · cases e; exact ⟨0, d, rfl, rfl, ha, h1, h2⟩
        · exact up h
      · exact up h
    · exact up h
theorem look_mem {α β : Type} [BEq α] [LawfulBEq α] {a : α} {b : β} : ∀ {l : List (α × β)}, l.lookup a = some b → (a, b) ∈ l
  | [], h => by cases h
  | (x, y) :: r, h => by
    rw [List.lookup_cons] at h
    split at h
    · rename_i e
      cases h
      rw [eq_of_beq e]
      exact List.mem_cons_self
    · exact List.mem_cons_of_mem _ (look_mem h)
section
variable {fa : List He.Fa} {fn : List He.DefD} {K : Fr'} {cells : List (Nat × Nat)} {vs : List Inf} {defs : List FDef} {h : Heap} {mg : Str → Option Value}
theorem fact_mem (c : He.SaysD fa fn K) {f : He.Fa} (hf : f ∈ fa) : f.ok K = true := by
  obtain ⟨i, hi⟩ := List.getElem?_of_mem hf
  exact c.fact i hi
theorem glo_fact (c : He.SaysD fa fn K) {x : Str} (q : hasGlo fa x = true) : (He.Fa.glo x).ok K = true := by
  unfold hasGlo at q
  obtain ⟨f, hf, e⟩ := List.any_eq_true.mp q
  split at e
  · rw [← of_decide_eq_true e]; exact fact_mem c hf
  · cases e
theorem cls_fact (c : He.SaysD fa fn K) {x : Str} (q : hasCls fa x = true) : (He.Fa.cls x).ok K = true := by
  unfold hasCls at q
  obtain ⟨f, hf, e⟩ := List.any_eq_true.mp q
  split at e
  · rw [← of_decide_eq_true e]; exact fact_mem c hf
  · cases e
theorem mkr_fact (c : He.SaysD fa fn K) {x : Str} (q : hasMkr fa x = true) : (He.Fa.mkr x).ok K = true := by
  unfold hasMkr at q
  obtain ⟨f, hf, e⟩ := List.any_eq_true.mp q
  split at e
  · rw [← of_decide_eq_true e]; exact fact_mem c hf
  · cases e
theorem meth_fact (c : He.SaysD fa fn K) {x m : Str} (q : hasMeth fa x m = true) : (He.Fa.meth x m).ok K = true := by
  unfold hasMeth at q
  obtain ⟨f, hf, e⟩ := List.any_eq_true.mp q
  split at e
  · obtain ⟨e1, e2⟩ := Bool.and_eq_true_iff.mp e
    rw [← of_decide_eq_true e1, ← of_decide_eq_true e2]; exact fact_mem c hf
  · cases e
theorem defAt_of (c : He.SaysD fa fn K) (hd : defsOf (tabOf fa fn cells) fn vs = some defs) {P : Prg} (hP : P.defs = defs) {i : Nat} {d : He.DefD} (e : fn[i]? = some d) : ∃ fd v, vs[i]? = some v ∧ DefAt (tabOf fa fn cells) P K i (He.fAd K d.at_) fd v.ps := by
  obtain ⟨v, a, h1, h2, h3⟩ := defsOf_at hd e
  obtain ⟨fd, F⟩ := c.def_ i e
  unfold mkDef at h3
  obtain ⟨hk, h3⟩ := if_some h3
  obtain ⟨b, h4, rfl⟩ := map_some h3
  simp only [Bool.and_eq_true, List.isEmpty_iff] at hk
  obtain ⟨⟨⟨k1, k2⟩, k3⟩, k4⟩ := hk
  have d1 : d.dvs K = [] := by unfold He.DefD.dvs; rw [k1]; rfl
  have d2 : d.kws K = [] := by unfold He.DefD.kws; rw [k2]; rfl
  rw [d1, d2] at F
  refine ⟨fd, v, h1, ⟨_, _, _, _, _, v.N, _, 60, by rw [hP]; exact h2, F, C8.fnScope_by k3, h4, rfl, rfl, k4⟩⟩
theorem facts_of (c : He.SaysD fa fn K) (X : K.In h) (G : h.Ns mainGlobals mg) (hd : defsOf (tabOf fa fn cells) fn vs = some defs) : Facts (tabOf fa fn cells) ⟨defs, metOf fa 0 fn, attOf fa⟩ K mg := by
  refine ⟨fun x q => ?_, fun x d q => ?_, fun x i q => ?_, fun x i q => ?_, fun cn m i q => ?_, fun cn f q => ?_⟩
  · have q' : (freeOf fa).contains x = true := q
    have q : x ∈ freeOf fa := by simpa using q'
    obtain ⟨f, hf, e⟩ := List.mem_filterMap.mp q
    split at e
    · cases e; exact He.free_ok X G (fact_mem c hf)
    · cases e
  · obtain ⟨f, hf, e⟩ := List.mem_filterMap.mp (PySem.mem_of_lookup q)
    split at e
    · cases e
      obtain ⟨t, ht⟩ := He.int_ok X G (fact_mem c hf)
      exact ⟨_, .int _, ht, ⟨t, rfl⟩, fun _ _ => int_rep _⟩
    · cases e
      obtain ⟨t, ht⟩ := He.str_ok X G (fact_mem c hf)
      exact ⟨_, .str _, ht, ⟨t, rfl⟩, fun _ _ => str_rep _⟩
    · cases e
  · obtain ⟨k, d, e, h1, h2, h3⟩ := fnsOf_at (PySem.mem_of_lookup q)
    obtain rfl : i = k := by omega
    obtain ⟨fd, v, h4, h5⟩ := defAt_of (P := ⟨defs, metOf fa 0 fn, attOf fa⟩) c hd rfl h1
    rw [h2] at h5
    exact ⟨_, fd, v.ps, h5, He.glo_ok X G (glo_fact c h3)⟩
  · obtain ⟨k, d, e, h1, h2, h3, h4, h5⟩ := clsesOf_at (PySem.mem_of_lookup q)
    obtain rfl : i = k := by omega
    obtain ⟨fd, v, h6, h7⟩ := defAt_of (P := ⟨defs, metOf fa 0 fn, attOf fa⟩) c hd rfl h1
    rw [h2] at h7
    exact ⟨_, fd, v.ps, h7, He.mkr_ok (mkr_fact c h5), He.cls_ok (cls_fact c h4), He.glo_ok X G (glo_fact c h3)⟩
  · obtain ⟨k, d, e, h1, h2, h3, h4⟩ := metOf_at (look_mem q)
    obtain rfl : i = k := by omega
    obtain ⟨fd, v, h6, h7⟩ := defAt_of (P := ⟨defs, metOf fa 0 fn, attOf fa⟩) c hd rfl h1
    rw [h2] at h7
    exact ⟨_, fd, v.ps, h7, He.cls_ok (cls_fact c h3), He.meth_ok (meth_fact c h4)⟩
  · have q' : (attOf fa).contains (cn, f) = true := q
    have q : (cn, f) ∈ attOf fa := by simpa using q'
    obtain ⟨f, hf, e⟩ := List.mem_filterMap.mp q
    split at e
    · obtain ⟨hc, e⟩ := if_some e
      cases e
      exact ⟨He.cls_ok (cls_fact c hc), He.noat_ok (fact_mem c hf)⟩
    · cases e
/-- the law's promise -/
theorem law_sp {K : Fr'} {f : List D → Mem → Res D} {H : Hp} {a : Addr} {ns : List Int} (hl : ns.length ≤ sizeLine) (hO : Only H) (hS : SqL K H a (ns.map V.int)) (h : ∃ m', f [.scr (ns.map .int)] [] = .ok (.bl true) m') :
    spD K f [.ref a] H (fun v _ => v = .bl true) fun _ _ _ => False := by
  obtain ⟨m', e⟩ := h
  refine ⟨⟨fun _ => none, fun _ => False⟩, [], [.scr (ns.map .int)], .bl true, m', ⟨fun _ _ => rfl, fun n c e => by simp at e, fun _ _ _ e => (nomatch e), fun _ r => r.elim⟩, .cons ?_ .nil, e, fun g' H' w t R p => rep_bl p⟩
  rw [Rep]
  refine ⟨a, ns.map V.int, rfl, ?_, by rw [List.length_map]; exact hl, ?_⟩
  · rcases hS with (h | h) | h
    · rcases hO a with q | ⟨o, xs, q⟩
      · rw [h] at q; cases q
      · rw [h] at q; cases q
    · exact .inl h
    · exact .inr h
  · have : ∀ {g : Sg} {ns : List Int}, Reps K g H (ns.map D.int) (ns.map V.int) := by
      intro g ns
      induction ns with
      | nil => exact .nil
      | cons n ns ih => exact .cons (int_rep _) ih
    exact this
/-- THE END: a law from its answer by the evaluator -/
theorem walk_D {l : PySem.W.OpenLaw} {n k turns i : Nat} {q : Program} {loose : List Str} {XP : (Str → Option Value) → Heap → Prop} {YP : World → Heap → Prop} {d : DefRec} {v : Inf} {x : Str}
    (hn : l.most = some n) (hn2 : n ≤ sizeLine) (hdf : d.params.defaults = []) (hr : Room (2 * k) callerA)
    (hY : ∀ (w : World) (h : Heap), YP w h → ∃ K : Fr', K.In h ∧ He.SaysD fa fn K)
    (hd : defsOf (tabOf fa fn cells) fn vs = some defs) (hf : (tabOf fa fn cells).fns.lookup d.name = some i) (hv : vs[i]? = some v) (hx : v.ps = [x])
    (hlaw : ∀ ns : List Int, ns.length ≤ n → (∀ z ∈ ns, Builtin.Int.intBits z ≤ 1048576) → ∃ m', callF ⟨defs, metOf fa 0 fn, attOf fa⟩ turns k i [.scr (ns.map .int)] [] = .ok (.bl true) m') :
    PySem.W.WalkO q loose XP YP l.row.toRowW d [] (fun f vs => PySem.call f vs) := by
  refine Att.attach_callB hn hdf fun w s₀ s₁ mg mb fa' o pm cd doc a us ns G Y ho hdd hcd hmg hobj hints hlen hbits hg => ?_
  obtain ⟨K, KX, c⟩ := hY w _ Y
  have Fc := facts_of (cells := cells) c KX G.T.g hd
  obtain ⟨f, fd, ps, h1, h2⟩ := Fc.fns d.name i hf
  have e := hmg.symm.trans h2
  cases e
  obtain ⟨k', d', e, z1, z2, z3⟩ := fnsOf_at (PySem.mem_of_lookup hf)
  obtain rfl : i = k' := by omega
  obtain ⟨fd2, v2, h4, h5⟩ := defAt_of (P := ⟨defs, metOf fa 0 fn, attOf fa⟩) c hd rfl z1
  rw [z2] at h5
  have hga : He.fAd K (d.name, none) = fa' := by
    have := He.glo_ok KX G.T.g (glo_fact c z3)
    have := this.symm.trans hmg
    cases this
    rfl
  rw [hga] at h5
  rw [hv] at h4
  cases h4
  rw [hx] at h5
  have hb : ∀ (s : Shared) (u : Value), BindsTo s fd2 ⟨[u], []⟩ [(x, u)] := fun s u => by
    obtain ⟨_, _, _, _, _, _, _, _, g1, g2, g3, g4, g5, g6, g7⟩ := h5.ex
    exact g2.bindsA (bind_plain g7) s [u] rfl
  exact law_call KX G.T.g G.T.b G.T.builtins G.T.nolimit hg hobj hints (Nat.le_trans hlen hn2) hr (fun base KB GB => all_ok (facts_of (cells := cells) c KB GB hd) k h5) hb
    (fun H hO hS => law_sp (Nat.le_trans hlen hn2) hO hS (hlaw ns hlen hbits)) fun H e s' z => z
end
end Rf
namespace Rf
open PySem
/-! ### the evaluator by equations -/
@[simp] theorem LIM_eq : LIM = 1000000 := rfl
/-- by a bool -/
def boolR {α : Type} (x : D) (a b : Res α) : Res α := match x with
  | .bl true => a
  | .bl false => b
  | _ => .no
@[simp] theorem condR_some {α : Type} {k : Bool} {a b : Res α} : condR (some k) a b = if k = true then a else b := by cases k <;> rfl
@[simp] theorem boolR_bl {α : Type} {k : Bool} {a b : Res α} : boolR (.bl k) a b = if k = true then a else b := by cases k <;> rfl
@[simp] theorem ite_andD {p : Prop} [Decidable p] {c : Bool} {m : Mem} : (if p then Res.ok (D.bl c) m else Res.ok (D.bl false) m) = Res.ok (D.bl (decide p && c)) m := by by_cases h : p <;> simp [h]
@[simp] theorem ite_orD {p : Prop} [Decidable p] {c : Bool} {m : Mem} : (if p then Res.ok (D.bl true) m else Res.ok (D.bl c) m) = Res.ok (D.bl (decide p || c)) m := by by_cases h : p <;> simp [h]
@[simp] theorem ite_andT {p : Prop} [Decidable p] {c : Bool} {m : Mem} : (if p then Res.ok c m else Res.ok false m) = Res.ok (decide p && c) m := by by_cases h : p <;> simp [h]
@[simp] theorem ite_orT {p : Prop} [Decidable p] {c : Bool} {m : Mem} : (if p then Res.ok true m else Res.ok c m) = Res.ok (decide p || c) m := by by_cases h : p <;> simp [h]
section
variable {X : Fx} {r : Env} {m : Mem}
@[simp] theorem evE_const {d : D} : evE X (.const d) r m = .ok d m := by rw [evE]
@[simp] theorem evE_var {i : Nat} : evE X (.var i) r m = (match r[i]? with
    | some (some d) => .ok d m
    | _ => .no) := by rw [evE] <;> rfl
@[simp] theorem evE_tup {es : Es} : evE X (.tup es) r m = (evEs X es r m).bind fun ds m1 => if ds.length ≤ LIM then .ok (.tup ds) m1 else .no := by rw [evE]
@[simp] theorem evE_lst {c : Bool} {es : Es} : evE X (.lst c es) r m = (evEs X es r m).bind fun ds m1 => if ds.length ≤ LIM then newL c ds m1 else .no := by rw [evE]
@[simp] theorem evE_bin {op : BOp} {a b : E} : evE X (.bin op a b) r m = (evE X a r m).bind fun x m1 => (evE X b r m1).bind fun y m2 => .of (bin op x y m2) m2 := by rw [evE]
@[simp] theorem evE_rep {c : Bool} {a b : E} : evE X (.rep c a b) r m = (evE X a r m).bind fun x m1 => (evE X b r m1).bind fun y m2 => (match rep x y m2 with
    | some ds => newL c ds m2
    | none => .no) := by rw [evE] <;> rfl
@[simp] theorem evE_neg {a : E} : evE X (.neg a) r m = (evE X a r m).bind fun x m1 => (match x with
    | .int i => .ok (.int (-i)) m1
    | _ => .no) := by rw [evE] <;> rfl
@[simp] theorem evE_cmp {op : COp} {a b : E} : evE X (.cmp op a b) r m = (evE X a r m).bind fun x m1 => (evE X b r m1).bind fun y m2 => .of ((cmp op x y m2).map .bl) m2 := by rw [evE]
@[simp] theorem evE_chain {op op2 : COp} {a b c : E} : evE X (.chain op op2 a b c) r m = (evE X a r m).bind fun x m1 => (evE X b r m1).bind fun y m2 => condR (cmp op x y m2) ((evE X c r m2).bind fun z m3 => .of ((cmp op2 y z m3).map .bl) m3) (.ok (.bl false) m2) := by rw [evE] <;> rfl
@[simp] theorem evE_and {a b : E} : evE X (.and a b) r m = (evE X a r m).bind fun x m1 => boolR x (evE X b r m1) (.ok (.bl false) m1) := by rw [evE] <;> rfl
@[simp] theorem evE_or {a b : E} : evE X (.or a b) r m = (evE X a r m).bind fun x m1 => boolR x (.ok (.bl true) m1) (evE X b r m1) := by rw [evE] <;> rfl
@[simp] theorem evE_not {a : E} : evE X (.not a) r m = (evE X a r m).bind fun x m1 => (match x with
    | .bl b => .ok (.bl (!b)) m1
    | _ => .no) := by rw [evE] <;> rfl
@[simp] theorem evE_ite {t : T} {a b : E} : evE X (.ite t a b) r m = (evT X t r m).bind fun k m1 => if k = true then evE X a r m1 else evE X b r m1 := by rw [evE]
@[simp] theorem evE_idx {a b : E} : evE X (.idx a b) r m = (evE X a r m).bind fun x m1 => (evE X b r m1).bind fun y m2 => .of (idx x y m2) m2 := by rw [evE]
@[simp] theorem evE_slice {a : E} {lo hi : O} : evE X (.slice a lo hi) r m = (evE X a r m).bind fun x m1 => (evO X lo r m1).bind fun l m2 => (evO X hi r m2).bind fun h m3 => .of (slice x l h m3) m3 := by rw [evE]
@[simp] theorem evE_rev {a : E} : evE X (.rev a) r m = (evE X a r m).bind fun x m1 => .of ((lstOf m1 x).map fun xs => .lst xs.reverse) m1 := by rw [evE]
@[simp] theorem evE_call {f : Nat} {es : Es} : evE X (.call f es) r m = (evEs X es r m).bind fun ds m1 => X.call f ds m1 := by rw [evE]
@[simp] theorem evE_make {c : Str} {f : Nat} {es : Es} : evE X (.make c f es) r m = (evEs X es r m).bind fun ds m1 => (X.call f (.obj m1.length :: ds) (m1 ++ [.ins c []])).bind fun v m2 => (match v with
    | .non => .ok (.obj m1.length) m2
    | _ => .no) := by rw [evE] <;> rfl
@[simp] theorem evE_meth {mn : Str} {o : E} {es : Es} : evE X (.meth mn o es) r m = (evE X o r m).bind fun x m1 => (match clsOf m1 x with
    | some (c, fs) => if fs.lookup mn = none then (match X.meth c mn with
      | some f => (evEs X es r m1).bind fun ds m2 => X.call f (x :: ds) m2
      | none => .no) else .no
    | none => .no) := by rw [evE] <;> rfl
@[simp] theorem evE_prim {p : Prim} {es : Es} : evE X (.prim p es) r m = (evEs X es r m).bind fun ds m1 => .of (prim p ds m1) m1 := by rw [evE]
@[simp] theorem evE_isi {a : E} {t : Ty} : evE X (.isi a t) r m = (evE X a r m).bind fun x m1 => .of ((isTy m1 x t).map .bl) m1 := by rw [evE]
@[simp] theorem evE_list {c : Bool} {a : E} : evE X (.list c a) r m = (evE X a r m).bind fun x m1 => (match seqOf m1 x with
    | some ds => newL c ds m1
    | none => .no) := by rw [evE] <;> rfl
@[simp] theorem evE_listR {c : Bool} {lo hi : E} : evE X (.listR c lo hi) r m = (evE X lo r m).bind fun x m1 => (evE X hi r m1).bind fun y m2 => (match rangeS x y with
    | some ds => newL c ds m2
    | none => .no) := by rw [evE] <;> rfl
@[simp] theorem evE_tupR {lo hi : E} : evE X (.tupR lo hi) r m = (evE X lo r m).bind fun x m1 => (evE X hi r m1).bind fun y m2 => .of ((rangeS x y).map .tup) m2 := by rw [evE]
@[simp] theorem evE_append {o e : E} : evE X (.append o e) r m = (evE X o r m).bind fun x m1 => if (lstOf m1 x).isSome = true then (evE X e r m1).bind fun y m2 => addTo x y m2 else .no := by rw [evE]
@[simp] theorem evE_index {o e : E} : evE X (.index o e) r m = (evE X o r m).bind fun x m1 => if (lstOf m1 x).isSome = true then (evE X e r m1).bind fun y m2 => .of (placeOf m2 x y) m2 else .no := by rw [evE]
@[simp] theorem evE_attr {o : E} {f : Str} : evE X (.attr o f) r m = (evE X o r m).bind fun x m1 => .of (fldOf m1 x f) m1 := by rw [evE]
@[simp] theorem evE_comp {c : Bool} {elt : E} {g : G} {it : I} {cond : T} {own : List Nat} : evE X (.comp c elt g it cond own) r m = compE c (evI X it) g own (evT X cond) (evE X elt) r m := by rw [evE]; rfl
@[simp] theorem evE_chn {a : E} {c : Ch} : evE X (.chn a c) r m = (evE X a r m).bind fun x m1 => (evC X c x r m1).bind fun k m2 => .ok (.bl k) m2 := by rw [evE]
@[simp] theorem evT_chn {a : E} {c : Ch} : evT X (.chn a c) r m = (evE X a r m).bind fun x m1 => evC X c x r m1 := by rw [evT]
@[simp] theorem evC_last {op : COp} {e : E} {x : D} : evC X (.last op e) x r m = (evE X e r m).bind fun y m1 => .of (cmp op x y m1) m1 := by rw [evC]
@[simp] theorem evC_link {op : COp} {e : E} {c : Ch} {x : D} : evC X (.link op e c) x r m = (evE X e r m).bind fun y m1 => condR (cmp op x y m1) (evC X c y r m1) (.ok false m1) := by rw [evC]
@[simp] theorem evEs_nil : evEs X .nil r m = .ok [] m := by rw [evEs]
@[simp] theorem evEs_cons {e : E} {es : Es} : evEs X (.cons e es) r m = (evE X e r m).bind fun x m1 => (evEs X es r m1).bind fun xs m2 => .ok (x :: xs) m2 := by rw [evEs]
@[simp] theorem evO_none : evO X .none r m = .ok none m := by rw [evO]
@[simp] theorem evO_some {e : E} : evO X (.some e) r m = (evE X e r m).bind fun x m1 => (match x with
    | .int i => .ok (some i) m1
    | _ => .no) := by rw [evO] <;> rfl
@[simp] theorem evT_tru : evT X .tru r m = .ok true m := by rw [evT]
@[simp] theorem evT_val {e : E} : evT X (.val e) r m = (evE X e r m).bind fun x m1 => .of (truth m1 x) m1 := by rw [evT]
@[simp] theorem evT_and {a b : T} : evT X (.and a b) r m = (evT X a r m).bind fun k m1 => if k = true then evT X b r m1 else .ok false m1 := by rw [evT]
@[simp] theorem evT_or {a b : T} : evT X (.or a b) r m = (evT X a r m).bind fun k m1 => if k = true then .ok true m1 else evT X b r m1 := by rw [evT]
@[simp] theorem evT_not {a : T} : evT X (.not a) r m = (evT X a r m).bind fun k m1 => .ok (!k) m1 := by rw [evT]
@[simp] theorem evT_cmp {op : COp} {a b : E} : evT X (.cmp op a b) r m = (evE X a r m).bind fun x m1 => (evE X b r m1).bind fun y m2 => .of (cmp op x y m2) m2 := by rw [evT]
@[simp] theorem evT_chain {op op2 : COp} {a b c : E} : evT X (.chain op op2 a b c) r m = (evE X a r m).bind fun x m1 => (evE X b r m1).bind fun y m2 => condR (cmp op x y m2) ((evE X c r m2).bind fun z m3 => .of (cmp op2 y z m3) m3) (.ok false m2) := by rw [evT] <;> rfl
@[simp] theorem evI_ex {e : E} : evI X (.ex e) r m = (evE X e r m).bind fun x m1 => .of (srcOf m1 x) m1 := by rw [evI]
@[simp] theorem evI_range1 {a : E} : evI X (.range1 a) r m = (evE X a r m).bind fun x m1 => .of ((rangeS (.int 0) x).map fun xs => ⟨xs, []⟩) m1 := by rw [evI]
@[simp] theorem evI_range2 {a b : E} : evI X (.range2 a b) r m = (evE X a r m).bind fun x m1 => (evE X b r m1).bind fun y m2 => .of ((rangeS x y).map fun xs => ⟨xs, []⟩) m2 := by rw [evI]
@[simp] theorem evI_enum {e : E} : evI X (.enum e) r m = (evE X e r m).bind fun x m1 => .of ((seqSrc m1 x).map fun s => ⟨enumL s.items, s.guard⟩) m1 := by rw [evI]
@[simp] theorem evI_zip {a b : E} : evI X (.zip a b) r m = (evE X a r m).bind fun x m1 => (evE X b r m1).bind fun y m2 => zipS x y m2 := by rw [evI]
/-- a for's turn -/
noncomputable def turnF (X : Fx) (g : G) (body : Ss) : D → Env → Mem → Res (Flow × Env) := fun x r2 m2 => (match bindG g x r2 with
    | some r3 => evSs X body r3 m2
    | none => .no)
@[simp] theorem evS_pass : evS X .pass r m = .ok (.next, r) m := by rw [evS]
@[simp] theorem evS_brk : evS X .brk r m = .ok (.brk, r) m := by rw [evS]
@[simp] theorem evS_cont : evS X .cont r m = .ok (.cont, r) m := by rw [evS]
@[simp] theorem evS_retN : evS X .retN r m = .ok (.ret .non, r) m := by rw [evS]
@[simp] theorem evS_ret {e : E} : evS X (.ret e) r m = (evE X e r m).bind fun d m1 => .ok (.ret d, r) m1 := by rw [evS]
@[simp] theorem evS_expr {e : E} : evS X (.expr e) r m = (evE X e r m).bind fun _ m1 => .ok (.next, r) m1 := by rw [evS]
@[simp] theorem evS_asg {g : G} {e : E} : evS X (.asg g e) r m = (evE X e r m).bind fun d m1 => (match bindG g d r with
    | some r' => .ok (.next, r') m1
    | none => .no) := by rw [evS] <;> rfl
@[simp] theorem evS_par2 {i j : Nat} {a b : E} : evS X (.par2 i j a b) r m = (evE X a r m).bind fun x m1 => (evE X b r m1).bind fun y m2 => if i < r.length ∧ j < r.length then .ok (.next, (r.set i (some x)).set j (some y)) m2 else .no := by rw [evS]
@[simp] theorem evS_par3 {i j k : Nat} {a b c : E} : evS X (.par3 i j k a b c) r m = (evE X a r m).bind fun x m1 => (evE X b r m1).bind fun y m2 => (evE X c r m2).bind fun z m3 => if i < r.length ∧ j < r.length ∧ k < r.length then .ok (.next, ((r.set i (some x)).set j (some y)).set k (some z)) m3 else .no := by rw [evS]
def augD (r : Env) (i : Nat) (x : D) (z : Option D) (m : Mem) : Res (Flow × Env) := match z, x with
      | some z, .int _ => .ok (.next, r.set i (some z)) m
      | some z, .str _ => .ok (.next, r.set i (some z)) m
      | _, _ => .no
@[simp] theorem augD_int {i : Nat} {j : Int} {z : D} : augD r i (.int j) (some z) m = .ok (.next, r.set i (some z)) m := rfl
@[simp] theorem augD_str {i : Nat} {j : Str} {z : D} : augD r i (.str j) (some z) m = .ok (.next, r.set i (some z)) m := rfl
@[simp] theorem evS_aug {i : Nat} {op : BOp} {e : E} : evS X (.aug i op e) r m = (match r[i]? with
    | some (some x) => (evE X e r m).bind fun y m1 => augD r i x (bin op x y m1) m1
    | _ => .no) := by rw [evS] <;> rfl
/-- o[i] = v -/
def setI (r : Env) (v x y : D) (m3 : Mem) : Res (Flow × Env) := (match x, y with
    | .obj n, .int k => (match m3[n]? with
      | some (.lst xs) => (match place xs.length k with
        | some j => .ok (.next, r) (m3.set n (.lst (xs.set j v)))
        | none => .no)
      | _ => .no)
    | _, _ => .no)
@[simp] theorem setI_obj {r : Env} {v : D} {n : Nat} {k : Int} {m3 : Mem} : setI r v (.obj n) (.int k) m3 = (match m3[n]? with
      | some (.lst xs) => (match place xs.length k with
        | some j => .ok (.next, r) (m3.set n (.lst (xs.set j v)))
        | none => .no)
      | _ => .no) := rfl
@[simp] theorem evS_setI {o i e : E} : evS X (.setI o i e) r m = (evE X e r m).bind fun v m1 => (evE X o r m1).bind fun x m2 => (evE X i r m2).bind fun y m3 => setI r v x y m3 := by rw [evS] <;> rfl
def setF (X : Fx) (r : Env) (f : Str) (v x : D) (m2 : Mem) : Res (Flow × Env) := (match x with
    | .obj n => (match m2[n]? with
      | some (.ins c fs) => if fs.length < 900 ∧ X.attr c f = true then .ok (.next, r) (m2.set n (.ins c (putD f v fs))) else .no
      | _ => .no)
    | _ => .no)
@[simp] theorem evS_setF {o e : E} {f : Str} : evS X (.setF o f e) r m = (evE X e r m).bind fun v m1 => (evE X o r m1).bind fun x m2 => setF X r f v x m2 := by rw [evS] <;> rfl
@[simp] theorem evS_augF {o e : E} {f : Str} : evS X (.augF o f e) r m = (evE X o r m).bind fun x m1 => (match fldOf m1 x f with
    | some (.int i) => (evE X e r m1).bind fun y m2 => augTo m1 m2 x f i y r
    | _ => .no) := by rw [evS] <;> rfl
@[simp] theorem evS_ite {t : T} {a b : Ss} : evS X (.ite t a b) r m = (evT X t r m).bind fun k m1 => if k = true then evSs X a r m1 else evSs X b r m1 := by rw [evS]
@[simp] theorem evS_loop {g : G} {it : I} {body : Ss} : evS X (.loop g it body) r m = (evI X it r m).bind fun s m1 => forF s.guard (turnF X g body) s.items r m1 := by rw [evS]; rfl
@[simp] theorem evS_while {t : T} {body : Ss} : evS X (.while t body) r m = whileF (evT X t) (evSs X body) X.turns r m := by rw [evS]
@[simp] theorem evSs_nil : evSs X .nil r m = .ok (.next, r) m := by rw [evSs]
/-- behind a statement -/
noncomputable def thenS (X : Fx) (ss : Ss) (fr : Flow × Env) (m1 : Mem) : Res (Flow × Env) := match fr.1 with
    | .next => evSs X ss fr.2 m1
    | f => .ok (f, fr.2) m1
@[simp] theorem evSs_cons {s : S} {ss : Ss} : evSs X (.cons s ss) r m = (evS X s r m).bind (thenS X ss) := by rw [evSs]; rfl
@[simp] theorem thenS_next {ss : Ss} : thenS X ss (.next, r) m = evSs X ss r m := rfl
@[simp] theorem thenS_ret {ss : Ss} {d : D} : thenS X ss (.ret d, r) m = .ok (.ret d, r) m := rfl
@[simp] theorem thenS_brk {ss : Ss} : thenS X ss (.brk, r) m = .ok (.brk, r) m := rfl
@[simp] theorem thenS_cont {ss : Ss} : thenS X ss (.cont, r) m = .ok (.cont, r) m := rfl
end
/-! ### operations by equations -/
section
variable {m : Mem}
@[simp] theorem bin_addI' (i j : Int) : bin .add (.int i) (.int j) m = some (.int (i + j)) := rfl
@[simp] theorem bin_subI' (i j : Int) : bin .sub (.int i) (.int j) m = some (.int (i - j)) := rfl
@[simp] theorem bin_addS' (x y : Str) : bin .add (.str x) (.str y) m = if x.length + y.length ≤ LIM then some (.str (x ++ y)) else none := rfl
@[simp] theorem bin_addT' (xs ys : List D) : bin .add (.tup xs) (.tup ys) m = if xs.length + ys.length ≤ LIM then some (.tup (xs ++ ys)) else none := rfl
@[simp] theorem bin_addL' (xs ys : List D) : bin .add (.lst xs) (.lst ys) m = if xs.length + ys.length ≤ LIM then some (.lst (xs ++ ys)) else none := rfl
theorem mulOk_of {i j : Int} (h : i.natAbs < 2 ^ 64 ∨ j.natAbs < 2 ^ 64) : mulOk i j = true := by
  unfold mulOk
  rcases h with h | h <;> simp [h]
theorem bin_mulI' {i j : Int} (h : i.natAbs < 2 ^ 64 ∨ j.natAbs < 2 ^ 64) : bin .mul (.int i) (.int j) m = some (.int (i * j)) := by rw [bin_mulI, if_pos (mulOk_of h)]
theorem bin_divI' {i j : Int} (h0 : 0 < j) (h1 : j < 1073741824) : bin .div (.int i) (.int j) m = some (.int (i / j)) := by
  have : divOk j = true := by
    unfold divOk
    have a : j ≠ 0 := by omega
    have b : j.natAbs < 1073741824 := by omega
    simp [a, b]
  rw [bin_divI, if_pos this, Int.fdiv_eq_ediv_of_nonneg _ (by omega)]
theorem bin_modI' {i j : Int} (h0 : 0 < j) : bin .mod (.int i) (.int j) m = some (.int (i % j)) := by
  rw [bin_modI, if_pos (by omega), Int.fmod_eq_emod_of_nonneg _ (by omega)]
@[simp] theorem cmp_eqI (i j : Int) : cmp .eq (.int i) (.int j) m = some (i == j) := rfl
@[simp] theorem cmp_neI (i j : Int) : cmp .ne (.int i) (.int j) m = some (!(i == j)) := rfl
@[simp] theorem cmp_eqS (i j : Str) : cmp .eq (.str i) (.str j) m = some (i == j) := rfl
@[simp] theorem cmp_neS (i j : Str) : cmp .ne (.str i) (.str j) m = some (!(i == j)) := rfl
@[simp] theorem cmp_eqB (i j : Bool) : cmp .eq (.bl i) (.bl j) m = some (i == j) := rfl
@[simp] theorem cmp_neB (i j : Bool) : cmp .ne (.bl i) (.bl j) m = some (!(i == j)) := rfl
@[simp] theorem cmp_lt (i j : Int) : cmp .lt (.int i) (.int j) m = some (decide (i < j)) := rfl
@[simp] theorem cmp_le (i j : Int) : cmp .le (.int i) (.int j) m = some (decide (i ≤ j)) := rfl
@[simp] theorem cmp_gt (i j : Int) : cmp .gt (.int i) (.int j) m = some (decide (j < i)) := rfl
@[simp] theorem cmp_ge (i j : Int) : cmp .ge (.int i) (.int j) m = some (decide (j ≤ i)) := rfl
@[simp] theorem truth_bl (b : Bool) : truth m (.bl b) = some b := rfl
@[simp] theorem truth_int (i : Int) : truth m (.int i) = some (i != 0) := rfl
@[simp] theorem truth_non : truth m .non = some false := rfl
@[simp] theorem truth_tup (xs : List D) : truth m (.tup xs) = some (!xs.isEmpty) := rfl
@[simp] theorem truth_lst (xs : List D) : truth m (.lst xs) = some (!xs.isEmpty) := rfl
@[simp] theorem seqOf_tup (xs : List D) : seqOf m (.tup xs) = some xs := rfl
@[simp] theorem seqOf_lst (xs : List D) : seqOf m (.lst xs) = some xs := rfl
@[simp] theorem seqOf_scr (xs : List D) : seqOf m (.scr xs) = some xs := rfl
@[simp] theorem lstOf_lst (xs : List D) : lstOf m (.lst xs) = some xs := rfl
@[simp] theorem lstOf_tup (xs : List D) : lstOf m (.tup xs) = none := rfl
@[simp] theorem idx_tup (xs : List D) (i : Int) : idx (.tup xs) (.int i) m = nth xs i := rfl
@[simp] theorem idx_lst (xs : List D) (i : Int) : idx (.lst xs) (.int i) m = nth xs i := rfl
@[simp] theorem idx_scr (xs : List D) (i : Int) : idx (.scr xs) (.int i) m = nth xs i := rfl
theorem seqOf_obj {n : Nat} {xs : List D} (h : m[n]? = some (.lst xs)) : seqOf m (.obj n) = some xs := by
  show (match m[n]? with | some (Cell.lst xs) => some xs | _ => none) = _
  rw [h]
theorem lstOf_obj {n : Nat} {xs : List D} (h : m[n]? = some (.lst xs)) : lstOf m (.obj n) = some xs := by
  show (match m[n]? with | some (Cell.lst xs) => some xs | _ => none) = _
  rw [h]
theorem idx_obj {n : Nat} {xs : List D} (h : m[n]? = some (.lst xs)) (i : Int) : idx (.obj n) (.int i) m = nth xs i := by
  have : seqOf m (.obj n) = some xs := seqOf_obj h
  show (match seqOf m (.obj n) with | some xs => nth xs i | none => none) = _
  rw [this]
@[simp] theorem nth_lit {xs : List D} {n : Nat} : nth xs (n : Int) = xs[n]? := by
  show (L2.ixN xs.length n).bind _ = _
  unfold L2.ixN
  rw [if_pos (by omega)]
  by_cases h : n < xs.length
  · rw [if_pos (by omega)]; rfl
  · rw [if_neg (by omega), List.getElem?_eq_none (by omega)]; rfl
@[simp] theorem nth_zero {xs : List D} : nth xs 0 = xs[0]? := nth_lit (n := 0)
@[simp] theorem nth_one {xs : List D} : nth xs 1 = xs[1]? := nth_lit (n := 1)
@[simp] theorem nth_ofNat {xs : List D} {n : Nat} : nth xs (no_index (OfNat.ofNat n : Int)) = xs[n]? := nth_lit (n := n)
@[simp] theorem nth_m1 {xs : List D} : nth xs (-1) = xs.getLast? := by
  rw [List.getLast?_eq_getElem?]
  by_cases h : xs.length = 0
  · have : xs = [] := List.length_eq_zero_iff.mp h
    subst this; rfl
  · have e : L2.ixN xs.length (-1) = some (xs.length - 1) := by
      unfold L2.ixN
      rw [if_neg (by omega), if_pos (by omega)]
      congr 1; omega
    show (L2.ixN xs.length (-1)).bind _ = _
    rw [e]; rfl
@[simp] theorem place_nat {n i : Nat} : place n (i : Int) = if i < n then some i else none := by
  show L2.ixN n i = _
  unfold L2.ixN
  rw [if_pos (by omega)]
  by_cases h : i < n
  · rw [if_pos (by omega), if_pos h]; rfl
  · rw [if_neg (by omega), if_neg h]
@[simp] theorem place_zero {n : Nat} : place n 0 = if 0 < n then some 0 else none := place_nat (i := 0)
@[simp] theorem place_one {n : Nat} : place n 1 = if 1 < n then some 1 else none := place_nat (i := 1)
@[simp] theorem place_ofNat {n i : Nat} : place n (no_index (OfNat.ofNat i : Int)) = if i < n then some i else none := place_nat (i := i)
@[simp] theorem seqOf_obj' {n : Nat} : seqOf m (.obj n) = (match m[n]? with
    | some (Cell.lst xs) => some xs
    | _ => none) := rfl
@[simp] theorem lstOf_obj' {n : Nat} : lstOf m (.obj n) = (match m[n]? with
    | some (Cell.lst xs) => some xs
    | _ => none) := rfl
@[simp] theorem idx_obj' {n : Nat} {i : Int} : idx (.obj n) (.int i) m = (seqOf m (.obj n)).bind fun xs => nth xs i := by
  show (match seqOf m (.obj n) with | some xs => nth xs i | none => none) = _
  cases seqOf m (.obj n) <;> rfl
@[simp] theorem prim_len_obj' {n : Nat} : prim .len [.obj n] m = (seqOf m (.obj n)).map fun xs => .int xs.length := rfl
@[simp] theorem sIx_none' {n d : Nat} : HT.sIx n d none = d := rfl
@[simp] theorem sIx_nat' {n d k : Nat} : HT.sIx n d (some (k : Int)) = min k n := by
  show (if (k : Int) < 0 then ((k : Int) + (n : Int)).toNat else min (k : Int).toNat n) = min k n
  rw [if_neg (by omega), Int.toNat_natCast]
@[simp] theorem sIx_zero {n d : Nat} : HT.sIx n d (some 0) = 0 := by rw [show (0 : Int) = ((0 : Nat) : Int) from rfl, sIx_nat']; omega
@[simp] theorem sIx_one {n d : Nat} : HT.sIx n d (some 1) = min 1 n := sIx_nat' (k := 1)
@[simp] theorem sIx_ofNat {n d k : Nat} : HT.sIx n d (some (no_index (OfNat.ofNat k : Int))) = min k n := sIx_nat' (k := k)
@[simp] theorem sIx_m1 {n d : Nat} : HT.sIx n d (some (-1)) = n - 1 := by
  show (if (-1 : Int) < 0 then ((-1 : Int) + (n : Int)).toNat else min (-1 : Int).toNat n) = n - 1
  rw [if_pos (by decide)]; omega
theorem cut_tail {xs : List D} : cut xs (some 1) none = xs.tail := by
  unfold cut
  rw [sIx_one, sIx_none']
  cases xs with
  | nil => rfl
  | cons x xs =>
    rw [show min 1 (x :: xs).length = 1 by rw [List.length_cons]; omega, List.drop_one, List.tail_cons, List.take_of_length_le (by rw [List.length_cons]; omega)]
theorem cut_init {xs : List D} : cut xs none (some (-1)) = xs.dropLast := by
  unfold cut
  rw [sIx_m1, sIx_none', List.drop_zero, List.dropLast_eq_take, Nat.sub_zero]
theorem cut_take {xs : List D} {k : Nat} : cut xs none (some (k : Int)) = xs.take k := by
  unfold cut
  rw [sIx_nat', sIx_none', List.drop_zero, Nat.sub_zero]
  by_cases h : k ≤ xs.length
  · rw [Nat.min_eq_left h]
  · rw [Nat.min_eq_right (by omega), List.take_of_length_le (Nat.le_refl _), List.take_of_length_le (by omega)]
@[simp] theorem srcOf_obj' {n : Nat} : srcOf m (.obj n) = (match m[n]? with
    | some (Cell.lst xs) => some ⟨xs, [(n, xs)]⟩
    | _ => none) := rfl
@[simp] theorem seqSrc_obj' {n : Nat} : seqSrc m (.obj n) = (match m[n]? with
    | some (Cell.lst xs) => some ⟨xs, [(n, xs)]⟩
    | _ => none) := rfl
@[simp] theorem addTo_obj {n : Nat} {y : D} : addTo (.obj n) y m = (match m[n]? with
    | some (.lst xs) => if xs.length < LIM then .ok .non (m.set n (.lst (xs ++ [y]))) else .no
    | _ => .no) := rfl
theorem prim_sum_lst {ns : List Int} : prim .sum [.lst (ns.map .int)] m = some (.int ns.sum) := by
  show ((intsIn m (.lst (ns.map .int))).map _) = _
  show ((intsOf (ns.map .int)).map _) = _
  rw [intsOf_of]; rfl
theorem prim_sum_obj {n : Nat} {ns : List Int} (h : m[n]? = some (.lst (ns.map .int))) : prim .sum [.obj n] m = some (.int ns.sum) := by
  show (((lstOf m (.obj n)).bind intsOf).map _) = _
  rw [lstOf_obj h]
  show ((intsOf (ns.map .int)).map _) = _
  rw [intsOf_of]; rfl
@[simp] theorem cmp_is_non {a : D} : cmp .is a .non m = some (match a with | .non => true | _ => false) := rfl
@[simp] theorem cmp_isnot_non {a : D} : cmp .isnot a .non m = some (match a with | .non => false | _ => true) := rfl
@[simp] theorem cmp_is_bl {a b : Bool} : cmp .is (.bl a) (.bl b) m = some (a == b) := rfl
@[simp] theorem cmp_isnot_bl {a b : Bool} : cmp .isnot (.bl a) (.bl b) m = some (!(a == b)) := rfl
theorem nth_nat {xs : List D} {i : Int} (h0 : 0 ≤ i) : nth xs i = xs[i.toNat]? := by
  have : i = ((i.toNat : Nat) : Int) := by omega
  rw [this, nth_lit, ← this]
@[simp] theorem slice_tup (xs : List D) (lo hi : Option Int) : slice (.tup xs) lo hi m = some (.tup (cut xs lo hi)) := rfl
@[simp] theorem slice_lst (xs : List D) (lo hi : Option Int) : slice (.lst xs) lo hi m = some (.lst (cut xs lo hi)) := rfl
@[simp] theorem prim_len_tup (xs : List D) : prim .len [.tup xs] m = some (.int xs.length) := rfl
@[simp] theorem prim_len_lst (xs : List D) : prim .len [.lst xs] m = some (.int xs.length) := rfl
@[simp] theorem prim_len_scr (xs : List D) : prim .len [.scr xs] m = some (.int xs.length) := rfl
theorem prim_len_obj {n : Nat} {xs : List D} (h : m[n]? = some (.lst xs)) : prim .len [.obj n] m = some (.int xs.length) := by
  have : seqOf m (.obj n) = some xs := seqOf_obj h
  show (seqOf m (.obj n)).map _ = _
  rw [this]; rfl
@[simp] theorem prim_int (i : Int) : prim .int [.int i] m = some (.int i) := rfl
@[simp] theorem prim_abs (i : Int) : prim .abs [.int i] m = some (.int (if i < 0 then -i else i)) := rfl
@[simp] theorem prim_tuple_tup (xs : List D) : prim .tuple [.tup xs] m = some (.tup xs) := rfl
@[simp] theorem prim_tuple_lst (xs : List D) : prim .tuple [.lst xs] m = some (.tup xs) := rfl
@[simp] theorem prim_min2 (i j : Int) : prim .min2 [.int i, .int j] m = some (.int (min i j)) := by
  show some (D.int (if j < i then j else i)) = _
  congr 2; grind
@[simp] theorem prim_max2 (i j : Int) : prim .max2 [.int i, .int j] m = some (.int (max i j)) := by
  show some (D.int (if j > i then j else i)) = _
  congr 2; grind
@[simp] theorem isTy_bl (b : Bool) (t : Ty) : isTy m (.bl b) t = some (t == .bool || t == .int) := rfl
@[simp] theorem isTy_int (b : Int) (t : Ty) : isTy m (.int b) t = some (t == .int) := rfl
@[simp] theorem isTy_str (b : Str) (t : Ty) : isTy m (.str b) t = some (t == .str) := rfl
@[simp] theorem isTy_tup (b : List D) (t : Ty) : isTy m (.tup b) t = some (t == .tuple) := rfl
@[simp] theorem isTy_lst (b : List D) (t : Ty) : isTy m (.lst b) t = some (t == .list) := rfl
@[simp] theorem isTy_non (t : Ty) : isTy m .non t = some false := rfl
@[simp] theorem srcOf_tup (xs : List D) : srcOf m (.tup xs) = some ⟨xs, []⟩ := rfl
@[simp] theorem srcOf_lst (xs : List D) : srcOf m (.lst xs) = some ⟨xs, []⟩ := rfl
@[simp] theorem seqSrc_tup (xs : List D) : seqSrc m (.tup xs) = some ⟨xs, []⟩ := rfl
@[simp] theorem seqSrc_lst (xs : List D) : seqSrc m (.lst xs) = some ⟨xs, []⟩ := rfl
@[simp] theorem newL_false (xs : List D) : newL false xs m = .ok (.lst xs) m := rfl
@[simp] theorem newL_true (xs : List D) : newL true xs m = .ok (.obj m.length) (m ++ [.lst xs]) := rfl
@[simp] theorem bindG_name {i : Nat} {d : D} {r : Env} : bindG (.name i) d r = if i < r.length then some (r.set i (some d)) else none := by unfold bindG; rfl
@[simp] theorem bindG_tup {gs : Gs} {ds : List D} {r : Env} : bindG (.tup gs) (.tup ds) r = bindGs gs ds r := by unfold bindG; rfl
@[simp] theorem bindGs_nil {r : Env} : bindGs .nil [] r = some r := by unfold bindGs; rfl
@[simp] theorem bindGs_cons {g : G} {gs : Gs} {d : D} {ds : List D} {r : Env} : bindGs (.cons g gs) (d :: ds) r = (bindG g d r).bind fun r' => bindGs gs ds r' := by rw [bindGs]
@[simp] theorem wipe_nil' {r : Env} : wipe r [] = r := rfl
@[simp] theorem wipe_cons' {r : Env} {v : Nat} {vs : List Nat} : wipe r (v :: vs) = (wipe r vs).set v none := rfl
theorem rangeS_int {lo hi : Int} (h1 : -(2 ^ 62) ≤ lo) (h2 : lo < 2 ^ 62) (h3 : -(2 ^ 62) ≤ hi) (h4 : hi < 2 ^ 62) (h5 : hi - lo ≤ 1000000) : rangeS (.int lo) (.int hi) = some (rangeL lo hi) := by
  show (if rangeOk lo hi then some (rangeL lo hi) else none) = _
  rw [if_pos]
  unfold rangeOk
  refine @decide_eq_true _ (Classical.propDecidable _) ⟨⟨h1, h2, h3, h4⟩, ?_⟩
  show (hi - lo).toNat ≤ 1000000
  omega
theorem range0 {n : Nat} (h : n ≤ 1000000) : rangeS (.int 0) (.int (n : Int)) = some ((List.range n).map fun (i : Nat) => D.int (i : Int)) := by
  rw [rangeS_int (by omega) (by omega) (by omega) (by omega) (by omega)]
  unfold rangeL
  simp
end
/-! ### results that hold something -/
def Ok {α : Type} (x : Res α) (Q : α → Mem → Prop) : Prop := ∃ a m, x = .ok a m ∧ Q a m
@[simp] theorem Ok_ok {α : Type} {a : α} {m : Mem} {Q : α → Mem → Prop} : Ok (.ok a m) Q ↔ Q a m := ⟨fun ⟨_, _, e, q⟩ => by cases e; exact q, fun q => ⟨a, m, rfl, q⟩⟩
@[simp] theorem Ok_bind {α β : Type} {x : Res α} {f : α → Mem → Res β} {Q : β → Mem → Prop} : Ok (x.bind f) Q ↔ Ok x fun a m => Ok (f a m) Q := by
  constructor
  · rintro ⟨b, m', e, q⟩
    obtain ⟨a, m, e1, e2⟩ := bind_ok e
    exact ⟨a, m, e1, b, m', e2, q⟩
  · rintro ⟨a, m, e1, b, m', e2, q⟩
    exact ⟨b, m', by rw [e1]; exact e2, q⟩
theorem Ok_ite {α : Type} {p : Prop} [Decidable p] {x y : Res α} {Q : α → Mem → Prop} : Ok (if p then x else y) Q ↔ (p → Ok x Q) ∧ (¬ p → Ok y Q) := by by_cases h : p <;> simp [h]
theorem Ok.imp {α : Type} {x : Res α} {Q Q' : α → Mem → Prop} (h : Ok x Q) (i : ∀ a m, Q a m → Q' a m) : Ok x Q' := let ⟨a, m, e, q⟩ := h; ⟨a, m, e, i a m q⟩
theorem Ok.eq {α : Type} {x : Res α} {a : α} {m : Mem} {Q : α → Mem → Prop} (e : x = .ok a m) (q : Q a m) : Ok x Q := ⟨a, m, e, q⟩
@[simp] theorem Ok_calm {α : Type} {x : Res α} {Q : α → Mem → Prop} : Ok x.calm Q ↔ Ok x Q := by
  constructor
  · rintro ⟨a, m, e, q⟩; exact ⟨a, m, calm_ok e, q⟩
  · rintro ⟨a, m, e, q⟩; exact ⟨a, m, by rw [e]; rfl, q⟩
@[simp] theorem still_nil' {m : Mem} : still [] m = true := rfl
/-- a comprehension over what stands still, without draws -/
theorem compF_pure {g : List (Nat × List D)} {step : D → Mem → Res (Option D)} {m : Mem} (hs : still g m = true) (h : D → Option D) : ∀ {xs : List D}, (∀ x ∈ xs, step x m = .ok (h x) m) → compF g step xs m = .ok (xs.filterMap h) m
  | [], _ => by unfold compF; rw [if_pos hs]; rfl
  | x :: xs, hx => by
    unfold compF
    rw [if_pos hs, hx x List.mem_cons_self, Res.bind_ok, compF_pure hs h fun y hy => hx y (List.mem_cons_of_mem _ hy), Res.bind_ok, List.filterMap_cons]
    cases h x <;> rfl
/-- .. with draws: I holds of the memory, Q of each item, kept or not -/
theorem compF_ok {g : List (Nat × List D)} {step : D → Mem → Res (Option D)} (I : Mem → Prop) (Q : D → Option D → Prop) (hs : ∀ m, I m → still g m = true) : ∀ {xs : List D} {m : Mem}, I m → (∀ x ∈ xs, ∀ m, I m → Ok (step x m) fun o m' => I m' ∧ Q x o) →
    Ok (compF g step xs m) fun ys m' => I m' ∧ ∃ os : List (Option D), os.length = xs.length ∧ (∀ (i : Nat) (x : D) (o : Option D), xs[i]? = some x → os[i]? = some o → Q x o) ∧ ys = os.filterMap id
  | [], m, hm, _ => by
    unfold compF; rw [if_pos (hs m hm)]
    exact ⟨_, _, rfl, hm, [], rfl, fun i x o h => by simp at h, rfl⟩
  | x :: xs, m, hm, hx => by
    unfold compF
    rw [if_pos (hs m hm)]
    simp only [Ok_bind]
    refine (hx x List.mem_cons_self m hm).imp fun o m1 ⟨h1, h2⟩ => ?_
    refine (compF_ok I Q hs h1 fun y hy => hx y (List.mem_cons_of_mem _ hy)).imp fun ys m2 ⟨h3, os, h4, h5, h6⟩ => ?_
    rw [Ok_ok]
    refine ⟨h3, o :: os, by simp [h4], fun i x' o' e1 e2 => ?_, ?_⟩
    · cases i with
      | zero => cases e1; cases e2; exact h2
      | succ i => exact h5 i x' o' e1 e2
    · rw [h6]; cases o <;> rfl
/-- a for whose turns all go on -/
theorem forF_ok {g : List (Nat × List D)} {body : D → Env → Mem → Res (Flow × Env)} (I : Nat → Env → Mem → Prop) (hs : ∀ i r m, I i r m → still g m = true) : ∀ {xs : List D} {n : Nat} {r : Env} {m : Mem}, I n r m →
    (∀ (i : Nat) (x : D) (r : Env) (m : Mem), xs[i]? = some x → I (n + i) r m → Ok (body x r m) fun fr m' => (fr.1 = .next ∨ fr.1 = .cont) ∧ I (n + i + 1) fr.2 m') →
    Ok (forF g body xs r m) fun fr m' => fr.1 = .next ∧ I (n + xs.length) fr.2 m'
  | [], n, r, m, hm, _ => by
    unfold forF; rw [if_pos (hs n r m hm)]
    exact ⟨_, _, rfl, rfl, hm⟩
  | x :: xs, n, r, m, hm, hx => by
    unfold forF
    rw [if_pos (hs n r m hm)]
    simp only [Ok_bind]
    refine (hx 0 x r m rfl hm).imp fun fr m1 ⟨h1, h2⟩ => ?_
    have go : Ok (forF g body xs fr.2 m1) fun fr m' => fr.1 = .next ∧ I (n + (x :: xs).length) fr.2 m' := by
      refine (forF_ok I hs (n := n + 1) h2 fun i y r m e hi => ?_).imp fun fr m' ⟨h3, h4⟩ => ⟨h3, ?_⟩
      · have := hx (i + 1) y r m e (by rw [show n + (i + 1) = n + 1 + i by omega]; exact hi)
        refine this.imp fun fr m' ⟨h5, h6⟩ => ⟨h5, ?_⟩
        rw [show n + 1 + i + 1 = n + (i + 1) + 1 by omega]; exact h6
      · rw [show n + (x :: xs).length = n + 1 + xs.length by rw [List.length_cons]; omega]; exact h4
    obtain ⟨f, r1⟩ := fr
    rcases h1 with h1 | h1 <;> (dsimp only at h1; subst h1; exact go)
/-! ### calls -/
theorem callF_run {P : Prg} {turns k i : Nat} {as : List D} {m : Mem} {d : FDef} (h : P.defs[i]? = some d) : callF P turns (k + 1) i as m = runF (fxOf P turns k) d as m := by
  rw [callF, h]; rfl
/-- what a body's end gives -/
def endB (f : FDef) (m : Mem) (fr : Flow × Env) (m1 : Mem) : Res D := match fr.1 with
    | .ret d => finish f.keep m.length d m1
    | .next => finish f.keep m.length .non m1
    | _ => .no
theorem runF_eq {X : Fx} {f : FDef} {as : List D} {m : Mem} {fr : Flow × Env} {m1 : Mem} (hl : as.length = f.params) (h : evSs X f.body (startD f as) m = .ok fr m1) : runF X f as m = endB f m fr m1 := by
  unfold runF
  rw [if_pos hl, h]
  obtain ⟨fl, r⟩ := fr
  cases fl <;> rfl
theorem finish_same {keep : Bool} {n : Nat} {d : D} {m : Mem} (h : m.length = n) : finish keep n d m = .ok d m := by
  simp [finish, h]
/-- a call whose body makes no new cells -/
theorem call_ok {P : Prg} {turns k i : Nat} {as : List D} {m : Mem} {d : FDef} {Q : D → Mem → Prop} (h : P.defs[i]? = some d) (hl : as.length = d.params)
    (hb : Ok (evSs (fxOf P turns k) d.body (startD d as) m) fun fr m1 => m1.length = m.length ∧ ∃ v, (fr.1 = .ret v ∨ fr.1 = .next ∧ v = .non) ∧ Q v m1) : Ok (callF P turns (k + 1) i as m) Q := by
  obtain ⟨fr, m1, e, h1, v, h2, h3⟩ := hb
  rw [callF_run h, runF_eq hl e]
  obtain ⟨fl, r⟩ := fr
  rcases h2 with h2 | ⟨h2, rfl⟩ <;> dsimp only at h2 <;> subst h2
  · exact ⟨v, m1, finish_same h1, h3⟩
  · exact ⟨.non, m1, finish_same h1, h3⟩
theorem call_keep {P : Prg} {turns k i : Nat} {as : List D} {m : Mem} {d : FDef} {Q : D → Mem → Prop} (h : P.defs[i]? = some d) (hl : as.length = d.params) (hk : d.keep = true)
    (hb : Ok (evSs (fxOf P turns k) d.body (startD d as) m) fun fr m1 => ∃ v, (fr.1 = .ret v ∨ fr.1 = .next ∧ v = .non) ∧ Q v m1) : Ok (callF P turns (k + 1) i as m) Q := by
  obtain ⟨fr, m1, e, v, h2, h3⟩ := hb
  rw [callF_run h, runF_eq hl e]
  obtain ⟨fl, r⟩ := fr
  have fin : ∀ v, finish d.keep m.length v m1 = .ok v m1 := fun v => by unfold finish; rw [if_pos hk]
  rcases h2 with h2 | ⟨h2, rfl⟩ <;> dsimp only at h2 <;> subst h2
  · exact ⟨v, m1, fin v, h3⟩
  · exact ⟨.non, m1, fin .non, h3⟩
theorem Ok_iff {α : Type} {x : Res α} {a : α} {m : Mem} : Ok x (fun b m' => b = a ∧ m' = m) ↔ x = .ok a m := ⟨fun ⟨_, _, e, h1, h2⟩ => by rw [e, h1, h2], fun e => ⟨a, m, e, rfl, rfl⟩⟩
theorem call_eq {P : Prg} {turns k i : Nat} {as : List D} {m : Mem} {d : FDef} {v : D} {r : Env} (h : P.defs[i]? = some d) (hl : as.length = d.params)
    (hb : evSs (fxOf P turns k) d.body (startD d as) m = .ok (.ret v, r) m) : callF P turns (k + 1) i as m = .ok v m := by
  rw [callF_run h, runF_eq hl hb]
  exact finish_same rfl
@[simp] theorem fxOf_call {P : Prg} {turns k : Nat} : (fxOf P turns k).call = callF P turns k := rfl
end Rf
namespace Rf
open PySem
/-! ### what every law begins with: the deal, the draws, the comparisons -/
def dDealB : FDef := ⟨1, 6, (.cons (.asg (.name 1) (.lst true .nil))
  (.cons (.loop (.name 2) (.range1 (.prim .min2 (.cons (.prim .len (.cons (.var 0) .nil)) (.cons (.const (.int 63)) .nil))))
  (.cons (.asg (.name 3) (.prim .abs (.cons (.prim .int (.cons (.idx (.var 0) (.var 2)) .nil)) .nil)))
  (.cons (.ite (.cmp .ge (.var 3) (.bin .pow (.const (.int 10)) (.const (.int 18))))
  (.cons (.loop (.name 4) (.range1 (.const (.int 40)))
  (.cons (.ite (.cmp .gt (.var 3) (.const (.int 0)))
  (.cons (.expr (.append (.var 1) (.bin .mod (.prim .int (.cons (.var 3) .nil)) (.const (.int 1009)))))
  (.cons (.asg (.name 3) (.bin .div (.var 3) (.const (.int 1009))))
  .nil))
  .nil)
  .nil))
  .nil)
  (.cons (.asg (.name 3) (.bin .add (.bin .add (.bin .mul (.bin .mod (.prim .int (.cons (.var 3) .nil)) (.const (.int 2147483629))) (.const (.int 48271))) (.bin .mul (.var 2) (.const (.int 69621)))) (.const (.int 11))))
  (.cons (.loop (.name 4) (.range1 (.const (.int 5)))
  (.cons (.asg (.name 3) (.bin .mod (.prim .int (.cons (.bin .add (.bin .add (.bin .mul (.var 3) (.const (.int 16807))) (.const (.int 12345))) (.var 4)) .nil)) (.const (.int 2147483647))))
  (.cons (.expr (.append (.var 1) (.bin .mod (.bin .div (.var 3) (.const (.int 7))) (.const (.int 1009)))))
  .nil)))
  .nil)))
  .nil)))
  (.cons (.asg (.name 5) (.bin .add (.prim .sum (.cons (.var 1) .nil)) (.prim .len (.cons (.var 0) .nil))))
  (.cons (.ret (.lst false (.cons (.var 1) (.cons (.lst true (.cons (.const (.int 0)) .nil)) (.cons (.var 5) .nil)))))
  .nil)))), true⟩
def dTakeB : FDef := ⟨2, 5, (.cons (.asg (.name 2) (.idx (.idx (.var 0) (.const (.int 1))) (.const (.int 0))))
  (.cons (.setI (.idx (.var 0) (.const (.int 1))) (.const (.int 0)) (.bin .add (.var 2) (.const (.int 1))))
  (.cons (.ite (.cmp .lt (.var 2) (.prim .len (.cons (.idx (.var 0) (.const (.int 0))) .nil)))
  (.cons (.ret (.bin .mod (.prim .int (.cons (.idx (.idx (.var 0) (.const (.int 0))) (.var 2)) .nil)) (.var 1)))
  .nil)
  .nil)
  (.cons (.asg (.name 3) (.bin .mod (.prim .int (.cons (.bin .add (.bin .add (.bin .mul (.var 2) (.const (.int 7919))) (.bin .mul (.idx (.var 0) (.const (.int 2))) (.const (.int 31)))) (.const (.int 17))) .nil)) (.const (.int 2147483629))))
  (.cons (.loop (.name 4) (.range1 (.const (.int 3)))
  (.cons (.asg (.name 3) (.bin .mod (.prim .int (.cons (.bin .add (.bin .add (.bin .mul (.var 3) (.var 3)) (.bin .mul (.const (.int 48271)) (.var 2))) (.const (.int 12345))) .nil)) (.const (.int 2147483647))))
  .nil))
  (.cons (.ret (.bin .mod (.bin .div (.var 3) (.const (.int 7))) (.var 1)))
  .nil)))))), false⟩
def dSame (i : Nat) : FDef := ⟨2, 3, (.cons (.ite (.or (.val (.isi (.var 1) .tuple)) (.val (.isi (.var 1) .list)))
  (.cons (.ite (.or (.and (.val (.isi (.var 1) .tuple)) (.not (.val (.isi (.var 0) .tuple)))) (.and (.val (.isi (.var 1) .list)) (.not (.val (.isi (.var 0) .list)))))
  (.cons (.ret (.const (.bl false)))
  .nil)
  .nil)
  (.cons (.ite (.cmp .ne (.prim .len (.cons (.var 0) .nil)) (.prim .len (.cons (.var 1) .nil)))
  (.cons (.ret (.const (.bl false)))
  .nil)
  .nil)
  (.cons (.loop (.name 2) (.range1 (.prim .len (.cons (.var 1) .nil)))
  (.cons (.ite (.not (.val (.call i (.cons (.idx (.var 0) (.var 2)) (.cons (.idx (.var 1) (.var 2)) .nil)))))
  (.cons (.ret (.const (.bl false)))
  .nil)
  .nil)
  .nil))
  (.cons (.ret (.const (.bl true)))
  .nil))))
  .nil)
  (.cons (.ite (.or (.val (.isi (.var 0) .bool)) (.val (.isi (.var 1) .bool)))
  (.cons (.ret (.and (.isi (.var 0) .bool) (.and (.isi (.var 1) .bool) (.cmp .eq (.var 0) (.var 1)))))
  .nil)
  .nil)
  (.cons (.ite (.val (.isi (.var 1) .int))
  (.cons (.ret (.and (.isi (.var 0) .int) (.cmp .eq (.var 0) (.var 1))))
  .nil)
  .nil)
  (.cons (.ite (.val (.isi (.var 1) .str))
  (.cons (.ret (.and (.isi (.var 0) .str) (.cmp .eq (.var 0) (.var 1))))
  .nil)
  .nil)
  (.cons (.ret (.and (.cmp .is (.var 0) (.const .non)) (.cmp .is (.var 1) (.const .non))))
  .nil))))), false⟩
def dBool : FDef := ⟨2, 2, (.cons (.ret (.and (.isi (.var 0) .bool) (.cmp .eq (.var 0) (.var 1))))
  .nil), false⟩
def dDeal1 : FDef := ⟨1, 6, (.cons (.asg (.name 1) (.lst true .nil))
  (.cons (.loop (.name 2) (.range1 (.prim .min2 (.cons (.prim .len (.cons (.var 0) .nil)) (.cons (.const (.int 63)) .nil))))
  (.cons (.asg (.name 3) (.prim .abs (.cons (.prim .int (.cons (.idx (.var 0) (.var 2)) .nil)) .nil)))
  (.cons (.ite (.cmp .ge (.var 3) (.bin .pow (.const (.int 10)) (.const (.int 18))))
  (.cons (.loop (.name 4) (.range1 (.const (.int 40)))
  (.cons (.ite (.cmp .gt (.var 3) (.const (.int 0)))
  (.cons (.expr (.append (.var 1) (.bin .mod (.var 3) (.const (.int 1009)))))
  (.cons (.asg (.name 3) (.bin .div (.var 3) (.const (.int 1009))))
  .nil))
  .nil)
  .nil))
  .nil)
  (.cons (.asg (.name 3) (.bin .add (.bin .add (.bin .mul (.bin .mod (.var 3) (.const (.int 2147483629))) (.const (.int 48271))) (.bin .mul (.var 2) (.const (.int 69621)))) (.const (.int 11))))
  (.cons (.loop (.name 4) (.range1 (.const (.int 5)))
  (.cons (.asg (.name 3) (.bin .mod (.bin .add (.bin .add (.bin .mul (.var 3) (.const (.int 16807))) (.const (.int 12345))) (.var 4)) (.const (.int 2147483647))))
  (.cons (.expr (.append (.var 1) (.bin .mod (.bin .div (.var 3) (.const (.int 7))) (.const (.int 1009)))))
  .nil)))
  .nil)))
  .nil)))
  (.cons (.asg (.name 5) (.bin .add (.prim .sum (.cons (.var 1) .nil)) (.prim .len (.cons (.var 0) .nil))))
  (.cons (.ret (.lst false (.cons (.var 1) (.cons (.lst true (.cons (.const (.int 0)) .nil)) (.cons (.var 5) .nil)))))
  .nil)))), true⟩
def dTake1 : FDef := ⟨2, 5, (.cons (.asg (.name 2) (.idx (.idx (.var 0) (.const (.int 1))) (.const (.int 0))))
  (.cons (.setI (.idx (.var 0) (.const (.int 1))) (.const (.int 0)) (.bin .add (.var 2) (.const (.int 1))))
  (.cons (.ite (.cmp .lt (.var 2) (.prim .len (.cons (.idx (.var 0) (.const (.int 0))) .nil)))
  (.cons (.ret (.bin .mod (.idx (.idx (.var 0) (.const (.int 0))) (.var 2)) (.var 1)))
  .nil)
  .nil)
  (.cons (.asg (.name 3) (.bin .mod (.bin .add (.bin .add (.bin .mul (.var 2) (.const (.int 7919))) (.bin .mul (.idx (.var 0) (.const (.int 2))) (.const (.int 31)))) (.const (.int 17))) (.const (.int 2147483629))))
  (.cons (.loop (.name 4) (.range1 (.const (.int 3)))
  (.cons (.asg (.name 3) (.bin .mod (.bin .add (.bin .add (.bin .mul (.var 3) (.var 3)) (.bin .mul (.const (.int 48271)) (.var 2))) (.const (.int 12345))) (.const (.int 2147483647))))
  .nil))
  (.cons (.ret (.bin .mod (.bin .div (.var 3) (.const (.int 7))) (.var 1)))
  .nil)))))), false⟩
def dDeal3 : FDef := ⟨1, 6, (.cons (.asg (.name 1) (.lst true .nil))
  (.cons (.loop (.name 2) (.range1 (.prim .min2 (.cons (.prim .len (.cons (.var 0) .nil)) (.cons (.const (.int 63)) .nil))))
  (.cons (.asg (.name 3) (.prim .abs (.cons (.prim .int (.cons (.idx (.var 0) (.var 2)) .nil)) .nil)))
  (.cons (.ite (.cmp .ge (.var 3) (.bin .pow (.const (.int 10)) (.const (.int 18))))
  (.cons (.loop (.name 4) (.range1 (.const (.int 40)))
  (.cons (.ite (.cmp .gt (.var 3) (.const (.int 0)))
  (.cons (.expr (.append (.var 1) (.bin .mod (.prim .int (.cons (.var 3) .nil)) (.const (.int 1009)))))
  (.cons (.asg (.name 3) (.bin .div (.var 3) (.const (.int 1009))))
  .nil))
  .nil)
  .nil))
  .nil)
  (.cons (.asg (.name 3) (.bin .add (.bin .add (.bin .mul (.bin .mod (.prim .int (.cons (.var 3) .nil)) (.const (.int 2147483629))) (.const (.int 48271))) (.bin .mul (.var 2) (.const (.int 69621)))) (.const (.int 11))))
  (.cons (.loop (.name 4) (.range1 (.const (.int 5)))
  (.cons (.asg (.name 3) (.bin .mod (.prim .int (.cons (.bin .add (.bin .add (.bin .mul (.var 3) (.const (.int 16807))) (.const (.int 12345))) (.var 4)) .nil)) (.const (.int 2147483647))))
  (.cons (.expr (.append (.var 1) (.bin .mod (.prim .int (.cons (.bin .div (.var 3) (.const (.int 7))) .nil)) (.const (.int 1009)))))
  .nil)))
  .nil)))
  .nil)))
  (.cons (.asg (.name 5) (.bin .add (.prim .sum (.cons (.var 1) .nil)) (.prim .len (.cons (.var 0) .nil))))
  (.cons (.ret (.lst false (.cons (.var 1) (.cons (.lst true (.cons (.const (.int 0)) .nil)) (.cons (.var 5) .nil)))))
  .nil)))), true⟩
def dTake3 : FDef := ⟨2, 5, (.cons (.asg (.name 2) (.idx (.idx (.var 0) (.const (.int 1))) (.const (.int 0))))
  (.cons (.setI (.idx (.var 0) (.const (.int 1))) (.const (.int 0)) (.bin .add (.var 2) (.const (.int 1))))
  (.cons (.ite (.cmp .lt (.var 2) (.prim .len (.cons (.idx (.var 0) (.const (.int 0))) .nil)))
  (.cons (.ret (.bin .mod (.prim .int (.cons (.idx (.idx (.var 0) (.const (.int 0))) (.var 2)) .nil)) (.var 1)))
  .nil)
  .nil)
  (.cons (.asg (.name 3) (.bin .mod (.prim .int (.cons (.bin .add (.bin .add (.bin .mul (.var 2) (.const (.int 7919))) (.bin .mul (.idx (.var 0) (.const (.int 2))) (.const (.int 31)))) (.const (.int 17))) .nil)) (.const (.int 2147483629))))
  (.cons (.loop (.name 4) (.range1 (.const (.int 3)))
  (.cons (.asg (.name 3) (.bin .mod (.prim .int (.cons (.bin .add (.bin .add (.bin .mul (.var 3) (.var 3)) (.bin .mul (.const (.int 48271)) (.var 2))) (.const (.int 12345))) .nil)) (.const (.int 2147483647))))
  .nil))
  (.cons (.ret (.bin .mod (.prim .int (.cons (.bin .div (.var 3) (.const (.int 7))) .nil)) (.var 1)))
  .nil)))))), false⟩
/-- the memory behind the deal: the row, the number of draws so far -/
def Dl (row : List Int) (at_ : Nat) : Mem := [.lst (row.map .int), .lst [.int (at_ : Nat)]]
def dealV (tot : Int) : D := .lst [.obj 0, .obj 1, .int tot]
section
variable {P : Prg} {turns k i : Nat}
theorem bool_ok (h : P.defs[i]? = some dBool) (a b : Bool) (m : Mem) : callF P turns (k + 1) i [.bl a, .bl b] m = .ok (.bl (a == b)) m := by
  refine call_eq (r := [some (.bl a), some (.bl b)]) h rfl ?_
  simp [dBool, startD]
theorem takeC_ok (h : P.defs[i]? = some dTakeB) (row : List Int) (at_ : Nat) (tot many : Int) (cs : Mem) (hm : 0 < many) : Ok (callF P turns (k + 1) i [dealV tot, .int many] (Dl row at_ ++ cs)) fun v m => ∃ x : Int, v = .int x ∧ 0 ≤ x ∧ x < many ∧ m = Dl row (at_ + 1) ++ cs := by
  refine call_ok h rfl ?_
  simp [dTakeB, startD, dealV, Dl]
  by_cases hl : at_ < row.length
  · have hg : row[at_]? = some row[at_] := List.getElem?_eq_getElem hl
    simp [hl, bin_modI' hm, Int.emod_nonneg _ (show many ≠ 0 by omega), Int.emod_lt_of_pos _ hm]
  · simp [hl, bin_mulI', bin_modI']
    rw [rangeS_int (by decide) (by decide) (by decide) (by decide) (by decide)]
    simp
    refine (forF_ok (fun _ r m => (∃ (c : Int) (x : Option D), r = [some (dealV tot), some (.int many), some (.int at_), some (.int c), x] ∧ 0 ≤ c ∧ c < 2147483647) ∧ m = Dl row (at_ + 1) ++ cs) (fun _ _ _ _ => rfl) (n := 0) ?_ fun j x r m e hI => ?_).imp fun fr m1 hI => ?_
    · refine ⟨⟨_, _, rfl, Int.emod_nonneg _ (by omega), ?_⟩, by simp [Dl]⟩
      have := Int.emod_lt_of_pos (↑at_ * 7919 + tot * 31 + 17) (show (0 : Int) < 2147483629 by decide)
      omega
    · obtain ⟨⟨c, y, rfl, h0, h1⟩, rfl⟩ := hI
      have hc : c.natAbs < 2 ^ 64 := by omega
      have hx : ∃ z, x = .int z := by
        have := List.mem_of_getElem? e
        unfold rangeL at this
        obtain ⟨z, _, rfl⟩ := List.mem_map.mp this
        exact ⟨_, rfl⟩
      obtain ⟨z, rfl⟩ := hx
      simp [turnF, bin_mulI', hc, bin_modI']
      exact ⟨Int.emod_nonneg _ (by omega), Int.emod_lt_of_pos _ (by omega)⟩
    · obtain ⟨h1, ⟨c, y, h2, h3, h4⟩, rfl⟩ := hI
      obtain ⟨fl, r⟩ := fr
      dsimp only at h1 h2
      subst h1 h2
      simp [bin_divI', bin_modI' hm, Int.emod_nonneg _ (show many ≠ 0 by omega), Int.emod_lt_of_pos _ hm, Dl, dealV]
theorem take_ok (h : P.defs[i]? = some dTakeB) (row : List Int) (at_ : Nat) (tot many : Int) (hm : 0 < many) : Ok (callF P turns (k + 1) i [dealV tot, .int many] (Dl row at_)) fun v m => ∃ x : Int, v = .int x ∧ 0 ≤ x ∧ x < many ∧ m = Dl row (at_ + 1) := by
  have := takeC_ok (k := k) (turns := turns) h row at_ tot many [] hm
  simpa using this
theorem deal_ok (h : P.defs[i]? = some dDealB) (ns : List Int) (hl : ns.length ≤ 63) : Ok (callF P turns (k + 1) i [.scr (ns.map .int)] []) fun v m => ∃ row tot, v = dealV tot ∧ m = Dl row 0 := by
  refine call_keep h rfl rfl ?_
  have hmin : min ((ns.length : Nat) : Int) 63 = (ns.length : Nat) := by omega
  simp [dDealB, startD]
  rw [hmin]
  rw [range0 (by omega)]
  simp
  refine (forF_ok (fun j r m => ∃ (x y z : Option D) (row : List Int), r = [some (.scr (ns.map .int)), some (.obj 0), x, y, z, none] ∧ m = [.lst (row.map .int)] ∧ row.length ≤ 40 * j) (fun _ _ _ _ => rfl) (n := 0) ⟨_, _, _, [], rfl, rfl, by simp⟩ fun j x r m e hI => ?_).imp fun fr m1 hI => ?_
  · obtain ⟨x2, x3, x4, row, rfl, rfl, hr⟩ := hI
    have hj : j < ns.length := by
      have := (List.getElem?_eq_some_iff.mp e).1
      simpa using this
    have ex : x = .int (j : Nat) := by
      rw [List.getElem?_map, List.getElem?_range hj] at e
      cases e; rfl
    subst ex
    have hg : ns[j]? = some ns[j] := List.getElem?_eq_getElem hj
    generalize ns[j] = z at hg
    simp [turnF, hg, prim_abs]
    generalize (if z < 0 then -z else z) = c
    have hp : bin .pow (.int 10) (.int 18) [.lst (row.map .int)] = some (.int 1000000000000000000) := by
      rw [bin_powI, if_pos (by decide)]
      exact congrArg (fun z => some (D.int z)) (by decide)
    simp [hp]
    by_cases hc : 1000000000000000000 ≤ c
    · simp [hc]
      rw [show rangeS (.int 0) (.int 40) = some ((List.range 40).map fun (i : Nat) => D.int (i : Int)) from range0 (n := 40) (by omega)]
      simp
      refine (forF_ok (fun q r m => ∃ (c : Int) (z : Option D) (row2 : List Int), r = [some (.scr (ns.map .int)), some (.obj 0), some (.int (j : Nat)), some (.int c), z, none] ∧ m = [.lst (row2.map .int)] ∧ row2.length ≤ row.length + q) (fun _ _ _ _ => rfl) (n := 0) ⟨c, _, row, rfl, rfl, by omega⟩ fun q x r m e hI => ?_).imp fun fr m1 hI => ?_
      · obtain ⟨c, x4, row2, rfl, rfl, hr2⟩ := hI
        have hq : q < 40 := by
          have := (List.getElem?_eq_some_iff.mp e).1
          simpa using this
        have hlim : row2.length < 1000000 := by omega
        simp [turnF]
        by_cases hc0 : 0 < c
        · simp [hc0, bin_modI', bin_divI', hlim]
          exact ⟨row2 ++ [c % 1009], by simp, by simp; omega⟩
        · simp [hc0]
          exact ⟨row2, rfl, by omega⟩
      · obtain ⟨h1, c', z', row2, h2, rfl, h3⟩ := hI
        obtain ⟨fl, r⟩ := fr
        dsimp only at h1 h2
        subst h1 h2
        simp at h3
        simp
        exact ⟨row2, rfl, by omega⟩
    · have hc2 : (c % 2147483629).natAbs < 2 ^ 64 := by omega
      simp [hc, bin_modI', bin_mulI']
      rw [show rangeS (.int 0) (.int 5) = some ((List.range 5).map fun (i : Nat) => D.int (i : Int)) from range0 (n := 5) (by omega)]
      simp
      refine (forF_ok (fun q r m => ∃ (c : Int) (z : Option D) (row2 : List Int), r = [some (.scr (ns.map .int)), some (.obj 0), some (.int (j : Nat)), some (.int c), z, none] ∧ m = [.lst (row2.map .int)] ∧ row2.length ≤ row.length + q) (fun _ _ _ _ => rfl) (n := 0) ⟨_, _, row, rfl, rfl, by omega⟩ fun q x r m e hI => ?_).imp fun fr m1 hI => ?_
      · obtain ⟨c, x4, row2, rfl, rfl, hr2⟩ := hI
        have hq : q < 5 := by
          have := (List.getElem?_eq_some_iff.mp e).1
          simpa using this
        have ex : x = .int (q : Nat) := by
          rw [List.getElem?_map, List.getElem?_range hq] at e
          cases e; rfl
        subst ex
        have hlim : row2.length < 1000000 := by omega
        simp [turnF, bin_modI', bin_mulI', bin_divI', hlim]
        exact ⟨row2 ++ [_], by simp; rfl, by simp; omega⟩
      · obtain ⟨h1, c', z', row2, h2, rfl, h3⟩ := hI
        obtain ⟨fl, r⟩ := fr
        dsimp only at h1 h2
        subst h1 h2
        simp at h3
        simp
        exact ⟨row2, rfl, by omega⟩
  · obtain ⟨h1, x, y, z, row, h2, rfl, h3⟩ := hI
    obtain ⟨fl, r⟩ := fr
    dsimp only at h1 h2
    subst h1 h2
    simp [prim_sum_obj (m := [.lst (row.map .int)]) (n := 0) (ns := row) rfl]
    exact ⟨⟨_, rfl⟩, row, rfl⟩
theorem takeC1_ok (h : P.defs[i]? = some dTake1) (row : List Int) (at_ : Nat) (tot many : Int) (cs : Mem) (hm : 0 < many) : Ok (callF P turns (k + 1) i [dealV tot, .int many] (Dl row at_ ++ cs)) fun v m => ∃ x : Int, v = .int x ∧ 0 ≤ x ∧ x < many ∧ m = Dl row (at_ + 1) ++ cs := by
  refine call_ok h rfl ?_
  simp [dTake1, startD, dealV, Dl]
  by_cases hl : at_ < row.length
  · have hg : row[at_]? = some row[at_] := List.getElem?_eq_getElem hl
    simp [hl, bin_modI' hm, Int.emod_nonneg _ (show many ≠ 0 by omega), Int.emod_lt_of_pos _ hm]
  · simp [hl, bin_mulI', bin_modI']
    rw [rangeS_int (by decide) (by decide) (by decide) (by decide) (by decide)]
    simp
    refine (forF_ok (fun _ r m => (∃ (c : Int) (x : Option D), r = [some (dealV tot), some (.int many), some (.int at_), some (.int c), x] ∧ 0 ≤ c ∧ c < 2147483647) ∧ m = Dl row (at_ + 1) ++ cs) (fun _ _ _ _ => rfl) (n := 0) ?_ fun j x r m e hI => ?_).imp fun fr m1 hI => ?_
    · refine ⟨⟨_, _, rfl, Int.emod_nonneg _ (by omega), ?_⟩, by simp [Dl]⟩
      have := Int.emod_lt_of_pos (↑at_ * 7919 + tot * 31 + 17) (show (0 : Int) < 2147483629 by decide)
      omega
    · obtain ⟨⟨c, y, rfl, h0, h1⟩, rfl⟩ := hI
      have hc : c.natAbs < 2 ^ 64 := by omega
      have hx : ∃ z, x = .int z := by
        have := List.mem_of_getElem? e
        unfold rangeL at this
        obtain ⟨z, _, rfl⟩ := List.mem_map.mp this
        exact ⟨_, rfl⟩
      obtain ⟨z, rfl⟩ := hx
      simp [turnF, bin_mulI', hc, bin_modI']
      exact ⟨Int.emod_nonneg _ (by omega), Int.emod_lt_of_pos _ (by omega)⟩
    · obtain ⟨h1, ⟨c, y, h2, h3, h4⟩, rfl⟩ := hI
      obtain ⟨fl, r⟩ := fr
      dsimp only at h1 h2
      subst h1 h2
      simp [bin_divI', bin_modI' hm, Int.emod_nonneg _ (show many ≠ 0 by omega), Int.emod_lt_of_pos _ hm, Dl, dealV]
theorem take1_ok (h : P.defs[i]? = some dTake1) (row : List Int) (at_ : Nat) (tot many : Int) (hm : 0 < many) : Ok (callF P turns (k + 1) i [dealV tot, .int many] (Dl row at_)) fun v m => ∃ x : Int, v = .int x ∧ 0 ≤ x ∧ x < many ∧ m = Dl row (at_ + 1) := by
  have := takeC1_ok (k := k) (turns := turns) h row at_ tot many [] hm
  simpa using this
theorem deal1_ok (h : P.defs[i]? = some dDeal1) (ns : List Int) (hl : ns.length ≤ 63) : Ok (callF P turns (k + 1) i [.scr (ns.map .int)] []) fun v m => ∃ row tot, v = dealV tot ∧ m = Dl row 0 := by
  refine call_keep h rfl rfl ?_
  have hmin : min ((ns.length : Nat) : Int) 63 = (ns.length : Nat) := by omega
  simp [dDeal1, startD]
  rw [hmin]
  rw [range0 (by omega)]
  simp
  refine (forF_ok (fun j r m => ∃ (x y z : Option D) (row : List Int), r = [some (.scr (ns.map .int)), some (.obj 0), x, y, z, none] ∧ m = [.lst (row.map .int)] ∧ row.length ≤ 40 * j) (fun _ _ _ _ => rfl) (n := 0) ⟨_, _, _, [], rfl, rfl, by simp⟩ fun j x r m e hI => ?_).imp fun fr m1 hI => ?_
  · obtain ⟨x2, x3, x4, row, rfl, rfl, hr⟩ := hI
    have hj : j < ns.length := by
      have := (List.getElem?_eq_some_iff.mp e).1
      simpa using this
    have ex : x = .int (j : Nat) := by
      rw [List.getElem?_map, List.getElem?_range hj] at e
      cases e; rfl
    subst ex
    have hg : ns[j]? = some ns[j] := List.getElem?_eq_getElem hj
    generalize ns[j] = z at hg
    simp [turnF, hg, prim_abs]
    generalize (if z < 0 then -z else z) = c
    have hp : bin .pow (.int 10) (.int 18) [.lst (row.map .int)] = some (.int 1000000000000000000) := by
      rw [bin_powI, if_pos (by decide)]
      exact congrArg (fun z => some (D.int z)) (by decide)
    simp [hp]
    by_cases hc : 1000000000000000000 ≤ c
    · simp [hc]
      rw [show rangeS (.int 0) (.int 40) = some ((List.range 40).map fun (i : Nat) => D.int (i : Int)) from range0 (n := 40) (by omega)]
      simp
      refine (forF_ok (fun q r m => ∃ (c : Int) (z : Option D) (row2 : List Int), r = [some (.scr (ns.map .int)), some (.obj 0), some (.int (j : Nat)), some (.int c), z, none] ∧ m = [.lst (row2.map .int)] ∧ row2.length ≤ row.length + q) (fun _ _ _ _ => rfl) (n := 0) ⟨c, _, row, rfl, rfl, by omega⟩ fun q x r m e hI => ?_).imp fun fr m1 hI => ?_
      · obtain ⟨c, x4, row2, rfl, rfl, hr2⟩ := hI
        have hq : q < 40 := by
          have := (List.getElem?_eq_some_iff.mp e).1
          simpa using this
        have hlim : row2.length < 1000000 := by omega
        simp [turnF]
        by_cases hc0 : 0 < c
        · simp [hc0, bin_modI', bin_divI', hlim]
          exact ⟨row2 ++ [c % 1009], by simp, by simp; omega⟩
        · simp [hc0]
          exact ⟨row2, rfl, by omega⟩
      · obtain ⟨h1, c', z', row2, h2, rfl, h3⟩ := hI
        obtain ⟨fl, r⟩ := fr
        dsimp only at h1 h2
        subst h1 h2
        simp at h3
        simp
        exact ⟨row2, rfl, by omega⟩
    · have hc2 : (c % 2147483629).natAbs < 2 ^ 64 := by omega
      simp [hc, bin_modI', bin_mulI']
      rw [show rangeS (.int 0) (.int 5) = some ((List.range 5).map fun (i : Nat) => D.int (i : Int)) from range0 (n := 5) (by omega)]
      simp
      refine (forF_ok (fun q r m => ∃ (c : Int) (z : Option D) (row2 : List Int), r = [some (.scr (ns.map .int)), some (.obj 0), some (.int (j : Nat)), some (.int c), z, none] ∧ m = [.lst (row2.map .int)] ∧ row2.length ≤ row.length + q) (fun _ _ _ _ => rfl) (n := 0) ⟨_, _, row, rfl, rfl, by omega⟩ fun q x r m e hI => ?_).imp fun fr m1 hI => ?_
      · obtain ⟨c, x4, row2, rfl, rfl, hr2⟩ := hI
        have hq : q < 5 := by
          have := (List.getElem?_eq_some_iff.mp e).1
          simpa using this
        have ex : x = .int (q : Nat) := by
          rw [List.getElem?_map, List.getElem?_range hq] at e
          cases e; rfl
        subst ex
        have hlim : row2.length < 1000000 := by omega
        simp [turnF, bin_modI', bin_mulI', bin_divI', hlim]
        exact ⟨row2 ++ [_], by simp; rfl, by simp; omega⟩
      · obtain ⟨h1, c', z', row2, h2, rfl, h3⟩ := hI
        obtain ⟨fl, r⟩ := fr
        dsimp only at h1 h2
        subst h1 h2
        simp at h3
        simp
        exact ⟨row2, rfl, by omega⟩
  · obtain ⟨h1, x, y, z, row, h2, rfl, h3⟩ := hI
    obtain ⟨fl, r⟩ := fr
    dsimp only at h1 h2
    subst h1 h2
    simp [prim_sum_obj (m := [.lst (row.map .int)]) (n := 0) (ns := row) rfl]
    exact ⟨⟨_, rfl⟩, row, rfl⟩
theorem takeC3_ok (h : P.defs[i]? = some dTake3) (row : List Int) (at_ : Nat) (tot many : Int) (cs : Mem) (hm : 0 < many) : Ok (callF P turns (k + 1) i [dealV tot, .int many] (Dl row at_ ++ cs)) fun v m => ∃ x : Int, v = .int x ∧ 0 ≤ x ∧ x < many ∧ m = Dl row (at_ + 1) ++ cs := by
  refine call_ok h rfl ?_
  simp [dTake3, startD, dealV, Dl]
  by_cases hl : at_ < row.length
  · have hg : row[at_]? = some row[at_] := List.getElem?_eq_getElem hl
    simp [hl, bin_modI' hm, Int.emod_nonneg _ (show many ≠ 0 by omega), Int.emod_lt_of_pos _ hm]
  · simp [hl, bin_mulI', bin_modI']
    rw [rangeS_int (by decide) (by decide) (by decide) (by decide) (by decide)]
    simp
    refine (forF_ok (fun _ r m => (∃ (c : Int) (x : Option D), r = [some (dealV tot), some (.int many), some (.int at_), some (.int c), x] ∧ 0 ≤ c ∧ c < 2147483647) ∧ m = Dl row (at_ + 1) ++ cs) (fun _ _ _ _ => rfl) (n := 0) ?_ fun j x r m e hI => ?_).imp fun fr m1 hI => ?_
    · refine ⟨⟨_, _, rfl, Int.emod_nonneg _ (by omega), ?_⟩, by simp [Dl]⟩
      have := Int.emod_lt_of_pos (↑at_ * 7919 + tot * 31 + 17) (show (0 : Int) < 2147483629 by decide)
      omega
    · obtain ⟨⟨c, y, rfl, h0, h1⟩, rfl⟩ := hI
      have hc : c.natAbs < 2 ^ 64 := by omega
      have hx : ∃ z, x = .int z := by
        have := List.mem_of_getElem? e
        unfold rangeL at this
        obtain ⟨z, _, rfl⟩ := List.mem_map.mp this
        exact ⟨_, rfl⟩
      obtain ⟨z, rfl⟩ := hx
      simp [turnF, bin_mulI', hc, bin_modI']
      exact ⟨Int.emod_nonneg _ (by omega), Int.emod_lt_of_pos _ (by omega)⟩
    · obtain ⟨h1, ⟨c, y, h2, h3, h4⟩, rfl⟩ := hI
      obtain ⟨fl, r⟩ := fr
      dsimp only at h1 h2
      subst h1 h2
      simp [bin_divI', bin_modI' hm, Int.emod_nonneg _ (show many ≠ 0 by omega), Int.emod_lt_of_pos _ hm, Dl, dealV]
theorem take3_ok (h : P.defs[i]? = some dTake3) (row : List Int) (at_ : Nat) (tot many : Int) (hm : 0 < many) : Ok (callF P turns (k + 1) i [dealV tot, .int many] (Dl row at_)) fun v m => ∃ x : Int, v = .int x ∧ 0 ≤ x ∧ x < many ∧ m = Dl row (at_ + 1) := by
  have := takeC3_ok (k := k) (turns := turns) h row at_ tot many [] hm
  simpa using this
theorem deal3_ok (h : P.defs[i]? = some dDeal3) (ns : List Int) (hl : ns.length ≤ 63) : Ok (callF P turns (k + 1) i [.scr (ns.map .int)] []) fun v m => ∃ row tot, v = dealV tot ∧ m = Dl row 0 := by
  refine call_keep h rfl rfl ?_
  have hmin : min ((ns.length : Nat) : Int) 63 = (ns.length : Nat) := by omega
  simp [dDeal3, startD]
  rw [hmin]
  rw [range0 (by omega)]
  simp
  refine (forF_ok (fun j r m => ∃ (x y z : Option D) (row : List Int), r = [some (.scr (ns.map .int)), some (.obj 0), x, y, z, none] ∧ m = [.lst (row.map .int)] ∧ row.length ≤ 40 * j) (fun _ _ _ _ => rfl) (n := 0) ⟨_, _, _, [], rfl, rfl, by simp⟩ fun j x r m e hI => ?_).imp fun fr m1 hI => ?_
  · obtain ⟨x2, x3, x4, row, rfl, rfl, hr⟩ := hI
    have hj : j < ns.length := by
      have := (List.getElem?_eq_some_iff.mp e).1
      simpa using this
    have ex : x = .int (j : Nat) := by
      rw [List.getElem?_map, List.getElem?_range hj] at e
      cases e; rfl
    subst ex
    have hg : ns[j]? = some ns[j] := List.getElem?_eq_getElem hj
    generalize ns[j] = z at hg
    simp [turnF, hg, prim_abs]
    generalize (if z < 0 then -z else z) = c
    have hp : bin .pow (.int 10) (.int 18) [.lst (row.map .int)] = some (.int 1000000000000000000) := by
      rw [bin_powI, if_pos (by decide)]
      exact congrArg (fun z => some (D.int z)) (by decide)
    simp [hp]
    by_cases hc : 1000000000000000000 ≤ c
    · simp [hc]
      rw [show rangeS (.int 0) (.int 40) = some ((List.range 40).map fun (i : Nat) => D.int (i : Int)) from range0 (n := 40) (by omega)]
      simp
      refine (forF_ok (fun q r m => ∃ (c : Int) (z : Option D) (row2 : List Int), r = [some (.scr (ns.map .int)), some (.obj 0), some (.int (j : Nat)), some (.int c), z, none] ∧ m = [.lst (row2.map .int)] ∧ row2.length ≤ row.length + q) (fun _ _ _ _ => rfl) (n := 0) ⟨c, _, row, rfl, rfl, by omega⟩ fun q x r m e hI => ?_).imp fun fr m1 hI => ?_
      · obtain ⟨c, x4, row2, rfl, rfl, hr2⟩ := hI
        have hq : q < 40 := by
          have := (List.getElem?_eq_some_iff.mp e).1
          simpa using this
        have hlim : row2.length < 1000000 := by omega
        simp [turnF]
        by_cases hc0 : 0 < c
        · simp [hc0, bin_modI', bin_divI', hlim]
          exact ⟨row2 ++ [c % 1009], by simp, by simp; omega⟩
        · simp [hc0]
          exact ⟨row2, rfl, by omega⟩
      · obtain ⟨h1, c', z', row2, h2, rfl, h3⟩ := hI
        obtain ⟨fl, r⟩ := fr
        dsimp only at h1 h2
        subst h1 h2
        simp at h3
        simp
        exact ⟨row2, rfl, by omega⟩
    · have hc2 : (c % 2147483629).natAbs < 2 ^ 64 := by omega
      simp [hc, bin_modI', bin_mulI']
      rw [show rangeS (.int 0) (.int 5) = some ((List.range 5).map fun (i : Nat) => D.int (i : Int)) from range0 (n := 5) (by omega)]
      simp
      refine (forF_ok (fun q r m => ∃ (c : Int) (z : Option D) (row2 : List Int), r = [some (.scr (ns.map .int)), some (.obj 0), some (.int (j : Nat)), some (.int c), z, none] ∧ m = [.lst (row2.map .int)] ∧ row2.length ≤ row.length + q) (fun _ _ _ _ => rfl) (n := 0) ⟨_, _, row, rfl, rfl, by omega⟩ fun q x r m e hI => ?_).imp fun fr m1 hI => ?_
      · obtain ⟨c, x4, row2, rfl, rfl, hr2⟩ := hI
        have hq : q < 5 := by
          have := (List.getElem?_eq_some_iff.mp e).1
          simpa using this
        have ex : x = .int (q : Nat) := by
          rw [List.getElem?_map, List.getElem?_range hq] at e
          cases e; rfl
        subst ex
        have hlim : row2.length < 1000000 := by omega
        simp [turnF, bin_modI', bin_mulI', bin_divI', hlim]
        exact ⟨row2 ++ [_], by simp; rfl, by simp; omega⟩
      · obtain ⟨h1, c', z', row2, h2, rfl, h3⟩ := hI
        obtain ⟨fl, r⟩ := fr
        dsimp only at h1 h2
        subst h1 h2
        simp at h3
        simp
        exact ⟨row2, rfl, by omega⟩
  · obtain ⟨h1, x, y, z, row, h2, rfl, h3⟩ := hI
    obtain ⟨fl, r⟩ := fr
    dsimp only at h1 h2
    subst h1 h2
    simp [prim_sum_obj (m := [.lst (row.map .int)]) (n := 0) (ns := row) rfl]
    exact ⟨⟨_, rfl⟩, row, rfl⟩
mutual
/-- no cell in it, at most n deep, no long lists -/
def D.sm : Nat → D → Bool
  | _, .non => true
  | _, .bl _ => true
  | _, .int _ => true
  | _, .str _ => true
  | n + 1, .tup xs => decide (xs.length ≤ 1000000) && D.sms n xs
  | n + 1, .lst xs => decide (xs.length ≤ 1000000) && D.sms n xs
  | _, _ => false
def D.sms : Nat → List D → Bool
  | _, [] => true
  | n, x :: xs => D.sm n x && D.sms n xs
end
theorem sms_mem : ∀ {n : Nat} {xs : List D}, D.sms n xs = true → ∀ x ∈ xs, D.sm n x = true
  | _, [], _, _, h => by cases h
  | n, y :: ys, h, x, hx => by
    rw [D.sms] at h
    obtain ⟨h1, h2⟩ := Bool.and_eq_true_iff.mp h
    rcases List.mem_cons.mp hx with e | e
    · rw [e]; exact h1
    · exact sms_mem h2 x e
theorem sms_of {n : Nat} : ∀ {xs : List D}, (∀ x ∈ xs, D.sm n x = true) → D.sms n xs = true
  | [], _ => by rw [D.sms]
  | y :: ys, h => by
    rw [D.sms, h y List.mem_cons_self, sms_of fun x hx => h x (List.mem_cons_of_mem _ hx)]; rfl
theorem sm_int {n : Nat} {i : Int} : D.sm n (.int i) = true := by cases n <;> rfl
theorem sm_str {n : Nat} {i : Str} : D.sm n (.str i) = true := by cases n <;> rfl
theorem sm_bl {n : Nat} {i : Bool} : D.sm n (.bl i) = true := by cases n <;> rfl
theorem sm_non {n : Nat} : D.sm n .non = true := by cases n <;> rfl
theorem sm_tup {n : Nat} {xs : List D} (h : xs.length ≤ 1000000) (hx : ∀ x ∈ xs, D.sm n x = true) : D.sm (n + 1) (.tup xs) = true := by rw [D.sm, sms_of hx, decide_eq_true h]; rfl
theorem sm_lst {n : Nat} {xs : List D} (h : xs.length ≤ 1000000) (hx : ∀ x ∈ xs, D.sm n x = true) : D.sm (n + 1) (.lst xs) = true := by rw [D.sm, sms_of hx, decide_eq_true h]; rfl
theorem deref_sm {n : Nat} {x : D} {m : Mem} (h : D.sm n x = true) : deref m x = x := by
  cases x <;> first | rfl | (cases n <;> cases h)
/-- what stands in a place: a value, or a cell's list -/
theorem deref_lst' {m : Mem} {a : D} {xs : List D} (h : deref m a = .lst xs) : seqOf m a = some xs ∧ lstOf m a = some xs ∧ (∀ t, isTy m a t = some (t == Ty.list)) ∧ (∀ i, idx a (.int i) m = nth xs i) ∧ prim .len [a] m = some (.int xs.length) := by
  cases a with
  | lst ys => cases h; exact ⟨rfl, rfl, fun _ => rfl, fun _ => rfl, rfl⟩
  | obj n =>
    have h' : (match m[n]? with | some (Cell.lst xs) => D.lst xs | _ => .obj n) = .lst xs := h
    split at h'
    · rename_i ys hc
      cases h'
      refine ⟨seqOf_obj hc, lstOf_obj hc, fun t => ?_, fun i => idx_obj hc i, prim_len_obj hc⟩
      show (match m[n]? with | some (Cell.lst _) => some (t == Ty.list) | _ => none) = _
      rw [hc]
    · cases h'
  | _ => cases h
theorem deref_tup' {m : Mem} {a : D} {xs : List D} (h : deref m a = .tup xs) : a = .tup xs := by
  cases a with
  | obj n =>
    have h' : (match m[n]? with | some (Cell.lst xs) => D.lst xs | _ => .obj n) = .tup xs := h
    split at h' <;> cases h'
  | _ => first | exact h | cases h
theorem deref_flat {m : Mem} {a d : D} (h : deref m a = d) (hf : flatD d = true) : a = d := by
  cases a with
  | obj n =>
    have h' : (match m[n]? with | some (Cell.lst xs) => D.lst xs | _ => .obj n) = d := h
    split at h' <;> (subst h'; cases hf)
  | _ => exact h
theorem same_ok (h : P.defs[i]? = some (dSame i)) : ∀ (n k : Nat) {x a b : D} {m : Mem}, D.sm n x = true → deref m a = x → deref m b = x → callF P turns (k + n + 1) i [a, b] m = .ok (.bl true) m := by
  intro n
  induction n with
  | zero =>
    intro k x a b m hp ha hb
    have flat : flatD x = true → callF P turns (k + 0 + 1) i [a, b] m = .ok (.bl true) m := fun hf => by
      have e1 := deref_flat ha hf
      have e2 := deref_flat hb hf
      subst e1 e2
      refine Ok_iff.mp (call_ok h rfl ?_)
      cases b <;> first | (cases hf; done) | simp [dSame, startD]
    cases x with
    | tup xs => cases hp
    | lst xs => cases hp
    | obj n => cases hp
    | scr xs => cases hp
    | _ => exact flat rfl
  | succ n ih =>
    intro k x a b m hp ha hb
    have flat : flatD x = true → callF P turns (k + (n + 1) + 1) i [a, b] m = .ok (.bl true) m := fun hf => by
      have e1 := deref_flat ha hf
      have e2 := deref_flat hb hf
      subst e1 e2
      refine Ok_iff.mp (call_ok h rfl ?_)
      cases b <;> first | (cases hf; done) | simp [dSame, startD]
    have loop : ∀ {xs : List D} {r : Option D}, xs.length ≤ 1000000 → D.sms n xs = true → (∀ j : Nat, idx a (.int j) m = xs[j]?) → (∀ j : Nat, idx b (.int j) m = xs[j]?) →
        Ok (forF [] (turnF (fxOf P turns (k + (n + 1))) (.name 2) (.cons (.ite (.not (.val (.call i (.cons (.idx (.var 0) (.var 2)) (.cons (.idx (.var 1) (.var 2)) .nil))))) (.cons (.ret (.const (.bl false))) .nil) .nil) .nil)) ((List.range xs.length).map fun (j : Nat) => D.int (j : Int)) [some a, some b, r] m)
          fun fr m' => fr.1 = .next ∧ (∃ y, fr.2 = [some a, some b, y]) ∧ m' = m := by
      intro xs r hl hs h1 h2
      refine (forF_ok (fun _ r m' => (∃ y, r = [some a, some b, y]) ∧ m' = m) (fun _ _ _ _ => rfl) (n := 0) ⟨⟨_, rfl⟩, rfl⟩ fun j x r m' e hI => ?_).imp fun fr m1 hI => ⟨hI.1, hI.2.1, hI.2.2⟩
      obtain ⟨⟨y, rfl⟩, rfl⟩ := hI
      have hj : j < xs.length := by
        have := (List.getElem?_eq_some_iff.mp e).1
        simpa using this
      have ex : x = .int (j : Nat) := by
        rw [List.getElem?_map, List.getElem?_range hj] at e
        cases e; rfl
      subst ex
      have hg : xs[j]? = some xs[j] := List.getElem?_eq_getElem hj
      have hm := sms_mem hs xs[j] (List.getElem_mem hj)
      have hc := ih k (x := xs[j]) (a := xs[j]) (b := xs[j]) (m := m') hm (deref_sm hm) (deref_sm hm)
      rw [show k + n + 1 = k + (n + 1) by omega] at hc
      simp [turnF, h1, h2, hg, hc]
    cases x with
    | tup xs =>
      have e1 := deref_tup' ha
      have e2 := deref_tup' hb
      subst e1 e2
      rw [D.sm] at hp
      obtain ⟨hl, hs⟩ := Bool.and_eq_true_iff.mp hp
      have hl := of_decide_eq_true hl
      refine Ok_iff.mp (call_ok h rfl ?_)
      simp [dSame, startD]
      rw [range0 hl]
      simp
      refine (loop (r := none) hl hs (fun j => by simp) (fun j => by simp)).imp fun fr m1 hI => ?_
      obtain ⟨fl, r⟩ := fr
      obtain ⟨h1, ⟨y, h2⟩, rfl⟩ := hI
      dsimp only at h1 h2
      subst h1 h2
      simp
    | lst xs =>
      obtain ⟨a1, a2, a3, a4, a5⟩ := deref_lst' ha
      obtain ⟨b1, b2, b3, b4, b5⟩ := deref_lst' hb
      rw [D.sm] at hp
      obtain ⟨hl, hs⟩ := Bool.and_eq_true_iff.mp hp
      have hl := of_decide_eq_true hl
      refine Ok_iff.mp (call_ok h rfl ?_)
      simp [dSame, startD, a3, b3, a5, b5]
      rw [range0 hl]
      simp
      refine (loop (r := none) hl hs (fun j => by rw [a4]; simp) (fun j => by rw [b4]; simp)).imp fun fr m1 hI => ?_
      obtain ⟨fl, r⟩ := fr
      obtain ⟨h1, ⟨y, h2⟩, rfl⟩ := hI
      dsimp only at h1 h2
      subst h1 h2
      simp
    | obj n => cases hp
    | scr xs => cases hp
    | _ => exact flat rfl
end
end Rf
namespace Rf
open PySem
/-! ### comprehensions and loops over typed lists -/
@[simp] theorem calm_ite {α : Type} {p : Prop} [Decidable p] {x y : Res α} : (if p then x else y).calm = if p then x.calm else y.calm := by by_cases h : p <;> simp [h]
@[simp] theorem ite_okO {p : Prop} [Decidable p] {a b : Option D} {m : Mem} : (if p then Res.ok a m else Res.ok b m) = Res.ok (if p then a else b) m := by by_cases h : p <;> simp [h]
theorem filter_len0 {α : Type} {f : α → Bool} {xs : List α} : ((((xs.filter fun w => !f w).length : Nat) : Int) == 0) = xs.all f := by
  induction xs with
  | nil => rfl
  | cons x xs ih =>
    rw [List.filter_cons, List.all_cons]
    cases hf : f x with
    | true => simpa using ih
    | false => simp; omega
theorem compE_eq {cell : Bool} {fi : Env → Mem → Res Src} {G' : G} {own : List Nat} {ft : Env → Mem → Res Bool} {fe : Env → Mem → Res D} {r : Env} {m : Mem} :
    compE cell fi G' own ft fe r m = (fi r m).bind fun s m1 => (compF s.guard (stepF G' own r ft fe) s.items m1).bind fun ds m2 => newL cell ds m2 := rfl
section
variable {α β : Type} {g : List (Nat × List D)} {step : D → Mem → Res (Option D)}
theorem compF_nil {m : Mem} (hs : still g m = true) : compF g step [] m = .ok [] m := by rw [compF, if_pos hs]
theorem compF_cons {m : Mem} (hs : still g m = true) {x : D} {xs : List D} : compF g step (x :: xs) m = (step x m).bind fun o m1 => (compF g step xs m1).bind fun ys m2 => .ok (consO o ys) m2 := by rw [compF, if_pos hs]
theorem filterMap_if {p : α → Bool} {h : α → β} : ∀ {xs : List α}, xs.filterMap (fun a => if p a then some (h a) else none) = (xs.filter p).map h
  | [] => rfl
  | x :: xs => by
    rw [List.filterMap_cons, List.filter_cons]
    cases hp : p x <;> simp [filterMap_if]
theorem compF_map {m : Mem} (hs : still g m = true) (f : α → D) (h : α → Option D) : ∀ {xs : List α}, (∀ a ∈ xs, step (f a) m = .ok (h a) m) → compF g step (xs.map f) m = .ok (xs.filterMap h) m
  | [], _ => by rw [List.map_nil, compF_nil hs]; rfl
  | x :: xs, hx => by
    unfold compF
    rw [List.map_cons]
    simp only
    rw [if_pos hs, hx x List.mem_cons_self, Res.bind_ok, compF_map hs f h fun y hy => hx y (List.mem_cons_of_mem _ hy), Res.bind_ok, List.filterMap_cons]
    cases h x <;> rfl
theorem compF_all {m : Mem} (hs : still g m = true) (f : α → D) (h : α → D) {xs : List α} (hx : ∀ a ∈ xs, step (f a) m = .ok (some (h a)) m) : compF g step (xs.map f) m = .ok (xs.map h) m := by
  rw [compF_map hs f (fun a => some (h a)) hx, List.filterMap_eq_map']
theorem compF_filter {m : Mem} (hs : still g m = true) (f : α → D) (p : α → Bool) (h : α → D) {xs : List α} (hx : ∀ a ∈ xs, step (f a) m = .ok (if p a then some (h a) else none) m) : compF g step (xs.map f) m = .ok ((xs.filter p).map h) m := by
  rw [compF_map hs f (fun a => if p a then some (h a) else none) hx]
  rw [filterMap_if]
theorem compF_draw (f : α → D) (enc : β → D) (I : Mem → Prop) (Q : α → β → Prop) (hs : ∀ m, I m → still g m = true) : ∀ {xs : List α} {m : Mem}, I m → (∀ a ∈ xs, ∀ m, I m → Ok (step (f a) m) fun o m' => I m' ∧ ∃ b, o = some (enc b) ∧ Q a b) →
    Ok (compF g step (xs.map f) m) fun ys m' => I m' ∧ ∃ bs : List β, ys = bs.map enc ∧ bs.length = xs.length ∧ ∀ (i : Nat) (a : α) (b : β), xs[i]? = some a → bs[i]? = some b → Q a b
  | [], m, hm, _ => by
    rw [List.map_nil, compF_nil (hs m hm)]
    exact ⟨_, _, rfl, hm, [], rfl, rfl, fun i a b h => by simp at h⟩
  | x :: xs, m, hm, hx => by
    rw [List.map_cons, compF_cons (hs m hm)]
    simp only [Ok_bind]
    refine (hx x List.mem_cons_self m hm).imp fun o m1 ⟨h1, b, h2, h2'⟩ => ?_
    refine (compF_draw f enc I Q hs h1 fun y hy => hx y (List.mem_cons_of_mem _ hy)).imp fun ys m2 ⟨h3, bs, h4, h5, h6⟩ => ?_
    rw [Ok_ok]
    refine ⟨h3, b :: bs, by rw [h2, h4]; rfl, by simp [h5], fun i a b' e1 e2 => ?_⟩
    cases i with
    | zero => cases e1; cases e2; exact h2'
    | succ i => exact h6 i a b' e1 e2
theorem compF_pick (f h : α → D) (I : Mem → Prop) (hs : ∀ m, I m → still g m = true) : ∀ {xs : List α} {m : Mem}, I m → (∀ a ∈ xs, ∀ m, I m → Ok (step (f a) m) fun o m' => I m' ∧ (o = none ∨ o = some (h a))) →
    Ok (compF g step (xs.map f) m) fun ys m' => I m' ∧ ∃ bs : List α, ys = bs.map h ∧ bs.Sublist xs
  | [], m, hm, _ => by
    rw [List.map_nil, compF_nil (hs m hm)]
    exact ⟨_, _, rfl, hm, [], rfl, List.Sublist.refl _⟩
  | x :: xs, m, hm, hx => by
    rw [List.map_cons, compF_cons (hs m hm)]
    simp only [Ok_bind]
    refine (hx x List.mem_cons_self m hm).imp fun o m1 ⟨h1, h2⟩ => ?_
    refine (compF_pick f h I hs h1 fun y hy => hx y (List.mem_cons_of_mem _ hy)).imp fun ys m2 ⟨h3, bs, h4, h5⟩ => ?_
    rw [Ok_ok]
    rcases h2 with rfl | rfl
    · exact ⟨h3, bs, by rw [h4]; rfl, h5.cons _⟩
    · exact ⟨h3, x :: bs, by rw [h4]; rfl, h5.cons₂ _⟩
theorem forF_map {body : D → Env → Mem → Res (Flow × Env)} (f : α → D) (I : Nat → Env → Mem → Prop) (hs : ∀ i r m, I i r m → still g m = true) {xs : List α} {r : Env} {m : Mem} (h0 : I 0 r m)
    (hx : ∀ (i : Nat) (a : α) (r : Env) (m : Mem), xs[i]? = some a → I i r m → Ok (body (f a) r m) fun fr m' => (fr.1 = .next ∨ fr.1 = .cont) ∧ I (i + 1) fr.2 m') :
    Ok (forF g body (xs.map f) r m) fun fr m' => fr.1 = .next ∧ I xs.length fr.2 m' := by
  refine (forF_ok I hs (n := 0) h0 fun i x r m e hI => ?_).imp fun fr m' ⟨h1, h2⟩ => ⟨h1, by simpa using h2⟩
  rw [List.getElem?_map] at e
  obtain ⟨a, ea, rfl⟩ := map_some e
  rw [Nat.zero_add] at hI ⊢
  exact hx i a r m ea hI
/-- a for that leaves by v at the first item that fails -/
theorem forF_check {body : D → Env → Mem → Res (Flow × Env)} {m : Mem} (f : α → D) (p : α → Bool) (v : D) (I : Env → Prop) (hs : still g m = true) : ∀ {xs : List α} {r : Env}, I r →
    (∀ a ∈ xs, ∀ r, I r → ∃ r', I r' ∧ body (f a) r m = .ok (if p a then .next else .ret v, r') m) → ∃ r', I r' ∧ forF g body (xs.map f) r m = .ok (if xs.all p then .next else .ret v, r') m
  | [], r, hr, _ => ⟨r, hr, by rw [List.map_nil, forF, if_pos hs]; rfl⟩
  | x :: xs, r, hr, hx => by
    obtain ⟨r1, h1, h2⟩ := hx x List.mem_cons_self r hr
    rw [List.map_cons, forF, if_pos hs, h2, Res.bind_ok, List.all_cons]
    cases hp : p x with
    | false => exact ⟨r1, h1, by simp⟩
    | true =>
      obtain ⟨r2, h3, h4⟩ := forF_check f p v I hs (xs := xs) h1 fun a ha r hr => hx a (List.mem_cons_of_mem _ ha) r hr
      refine ⟨r2, h3, ?_⟩
      simp only [if_true, Bool.true_and]
      exact h4
/-- a for that only reads, and leaves by no answer: its turns in a row -/
theorem rangeL0 (n : Nat) : rangeL 0 (n : Int) = (List.range n).map fun (i : Nat) => D.int (i : Int) := by
  unfold rangeL; simp
end
/-- a call whose body makes new cells -/
theorem call_okC {P : Prg} {turns k i : Nat} {as : List D} {m : Mem} {d : FDef} {Q : D → Mem → Prop} (h : P.defs[i]? = some d) (hl : as.length = d.params) (hk : d.keep = false)
    (hb : Ok (evSs (fxOf P turns k) d.body (startD d as) m) fun fr m1 => ∃ v m2 c cs, m1 = m2 ++ c :: cs ∧ m2.length = m.length ∧ m2.all (Cell.under m.length) = true ∧ (fr.1 = .ret v ∨ fr.1 = .next ∧ v = .non) ∧ ∃ v', D.frz m.length m1 v = some v' ∧ Q v' m2) : Ok (callF P turns (k + 1) i as m) Q := by
  obtain ⟨fr, m1, e, v, m2, c, cs, h1, h2, h3, h4, v', h5, h6⟩ := hb
  rw [callF_run h, runF_eq hl e]
  have hne : ¬ m1.length = m.length := by rw [h1, List.length_append, List.length_cons, h2]; omega
  have ht : m1.take m.length = m2 := by rw [h1, ← h2, List.take_left']; rfl
  have fin : finish d.keep m.length v m1 = .ok v' m2 := by
    unfold finish
    rw [if_neg (by rw [hk]; exact Bool.false_ne_true), if_neg hne, ht, if_pos h3, h5]
  obtain ⟨fl, r⟩ := fr
  rcases h4 with h4 | ⟨h4, rfl⟩ <;> dsimp only at h4 <;> subst h4
  · exact ⟨v', m2, fin, h6⟩
  · exact ⟨v', m2, fin, h6⟩
theorem still_cell {n : Nat} {xs : List D} {m : Mem} (h : m[n]? = some (.lst xs)) : still [(n, xs)] m = true := by
  unfold still
  simp [h]
theorem frzs_of {k : Nat} {m : Mem} : ∀ {xs : List D}, (∀ x ∈ xs, D.frz k m x = some x) → D.frzs k m xs = some xs
  | [], _ => by rw [D.frzs]
  | x :: xs, h => by
    rw [D.frzs, h x List.mem_cons_self, frzs_of fun y hy => h y (List.mem_cons_of_mem _ hy)]; rfl
theorem frz_sm {k : Nat} {m : Mem} : ∀ {n : Nat} {d : D}, D.sm n d = true → D.frz k m d = some d
  | n, .non, _ => by rw [D.frz] <;> simp
  | n, .bl _, _ => by rw [D.frz] <;> simp
  | n, .int _, _ => by rw [D.frz] <;> simp
  | n, .str _, _ => by rw [D.frz] <;> simp
  | n + 1, .tup xs, h => by
    rw [D.sm] at h
    have h2 := sms_mem (Bool.and_eq_true_iff.mp h).2
    rw [D.frz, frzs_of fun x hx => frz_sm (h2 x hx)]; rfl
  | n + 1, .lst xs, h => by
    rw [D.sm] at h
    have h2 := sms_mem (Bool.and_eq_true_iff.mp h).2
    rw [D.frz, frzs_of fun x hx => frz_sm (h2 x hx)]; rfl
  | 0, .tup _, h => by cases h
  | 0, .lst _, h => by cases h
  | 0, .obj _, h => by cases h
  | n + 1, .obj _, h => by cases h
  | 0, .scr _, h => by cases h
  | n + 1, .scr _, h => by cases h
@[simp] theorem Dl_cell {row : List Int} {a : Nat} {c : Cell} {cs : Mem} : (Dl row a ++ (c :: cs))[2]? = some c := rfl
@[simp] theorem Dl_set {row : List Int} {a : Nat} {c d : Cell} {cs : Mem} : (Dl row a ++ (c :: cs)).set 2 d = Dl row a ++ (d :: cs) := rfl
theorem Dl_len {row : List Int} {a : Nat} : (Dl row a).length = 2 := rfl
def Ss.drop : Nat → Ss → Ss
  | 0, s => s
  | _ + 1, .nil => .nil
  | n + 1, .cons _ s => s.drop n
end Rf
namespace K82
open PySem PySem.Spec PyProof.Rows L2 Rf
def top (i : Nat) : Stmt := PySem.Challenge.pw_dayholds_k82_whole_clocks_of_a_kind.main.body.getD i (.Pass ⟨0, 0, 0, 0⟩)
def fn : List He.DefD := [⟨("is_kind", none), "is_kind", "is_kind", defArgs (top 2), defBody (top 2), defScope (top 2), [], []⟩,
  ⟨("least_minutes", none), "least_minutes", "least_minutes", defArgs (top 3), defBody (top 3), defScope (top 3), [], []⟩,
  ⟨("most_minutes", none), "most_minutes", "most_minutes", defArgs (top 4), defBody (top 4), defScope (top 4), [], []⟩,
  ⟨("most_ticks", none), "most_ticks", "most_ticks", defArgs (top 5), defBody (top 5), defScope (top 5), [], []⟩,
  ⟨("is_clock", none), "is_clock", "is_clock", defArgs (top 6), defBody (top 6), defScope (top 6), [], []⟩,
  ⟨("slow_clock", none), "slow_clock", "slow_clock", defArgs (top 7), defBody (top 7), defScope (top 7), [], []⟩,
  ⟨("fast_clock", none), "fast_clock", "fast_clock", defArgs (top 8), defBody (top 8), defScope (top 8), [], []⟩,
  ⟨("slowest_from", none), "slowest_from", "slowest_from", defArgs (top 9), defBody (top 9), defScope (top 9), [], []⟩,
  ⟨("fastest_from", none), "fastest_from", "fastest_from", defArgs (top 10), defBody (top 10), defScope (top 10), [], []⟩,
  ⟨("_law_deal", none), "_law_deal", "_law_deal", defArgs (top 12), defBody (top 12), defScope (top 12), [], []⟩,
  ⟨("_law_take", none), "_law_take", "_law_take", defArgs (top 13), defBody (top 13), defScope (top 13), [], []⟩,
  ⟨("_law_same", none), "_law_same", "_law_same", defArgs (top 14), defBody (top 14), defScope (top 14), [], []⟩,
  ⟨("_law_bool", none), "_law_bool", "_law_bool", defArgs (top 15), defBody (top 15), defScope (top 15), [], []⟩,
  ⟨("_law_kind", none), "_law_kind", "_law_kind", defArgs (top 16), defBody (top 16), defScope (top 16), [], []⟩,
  ⟨("_law_low", none), "_law_low", "_law_low", defArgs (top 17), defBody (top 17), defScope (top 17), [], []⟩,
  ⟨("_law_high", none), "_law_high", "_law_high", defArgs (top 18), defBody (top 18), defScope (top 18), [], []⟩,
  ⟨("_law_is_clock", none), "_law_is_clock", "_law_is_clock", defArgs (top 19), defBody (top 19), defScope (top 19), [], []⟩,
  ⟨("_law_clock", none), "_law_clock", "_law_clock", defArgs (top 20), defBody (top 20), defScope (top 20), [], []⟩,
  ⟨("_law_form", none), "_law_form", "_law_form", defArgs (top 21), defBody (top 21), defScope (top 21), [], []⟩,
  ⟨("_law_forms", none), "_law_forms", "_law_forms", defArgs (top 22), defBody (top 22), defScope (top 22), [], []⟩,
  ⟨("_law_greatest", none), "_law_greatest", "_law_greatest", defArgs (top 23), defBody (top 23), defScope (top 23), [], []⟩,
  ⟨("_law_counts", none), "_law_counts", "_law_counts", defArgs (top 24), defBody (top 24), defScope (top 24), [], []⟩,
  ⟨("_law_bent", none), "_law_bent", "_law_bent", defArgs (top 25), defBody (top 25), defScope (top 25), [], []⟩,
  ⟨("_law_extremes", none), "_law_extremes", "_law_extremes", defArgs (top 26), defBody (top 26), defScope (top 26), [], []⟩,
  ⟨("law", none), "law", "law", defArgs (top 27), defBody (top 27), defScope (top 27), [], []⟩]
def fa : List He.Fa := [.glo "is_kind", .glo "least_minutes", .glo "most_minutes", .glo "most_ticks", .glo "is_clock", .glo "slow_clock", .glo "fast_clock", .glo "slowest_from", .glo "fastest_from", .glo "_law_deal", .glo "_law_take", .glo "_law_same", .glo "_law_bool", .glo "_law_kind", .glo "_law_low", .glo "_law_high", .glo "_law_is_clock", .glo "_law_clock", .glo "_law_form", .glo "_law_forms", .glo "_law_greatest", .glo "_law_counts", .glo "_law_bent", .glo "_law_extremes", .glo "law", .free "abs", .free "bool", .free "int", .free "isinstance", .free "len", .free "list", .free "max", .free "min", .free "range", .free "str", .free "sum", .free "tuple", .int "MOST_SHARE" 10000]
def loose0 : List PySem.Str := ["MOST_SHARE", "is_kind", "least_minutes", "most_minutes", "most_ticks", "is_clock", "slow_clock", "fast_clock", "slowest_from", "fastest_from", "_law_deal", "_law_take", "_law_same", "_law_bool", "_law_kind", "_law_low", "_law_high", "_law_is_clock", "_law_clock", "_law_form"]
def loose1 : List PySem.Str := ["_law_forms", "_law_greatest", "_law_counts", "_law_bent", "_law_extremes"]
def loose : List PySem.Str := loose0 ++ loose1
abbrev R : PySem.W.OpenRow := PySem.W.OpenLaw.row PySem.Challenge.rw_dayholds_k82_whole_clocks_of_a_kind
abbrev hk : PySem.W.Hook := He.hookD 4 fa fn
def ob (s : PySem.W.SharedT) : He.AlD := He.obsDG 4 fa fn (HandSHeadRun.getT s)
theorem ob_eq (s : PySem.W.SharedT) : ob s = hk.obs s.abs := He.obsDG_eq (HandSHeadRun.getT_eq s)
theorem run (w : World) : HandSHeadRun.RunEq R (PySem.W.view R.prog [27]) hk ob 4000 loose w := by
  intro os
  kernel_rfl
def d_is_kind : FDef := ⟨1, 5, (.cons (.asg (.tup (.cons (.name 1) (.cons (.name 2) (.cons (.name 3) (.cons (.name 4) .nil))))) (.var 0))
  (.cons (.ret (.and (.chn (.const (.int 1)) (.link .le (.var 1) (.link .le (.var 2) (.last .le (.const (.int 10000)))))) (.chn (.const (.int 1)) (.link .le (.var 4) (.link .le (.var 3) (.last .le (.const (.int 10000))))))))
  .nil)), false⟩
def d_least_minutes : FDef := ⟨2, 2, (.cons (.ret (.bin .div (.bin .mul (.var 1) (.idx (.var 0) (.const (.int 0)))) (.idx (.var 0) (.const (.int 1)))))
  .nil), false⟩
def d_most_minutes : FDef := ⟨2, 2, (.cons (.ret (.neg (.bin .div (.bin .mul (.neg (.var 1)) (.idx (.var 0) (.const (.int 2)))) (.idx (.var 0) (.const (.int 3))))))
  .nil), false⟩
def d_most_ticks : FDef := ⟨2, 6, (.cons (.asg (.tup (.cons (.name 2) (.cons (.name 3) (.cons (.name 4) (.cons (.name 5) .nil))))) (.var 0))
  (.cons (.ret (.ite (.cmp .ge (.var 1) (.const (.int 0))) (.bin .div (.bin .mul (.var 1) (.var 5)) (.var 4)) (.bin .div (.bin .mul (.var 1) (.var 3)) (.var 2))))
  .nil)), false⟩
def d_is_clock : FDef := ⟨2, 4, (.cons (.ite (.or (.cmp .eq (.var 1) (.tup .nil)) (.cmp .ne (.idx (.var 1) (.const (.int 0))) (.const (.int 0))))
  (.cons (.ret (.const (.bl false)))
  .nil)
  .nil)
  (.cons (.loop (.name 2) (.range1 (.prim .len (.cons (.var 1) .nil)))
  (.cons (.loop (.name 3) (.range2 (.bin .add (.var 2) (.const (.int 1))) (.prim .len (.cons (.var 1) .nil)))
  (.cons (.ite (.not (.chain .le .le (.call 1 (.cons (.var 0) (.cons (.bin .sub (.var 3) (.var 2)) .nil))) (.bin .sub (.idx (.var 1) (.var 3)) (.idx (.var 1) (.var 2))) (.call 2 (.cons (.var 0) (.cons (.bin .sub (.var 3) (.var 2)) .nil)))))
  (.cons (.ret (.const (.bl false)))
  .nil)
  .nil)
  .nil))
  .nil))
  (.cons (.ret (.const (.bl true)))
  .nil))), false⟩
def d_slow_clock : FDef := ⟨3, 7, (.cons (.asg (.tup (.cons (.name 3) (.cons (.name 3) (.cons (.name 4) (.cons (.name 5) .nil))))) (.var 0))
  (.cons (.ret (.prim .tuple (.cons (.comp false (.neg (.bin .div (.bin .sub (.var 1) (.bin .mul (.var 6) (.var 4))) (.var 5))) (.name 6) (.range1 (.bin .add (.var 2) (.const (.int 1)))) .tru [6]) .nil)))
  .nil)), false⟩
def d_fast_clock : FDef := ⟨3, 7, (.cons (.asg (.tup (.cons (.name 3) (.cons (.name 4) (.cons (.name 5) (.cons (.name 5) .nil))))) (.var 0))
  (.cons (.ret (.prim .tuple (.cons (.comp false (.bin .div (.bin .add (.bin .mul (.var 6) (.var 3)) (.var 1)) (.var 4)) (.name 6) (.range1 (.bin .add (.var 2) (.const (.int 1)))) .tru [6]) .nil)))
  .nil)), false⟩
def d_slowest_from : FDef := ⟨3, 3, (.cons (.ret (.call 5 (.cons (.var 0) (.cons (.bin .mod (.bin .mul (.var 1) (.idx (.var 0) (.const (.int 2)))) (.idx (.var 0) (.const (.int 3)))) (.cons (.var 2) .nil)))))
  .nil), false⟩
def d_fastest_from : FDef := ⟨3, 3, (.cons (.ret (.call 6 (.cons (.var 0) (.cons (.bin .mod (.bin .mul (.neg (.var 1)) (.idx (.var 0) (.const (.int 0)))) (.idx (.var 0) (.const (.int 1)))) (.cons (.var 2) .nil)))))
  .nil), false⟩
def d_law_deal : FDef := ⟨1, 6, (.cons (.asg (.name 1) (.lst true .nil))
  (.cons (.loop (.name 2) (.range1 (.prim .min2 (.cons (.prim .len (.cons (.var 0) .nil)) (.cons (.const (.int 63)) .nil))))
  (.cons (.asg (.name 3) (.prim .abs (.cons (.prim .int (.cons (.idx (.var 0) (.var 2)) .nil)) .nil)))
  (.cons (.ite (.cmp .ge (.var 3) (.bin .pow (.const (.int 10)) (.const (.int 18))))
  (.cons (.loop (.name 4) (.range1 (.const (.int 40)))
  (.cons (.ite (.cmp .gt (.var 3) (.const (.int 0)))
  (.cons (.expr (.append (.var 1) (.bin .mod (.var 3) (.const (.int 1009)))))
  (.cons (.asg (.name 3) (.bin .div (.var 3) (.const (.int 1009))))
  .nil))
  .nil)
  .nil))
  .nil)
  (.cons (.asg (.name 3) (.bin .add (.bin .add (.bin .mul (.bin .mod (.var 3) (.const (.int 2147483629))) (.const (.int 48271))) (.bin .mul (.var 2) (.const (.int 69621)))) (.const (.int 11))))
  (.cons (.loop (.name 4) (.range1 (.const (.int 5)))
  (.cons (.asg (.name 3) (.bin .mod (.bin .add (.bin .add (.bin .mul (.var 3) (.const (.int 16807))) (.const (.int 12345))) (.var 4)) (.const (.int 2147483647))))
  (.cons (.expr (.append (.var 1) (.bin .mod (.bin .div (.var 3) (.const (.int 7))) (.const (.int 1009)))))
  .nil)))
  .nil)))
  .nil)))
  (.cons (.asg (.name 5) (.bin .add (.prim .sum (.cons (.var 1) .nil)) (.prim .len (.cons (.var 0) .nil))))
  (.cons (.ret (.lst false (.cons (.var 1) (.cons (.lst true (.cons (.const (.int 0)) .nil)) (.cons (.var 5) .nil)))))
  .nil)))), true⟩
def d_law_take : FDef := ⟨2, 5, (.cons (.asg (.name 2) (.idx (.idx (.var 0) (.const (.int 1))) (.const (.int 0))))
  (.cons (.setI (.idx (.var 0) (.const (.int 1))) (.const (.int 0)) (.bin .add (.var 2) (.const (.int 1))))
  (.cons (.ite (.cmp .lt (.var 2) (.prim .len (.cons (.idx (.var 0) (.const (.int 0))) .nil)))
  (.cons (.ret (.bin .mod (.idx (.idx (.var 0) (.const (.int 0))) (.var 2)) (.var 1)))
  .nil)
  .nil)
  (.cons (.asg (.name 3) (.bin .mod (.bin .add (.bin .add (.bin .mul (.var 2) (.const (.int 7919))) (.bin .mul (.idx (.var 0) (.const (.int 2))) (.const (.int 31)))) (.const (.int 17))) (.const (.int 2147483629))))
  (.cons (.loop (.name 4) (.range1 (.const (.int 3)))
  (.cons (.asg (.name 3) (.bin .mod (.bin .add (.bin .add (.bin .mul (.var 3) (.var 3)) (.bin .mul (.const (.int 48271)) (.var 2))) (.const (.int 12345))) (.const (.int 2147483647))))
  .nil))
  (.cons (.ret (.bin .mod (.bin .div (.var 3) (.const (.int 7))) (.var 1)))
  .nil)))))), false⟩
def d_law_same : FDef := ⟨2, 3, (.cons (.ite (.or (.val (.isi (.var 1) .tuple)) (.val (.isi (.var 1) .list)))
  (.cons (.ite (.or (.and (.val (.isi (.var 1) .tuple)) (.not (.val (.isi (.var 0) .tuple)))) (.and (.val (.isi (.var 1) .list)) (.not (.val (.isi (.var 0) .list)))))
  (.cons (.ret (.const (.bl false)))
  .nil)
  .nil)
  (.cons (.ite (.cmp .ne (.prim .len (.cons (.var 0) .nil)) (.prim .len (.cons (.var 1) .nil)))
  (.cons (.ret (.const (.bl false)))
  .nil)
  .nil)
  (.cons (.loop (.name 2) (.range1 (.prim .len (.cons (.var 1) .nil)))
  (.cons (.ite (.not (.val (.call 11 (.cons (.idx (.var 0) (.var 2)) (.cons (.idx (.var 1) (.var 2)) .nil)))))
  (.cons (.ret (.const (.bl false)))
  .nil)
  .nil)
  .nil))
  (.cons (.ret (.const (.bl true)))
  .nil))))
  .nil)
  (.cons (.ite (.or (.val (.isi (.var 0) .bool)) (.val (.isi (.var 1) .bool)))
  (.cons (.ret (.and (.isi (.var 0) .bool) (.and (.isi (.var 1) .bool) (.cmp .eq (.var 0) (.var 1)))))
  .nil)
  .nil)
  (.cons (.ite (.val (.isi (.var 1) .int))
  (.cons (.ret (.and (.isi (.var 0) .int) (.cmp .eq (.var 0) (.var 1))))
  .nil)
  .nil)
  (.cons (.ite (.val (.isi (.var 1) .str))
  (.cons (.ret (.and (.isi (.var 0) .str) (.cmp .eq (.var 0) (.var 1))))
  .nil)
  .nil)
  (.cons (.ret (.and (.cmp .is (.var 0) (.const .non)) (.cmp .is (.var 1) (.const .non))))
  .nil))))), false⟩
def d_law_bool : FDef := ⟨2, 2, (.cons (.ret (.and (.isi (.var 0) .bool) (.cmp .eq (.var 0) (.var 1))))
  .nil), false⟩
def d_law_kind : FDef := ⟨1, 4, (.cons (.asg (.name 1) (.call 10 (.cons (.var 0) (.cons (.const (.int 6)) .nil))))
  (.cons (.ite (.cmp .eq (.var 1) (.const (.int 0)))
  (.cons (.ret (.tup (.cons (.const (.int 1)) (.cons (.const (.int 1)) (.cons (.const (.int 1)) (.cons (.const (.int 1)) .nil))))))
  .nil)
  .nil)
  (.cons (.ite (.cmp .eq (.var 1) (.const (.int 1)))
  (.cons (.ret (.tup (.cons (.bin .sub (.const (.int 100)) (.call 10 (.cons (.var 0) (.cons (.const (.int 60)) .nil)))) (.cons (.const (.int 100)) (.cons (.bin .add (.const (.int 100)) (.call 10 (.cons (.var 0) (.cons (.const (.int 90)) .nil)))) (.cons (.const (.int 100)) .nil))))))
  .nil)
  .nil)
  (.cons (.ite (.cmp .eq (.var 1) (.const (.int 2)))
  (.cons (.ret (.tup (.cons (.const (.int 1)) (.cons (.bin .add (.const (.int 1)) (.call 10 (.cons (.var 0) (.cons (.const (.int 3)) .nil)))) (.cons (.bin .add (.const (.int 1)) (.call 10 (.cons (.var 0) (.cons (.const (.int 3)) .nil)))) (.cons (.const (.int 1)) .nil))))))
  .nil)
  .nil)
  (.cons (.asg (.name 2) (.bin .add (.const (.int 1)) (.call 10 (.cons (.var 0) (.cons (.const (.int 12)) .nil)))))
  (.cons (.asg (.name 3) (.bin .add (.const (.int 1)) (.call 10 (.cons (.var 0) (.cons (.const (.int 12)) .nil)))))
  (.cons (.ret (.tup (.cons (.bin .add (.const (.int 1)) (.call 10 (.cons (.var 0) (.cons (.var 2) .nil)))) (.cons (.var 2) (.cons (.bin .add (.var 3) (.call 10 (.cons (.var 0) (.cons (.const (.int 9)) .nil)))) (.cons (.var 3) .nil))))))
  .nil))))))), false⟩
def d_law_low : FDef := ⟨2, 2, (.cons (.ret (.bin .div (.bin .mul (.var 1) (.idx (.var 0) (.const (.int 0)))) (.idx (.var 0) (.const (.int 1)))))
  .nil), false⟩
def d_law_high : FDef := ⟨2, 2, (.cons (.ret (.bin .div (.bin .sub (.bin .add (.bin .mul (.var 1) (.idx (.var 0) (.const (.int 2)))) (.idx (.var 0) (.const (.int 3)))) (.const (.int 1))) (.idx (.var 0) (.const (.int 3)))))
  .nil), false⟩
def d_law_is_clock : FDef := ⟨2, 5, (.cons (.ite (.or (.cmp .eq (.prim .len (.cons (.var 1) .nil)) (.const (.int 0))) (.cmp .ne (.idx (.var 1) (.const (.int 0))) (.const (.int 0))))
  (.cons (.ret (.const (.bl false)))
  .nil)
  .nil)
  (.cons (.loop (.name 2) (.range1 (.prim .len (.cons (.var 1) .nil)))
  (.cons (.loop (.name 3) (.range2 (.bin .add (.var 2) (.const (.int 1))) (.prim .len (.cons (.var 1) .nil)))
  (.cons (.asg (.name 4) (.bin .sub (.idx (.var 1) (.var 3)) (.idx (.var 1) (.var 2))))
  (.cons (.ite (.or (.cmp .lt (.var 4) (.call 14 (.cons (.var 0) (.cons (.bin .sub (.var 3) (.var 2)) .nil)))) (.cmp .gt (.var 4) (.call 15 (.cons (.var 0) (.cons (.bin .sub (.var 3) (.var 2)) .nil)))))
  (.cons (.ret (.const (.bl false)))
  .nil)
  .nil)
  .nil)))
  .nil))
  (.cons (.ret (.const (.bl true)))
  .nil))), false⟩
def d_law_clock : FDef := ⟨3, 9, (.cons (.asg (.name 3) (.lst true (.cons (.const (.int 0)) .nil)))
  (.cons (.asg (.name 4) (.call 10 (.cons (.var 0) (.cons (.const (.int 3)) .nil))))
  (.cons (.loop (.name 5) (.range2 (.const (.int 1)) (.bin .add (.var 2) (.const (.int 1))))
  (.cons (.asg (.name 6) (.prim .max1 (.cons (.comp false (.bin .add (.idx (.var 3) (.var 7)) (.call 14 (.cons (.var 1) (.cons (.bin .sub (.var 5) (.var 7)) .nil)))) (.name 7) (.range1 (.var 5)) .tru [7]) .nil)))
  (.cons (.asg (.name 8) (.prim .min1 (.cons (.comp false (.bin .add (.idx (.var 3) (.var 7)) (.call 15 (.cons (.var 1) (.cons (.bin .sub (.var 5) (.var 7)) .nil)))) (.name 7) (.range1 (.var 5)) .tru [7]) .nil)))
  (.cons (.expr (.append (.var 3) (.idx (.lst false (.cons (.var 6) (.cons (.var 8) (.cons (.bin .add (.var 6) (.call 10 (.cons (.var 0) (.cons (.bin .add (.prim .min2 (.cons (.bin .sub (.var 8) (.var 6)) (.cons (.const (.int 900)) .nil))) (.const (.int 1))) .nil)))) .nil)))) (.ite (.cmp .eq (.var 4) (.const (.int 0))) (.call 10 (.cons (.var 0) (.cons (.const (.int 3)) .nil))) (.var 4)))))
  .nil))))
  (.cons (.ret (.prim .tuple (.cons (.var 3) .nil)))
  .nil)))), false⟩
def d_law_form : FDef := ⟨1, 5, (.cons (.asg (.tup (.cons (.name 1) (.cons (.name 2) (.cons (.name 3) (.cons (.name 4) .nil))))) (.var 0))
  (.cons (.ite (.or (.cmp .lt (.var 1) (.const (.int 1))) (.or (.cmp .lt (.var 4) (.const (.int 1))) (.or (.cmp .gt (.var 1) (.var 2)) (.cmp .gt (.var 4) (.var 3)))))
  (.cons (.ret (.const (.bl false)))
  .nil)
  .nil)
  (.cons (.ret (.and (.cmp .le (.var 2) (.const (.int 10000))) (.cmp .le (.var 3) (.const (.int 10000)))))
  .nil))), false⟩
def d_law_forms : FDef := ⟨1, 7, (.cons (.asg (.tup (.cons (.name 1) (.cons (.name 2) (.cons (.name 3) (.cons (.name 4) .nil))))) (.var 0))
  (.cons (.asg (.name 5) (.lst false (.cons (.var 0) (.cons (.tup (.cons (.var 2) (.cons (.var 1) (.cons (.var 3) (.cons (.var 4) .nil))))) (.cons (.tup (.cons (.var 1) (.cons (.var 2) (.cons (.var 4) (.cons (.var 3) .nil))))) (.cons (.tup (.cons (.const (.int 0)) (.cons (.var 2) (.cons (.var 3) (.cons (.var 4) .nil))))) (.cons (.tup (.cons (.var 1) (.cons (.var 2) (.cons (.var 3) (.cons (.const (.int 0)) .nil))))) (.cons (.tup (.cons (.var 1) (.cons (.const (.int 0)) (.cons (.var 3) (.cons (.var 4) .nil))))) (.cons (.tup (.cons (.var 1) (.cons (.var 2) (.cons (.const (.int 0)) (.cons (.var 4) .nil))))) (.cons (.tup (.cons (.neg (.var 1)) (.cons (.var 2) (.cons (.var 3) (.cons (.var 4) .nil))))) (.cons (.tup (.cons (.var 1) (.cons (.const (.int 10000)) (.cons (.const (.int 10000)) (.cons (.var 4) .nil))))) (.cons (.tup (.cons (.var 1) (.cons (.const (.int 10001)) (.cons (.var 3) (.cons (.var 4) .nil))))) .nil))))))))))))
  (.cons (.asg (.name 5) (.bin .add (.var 5) (.lst false (.cons (.tup (.cons (.var 1) (.cons (.var 2) (.cons (.const (.int 10001)) (.cons (.var 4) .nil))))) (.cons (.tup (.cons (.bin .add (.var 2) (.const (.int 1))) (.cons (.var 2) (.cons (.var 3) (.cons (.var 4) .nil))))) (.cons (.tup (.cons (.var 1) (.cons (.var 2) (.cons (.bin .sub (.var 4) (.const (.int 1))) (.cons (.var 4) .nil))))) (.cons (.tup (.cons (.var 2) (.cons (.var 2) (.cons (.var 4) (.cons (.var 4) .nil))))) (.cons (.tup (.cons (.const (.int 10000)) (.cons (.const (.int 10000)) (.cons (.const (.int 10000)) (.cons (.const (.int 10000)) .nil))))) (.cons (.tup (.cons (.const (.int 10001)) (.cons (.const (.int 10001)) (.cons (.var 3) (.cons (.var 4) .nil))))) (.cons (.tup (.cons (.var 1) (.cons (.var 2) (.cons (.const (.int 10001)) (.cons (.const (.int 10001)) .nil))))) .nil))))))))))
  (.cons (.ret (.cmp .eq (.prim .len (.cons (.comp false (.const (.int 1)) (.name 6) (.ex (.var 5)) (.not (.val (.call 12 (.cons (.call 0 (.cons (.var 6) .nil)) (.cons (.call 18 (.cons (.var 6) .nil)) .nil))))) [6]) .nil)) (.const (.int 0))))
  .nil)))), false⟩
def d_law_greatest : FDef := ⟨2, 2, (.cons (.ret (.ite (.cmp .ge (.var 1) (.const (.int 0))) (.call 15 (.cons (.var 0) (.cons (.var 1) .nil))) (.bin .sub (.const (.int 0)) (.call 14 (.cons (.var 0) (.cons (.bin .sub (.const (.int 0)) (.var 1)) .nil))))))
  .nil), false⟩
def d_law_counts : FDef := ⟨2, 5, (.cons (.loop (.name 2) (.ex (.lst false (.cons (.const (.int 0)) (.cons (.const (.int 1)) (.cons (.const (.int 2)) (.cons (.call 10 (.cons (.var 0) (.cons (.const (.int 40)) .nil))) (.cons (.bin .add (.const (.int 10000)) (.call 10 (.cons (.var 0) (.cons (.const (.int 1000)) .nil)))) .nil)))))))
  (.cons (.ite (.or (.not (.val (.call 11 (.cons (.call 1 (.cons (.var 1) (.cons (.var 2) .nil))) (.cons (.call 14 (.cons (.var 1) (.cons (.var 2) .nil))) .nil))))) (.not (.val (.call 11 (.cons (.call 2 (.cons (.var 1) (.cons (.var 2) .nil))) (.cons (.call 15 (.cons (.var 1) (.cons (.var 2) .nil))) .nil))))))
  (.cons (.ret (.const (.bl false)))
  .nil)
  .nil)
  .nil))
  (.cons (.loop (.name 3) (.ex (.lst false (.cons (.const (.int 0)) (.cons (.const (.int 1)) (.cons (.neg (.const (.int 1))) (.cons (.call 10 (.cons (.var 0) (.cons (.const (.int 60)) .nil))) (.cons (.bin .sub (.const (.int 0)) (.call 10 (.cons (.var 0) (.cons (.const (.int 60)) .nil)))) (.cons (.const (.int 100000)) (.cons (.neg (.const (.int 100000))) .nil)))))))))
  (.cons (.asg (.name 4) (.call 3 (.cons (.var 1) (.cons (.var 3) .nil))))
  (.cons (.ite (.or (.not (.val (.isi (.var 4) .int))) (.val (.isi (.var 4) .bool)))
  (.cons (.ret (.const (.bl false)))
  .nil)
  .nil)
  (.cons (.ite (.or (.cmp .gt (.call 20 (.cons (.var 1) (.cons (.var 4) .nil))) (.var 3)) (.cmp .le (.call 20 (.cons (.var 1) (.cons (.bin .add (.var 4) (.const (.int 1))) .nil))) (.var 3)))
  (.cons (.ret (.const (.bl false)))
  .nil)
  .nil)
  .nil))))
  (.cons (.ret (.const (.bl true)))
  .nil))), false⟩
def d_law_bent : FDef := ⟨3, 8, (.cons (.asg (.name 3) (.lst true (.cons (.tup .nil) (.cons (.bin .add (.tup (.cons (.const (.int 1)) .nil)) (.slice (.var 2) (.some (.const (.int 1))) .none)) (.cons (.slice (.var 2) (.some (.const (.int 1))) .none) (.cons (.bin .add (.var 2) (.tup (.cons (.bin .sub (.idx (.var 2) (.neg (.const (.int 1)))) (.const (.int 1))) .nil))) (.cons (.tup (.cons (.const (.int 0)) .nil)) (.cons (.bin .add (.var 2) (.tup (.cons (.bin .add (.idx (.var 2) (.neg (.const (.int 1)))) (.call 15 (.cons (.var 1) (.cons (.const (.int 1)) .nil)))) .nil))) (.cons (.bin .add (.var 2) (.tup (.cons (.bin .add (.bin .add (.idx (.var 2) (.neg (.const (.int 1)))) (.call 15 (.cons (.var 1) (.cons (.const (.int 1)) .nil)))) (.const (.int 1))) .nil))) .nil)))))))))
  (.cons (.loop (.name 4) (.range1 (.const (.int 4)))
  (.cons (.asg (.name 5) (.call 10 (.cons (.var 0) (.cons (.prim .len (.cons (.var 2) .nil)) .nil))))
  (.cons (.loop (.name 6) (.ex (.lst false (.cons (.const (.int 1)) (.cons (.neg (.const (.int 1))) .nil))))
  (.cons (.expr (.append (.var 3) (.bin .add (.bin .add (.slice (.var 2) .none (.some (.var 5))) (.tup (.cons (.bin .add (.idx (.var 2) (.var 5)) (.var 6)) .nil))) (.slice (.var 2) (.some (.bin .add (.var 5) (.const (.int 1)))) .none))))
  (.cons (.expr (.append (.var 3) (.bin .add (.slice (.var 2) .none (.some (.var 5))) (.prim .tuple (.cons (.comp false (.bin .add (.var 7) (.var 6)) (.name 7) (.ex (.slice (.var 2) (.some (.var 5)) .none)) .tru [7]) .nil)))))
  .nil)))
  .nil)))
  (.cons (.ret (.var 3))
  .nil))), false⟩
def d_law_extremes : FDef := ⟨2, 15, (.cons (.asg (.tup (.cons (.name 2) (.cons (.name 3) (.cons (.name 4) (.cons (.name 5) .nil))))) (.var 1))
  (.cons (.asg (.name 6) (.bin .add (.const (.int 4)) (.call 10 (.cons (.var 0) (.cons (.const (.int 12)) .nil)))))
  (.cons (.asg (.name 7) (.call 10 (.cons (.var 0) (.cons (.var 6) .nil))))
  (.cons (.par2 8 9 (.call 7 (.cons (.var 1) (.cons (.var 7) (.cons (.var 6) .nil)))) (.call 8 (.cons (.var 1) (.cons (.var 7) (.cons (.var 6) .nil)))))
  (.cons (.par2 10 11 (.bin .sub (.bin .mul (.var 7) (.var 4)) (.bin .mul (.bin .div (.bin .mul (.var 7) (.var 4)) (.var 5)) (.var 5))) (.bin .sub (.bin .mul (.bin .mul (.bin .sub (.var 3) (.const (.int 1))) (.var 7)) (.var 2)) (.bin .mul (.bin .div (.bin .mul (.bin .mul (.bin .sub (.var 3) (.const (.int 1))) (.var 7)) (.var 2)) (.var 3)) (.var 3))))
  (.cons (.ite (.or (.not (.val (.call 11 (.cons (.var 8) (.cons (.call 5 (.cons (.var 1) (.cons (.var 10) (.cons (.var 6) .nil)))) .nil))))) (.not (.val (.call 11 (.cons (.var 9) (.cons (.call 6 (.cons (.var 1) (.cons (.var 11) (.cons (.var 6) .nil)))) .nil))))))
  (.cons (.ret (.const (.bl false)))
  .nil)
  .nil)
  (.cons (.ite (.or (.cmp .ne (.prim .len (.cons (.var 8) .nil)) (.bin .add (.var 6) (.const (.int 1)))) (.or (.cmp .ne (.prim .len (.cons (.var 9) .nil)) (.bin .add (.var 6) (.const (.int 1)))) (.or (.not (.val (.call 16 (.cons (.var 1) (.cons (.var 8) .nil))))) (.not (.val (.call 16 (.cons (.var 1) (.cons (.var 9) .nil))))))))
  (.cons (.ret (.const (.bl false)))
  .nil)
  .nil)
  (.cons (.loop (.name 12) (.range1 (.bin .sub (.bin .add (.var 6) (.const (.int 1))) (.var 7)))
  (.cons (.ite (.or (.cmp .ne (.bin .sub (.idx (.var 8) (.bin .add (.var 7) (.var 12))) (.idx (.var 8) (.var 7))) (.call 15 (.cons (.var 1) (.cons (.var 12) .nil)))) (.cmp .ne (.bin .sub (.idx (.var 9) (.bin .add (.var 7) (.var 12))) (.idx (.var 9) (.var 7))) (.call 14 (.cons (.var 1) (.cons (.var 12) .nil)))))
  (.cons (.ret (.const (.bl false)))
  .nil)
  .nil)
  .nil))
  (.cons (.loop (.name 13) (.ex (.lst false (.cons (.const (.int 0)) (.cons (.call 10 (.cons (.var 0) (.cons (.var 5) .nil))) (.cons (.bin .sub (.var 5) (.const (.int 1))) .nil)))))
  (.cons (.asg (.name 14) (.prim .tuple (.cons (.comp false (.bin .div (.bin .sub (.bin .add (.bin .sub (.bin .mul (.var 12) (.var 4)) (.var 13)) (.var 5)) (.const (.int 1))) (.var 5)) (.name 12) (.range1 (.bin .add (.var 6) (.const (.int 1)))) .tru [12]) .nil)))
  (.cons (.ite (.or (.not (.val (.call 11 (.cons (.call 5 (.cons (.var 1) (.cons (.var 13) (.cons (.var 6) .nil)))) (.cons (.var 14) .nil))))) (.not (.val (.call 16 (.cons (.var 1) (.cons (.var 14) .nil))))))
  (.cons (.ret (.const (.bl false)))
  .nil)
  .nil)
  .nil)))
  (.cons (.loop (.name 13) (.ex (.lst false (.cons (.const (.int 0)) (.cons (.call 10 (.cons (.var 0) (.cons (.var 3) .nil))) (.cons (.bin .sub (.var 3) (.const (.int 1))) .nil)))))
  (.cons (.asg (.name 14) (.prim .tuple (.cons (.comp false (.bin .div (.bin .add (.bin .mul (.var 12) (.var 2)) (.var 13)) (.var 3)) (.name 12) (.range1 (.bin .add (.var 6) (.const (.int 1)))) .tru [12]) .nil)))
  (.cons (.ite (.or (.not (.val (.call 11 (.cons (.call 6 (.cons (.var 1) (.cons (.var 13) (.cons (.var 6) .nil)))) (.cons (.var 14) .nil))))) (.not (.val (.call 16 (.cons (.var 1) (.cons (.var 14) .nil))))))
  (.cons (.ret (.const (.bl false)))
  .nil)
  .nil)
  .nil)))
  (.cons (.ret (.const (.bl true)))
  .nil))))))))))), false⟩
def d_law : FDef := ⟨1, 5, (.cons (.asg (.name 1) (.call 9 (.cons (.var 0) .nil)))
  (.cons (.asg (.name 2) (.call 13 (.cons (.var 1) .nil)))
  (.cons (.ite (.or (.not (.val (.call 19 (.cons (.var 2) .nil)))) (.or (.not (.val (.call 21 (.cons (.var 1) (.cons (.var 2) .nil))))) (.not (.val (.call 23 (.cons (.var 1) (.cons (.var 2) .nil)))))))
  (.cons (.ret (.const (.bl false)))
  .nil)
  .nil)
  (.cons (.asg (.name 3) (.call 17 (.cons (.var 1) (.cons (.var 2) (.cons (.bin .add (.const (.int 3)) (.call 10 (.cons (.var 1) (.cons (.const (.int 14)) .nil)))) .nil)))))
  (.cons (.ite (.or (.not (.val (.call 16 (.cons (.var 2) (.cons (.var 3) .nil))))) (.not (.val (.call 12 (.cons (.call 4 (.cons (.var 2) (.cons (.var 3) .nil))) (.cons (.const (.bl true)) .nil))))))
  (.cons (.ret (.const (.bl false)))
  .nil)
  .nil)
  (.cons (.loop (.name 4) (.ex (.call 22 (.cons (.var 1) (.cons (.var 2) (.cons (.var 3) .nil)))))
  (.cons (.ite (.not (.val (.call 12 (.cons (.call 4 (.cons (.var 2) (.cons (.var 4) .nil))) (.cons (.call 16 (.cons (.var 2) (.cons (.var 4) .nil))) .nil)))))
  (.cons (.ret (.const (.bl false)))
  .nil)
  .nil)
  .nil))
  (.cons (.ret (.const (.bl true)))
  .nil))))))), false⟩
def infs : List Inf := [⟨["kind", "p", "q", "r", "s"], ["kind"], false⟩,
  ⟨["kind", "ticks"], ["kind", "ticks"], false⟩,
  ⟨["kind", "ticks"], ["kind", "ticks"], false⟩,
  ⟨["kind", "minutes", "p", "q", "r", "s"], ["kind", "minutes"], false⟩,
  ⟨["kind", "clock", "a", "b"], ["kind", "clock"], false⟩,
  ⟨["kind", "phase", "last", "_", "r", "s", "tick"], ["kind", "phase", "last"], false⟩,
  ⟨["kind", "phase", "last", "p", "q", "_", "tick"], ["kind", "phase", "last"], false⟩,
  ⟨["kind", "tick", "last"], ["kind", "tick", "last"], false⟩,
  ⟨["kind", "tick", "last"], ["kind", "tick", "last"], false⟩,
  ⟨["script", "row", "k", "cell", "turn", "total"], ["script"], true⟩,
  ⟨["deal", "many", "at", "cell", "turn"], ["deal", "many"], false⟩,
  ⟨["a", "b", "k"], ["a", "b"], false⟩,
  ⟨["answer", "due"], ["answer", "due"], false⟩,
  ⟨["deal", "way", "q", "s"], ["deal"], false⟩,
  ⟨["kind", "ticks"], ["kind", "ticks"], false⟩,
  ⟨["kind", "ticks"], ["kind", "ticks"], false⟩,
  ⟨["kind", "clock", "a", "b", "gap"], ["kind", "clock"], false⟩,
  ⟨["deal", "kind", "last", "found", "way", "c", "low", "a", "high"], ["deal", "kind", "last"], false⟩,
  ⟨["kind", "p", "q", "r", "s"], ["kind"], false⟩,
  ⟨["kind", "p", "q", "r", "s", "odds", "odd"], ["kind"], false⟩,
  ⟨["kind", "ticks"], ["kind", "ticks"], false⟩,
  ⟨["deal", "kind", "ticks", "minutes", "told"], ["deal", "kind"], false⟩,
  ⟨["deal", "kind", "clock", "found", "turn", "k", "by", "t"], ["deal", "kind", "clock"], false⟩,
  ⟨["deal", "kind", "p", "q", "r", "s", "last", "tick", "slow", "fast", "one", "two", "c", "phase", "due"], ["deal", "kind"], false⟩,
  ⟨["script", "deal", "kind", "clock", "odd"], ["script"], false⟩]
def cells : List (Nat × Nat) := [(33, 10), (47, 17), (101, 12), (132, 12)]
def defs : List FDef := [d_is_kind, d_least_minutes, d_most_minutes, d_most_ticks, d_is_clock, d_slow_clock, d_fast_clock, d_slowest_from, d_fastest_from, d_law_deal, d_law_take, d_law_same, d_law_bool, d_law_kind, d_law_low, d_law_high, d_law_is_clock, d_law_clock, d_law_form, d_law_forms, d_law_greatest, d_law_counts, d_law_bent, d_law_extremes, d_law]
theorem defs_ok : defsOf (tabOf fa fn cells) fn infs = some defs := by kernel_rfl
abbrev P : Prg := ⟨defs, metOf fa 0 fn, attOf fa⟩
theorem at_is_kind : P.defs[0]? = some d_is_kind := rfl
theorem at_least_minutes : P.defs[1]? = some d_least_minutes := rfl
theorem at_most_minutes : P.defs[2]? = some d_most_minutes := rfl
theorem at_most_ticks : P.defs[3]? = some d_most_ticks := rfl
theorem at_is_clock : P.defs[4]? = some d_is_clock := rfl
theorem at_slow_clock : P.defs[5]? = some d_slow_clock := rfl
theorem at_fast_clock : P.defs[6]? = some d_fast_clock := rfl
theorem at_slowest_from : P.defs[7]? = some d_slowest_from := rfl
theorem at_fastest_from : P.defs[8]? = some d_fastest_from := rfl
theorem at_law_deal : P.defs[9]? = some d_law_deal := rfl
theorem at_law_take : P.defs[10]? = some d_law_take := rfl
theorem at_law_same : P.defs[11]? = some d_law_same := rfl
theorem at_law_bool : P.defs[12]? = some d_law_bool := rfl
theorem at_law_kind : P.defs[13]? = some d_law_kind := rfl
theorem at_law_low : P.defs[14]? = some d_law_low := rfl
theorem at_law_high : P.defs[15]? = some d_law_high := rfl
theorem at_law_is_clock : P.defs[16]? = some d_law_is_clock := rfl
theorem at_law_clock : P.defs[17]? = some d_law_clock := rfl
theorem at_law_form : P.defs[18]? = some d_law_form := rfl
theorem at_law_forms : P.defs[19]? = some d_law_forms := rfl
theorem at_law_greatest : P.defs[20]? = some d_law_greatest := rfl
theorem at_law_counts : P.defs[21]? = some d_law_counts := rfl
theorem at_law_bent : P.defs[22]? = some d_law_bent := rfl
theorem at_law_extremes : P.defs[23]? = some d_law_extremes := rfl
theorem at_law : P.defs[24]? = some d_law := rfl
abbrev iLaw : Nat := 24
end K82
namespace K82
open PySem Rf
/-! ### floors and ceilings -/
def fl (x y : Int) : Int := x / y
def ce (x y : Int) : Int := (x + y - 1) / y
theorem fl_le {x y n : Int} (h : 0 < y) : n ≤ fl x y ↔ n * y ≤ x := Int.le_ediv_iff_mul_le h
theorem ce_le {x y n : Int} (h : 0 < y) : ce x y ≤ n ↔ x ≤ n * y := by
  unfold ce
  rw [show ((x + y - 1) / y ≤ n ↔ (x + y - 1) / y < n + 1) from ⟨fun z => by omega, fun z => by omega⟩, Int.ediv_lt_iff_lt_mul h, Int.add_mul, Int.one_mul]
  constructor <;> intro <;> omega
theorem ce_neg {x y : Int} (h : 0 < y) : -((-x) / y) = ce x y := by
  have h1 : ∀ n, -((-x) / y) ≤ n ↔ ce x y ≤ n := fun n => by
    rw [ce_le h, show (-((-x) / y) ≤ n ↔ -n ≤ (-x) / y) from ⟨fun z => by omega, fun z => by omega⟩, Int.le_ediv_iff_mul_le h, Int.neg_mul]
    constructor <;> intro <;> omega
  have a := (h1 (ce x y)).mpr (Int.le_refl _)
  have b := (h1 (-((-x) / y))).mp (Int.le_refl _)
  omega
/-! ### encodings -/
structure Kind where
  p : Int
  q : Int
  r : Int
  s : Int
def encK (k : Kind) : D := .tup [.int k.p, .int k.q, .int k.r, .int k.s]
def encT (ts : List Int) : D := .tup (ts.map .int)
/-- small kinds, as the law makes them -/
structure KOk (k : Kind) : Prop where
  p1 : 1 ≤ k.p
  pq : k.p ≤ k.q
  q2 : k.q ≤ 10000
  s1 : 1 ≤ k.s
  sr : k.s ≤ k.r
  r2 : k.r ≤ 10000
section
variable {t k : Nat} {m : Mem} {K : Kind}
@[simp] theorem K0' : idx (encK K) (.int 0) m = some (.int K.p) := rfl
@[simp] theorem K1' : idx (encK K) (.int 1) m = some (.int K.q) := rfl
@[simp] theorem K2' : idx (encK K) (.int 2) m = some (.int K.r) := rfl
@[simp] theorem K3' : idx (encK K) (.int 3) m = some (.int K.s) := rfl
@[simp] theorem bindK {gs : Gs} {r : Rf.Env} : bindG (.tup gs) (encK K) r = bindGs gs [.int K.p, .int K.q, .int K.r, .int K.s] r := bindG_tup
@[simp] theorem T_len {ts : List Int} : prim .len [encT ts] m = some (.int (ts.length : Nat)) := by show some (D.int ((ts.map D.int).length : Nat)) = _; rw [List.length_map]
@[simp] theorem T_src {ts : List Int} : srcOf m (encT ts) = some ⟨ts.map .int, []⟩ := rfl
def kindC (k : Kind) : Bool := decide (1 ≤ k.p) && decide (k.p ≤ k.q) && decide (k.q ≤ 10000) && (decide (1 ≤ k.s) && decide (k.s ≤ k.r) && decide (k.r ≤ 10000))
theorem is_kind_eq (K : Kind) : callF P t (k + 1) 0 [encK K] m = .ok (.bl (kindC K)) m := by
  refine Ok_iff.mp (call_ok at_is_kind rfl ?_)
  simp [d_is_kind, startD, kindC, Ok_ite]
  grind
theorem law_form_eq (K : Kind) : callF P t (k + 1) 18 [encK K] m = .ok (.bl (kindC K)) m := by
  refine Ok_iff.mp (call_ok at_law_form rfl ?_)
  simp [d_law_form, startD, kindC, Ok_ite]
  grind
def low (K : Kind) (x : Int) : Int := fl (x * K.p) K.q
def high (K : Kind) (x : Int) : Int := ce (x * K.r) K.s
theorem natAbs_lt {x : Int} (h : 0 ≤ x) (h2 : x ≤ 10000) : x.natAbs < 2 ^ 64 := by omega
theorem low_eq (O : KOk K) (x : Int) : callF P t (k + 1) 14 [encK K, .int x] m = .ok (.int (low K x)) m := by
  obtain ⟨p1, pq, q2, s1, sr, r2⟩ := O
  refine Ok_iff.mp (call_ok at_law_low rfl ?_)
  simp [d_law_low, startD, bin_mulI' (.inr (natAbs_lt (show 0 ≤ K.p by omega) (by omega))), bin_divI' (show 0 < K.q by omega) (by omega), low, fl]
theorem high_eq (O : KOk K) (x : Int) : callF P t (k + 1) 15 [encK K, .int x] m = .ok (.int (high K x)) m := by
  obtain ⟨p1, pq, q2, s1, sr, r2⟩ := O
  refine Ok_iff.mp (call_ok at_law_high rfl ?_)
  simp [d_law_high, startD, bin_mulI' (.inr (natAbs_lt (show 0 ≤ K.r by omega) (by omega))), bin_divI' (show 0 < K.s by omega) (by omega), high, ce]
theorem least_eq (O : KOk K) (x : Int) : callF P t (k + 1) 1 [encK K, .int x] m = .ok (.int (low K x)) m := by
  obtain ⟨p1, pq, q2, s1, sr, r2⟩ := O
  refine Ok_iff.mp (call_ok at_least_minutes rfl ?_)
  simp [d_least_minutes, startD, bin_mulI' (.inr (natAbs_lt (show 0 ≤ K.p by omega) (by omega))), bin_divI' (show 0 < K.q by omega) (by omega), low, fl]
theorem most_eq (O : KOk K) (x : Int) : callF P t (k + 1) 2 [encK K, .int x] m = .ok (.int (high K x)) m := by
  obtain ⟨p1, pq, q2, s1, sr, r2⟩ := O
  refine Ok_iff.mp (call_ok at_most_minutes rfl ?_)
  simp [d_most_minutes, startD, bin_mulI' (.inr (natAbs_lt (show 0 ≤ K.r by omega) (by omega))), bin_divI' (show 0 < K.s by omega) (by omega), high]
  rw [← ce_neg (show 0 < K.s by omega), Int.neg_mul]
/-! ### clocks -/
def atN (ts : List Int) (n : Nat) : Int := ts.getD n 0
theorem T_at {ts : List Int} {n : Nat} (h : n < ts.length) : idx (encT ts) (.int (n : Nat)) m = some (.int (atN ts n)) := by
  show nth (ts.map D.int) _ = _
  rw [nth_lit, List.getElem?_map, List.getElem?_eq_getElem h]
  unfold atN
  rw [List.getD_eq_getElem?_getD, List.getElem?_eq_getElem h]; rfl
def pairC (K : Kind) (ts : List Int) (a b : Nat) : Bool := decide (low K ((b : Int) - (a : Int)) ≤ atN ts b - atN ts a) && decide (atN ts b - atN ts a ≤ high K ((b : Int) - (a : Int)))
def rowC (K : Kind) (ts : List Int) (a : Nat) : Bool := (List.range (ts.length - (a + 1))).all fun i => pairC K ts a (a + 1 + i)
def clockC (K : Kind) (ts : List Int) : Bool := (ts.head? == some 0) && (List.range ts.length).all (rowC K ts)
theorem rangeT {a n : Nat} (h : n ≤ 1000) : rangeS (.int ((a : Int) + 1)) (.int (n : Nat)) = if a < 1000 then some ((List.range (n - (a + 1))).map fun (i : Nat) => D.int ((a + 1 + i : Nat) : Int)) else rangeS (.int ((a : Int) + 1)) (.int (n : Nat)) := by
  split
  · rw [rangeS_int (by omega) (by omega) (by omega) (by omega) (by omega)]
    unfold rangeL
    have e1 : ((n : Int) - ((a : Int) + 1)).toNat = n - (a + 1) := by omega
    rw [e1]
    rfl
  · rfl
theorem cmp_eq_nilT {xs : List Int} : cmp .eq (encT xs) (.tup []) m = some xs.isEmpty := by
  have pl : ∀ {n : Nat} {xs : List Int}, D.plains n (xs.map .int) = true := by
    intro n xs
    induction xs with
    | nil => rw [List.map_nil, D.plains]
    | cons x xs ih => rw [List.map_cons, D.plains, ih]; cases n <;> rfl
  show (if D.plain 40 (.tup (xs.map .int)) && D.plain 40 (.tup []) then some (D.eqv (.tup (xs.map .int)) (.tup [])) else none) = _
  have h1 : D.plain 40 (.tup (xs.map .int)) = true := by rw [D.plain]; exact pl
  have h2 : D.plain 40 (.tup []) = true := rfl
  rw [h1, h2]
  cases xs <;> simp [D.eqv, D.eqvs]
def inB : Ss := .cons (.ite (.not (.chain .le .le (.call 1 (.cons (.var 0) (.cons (.bin .sub (.var 3) (.var 2)) .nil))) (.bin .sub (.idx (.var 1) (.var 3)) (.idx (.var 1) (.var 2))) (.call 2 (.cons (.var 0) (.cons (.bin .sub (.var 3) (.var 2)) .nil)))))
  (.cons (.ret (.const (.bl false))) .nil) .nil) .nil
def outB : Ss := .cons (.loop (.name 3) (.range2 (.bin .add (.var 2) (.const (.int 1))) (.prim .len (.cons (.var 1) .nil))) inB) .nil
theorem body_is_clock : d_is_clock.body = .cons (.ite (.or (.cmp .eq (.var 1) (.tup .nil)) (.cmp .ne (.idx (.var 1) (.const (.int 0))) (.const (.int 0)))) (.cons (.ret (.const (.bl false))) .nil) .nil)
  (.cons (.loop (.name 2) (.range1 (.prim .len (.cons (.var 1) .nil))) outB) (.cons (.ret (.const (.bl true))) .nil)) := rfl
theorem in_turn (O : KOk K) (ts : List Int) (a b : Nat) (ha : a < ts.length) (hb : b < ts.length) (z : Option D) : turnF (fxOf P t (k + 1)) (.name 3) inB (.int (b : Nat)) [some (encK K), some (encT ts), some (.int (a : Nat)), z] m =
    .ok (if pairC K ts a b then .next else .ret (.bl false), [some (encK K), some (encT ts), some (.int (a : Nat)), some (.int (b : Nat))]) m := by
  have h1 : ∀ m : Mem, _ := fun m => T_at (m := m) hb
  have h2 : ∀ m : Mem, _ := fun m => T_at (m := m) ha
  simp only [turnF, bindG_name, List.length_cons, List.length_nil, inB]
  rw [if_pos (by omega)]
  simp [h1, h2, least_eq O, most_eq O]
  have e : (atN ts b - atN ts a < low K ((b : Int) - (a : Int)) ∨ high K ((b : Int) - (a : Int)) < atN ts b - atN ts a) ↔ pairC K ts a b = false := by
    unfold pairC
    by_cases c1 : low K ((b : Int) - (a : Int)) ≤ atN ts b - atN ts a
    · by_cases c2 : atN ts b - atN ts a ≤ high K ((b : Int) - (a : Int))
      · (simp [c1, c2]) <;> omega
      · (simp [c1, c2]) <;> omega
    · (simp [c1]) <;> omega
  simp only [e]
  cases pairC K ts a b <;> simp
theorem out_turn (O : KOk K) (ts : List Int) (hl : ts.length ≤ 1000) (a : Nat) (ha : a < ts.length) (y z : Option D) : ∃ z', turnF (fxOf P t (k + 1)) (.name 2) outB (.int (a : Nat)) [some (encK K), some (encT ts), y, z] m =
    .ok (if rowC K ts a then .next else .ret (.bl false), [some (encK K), some (encT ts), some (.int (a : Nat)), z']) m := by
  obtain ⟨r2, ⟨z', rfl⟩, h4⟩ := forF_check (g := []) (m := m) (body := turnF (fxOf P t (k + 1)) (.name 3) inB) (fun (i : Nat) => D.int ((a + 1 + i : Nat) : Int)) (fun i => pairC K ts a (a + 1 + i)) (.bl false) (fun r => ∃ z, r = [some (encK K), some (encT ts), some (.int (a : Nat)), z]) rfl (xs := List.range (ts.length - (a + 1))) (r := [some (encK K), some (encT ts), some (.int (a : Nat)), z]) ⟨_, rfl⟩ fun i hi r hr => by
    obtain ⟨z2, rfl⟩ := hr
    have hi : i < ts.length - (a + 1) := by simpa using hi
    exact ⟨_, ⟨_, rfl⟩, in_turn O ts a (a + 1 + i) ha (by omega) z2⟩
  refine ⟨z', ?_⟩
  have hr := rangeT (a := a) hl
  rw [if_pos (by omega)] at hr
  simp only [turnF, bindG_name, outB]
  simp [hr]
  have h5 : forF [] (turnF (fxOf P t (k + 1)) (.name 3) inB) ((List.range (ts.length - (a + 1))).map fun (i : Nat) => D.int ((a : Int) + 1 + (i : Int))) [some (encK K), some (encT ts), some (.int (a : Nat)), z] m = _ := h4
  rw [h5]
  unfold rowC
  cases hc : (List.range (ts.length - (a + 1))).all fun i => pairC K ts a (a + 1 + i) <;> simp [hc]
theorem is_clock_eq (O : KOk K) (ts : List Int) (hl : ts.length ≤ 1000) : callF P t (k + 2) 4 [encK K, encT ts] m = .ok (.bl (clockC K ts)) m := by
  refine Ok_iff.mp (call_ok at_is_clock rfl ?_)
  have hst : startD d_is_clock [encK K, encT ts] = [some (encK K), some (encT ts), none, none] := rfl
  rw [body_is_clock, hst]
  simp [cmp_eq_nilT]
  cases hh : ts.head? with
  | none =>
    have : ts = [] := by simpa using hh
    subst this
    simp [clockC]
  | some x =>
    have i0 : idx (encT ts) (.int 0) m = some (.int x) := by
      show nth (ts.map D.int) 0 = _
      rw [nth_zero, List.getElem?_map, ← List.head?_eq_getElem?, hh]; rfl
    have hne : ts ≠ [] := fun e => by rw [e] at hh; cases hh
    simp [i0, hne]
    by_cases hx : x = 0
    · subst hx
      simp
      rw [range0 (by omega)]
      simp
      obtain ⟨r', ⟨y, z, rfl⟩, h2⟩ := forF_check (g := []) (m := m) (body := turnF (fxOf P t (k + 1)) (.name 2) outB) (fun (i : Nat) => D.int (i : Int)) (rowC K ts) (.bl false) (fun r => ∃ y z, r = [some (encK K), some (encT ts), y, z]) rfl (xs := List.range ts.length) (r := [some (encK K), some (encT ts), none, none]) ⟨_, _, rfl⟩ fun a ha r hr => by
        obtain ⟨y, z, rfl⟩ := hr
        obtain ⟨z', e⟩ := out_turn (t := t) (k := k) (m := m) O ts hl a (by simpa using ha) y z
        exact ⟨_, ⟨_, _, rfl⟩, e⟩
      rw [h2]
      cases hc : (List.range ts.length).all (rowC K ts) <;> simp [hc, clockC, hh]
    · simp [hx, clockC, hh]
def inL : Ss := .cons (.asg (.name 4) (.bin .sub (.idx (.var 1) (.var 3)) (.idx (.var 1) (.var 2)))) (.cons (.ite (.or (.cmp .lt (.var 4) (.call 14 (.cons (.var 0) (.cons (.bin .sub (.var 3) (.var 2)) .nil)))) (.cmp .gt (.var 4) (.call 15 (.cons (.var 0) (.cons (.bin .sub (.var 3) (.var 2)) .nil)))))
  (.cons (.ret (.const (.bl false))) .nil) .nil) .nil)
def outL : Ss := .cons (.loop (.name 3) (.range2 (.bin .add (.var 2) (.const (.int 1))) (.prim .len (.cons (.var 1) .nil))) inL) .nil
theorem body_law_is_clock : d_law_is_clock.body = .cons (.ite (.or (.cmp .eq (.prim .len (.cons (.var 1) .nil)) (.const (.int 0))) (.cmp .ne (.idx (.var 1) (.const (.int 0))) (.const (.int 0)))) (.cons (.ret (.const (.bl false))) .nil) .nil)
  (.cons (.loop (.name 2) (.range1 (.prim .len (.cons (.var 1) .nil))) outL) (.cons (.ret (.const (.bl true))) .nil)) := rfl
theorem in_turnL (O : KOk K) (ts : List Int) (a b : Nat) (ha : a < ts.length) (hb : b < ts.length) (z w : Option D) : turnF (fxOf P t (k + 1)) (.name 3) inL (.int (b : Nat)) [some (encK K), some (encT ts), some (.int (a : Nat)), z, w] m =
    .ok (if pairC K ts a b then .next else .ret (.bl false), [some (encK K), some (encT ts), some (.int (a : Nat)), some (.int (b : Nat)), some (.int (atN ts b - atN ts a))]) m := by
  have h1 : ∀ m : Mem, _ := fun m => T_at (m := m) hb
  have h2 : ∀ m : Mem, _ := fun m => T_at (m := m) ha
  simp only [turnF, bindG_name, List.length_cons, List.length_nil, inL]
  rw [if_pos (by omega)]
  simp [h1, h2, low_eq O, high_eq O]
  have e : (atN ts b - atN ts a < low K ((b : Int) - (a : Int)) ∨ high K ((b : Int) - (a : Int)) < atN ts b - atN ts a) ↔ pairC K ts a b = false := by
    unfold pairC
    by_cases c1 : low K ((b : Int) - (a : Int)) ≤ atN ts b - atN ts a
    · by_cases c2 : atN ts b - atN ts a ≤ high K ((b : Int) - (a : Int))
      · (simp [c1, c2]) <;> omega
      · (simp [c1, c2]) <;> omega
    · (simp [c1]) <;> omega
  simp only [e]
  cases pairC K ts a b <;> simp
theorem out_turnL (O : KOk K) (ts : List Int) (hl : ts.length ≤ 1000) (a : Nat) (ha : a < ts.length) (y z w : Option D) : ∃ z' w', turnF (fxOf P t (k + 1)) (.name 2) outL (.int (a : Nat)) [some (encK K), some (encT ts), y, z, w] m =
    .ok (if rowC K ts a then .next else .ret (.bl false), [some (encK K), some (encT ts), some (.int (a : Nat)), z', w']) m := by
  obtain ⟨r2, ⟨z', w', rfl⟩, h4⟩ := forF_check (g := []) (m := m) (body := turnF (fxOf P t (k + 1)) (.name 3) inL) (fun (i : Nat) => D.int ((a + 1 + i : Nat) : Int)) (fun i => pairC K ts a (a + 1 + i)) (.bl false) (fun r => ∃ z w, r = [some (encK K), some (encT ts), some (.int (a : Nat)), z, w]) rfl (xs := List.range (ts.length - (a + 1))) (r := [some (encK K), some (encT ts), some (.int (a : Nat)), z, w]) ⟨_, _, rfl⟩ fun i hi r hr => by
    obtain ⟨z2, w2, rfl⟩ := hr
    have hi : i < ts.length - (a + 1) := by simpa using hi
    exact ⟨_, ⟨_, _, rfl⟩, in_turnL O ts a (a + 1 + i) ha (by omega) z2 w2⟩
  refine ⟨z', w', ?_⟩
  have hr := rangeT (a := a) hl
  rw [if_pos (by omega)] at hr
  simp only [turnF, bindG_name, outL]
  simp [hr]
  have h5 : forF [] (turnF (fxOf P t (k + 1)) (.name 3) inL) ((List.range (ts.length - (a + 1))).map fun (i : Nat) => D.int ((a : Int) + 1 + (i : Int))) [some (encK K), some (encT ts), some (.int (a : Nat)), z, w] m = _ := h4
  rw [h5]
  unfold rowC
  cases hc : (List.range (ts.length - (a + 1))).all fun i => pairC K ts a (a + 1 + i) <;> simp [hc]
theorem law_is_clock_eq (O : KOk K) (ts : List Int) (hl : ts.length ≤ 1000) : callF P t (k + 2) 16 [encK K, encT ts] m = .ok (.bl (clockC K ts)) m := by
  refine Ok_iff.mp (call_ok at_law_is_clock rfl ?_)
  have hst : startD d_law_is_clock [encK K, encT ts] = [some (encK K), some (encT ts), none, none, none] := rfl
  rw [body_law_is_clock, hst]
  simp
  cases hh : ts.head? with
  | none =>
    have : ts = [] := by simpa using hh
    subst this
    simp [clockC]
  | some x =>
    have i0 : idx (encT ts) (.int 0) m = some (.int x) := by
      show nth (ts.map D.int) 0 = _
      rw [nth_zero, List.getElem?_map, ← List.head?_eq_getElem?, hh]; rfl
    have hne : ts ≠ [] := fun e => by rw [e] at hh; cases hh
    simp [i0, hne]
    by_cases hx : x = 0
    · subst hx
      simp
      rw [range0 (by omega)]
      simp
      obtain ⟨r', ⟨y, z, w, rfl⟩, h2⟩ := forF_check (g := []) (m := m) (body := turnF (fxOf P t (k + 1)) (.name 2) outL) (fun (i : Nat) => D.int (i : Int)) (rowC K ts) (.bl false) (fun r => ∃ y z w, r = [some (encK K), some (encT ts), y, z, w]) rfl (xs := List.range ts.length) (r := [some (encK K), some (encT ts), none, none, none]) ⟨_, _, _, rfl⟩ fun a ha r hr => by
        obtain ⟨y, z, w, rfl⟩ := hr
        obtain ⟨z', w', e⟩ := out_turnL (t := t) (k := k) (m := m) O ts hl a (by simpa using ha) y z w
        exact ⟨_, ⟨_, _, _, rfl⟩, e⟩
      rw [h2]
      cases hc : (List.range ts.length).all (rowC K ts) <;> simp [hc, clockC, hh]
    · simp [hx, clockC, hh]
def slowT (K : Kind) (ph : Int) (n : Nat) : List Int := (List.range (n + 1)).map fun (x : Nat) => ce ((x : Int) * K.r - ph) K.s
def fastT (K : Kind) (ph : Int) (n : Nat) : List Int := (List.range (n + 1)).map fun (x : Nat) => fl ((x : Int) * K.p + ph) K.q
theorem slow_eq (O : KOk K) (ph : Int) (n : Nat) (hn : n ≤ 1000) : callF P t (k + 1) 5 [encK K, .int ph, .int (n : Nat)] m = .ok (encT (slowT K ph n)) m := by
  obtain ⟨p1, pq, q2, s1, sr, r2⟩ := O
  refine Ok_iff.mp (call_ok at_slow_clock rfl ?_)
  simp [d_slow_clock, startD, compE_eq]
  rw [show ((n : Int) + 1) = ((n + 1 : Nat) : Int) from rfl, range0 (by omega)]
  simp
  rw [compF_all rfl (fun (i : Nat) => D.int (i : Int)) (fun (x : Nat) => .int (ce ((x : Int) * K.r - ph) K.s)) fun i hi => by
    simp [stepF, bin_mulI' (.inr (natAbs_lt (show 0 ≤ K.r by omega) (by omega))), bin_divI' (show 0 < K.s by omega) (by omega)]
    rw [← ce_neg (show 0 < K.s by omega)]
    congr 2
    omega]
  simp [encT, slowT]
theorem fast_eq (O : KOk K) (ph : Int) (n : Nat) (hn : n ≤ 1000) : callF P t (k + 1) 6 [encK K, .int ph, .int (n : Nat)] m = .ok (encT (fastT K ph n)) m := by
  obtain ⟨p1, pq, q2, s1, sr, r2⟩ := O
  refine Ok_iff.mp (call_ok at_fast_clock rfl ?_)
  simp [d_fast_clock, startD, compE_eq]
  rw [show ((n : Int) + 1) = ((n + 1 : Nat) : Int) from rfl, range0 (by omega)]
  simp
  rw [compF_all rfl (fun (i : Nat) => D.int (i : Int)) (fun (x : Nat) => .int (fl ((x : Int) * K.p + ph) K.q)) fun i hi => by
    simp [stepF, bin_mulI' (.inr (natAbs_lt (show 0 ≤ K.p by omega) (by omega))), bin_divI' (show 0 < K.q by omega) (by omega), fl]]
  simp [encT, fastT]
theorem slowest_eq (O : KOk K) (x : Int) (n : Nat) (hn : n ≤ 1000) : callF P t (k + 2) 7 [encK K, .int x, .int (n : Nat)] m = .ok (encT (slowT K (x * K.r % K.s) n)) m := by
  have O' := O
  obtain ⟨p1, pq, q2, s1, sr, r2⟩ := O
  refine Ok_iff.mp (call_ok at_slowest_from rfl ?_)
  simp [d_slowest_from, startD, bin_mulI' (.inr (natAbs_lt (show 0 ≤ K.r by omega) (by omega))), bin_modI' (show 0 < K.s by omega), slow_eq O' _ n hn]
theorem fastest_eq (O : KOk K) (x : Int) (n : Nat) (hn : n ≤ 1000) : callF P t (k + 2) 8 [encK K, .int x, .int (n : Nat)] m = .ok (encT (fastT K (-x * K.p % K.q) n)) m := by
  have O' := O
  obtain ⟨p1, pq, q2, s1, sr, r2⟩ := O
  refine Ok_iff.mp (call_ok at_fastest_from rfl ?_)
  simp [d_fastest_from, startD, bin_mulI' (.inr (natAbs_lt (show 0 ≤ K.p by omega) (by omega))), bin_modI' (show 0 < K.q by omega), fast_eq O' _ n hn]
theorem kind_ok (row : List Int) (at_ : Nat) (tot : Int) : Ok (callF P t (k + 2) 13 [dealV tot] (Dl row at_)) fun v m => ∃ K at', v = encK K ∧ m = Dl row at' ∧ KOk K := by
  refine call_ok at_law_kind rfl ?_
  simp [d_law_kind, startD]
  refine (take1_ok (k := k) at_law_take row at_ tot 6 (by omega)).imp fun v m hv => ?_
  obtain ⟨x, rfl, q1, q2, rfl⟩ := hv
  simp
  by_cases h0 : x = 0
  · simp [h0]
    exact ⟨rfl, ⟨1, 1, 1, 1⟩, rfl, ⟨_, rfl⟩, by decide, by decide, by decide, by decide, by decide, by decide⟩
  by_cases h1 : x = 1
  · simp [h1]
    refine (take1_ok (k := k) at_law_take row _ tot 60 (by omega)).imp fun v m hv => ?_
    obtain ⟨y, rfl, q3, q4, rfl⟩ := hv
    simp
    refine (take1_ok (k := k) at_law_take row _ tot 90 (by omega)).imp fun v m hv => ?_
    obtain ⟨z, rfl, q5, q6, rfl⟩ := hv
    simp
    exact ⟨rfl, ⟨100 - y, 100, 100 + z, 100⟩, rfl, ⟨_, rfl⟩, by show 1 ≤ 100 - y; omega, by show 100 - y ≤ 100; omega, by show (100 : Int) ≤ 10000; omega, by show (1 : Int) ≤ 100; omega, by show 100 ≤ 100 + z; omega, by show 100 + z ≤ 10000; omega⟩
  by_cases h2 : x = 2
  · simp [h2]
    refine (take1_ok (k := k) at_law_take row _ tot 3 (by omega)).imp fun v m hv => ?_
    obtain ⟨y, rfl, q3, q4, rfl⟩ := hv
    simp
    refine (take1_ok (k := k) at_law_take row _ tot 3 (by omega)).imp fun v m hv => ?_
    obtain ⟨z, rfl, q5, q6, rfl⟩ := hv
    simp
    exact ⟨rfl, ⟨1, 1 + y, 1 + z, 1⟩, rfl, ⟨_, rfl⟩, by show (1 : Int) ≤ 1; omega, by show 1 ≤ 1 + y; omega, by show 1 + y ≤ 10000; omega, by show (1 : Int) ≤ 1; omega, by show 1 ≤ 1 + z; omega, by show 1 + z ≤ 10000; omega⟩
  simp [h0, h1, h2]
  refine (take1_ok (k := k) at_law_take row _ tot 12 (by omega)).imp fun v m hv => ?_
  obtain ⟨y, rfl, q3, q4, rfl⟩ := hv
  simp
  refine (take1_ok (k := k) at_law_take row _ tot 12 (by omega)).imp fun v m hv => ?_
  obtain ⟨z, rfl, q5, q6, rfl⟩ := hv
  simp
  refine (take1_ok (k := k) at_law_take row _ tot (1 + y) (by omega)).imp fun v m hv => ?_
  obtain ⟨u, rfl, q7, q8, rfl⟩ := hv
  simp
  refine (take1_ok (k := k) at_law_take row _ tot 9 (by omega)).imp fun v m hv => ?_
  obtain ⟨w, rfl, q9, q10, rfl⟩ := hv
  simp
  exact ⟨rfl, ⟨1 + u, 1 + y, 1 + z + w, 1 + z⟩, rfl, ⟨_, rfl⟩, by show 1 ≤ 1 + u; omega, by show 1 + u ≤ 1 + y; omega, by show 1 + y ≤ 10000; omega, by show 1 ≤ 1 + z; omega, by show 1 + z ≤ 1 + z + w; omega, by show 1 + z + w ≤ 10000; omega⟩
theorem forms_ok (K : Kind) : callF P t (k + 2) 19 [encK K] m = .ok (.bl true) m := by
  refine Ok_iff.mp (call_ok at_law_forms rfl ?_)
  simp [d_law_forms, startD, compE_eq]
  have e1 : ∀ ds : List D, (∃ ks : List Kind, ds = ks.map encK) → compF [] (stepF (.name 6) [6] [some (encK K), some (.int K.p), some (.int K.q), some (.int K.r), some (.int K.s), some (.lst ds), none] (evT (fxOf P t (k + 1)) (.not (.val (.call 12 (.cons (.call 0 (.cons (.var 6) .nil)) (.cons (.call 18 (.cons (.var 6) .nil)) .nil)))))) (evE (fxOf P t (k + 1)) (.const (.int 1)))) ds m = .ok [] m := by
    rintro ds ⟨ks, rfl⟩
    rw [compF_filter rfl encK (fun _ => false) (fun _ => .int 1) fun o ho => by simp [stepF, is_kind_eq, law_form_eq, bool_ok (k := k) at_law_bool]]
    simp
  refine Ok.eq (e1 _ ?_) ?_
  · exact ⟨[K, ⟨K.q, K.p, K.r, K.s⟩, ⟨K.p, K.q, K.s, K.r⟩, ⟨0, K.q, K.r, K.s⟩, ⟨K.p, K.q, K.r, 0⟩, ⟨K.p, 0, K.r, K.s⟩, ⟨K.p, K.q, 0, K.s⟩, ⟨-K.p, K.q, K.r, K.s⟩, ⟨K.p, 10000, 10000, K.s⟩, ⟨K.p, 10001, K.r, K.s⟩,
    ⟨K.p, K.q, 10001, K.s⟩, ⟨K.q + 1, K.q, K.r, K.s⟩, ⟨K.p, K.q, K.s - 1, K.s⟩, ⟨K.q, K.q, K.s, K.s⟩, ⟨10000, 10000, 10000, 10000⟩, ⟨10001, 10001, K.r, K.s⟩, ⟨K.p, K.q, 10001, 10001⟩], rfl⟩
  · simp
def great (K : Kind) (x : Int) : Int := if 0 ≤ x then high K x else -low K (-x)
theorem great_eq (O : KOk K) (x : Int) : callF P t (k + 2) 20 [encK K, .int x] m = .ok (.int (great K x)) m := by
  refine Ok_iff.mp (call_ok at_law_greatest rfl ?_)
  simp [d_law_greatest, startD, Ok_ite, high_eq O, low_eq O, great]
  by_cases h : 0 ≤ x
  · (simp [h]) <;> omega
  · (simp [h]) <;> omega
def tk (K : Kind) (x : Int) : Int := if 0 ≤ x then x * K.s / K.r else x * K.q / K.p
theorem ticks_eq (O : KOk K) (x : Int) : callF P t (k + 1) 3 [encK K, .int x] m = .ok (.int (tk K x)) m := by
  obtain ⟨p1, pq, q2, s1, sr, r2⟩ := O
  refine Ok_iff.mp (call_ok at_most_ticks rfl ?_)
  simp [d_most_ticks, startD, Ok_ite, tk, bin_mulI' (.inr (natAbs_lt (show 0 ≤ K.s by omega) (by omega))), bin_mulI' (.inr (natAbs_lt (show 0 ≤ K.q by omega) (by omega))), bin_divI' (show 0 < K.r by omega) (by omega), bin_divI' (show 0 < K.p by omega) (by omega)]
  by_cases h : 0 ≤ x
  · (simp [h]) <;> omega
  · (simp [h]) <;> omega
theorem great_le (O : KOk K) (x : Int) : great K (tk K x) ≤ x := by
  obtain ⟨p1, pq, q2, s1, sr, r2⟩ := O
  unfold tk
  by_cases h : 0 ≤ x
  · rw [if_pos h]
    have h0 : 0 ≤ x * K.s / K.r := Int.ediv_nonneg (Int.mul_nonneg h (by omega)) (by omega)
    unfold great
    rw [if_pos h0]
    unfold high
    rw [ce_le (by omega)]
    exact (Int.le_ediv_iff_mul_le (show 0 < K.r by omega)).mp (Int.le_refl _)
  · rw [if_neg h]
    have h1 := (Int.le_ediv_iff_mul_le (show 0 < K.p by omega)).mp (Int.le_refl (x * K.q / K.p))
    have h0 : x * K.q / K.p < 0 := Int.ediv_neg_of_neg_of_pos (Int.mul_neg_of_neg_of_pos (by omega) (by omega)) (by omega)
    unfold great
    rw [if_neg (by omega)]
    generalize x * K.q / K.p = n at *
    have : -x ≤ low K (-n) := by
      unfold low
      rw [fl_le (by omega), Int.neg_mul, Int.neg_mul]
      omega
    omega
theorem great_gt (O : KOk K) (x : Int) : x < great K (tk K x + 1) := by
  obtain ⟨p1, pq, q2, s1, sr, r2⟩ := O
  unfold tk
  by_cases h : 0 ≤ x
  · rw [if_pos h]
    have h0 : 0 ≤ x * K.s / K.r := Int.ediv_nonneg (Int.mul_nonneg h (by omega)) (by omega)
    have h1 : x * K.s < (x * K.s / K.r + 1) * K.r := Int.lt_ediv_add_one_mul_self _ (by omega)
    unfold great
    rw [if_pos (by omega)]
    unfold high
    refine Int.lt_of_not_ge fun z => ?_
    have := (ce_le (show 0 < K.s by omega)).mp z
    omega
  · rw [if_neg h]
    have h1 : x * K.q < (x * K.q / K.p + 1) * K.p := Int.lt_ediv_add_one_mul_self _ (by omega)
    have h0 : x * K.q / K.p < 0 := Int.ediv_neg_of_neg_of_pos (Int.mul_neg_of_neg_of_pos (by omega) (by omega)) (by omega)
    generalize x * K.q / K.p = n at *
    unfold great
    by_cases h2 : 0 ≤ n + 1
    · rw [if_pos h2]
      have : n + 1 = 0 := by omega
      rw [this]
      unfold high
      refine Int.lt_of_not_ge fun z => ?_
      have := (ce_le (show 0 < K.s by omega)).mp z
      rw [Int.zero_mul] at this
      have h4 : x * K.s < 0 := Int.mul_neg_of_neg_of_pos (by omega) (by omega)
      omega
    · rw [if_neg h2]
      have : low K (-(n + 1)) < -x := by
        unfold low
        refine Int.lt_of_not_ge fun z => ?_
        have := (fl_le (show 0 < K.q by omega)).mp z
        rw [Int.neg_mul, Int.neg_mul] at this
        omega
      omega
theorem counts_ok (O : KOk K) (row : List Int) (at_ : Nat) (tot : Int) : Ok (callF P t (k + 3) 21 [dealV tot, encK K] (Dl row at_)) fun v m => v = .bl true ∧ ∃ at', m = Dl row at' := by
  refine call_ok at_law_counts rfl ?_
  have hsm : ∀ (x : Int) (m : Mem), callF P t (k + 2) 11 [.int x, .int x] m = .ok (.bl true) m := fun x m => same_ok at_law_same 0 (k + 1) sm_int rfl rfl
  simp [d_law_counts, startD]
  refine (take1_ok (k := k + 1) at_law_take row at_ tot 40 (by omega)).imp fun v m hv => ?_
  obtain ⟨x, rfl, q1, q2, rfl⟩ := hv
  try simp
  refine (take1_ok (k := k + 1) at_law_take row _ tot 1000 (by omega)).imp fun v m hv => ?_
  obtain ⟨y, rfl, q3, q4, rfl⟩ := hv
  try simp
  rw [show [D.int 0, D.int 1, D.int 2, D.int x, D.int (10000 + y)] = [0, 1, 2, x, 10000 + y].map D.int from rfl]
  refine (forF_map D.int (fun _ r m => (∃ z, r = [some (dealV tot), some (encK K), z, none, none]) ∧ m = Dl row (at_ + 1 + 1)) (fun _ _ _ _ => rfl) ⟨⟨_, rfl⟩, rfl⟩ fun i a r m e hI => ?_).imp fun fr m1 hI => ?_
  · obtain ⟨⟨z, rfl⟩, rfl⟩ := hI
    simp [turnF, least_eq (k := k + 1) O, most_eq (k := k + 1) O, low_eq (k := k + 1) O, high_eq (k := k + 1) O, hsm]
  · obtain ⟨fl, r⟩ := fr
    obtain ⟨f3, ⟨z, f4⟩, rfl⟩ := hI
    dsimp only at f3 f4
    subst f3 f4
    try simp
    refine (take1_ok (k := k + 1) at_law_take row _ tot 60 (by omega)).imp fun v m hv => ?_
    obtain ⟨u, rfl, q5, q6, rfl⟩ := hv
    try simp
    refine (take1_ok (k := k + 1) at_law_take row _ tot 60 (by omega)).imp fun v m hv => ?_
    obtain ⟨w, rfl, q7, q8, rfl⟩ := hv
    try simp
    rw [show [D.int 0, D.int 1, D.int (-1), D.int u, D.int (-w), D.int 100000, D.int (-100000)] = [0, 1, -1, u, -w, 100000, -100000].map D.int from rfl]
    refine (forF_map D.int (fun _ r m => (∃ z2 z3, r = [some (dealV tot), some (encK K), z, z2, z3]) ∧ m = Dl row (at_ + 1 + 1 + 1 + 1)) (fun _ _ _ _ => rfl) ⟨⟨_, _, rfl⟩, rfl⟩ fun i a r m e hI => ?_).imp fun fr m1 hI => ?_
    · obtain ⟨⟨z2, z3, rfl⟩, rfl⟩ := hI
      have g1 := great_le O a
      have g2 := great_gt O a
      simp [turnF, ticks_eq (k := k + 1) O, great_eq (k := k) O, Int.not_lt.mpr g1, Int.not_le.mpr g2]
    · obtain ⟨fl, r⟩ := fr
      obtain ⟨f3, ⟨z2, z3, f4⟩, rfl⟩ := hI
      dsimp only at f3 f4
      subst f3 f4
      simp
      exact ⟨rfl, _, rfl⟩
/-! ### clocks that are right -/
structure IsClock (K : Kind) (ts : List Int) : Prop where
  ne : 0 < ts.length
  zero : atN ts 0 = 0
  pair : ∀ a b : Nat, a < b → b < ts.length → low K ((b : Int) - (a : Int)) ≤ atN ts b - atN ts a ∧ atN ts b - atN ts a ≤ high K ((b : Int) - (a : Int))
theorem clockC_of {K : Kind} {ts : List Int} (h : IsClock K ts) : clockC K ts = true := by
  unfold clockC
  rw [Bool.and_eq_true]
  constructor
  · cases ts with
    | nil => have := h.ne; simp at this
    | cons x xs =>
      have := h.zero
      simp [atN] at this
      simp [this]
  · rw [List.all_eq_true]
    intro a ha
    rw [List.mem_range] at ha
    unfold rowC
    rw [List.all_eq_true]
    intro i hi
    rw [List.mem_range] at hi
    have := h.pair a (a + 1 + i) (by omega) (by omega)
    unfold pairC
    simp only [Bool.and_eq_true, decide_eq_true_eq]
    exact this
theorem low_le {K : Kind} (O : KOk K) {d : Int} (h : 0 ≤ d) : low K d ≤ d := by
  obtain ⟨p1, pq, q2, s1, sr, r2⟩ := O
  have h1 := (fl_le (x := d * K.p) (n := low K d) (show 0 < K.q by omega)).mp (Int.le_refl _)
  have h2 : d * K.p ≤ d * K.q := Int.mul_le_mul_of_nonneg_left pq h
  exact Int.le_of_mul_le_mul_right (Int.le_trans h1 h2) (by omega)
theorem le_high {K : Kind} (O : KOk K) {d : Int} (h : 0 ≤ d) : d ≤ high K d := by
  obtain ⟨p1, pq, q2, s1, sr, r2⟩ := O
  have h1 := (ce_le (x := d * K.r) (n := high K d) (show 0 < K.s by omega)).mp (Int.le_refl _)
  have h2 : d * K.s ≤ d * K.r := Int.mul_le_mul_of_nonneg_left sr h
  exact Int.le_of_mul_le_mul_right (Int.le_trans h2 h1) (by omega)
theorem ce_ge {x y : Int} (h : 0 < y) : x ≤ ce x y * y := (ce_le h).mp (Int.le_refl _)
theorem fl_ge {x y : Int} (h : 0 < y) : fl x y * y ≤ x := (fl_le h).mp (Int.le_refl _)
theorem slow_pair {K : Kind} (O : KOk K) (ph a b : Int) (h : a ≤ b) : low K (b - a) ≤ ce (b * K.r - ph) K.s - ce (a * K.r - ph) K.s ∧ ce (b * K.r - ph) K.s - ce (a * K.r - ph) K.s ≤ high K (b - a) := by
  have hL := low_le O (show 0 ≤ b - a by omega)
  obtain ⟨p1, pq, q2, s1, sr, r2⟩ := O
  have hs : 0 < K.s := by omega
  have hA := ce_ge (x := a * K.r - ph) hs
  have hB := ce_ge (x := b * K.r - ph) hs
  have hH := ce_ge (x := (b - a) * K.r) hs
  have hd : (b - a) * K.s ≤ (b - a) * K.r := Int.mul_le_mul_of_nonneg_left sr (by omega)
  have hLs : low K (b - a) * K.s ≤ (b - a) * K.s := Int.mul_le_mul_of_nonneg_right hL (by omega)
  have e1 : (b - a) * K.r = b * K.r - a * K.r := Int.sub_mul _ _ _
  constructor
  · have : ce (a * K.r - ph) K.s ≤ ce (b * K.r - ph) K.s - low K (b - a) := by
      rw [ce_le hs, Int.sub_mul]; omega
    omega
  · have : ce (b * K.r - ph) K.s ≤ ce (a * K.r - ph) K.s + high K (b - a) := by
      rw [ce_le hs, Int.add_mul]
      unfold high
      omega
    omega
theorem fast_pair {K : Kind} (O : KOk K) (ph a b : Int) (h : a ≤ b) : low K (b - a) ≤ fl (b * K.p + ph) K.q - fl (a * K.p + ph) K.q ∧ fl (b * K.p + ph) K.q - fl (a * K.p + ph) K.q ≤ high K (b - a) := by
  have hH := le_high O (show 0 ≤ b - a by omega)
  obtain ⟨p1, pq, q2, s1, sr, r2⟩ := O
  have hq : 0 < K.q := by omega
  have hA := fl_ge (x := a * K.p + ph) hq
  have hB := fl_ge (x := b * K.p + ph) hq
  have hL := fl_ge (x := (b - a) * K.p) hq
  have hd : (b - a) * K.p ≤ (b - a) * K.q := Int.mul_le_mul_of_nonneg_left pq (by omega)
  have hHq : (b - a) * K.q ≤ high K (b - a) * K.q := Int.mul_le_mul_of_nonneg_right hH (by omega)
  have e1 : (b - a) * K.p = b * K.p - a * K.p := Int.sub_mul _ _ _
  constructor
  · have : fl (a * K.p + ph) K.q + low K (b - a) ≤ fl (b * K.p + ph) K.q := by
      rw [fl_le hq, Int.add_mul]
      unfold low
      omega
    omega
  · have : fl (b * K.p + ph) K.q - high K (b - a) ≤ fl (a * K.p + ph) K.q := by
      rw [fl_le hq, Int.sub_mul]; omega
    omega
theorem atN_map {f : Nat → Int} {n a : Nat} (h : a < n) : atN ((List.range n).map f) a = f a := by
  unfold atN
  rw [List.getD_eq_getElem?_getD, List.getElem?_map, List.getElem?_range h]; rfl
theorem slow_clock {K : Kind} (O : KOk K) {ph : Int} (h0 : 0 ≤ ph) (h1 : ph < K.s) (n : Nat) : IsClock K (slowT K ph n) := by
  have O' := O
  obtain ⟨p1, pq, q2, s1, sr, r2⟩ := O
  refine ⟨by simp [slowT], ?_, fun a b hab hb => ?_⟩
  · unfold slowT
    rw [atN_map (by omega)]
    have hs : 0 < K.s := by omega
    have a1 : ce (((0 : Nat) : Int) * K.r - ph) K.s ≤ 0 := by rw [ce_le hs]; simp; omega
    have a2 : ¬ ce (((0 : Nat) : Int) * K.r - ph) K.s ≤ -1 := fun z => by
      have := (ce_le hs).mp z
      simp at this
      omega
    omega
  · have hb' : b < n + 1 := by simpa [slowT] using hb
    unfold slowT
    rw [atN_map hb', atN_map (by omega)]
    exact slow_pair O' ph a b (by omega)
theorem fast_clock {K : Kind} (O : KOk K) {ph : Int} (h0 : 0 ≤ ph) (h1 : ph < K.q) (n : Nat) : IsClock K (fastT K ph n) := by
  refine ⟨by simp [fastT], ?_, fun a b hab hb => ?_⟩
  · unfold fastT
    rw [atN_map (by omega)]
    unfold fl
    simp
    exact Int.ediv_eq_zero_of_lt h0 h1
  · have hb' : b < n + 1 := by simpa [fastT] using hb
    unfold fastT
    rw [atN_map hb', atN_map (by omega)]
    exact fast_pair O ph a b (by omega)
theorem sm_T {n : Nat} {ts : List Int} (h : ts.length ≤ 1000000) : D.sm (n + 1) (encT ts) = true := sm_tup (by simpa using h) fun x hx => by
  obtain ⟨i, _, rfl⟩ := List.mem_map.mp hx
  exact sm_int
theorem slowT_len {ph : Int} {n : Nat} : (slowT K ph n).length = n + 1 := by simp [slowT]
theorem fastT_len {ph : Int} {n : Nat} : (fastT K ph n).length = n + 1 := by simp [fastT]
theorem ce_shift {x y c : Int} (h : 0 < y) : ce (x + y * c) y = ce x y + c := by
  unfold ce
  rw [show x + y * c + y - 1 = x + y - 1 + y * c by omega, Int.add_mul_ediv_left _ _ (by omega)]
theorem fl_shift {x y c : Int} (h : 0 < y) : fl (x + y * c) y = fl x y + c := by
  unfold fl
  rw [Int.add_mul_ediv_left _ _ (by omega)]
theorem ce_zero {y : Int} (h : 0 < y) : ce 0 y = 0 := by
  unfold ce
  exact Int.ediv_eq_zero_of_lt (by omega) (by omega)
theorem slow_from {K : Kind} (O : KOk K) (n tick c : Nat) (h : tick + c ≤ n) : atN (slowT K ((tick : Int) * K.r % K.s) n) (tick + c) - atN (slowT K ((tick : Int) * K.r % K.s) n) tick = high K c := by
  obtain ⟨p1, pq, q2, s1, sr, r2⟩ := O
  unfold slowT
  rw [atN_map (by omega), atN_map (by omega)]
  have hd := Int.emod_add_mul_ediv ((tick : Int) * K.r) K.s
  have e1 : ((tick + c : Nat) : Int) * K.r - (tick : Int) * K.r % K.s = (c : Int) * K.r + K.s * ((tick : Int) * K.r / K.s) := by
    rw [Int.natCast_add, Int.add_mul]; omega
  have e2 : (tick : Int) * K.r - (tick : Int) * K.r % K.s = 0 + K.s * ((tick : Int) * K.r / K.s) := by omega
  rw [e1, e2, ce_shift (by omega), ce_shift (by omega), ce_zero (by omega)]
  unfold high
  omega
theorem fast_from {K : Kind} (O : KOk K) (n tick c : Nat) (h : tick + c ≤ n) : atN (fastT K (-(tick : Int) * K.p % K.q) n) (tick + c) - atN (fastT K (-(tick : Int) * K.p % K.q) n) tick = low K c := by
  obtain ⟨p1, pq, q2, s1, sr, r2⟩ := O
  unfold fastT
  rw [atN_map (by omega), atN_map (by omega)]
  have hd := Int.emod_add_mul_ediv (-(tick : Int) * K.p) K.q
  have e0 : -(tick : Int) * K.p = -((tick : Int) * K.p) := Int.neg_mul _ _
  have e1 : ((tick + c : Nat) : Int) * K.p + -(tick : Int) * K.p % K.q = (c : Int) * K.p + K.q * (-(-(tick : Int) * K.p / K.q)) := by
    rw [Int.natCast_add, Int.add_mul, Int.mul_neg]; omega
  have e2 : (tick : Int) * K.p + -(tick : Int) * K.p % K.q = 0 + K.q * (-(-(tick : Int) * K.p / K.q)) := by rw [Int.mul_neg]; omega
  rw [e1, e2, fl_shift (by omega), fl_shift (by omega)]
  unfold low fl
  rw [Int.zero_ediv]
  omega
theorem two_eq {K : Kind} (O : KOk K) (tick : Int) : (K.q - 1) * tick * K.p - (K.q - 1) * tick * K.p / K.q * K.q = -tick * K.p % K.q := by
  obtain ⟨p1, pq, q2, s1, sr, r2⟩ := O
  have hd := Int.emod_add_mul_ediv ((K.q - 1) * tick * K.p) K.q
  have e1 : (K.q - 1) * tick * K.p = -tick * K.p + K.q * (tick * K.p) := by
    rw [Int.sub_mul, Int.sub_mul, Int.one_mul, Int.neg_mul, Int.mul_assoc]; omega
  have e2 : (K.q - 1) * tick * K.p % K.q = -tick * K.p % K.q := by
    rw [e1, Int.add_mul_emod_self_left]
  rw [← e2, Int.mul_comm ((K.q - 1) * tick * K.p / K.q) K.q]
  omega
theorem one_eq {K : Kind} (x : Int) : x - x / K.s * K.s = x % K.s := by
  have hd := Int.emod_add_mul_ediv x K.s
  rw [Int.mul_comm (x / K.s) K.s]
  omega
theorem T_atI {ts : List Int} {n : Nat} (h : n < ts.length) {i : Int} (e : i = (n : Int)) : idx (encT ts) (.int i) m = some (.int (atN ts n)) := by rw [e]; exact T_at h
theorem phase_turns (O : KOk K) (row : List Int) (at_ : Nat) (tot : Int) (n : Nat) (hn : n ≤ 100) (x7 x8 x9 x10 x11 : Option D) (phs : List Int) (hp : ∀ y ∈ phs, 0 ≤ y ∧ y < K.s) (x12 x13 x14 : Option D) :
    Ok (forF [] (turnF (fxOf P t (k + 3)) (.name 13) ((.cons (.asg (.name 14) (.prim .tuple (.cons (.comp false (.bin .div (.bin .sub (.bin .add (.bin .sub (.bin .mul (.var 12) (.var 4)) (.var 13)) (.var 5)) (.const (.int 1))) (.var 5)) (.name 12) (.range1 (.bin .add (.var 6) (.const (.int 1)))) .tru [12]) .nil)))
  (.cons (.ite (.or (.not (.val (.call 11 (.cons (.call 5 (.cons (.var 1) (.cons (.var 13) (.cons (.var 6) .nil)))) (.cons (.var 14) .nil))))) (.not (.val (.call 16 (.cons (.var 1) (.cons (.var 14) .nil))))))
  (.cons (.ret (.const (.bl false)))
  .nil)
  .nil)
  .nil)))) (phs.map .int) [some (dealV tot), some (encK K), some (.int K.p), some (.int K.q), some (.int K.r), some (.int K.s), some (.int (n : Nat)), x7, x8, x9, x10, x11, x12, x13, x14] (Dl row at_))
      fun fr m => fr.1 = .next ∧ (∃ y13 y14, fr.2 = [some (dealV tot), some (encK K), some (.int K.p), some (.int K.q), some (.int K.r), some (.int K.s), some (.int (n : Nat)), x7, x8, x9, x10, x11, x12, y13, y14]) ∧ m = Dl row at_ := by
  refine (forF_map D.int (fun _ r m => (∃ y13 y14, r = [some (dealV tot), some (encK K), some (.int K.p), some (.int K.q), some (.int K.r), some (.int K.s), some (.int (n : Nat)), x7, x8, x9, x10, x11, x12, y13, y14]) ∧ m = Dl row at_) (fun _ _ _ _ => rfl) ⟨⟨_, _, rfl⟩, rfl⟩ fun i a r m e hI => ?_).imp fun fr m hI => hI
  obtain ⟨⟨y13, y14, rfl⟩, rfl⟩ := hI
  have ha := hp a (List.mem_of_getElem? e)
  have hsl : ∀ m : Mem, callF P t (k + 3) 5 [encK K, .int a, .int (n : Nat)] m = .ok (encT (slowT K a n)) m := fun m => slow_eq (k := k + 2) O a n (by omega)
  have hsm : ∀ m : Mem, callF P t (k + 3) 11 [encT (slowT K a n), encT (slowT K a n)] m = .ok (.bl true) m := fun m => same_ok at_law_same 1 (k + 1) (sm_T (by rw [slowT_len]; omega)) rfl rfl
  have hic : ∀ m : Mem, callF P t (k + 3) 16 [encK K, encT (slowT K a n)] m = .ok (.bl true) m := fun m => by
    rw [law_is_clock_eq (k := k + 1) O _ (by rw [slowT_len]; omega), clockC_of (slow_clock O ha.1 ha.2 n)]
  obtain ⟨p1, pq, q2, s1, sr, r2⟩ := O
  simp [turnF, compE_eq]
  rw [show ((n : Int) + 1) = ((n + 1 : Nat) : Int) from rfl, range0 (by omega)]
  simp
  rw [compF_all rfl (fun (i : Nat) => D.int (i : Int)) (fun (x : Nat) => .int (ce ((x : Int) * K.r - a) K.s)) fun i hi => by
    simp [stepF, bin_mulI' (.inr (natAbs_lt (show 0 ≤ K.r by omega) (by omega))), bin_divI' (show 0 < K.s by omega) (by omega), ce]]
  have e5 : D.tup ((List.range (n + 1)).map fun (x : Nat) => .int (ce ((x : Int) * K.r - a) K.s)) = encT (slowT K a n) := by simp [encT, slowT]
  simp [e5, hsl, hsm, hic]
theorem phase_turns2 (O : KOk K) (row : List Int) (at_ : Nat) (tot : Int) (n : Nat) (hn : n ≤ 100) (x7 x8 x9 x10 x11 : Option D) (phs : List Int) (hp : ∀ y ∈ phs, 0 ≤ y ∧ y < K.q) (x12 x13 x14 : Option D) :
    Ok (forF [] (turnF (fxOf P t (k + 3)) (.name 13) ((.cons (.asg (.name 14) (.prim .tuple (.cons (.comp false (.bin .div (.bin .add (.bin .mul (.var 12) (.var 2)) (.var 13)) (.var 3)) (.name 12) (.range1 (.bin .add (.var 6) (.const (.int 1)))) .tru [12]) .nil)))
  (.cons (.ite (.or (.not (.val (.call 11 (.cons (.call 6 (.cons (.var 1) (.cons (.var 13) (.cons (.var 6) .nil)))) (.cons (.var 14) .nil))))) (.not (.val (.call 16 (.cons (.var 1) (.cons (.var 14) .nil))))))
  (.cons (.ret (.const (.bl false)))
  .nil)
  .nil)
  .nil)))) (phs.map .int) [some (dealV tot), some (encK K), some (.int K.p), some (.int K.q), some (.int K.r), some (.int K.s), some (.int (n : Nat)), x7, x8, x9, x10, x11, x12, x13, x14] (Dl row at_))
      fun fr m => fr.1 = .next ∧ (∃ y13 y14, fr.2 = [some (dealV tot), some (encK K), some (.int K.p), some (.int K.q), some (.int K.r), some (.int K.s), some (.int (n : Nat)), x7, x8, x9, x10, x11, x12, y13, y14]) ∧ m = Dl row at_ := by
  refine (forF_map D.int (fun _ r m => (∃ y13 y14, r = [some (dealV tot), some (encK K), some (.int K.p), some (.int K.q), some (.int K.r), some (.int K.s), some (.int (n : Nat)), x7, x8, x9, x10, x11, x12, y13, y14]) ∧ m = Dl row at_) (fun _ _ _ _ => rfl) ⟨⟨_, _, rfl⟩, rfl⟩ fun i a r m e hI => ?_).imp fun fr m hI => hI
  obtain ⟨⟨y13, y14, rfl⟩, rfl⟩ := hI
  have ha := hp a (List.mem_of_getElem? e)
  have hsl : ∀ m : Mem, callF P t (k + 3) 6 [encK K, .int a, .int (n : Nat)] m = .ok (encT (fastT K a n)) m := fun m => fast_eq (k := k + 2) O a n (by omega)
  have hsm : ∀ m : Mem, callF P t (k + 3) 11 [encT (fastT K a n), encT (fastT K a n)] m = .ok (.bl true) m := fun m => same_ok at_law_same 1 (k + 1) (sm_T (by rw [fastT_len]; omega)) rfl rfl
  have hic : ∀ m : Mem, callF P t (k + 3) 16 [encK K, encT (fastT K a n)] m = .ok (.bl true) m := fun m => by
    rw [law_is_clock_eq (k := k + 1) O _ (by rw [fastT_len]; omega), clockC_of (fast_clock O ha.1 ha.2 n)]
  obtain ⟨p1, pq, q2, s1, sr, r2⟩ := O
  simp [turnF, compE_eq]
  rw [show ((n : Int) + 1) = ((n + 1 : Nat) : Int) from rfl, range0 (by omega)]
  simp
  rw [compF_all rfl (fun (i : Nat) => D.int (i : Int)) (fun (x : Nat) => .int (fl ((x : Int) * K.p + a) K.q)) fun i hi => by
    simp [stepF, bin_mulI' (.inr (natAbs_lt (show 0 ≤ K.p by omega) (by omega))), bin_divI' (show 0 < K.q by omega) (by omega), fl]]
  have e5 : D.tup ((List.range (n + 1)).map fun (x : Nat) => .int (fl ((x : Int) * K.p + a) K.q)) = encT (fastT K a n) := by simp [encT, fastT]
  simp [e5, hsl, hsm, hic]
theorem extremes_ok (O : KOk K) (row : List Int) (at_ : Nat) (tot : Int) : Ok (callF P t (k + 4) 23 [dealV tot, encK K] (Dl row at_)) fun v m => v = .bl true ∧ ∃ at', m = Dl row at' := by
  refine call_ok at_law_extremes rfl ?_
  simp [d_law_extremes, startD]
  refine (take1_ok (k := k + 2) at_law_take row at_ tot 12 (by omega)).imp fun v m hv => ?_
  obtain ⟨x, rfl, q1, q2, rfl⟩ := hv
  try simp
  refine (take1_ok (k := k + 2) at_law_take row _ tot (4 + x) (by omega)).imp fun v m hv => ?_
  obtain ⟨y, rfl, q3, q4, rfl⟩ := hv
  obtain ⟨n, hn⟩ := Int.eq_ofNat_of_zero_le (show 0 ≤ 4 + x by omega)
  obtain ⟨tick, rfl⟩ := Int.eq_ofNat_of_zero_le q3
  have hnn : n ≤ 100 := by omega
  rw [hn] at q4 ⊢
  have htn : tick < n := by omega
  have O' := O
  obtain ⟨p1, pq, p2, s1, sr, r2⟩ := O'
  have hs1 : ∀ m : Mem, callF P t (k + 3) 7 [encK K, .int (tick : Nat), .int (n : Nat)] m = .ok (encT (slowT K ((tick : Int) * K.r % K.s) n)) m := fun m => slowest_eq (k := k + 1) O _ n (by omega)
  have hf1 : ∀ m : Mem, callF P t (k + 3) 8 [encK K, .int (tick : Nat), .int (n : Nat)] m = .ok (encT (fastT K (-(tick : Int) * K.p % K.q) n)) m := fun m => fastest_eq (k := k + 1) O _ n (by omega)
  have hs2 : ∀ (ph : Int) (m : Mem), callF P t (k + 3) 5 [encK K, .int ph, .int (n : Nat)] m = .ok (encT (slowT K ph n)) m := fun ph m => slow_eq (k := k + 2) O ph n (by omega)
  have hf2 : ∀ (ph : Int) (m : Mem), callF P t (k + 3) 6 [encK K, .int ph, .int (n : Nat)] m = .ok (encT (fastT K ph n)) m := fun ph m => fast_eq (k := k + 2) O ph n (by omega)
  have hsmS : ∀ (ph : Int) (m : Mem), callF P t (k + 3) 11 [encT (slowT K ph n), encT (slowT K ph n)] m = .ok (.bl true) m := fun ph m => same_ok at_law_same 1 (k + 1) (sm_T (by rw [slowT_len]; omega)) rfl rfl
  have hsmF : ∀ (ph : Int) (m : Mem), callF P t (k + 3) 11 [encT (fastT K ph n), encT (fastT K ph n)] m = .ok (.bl true) m := fun ph m => same_ok at_law_same 1 (k + 1) (sm_T (by rw [fastT_len]; omega)) rfl rfl
  have hicS : ∀ m : Mem, callF P t (k + 3) 16 [encK K, encT (slowT K ((tick : Int) * K.r % K.s) n)] m = .ok (.bl true) m := fun m => by
    rw [law_is_clock_eq (k := k + 1) O _ (by rw [slowT_len]; omega), clockC_of (slow_clock O (Int.emod_nonneg _ (by omega)) (Int.emod_lt_of_pos _ (by omega)) n)]
  have hicF : ∀ m : Mem, callF P t (k + 3) 16 [encK K, encT (fastT K (-(tick : Int) * K.p % K.q) n)] m = .ok (.bl true) m := fun m => by
    rw [law_is_clock_eq (k := k + 1) O _ (by rw [fastT_len]; omega), clockC_of (fast_clock O (Int.emod_nonneg _ (by omega)) (Int.emod_lt_of_pos _ (by omega)) n)]
  have mr : ∀ (z : Int) (m : Mem), bin .mul (.int z) (.int K.r) m = some (.int (z * K.r)) := fun z m => bin_mulI' (.inr (natAbs_lt (by omega) (by omega)))
  have ms : ∀ (z : Int) (m : Mem), bin .mul (.int z) (.int K.s) m = some (.int (z * K.s)) := fun z m => bin_mulI' (.inr (natAbs_lt (by omega) (by omega)))
  have mp : ∀ (z : Int) (m : Mem), bin .mul (.int z) (.int K.p) m = some (.int (z * K.p)) := fun z m => bin_mulI' (.inr (natAbs_lt (by omega) (by omega)))
  have mq : ∀ (z : Int) (m : Mem), bin .mul (.int z) (.int K.q) m = some (.int (z * K.q)) := fun z m => bin_mulI' (.inr (natAbs_lt (by omega) (by omega)))
  have mq1 : ∀ (z : Int) (m : Mem), bin .mul (.int (K.q - 1)) (.int z) m = some (.int ((K.q - 1) * z)) := fun z m => bin_mulI' (.inl (natAbs_lt (by omega) (by omega)))
  have ds : ∀ (z : Int) (m : Mem), bin .div (.int z) (.int K.s) m = some (.int (z / K.s)) := fun z m => bin_divI' (by omega) (by omega)
  have dq : ∀ (z : Int) (m : Mem), bin .div (.int z) (.int K.q) m = some (.int (z / K.q)) := fun z m => bin_divI' (by omega) (by omega)
  simp [hs1, hf1, mr, ms, mp, mq, mq1, ds, dq, one_eq, two_eq O, hs2, hf2, hsmS, hsmF, slowT_len, fastT_len, hicS, hicF]
  have hc1 : ((n : Int) + 1 - (tick : Int)) = ((n + 1 - tick : Nat) : Int) := by omega
  rw [hc1, range0 (by omega)]
  try simp
  refine (forF_map (fun (i : Nat) => D.int (i : Int)) (fun _ r m => (∃ z, r = [some (dealV tot), some (encK K), some (.int K.p), some (.int K.q), some (.int K.r), some (.int K.s), some (.int (n : Nat)), some (.int (tick : Nat)), some (encT (slowT K ((tick : Int) * K.r % K.s) n)), some (encT (fastT K (-(tick : Int) * K.p % K.q) n)), some (.int ((tick : Int) * K.r % K.s)), some (.int (-(tick : Int) * K.p % K.q)), z, none, none]) ∧ m = Dl row (at_ + 1 + 1)) (fun _ _ _ _ => rfl) ⟨⟨_, rfl⟩, rfl⟩ fun i c r m e hI => ?_).imp fun fr m1 hI => ?_
  · obtain ⟨⟨z, rfl⟩, rfl⟩ := hI
    have hc : c < n + 1 - tick := by
      have := List.mem_of_getElem? e
      simpa using this
    have g1 := slow_from O n tick c (by omega)
    have g2 := fast_from O n tick c (by omega)
    have i1 : ∀ m : Mem, idx (encT (slowT K ((tick : Int) * K.r % K.s) n)) (.int ((tick : Int) + (c : Int))) m = some (.int (atN (slowT K ((tick : Int) * K.r % K.s) n) (tick + c))) := fun m => T_atI (by rw [slowT_len]; omega) (by omega)
    have i2 : ∀ m : Mem, idx (encT (slowT K ((tick : Int) * K.r % K.s) n)) (.int (tick : Nat)) m = some (.int (atN (slowT K ((tick : Int) * K.r % K.s) n) tick)) := fun m => T_at (by rw [slowT_len]; omega)
    have i3 : ∀ m : Mem, idx (encT (fastT K (-(tick : Int) * K.p % K.q) n)) (.int ((tick : Int) + (c : Int))) m = some (.int (atN (fastT K (-(tick : Int) * K.p % K.q) n) (tick + c))) := fun m => T_atI (by rw [fastT_len]; omega) (by omega)
    have i4 : ∀ m : Mem, idx (encT (fastT K (-(tick : Int) * K.p % K.q) n)) (.int (tick : Nat)) m = some (.int (atN (fastT K (-(tick : Int) * K.p % K.q) n) tick)) := fun m => T_at (by rw [fastT_len]; omega)
    simp [turnF, i1, i2, i3, i4, high_eq (k := k + 2) O, low_eq (k := k + 2) O, g1, g2]
  · obtain ⟨fl, r⟩ := fr
    obtain ⟨f3, ⟨z, f4⟩, rfl⟩ := hI
    dsimp only at f3 f4
    subst f3 f4
    try simp
    refine (take1_ok (k := k + 2) at_law_take row _ tot K.s (by omega)).imp fun v m hv => ?_
    obtain ⟨u, rfl, q5, q6, rfl⟩ := hv
    try simp
    rw [show [D.int 0, D.int u, D.int (K.s - 1)] = [0, u, K.s - 1].map D.int from rfl]
    refine (phase_turns (k := k) O row _ tot n hnn _ _ _ _ _ [0, u, K.s - 1] (fun y hy => by simp at hy; omega) _ _ _).imp fun fr m1 hI => ?_
    obtain ⟨fl, r⟩ := fr
    obtain ⟨f3, ⟨z2, z3, f4⟩, rfl⟩ := hI
    dsimp only at f3 f4
    subst f3 f4
    try simp
    refine (take1_ok (k := k + 2) at_law_take row _ tot K.q (by omega)).imp fun v m hv => ?_
    obtain ⟨w, rfl, q7, q8, rfl⟩ := hv
    try simp
    rw [show [D.int 0, D.int w, D.int (K.q - 1)] = [0, w, K.q - 1].map D.int from rfl]
    refine (phase_turns2 (k := k) O row _ tot n hnn _ _ _ _ _ [0, w, K.q - 1] (fun y hy => by simp at hy; omega) _ _ _).imp fun fr m1 hI => ?_
    obtain ⟨fl, r⟩ := fr
    obtain ⟨f3, ⟨z2, z3, f4⟩, rfl⟩ := hI
    dsimp only at f3 f4
    subst f3 f4
    try simp
    exact ⟨rfl, _, rfl⟩
theorem under_ints {n : Nat} : ∀ {xs : List Int}, D.unders n (xs.map .int) = true
  | [] => by rw [List.map_nil, D.unders]
  | x :: xs => by rw [List.map_cons, D.unders, under_ints]; rfl
theorem under_Dl {row : List Int} {at_ n : Nat} : (Dl row at_).all (Cell.under n) = true := by
  have h1 : Cell.under n (.lst (row.map .int)) = true := under_ints
  have h2 : Cell.under n (.lst [.int (at_ : Nat)]) = true := under_ints (xs := [(at_ : Int)])
  simp [Dl, h1, h2]
/-! ### greatest and least of a list -/
theorem foldl_max : ∀ (xs : List Int) (x : Int), x ≤ xs.foldl max x ∧ (∀ y ∈ xs, y ≤ xs.foldl max x) ∧ (xs.foldl max x = x ∨ xs.foldl max x ∈ xs)
  | [], x => ⟨Int.le_refl _, fun _ h => (nomatch h), .inl rfl⟩
  | z :: xs, x => by
    obtain ⟨h1, h2, h3⟩ := foldl_max xs (max x z)
    rw [List.foldl_cons]
    refine ⟨by omega, fun y hy => ?_, ?_⟩
    · rcases List.mem_cons.mp hy with rfl | hy
      · omega
      · exact h2 y hy
    · rcases h3 with h3 | h3
      · rw [h3]
        by_cases h : x ≤ z
        · right; rw [Int.max_eq_right h]; exact List.mem_cons_self
        · left; rw [Int.max_eq_left (by omega)]
      · right; exact List.mem_cons_of_mem _ h3
theorem foldl_min : ∀ (xs : List Int) (x : Int), xs.foldl min x ≤ x ∧ (∀ y ∈ xs, xs.foldl min x ≤ y) ∧ (xs.foldl min x = x ∨ xs.foldl min x ∈ xs)
  | [], x => ⟨Int.le_refl _, fun _ h => (nomatch h), .inl rfl⟩
  | z :: xs, x => by
    obtain ⟨h1, h2, h3⟩ := foldl_min xs (min x z)
    rw [List.foldl_cons]
    refine ⟨by omega, fun y hy => ?_, ?_⟩
    · rcases List.mem_cons.mp hy with rfl | hy
      · omega
      · exact h2 y hy
    · rcases h3 with h3 | h3
      · rw [h3]
        by_cases h : x ≤ z
        · left; rw [Int.min_eq_left h]
        · right; rw [Int.min_eq_right (by omega)]; exact List.mem_cons_self
      · right; exact List.mem_cons_of_mem _ h3
theorem max1_eq {xs : List Int} (h : xs ≠ []) : ∃ z, prim .max1 [.lst (xs.map .int)] m = some (.int z) ∧ z ∈ xs ∧ ∀ y ∈ xs, y ≤ z := by
  cases xs with
  | nil => exact absurd rfl h
  | cons x xs =>
    obtain ⟨h1, h2, h3⟩ := foldl_max xs x
    refine ⟨xs.foldl max x, ?_, ?_, fun y hy => ?_⟩
    · show (((intsOf ((x :: xs).map .int)).bind maxOf).map D.int) = _
      rw [intsOf_of]; rfl
    · rcases h3 with h3 | h3
      · rw [h3]; exact List.mem_cons_self
      · exact List.mem_cons_of_mem _ h3
    · rcases List.mem_cons.mp hy with rfl | hy
      · exact h1
      · exact h2 y hy
theorem min1_eq {xs : List Int} (h : xs ≠ []) : ∃ z, prim .min1 [.lst (xs.map .int)] m = some (.int z) ∧ z ∈ xs ∧ ∀ y ∈ xs, z ≤ y := by
  cases xs with
  | nil => exact absurd rfl h
  | cons x xs =>
    obtain ⟨h1, h2, h3⟩ := foldl_min xs x
    refine ⟨xs.foldl min x, ?_, ?_, fun y hy => ?_⟩
    · show (((intsOf ((x :: xs).map .int)).bind minOf).map D.int) = _
      rw [intsOf_of]; rfl
    · rcases h3 with h3 | h3
      · rw [h3]; exact List.mem_cons_self
      · exact List.mem_cons_of_mem _ h3
    · rcases List.mem_cons.mp hy with rfl | hy
      · exact h1
      · exact h2 y hy
theorem cross {K : Kind} (O : KOk K) {ts : List Int} (h : IsClock K ts) {a b : Nat} (ha : a < ts.length) (hb : b < ts.length) : atN ts a + low K ((ts.length : Int) - (a : Int)) ≤ atN ts b + high K ((ts.length : Int) - (b : Int)) := by
  have O' := O
  obtain ⟨p1, pq, q2, s1, sr, r2⟩ := O
  have hq : 0 < K.q := by omega
  have hs : 0 < K.s := by omega
  have e1 : ∀ u v : Int, 0 ≤ u → 0 ≤ v → low K (u + v) ≤ low K u + high K v := fun u v hu hv => by
    have h1 := fl_ge (x := (u + v) * K.p) hq
    have h2 := le_high O' hv
    have h3 : v * K.p ≤ v * K.q := Int.mul_le_mul_of_nonneg_left pq hv
    have h4 : v * K.q ≤ high K v * K.q := Int.mul_le_mul_of_nonneg_right h2 (by omega)
    have : low K (u + v) - high K v ≤ low K u := by
      show _ ≤ fl (u * K.p) K.q
      rw [fl_le hq, Int.sub_mul]
      have : (u + v) * K.p = u * K.p + v * K.p := Int.add_mul _ _ _
      unfold low
      omega
    omega
  have e2 : ∀ u v : Int, 0 ≤ u → 0 ≤ v → low K v + high K u ≤ high K (u + v) := fun u v hu hv => by
    have h1 := ce_ge (x := (u + v) * K.r) hs
    have h2 := low_le O' hv
    have h3 : v * K.s ≤ v * K.r := Int.mul_le_mul_of_nonneg_left sr hv
    have h4 : low K v * K.s ≤ v * K.s := Int.mul_le_mul_of_nonneg_right h2 (by omega)
    have : high K u ≤ high K (u + v) - low K v := by
      show ce (u * K.r) K.s ≤ _
      rw [ce_le hs, Int.sub_mul]
      have : (u + v) * K.r = u * K.r + v * K.r := Int.add_mul _ _ _
      unfold high
      omega
    omega
  by_cases hab : a < b
  · have := (h.pair a b hab hb).1
    have := e1 ((b : Int) - (a : Int)) ((ts.length : Int) - (b : Int)) (by omega) (by omega)
    rw [show (b : Int) - (a : Int) + ((ts.length : Int) - (b : Int)) = (ts.length : Int) - (a : Int) by omega] at this
    omega
  · by_cases hba : b < a
    · have := (h.pair b a hba ha).2
      have := e2 ((a : Int) - (b : Int)) ((ts.length : Int) - (a : Int)) (by omega) (by omega)
      rw [show (a : Int) - (b : Int) + ((ts.length : Int) - (a : Int)) = (ts.length : Int) - (b : Int) by omega] at this
      omega
    · obtain rfl : a = b := by omega
      have h1 := low_le O' (show 0 ≤ (ts.length : Int) - (a : Int) by omega)
      have h2 := le_high O' (show 0 ≤ (ts.length : Int) - (a : Int) by omega)
      omega
theorem extend {K : Kind} {ts : List Int} (h : IsClock K ts) {x : Int} (h1 : ∀ a : Nat, a < ts.length → atN ts a + low K ((ts.length : Int) - (a : Int)) ≤ x) (h2 : ∀ a : Nat, a < ts.length → x ≤ atN ts a + high K ((ts.length : Int) - (a : Int))) : IsClock K (ts ++ [x]) := by
  have e1 : ∀ a : Nat, a < ts.length → atN (ts ++ [x]) a = atN ts a := fun a ha => by
    unfold atN
    rw [List.getD_eq_getElem?_getD, List.getD_eq_getElem?_getD, List.getElem?_append_left ha]
  have e2 : atN (ts ++ [x]) ts.length = x := by
    unfold atN
    rw [List.getD_eq_getElem?_getD, List.getElem?_append_right (Nat.le_refl _), Nat.sub_self]; rfl
  refine ⟨by simp, by rw [e1 0 h.ne]; exact h.zero, fun a b hab hb => ?_⟩
  have hb : b < ts.length + 1 := by simpa using hb
  by_cases hbl : b < ts.length
  · rw [e1 b hbl, e1 a (by omega)]
    exact h.pair a b hab hbl
  · obtain rfl : b = ts.length := by omega
    rw [e2, e1 a hab]
    have := h1 a hab
    have := h2 a hab
    omega
theorem new_ok {K : Kind} (O : KOk K) {ts : List Int} (h : IsClock K ts) : ∃ lo hi : Int, (∀ m : Mem, prim .max1 [.lst ((List.range ts.length).map fun (a : Nat) => D.int (atN ts a + low K ((ts.length : Int) - (a : Int))))] m = some (.int lo)) ∧
    (∀ m : Mem, prim .min1 [.lst ((List.range ts.length).map fun (a : Nat) => D.int (atN ts a + high K ((ts.length : Int) - (a : Int))))] m = some (.int hi)) ∧ lo ≤ hi ∧ ∀ x, lo ≤ x → x ≤ hi → IsClock K (ts ++ [x]) := by
  have hne : (List.range ts.length) ≠ [] := by
    intro z
    have h2 : (List.range ts.length).length = 0 := by rw [z]; rfl
    rw [List.length_range] at h2
    have := h.ne
    omega
  obtain ⟨lo, a1, a2, a3⟩ := max1_eq (m := []) (xs := (List.range ts.length).map fun (a : Nat) => atN ts a + low K ((ts.length : Int) - (a : Int))) (by simpa using hne)
  obtain ⟨hi, b1, b2, b3⟩ := min1_eq (m := []) (xs := (List.range ts.length).map fun (a : Nat) => atN ts a + high K ((ts.length : Int) - (a : Int))) (by simpa using hne)
  rw [List.map_map] at a1 b1
  refine ⟨lo, hi, fun m => a1, fun m => b1, ?_, fun x h1 h2 => extend h (fun a ha => ?_) fun a ha => ?_⟩
  · obtain ⟨a, ha, rfl⟩ := List.mem_map.mp a2
    obtain ⟨b, hb, rfl⟩ := List.mem_map.mp b2
    exact cross O h (by simpa using ha) (by simpa using hb)
  · have := a3 _ (List.mem_map.mpr ⟨a, List.mem_range.mpr ha, rfl⟩)
    omega
  · have := b3 _ (List.mem_map.mpr ⟨a, List.mem_range.mpr ha, rfl⟩)
    omega
theorem clock_ok (O : KOk K) (row : List Int) (at_ : Nat) (tot : Int) (n : Nat) (hn : n ≤ 100) : Ok (callF P t (k + 2) 17 [dealV tot, encK K, .int (n : Nat)] (Dl row at_)) fun v m => ∃ ts a, v = encT ts ∧ m = Dl row a ∧ IsClock K ts ∧ ts.length = n + 1 := by
  refine call_okC at_law_clock rfl rfl ?_
  have e7 : (Dl row at_).length = 2 := rfl
  simp [d_law_clock, startD, e7]
  refine (takeC1_ok (k := k) at_law_take row at_ tot 3 [.lst [.int 0]] (by omega)).imp fun v m hv => ?_
  obtain ⟨way, rfl, q1, q2, rfl⟩ := hv
  try simp
  rw [show ((n : Int) + 1) = ((n + 1 : Nat) : Int) from rfl, rangeS_int (by omega) (by omega) (by omega) (by omega) (by omega)]
  have hr : rangeL 1 ((n + 1 : Nat) : Int) = (List.range n).map fun (i : Nat) => D.int ((1 + i : Nat) : Int) := by
    unfold rangeL
    rw [show (((n + 1 : Nat) : Int) - 1).toNat = n by omega]
    rfl
  rw [hr]
  simp only [Option.map_some, Res.of_some, Ok_ok]
  refine (forF_map (fun (i : Nat) => D.int ((1 + i : Nat) : Int)) (fun j r m => (∃ z5 z6 z7 z8, r = [some (dealV tot), some (encK K), some (.int (n : Nat)), some (.obj 2), some (.int way), z5, z6, z7, z8]) ∧ ∃ (a : Nat) (ts : List Int), m = Dl row a ++ [.lst (ts.map .int)] ∧ IsClock K ts ∧ ts.length = j + 1) (fun _ _ _ _ => rfl) ⟨⟨_, _, _, _, rfl⟩, _, [0], rfl, ⟨by simp, rfl, fun a b h1 h2 => by simp at h2; omega⟩, rfl⟩ fun j i r m e hI => ?_).imp fun fr m1 hI => ?_
  · obtain ⟨⟨z5, z6, z7, z8, rfl⟩, a, ts, rfl, hc, hl⟩ := hI
    have hj : j < n := by
      have := (List.getElem?_eq_some_iff.mp e).1
      simpa using this
    obtain rfl : i = j := by
      rw [List.getElem?_range hj] at e
      cases e; rfl
    obtain ⟨lo, hi, m1, m2, hlh, hx⟩ := new_ok O hc
    have hl1 : (1 + i) = ts.length := by omega
    have hlt : ts.length ≤ 1000000 := by omega
    rw [hl1]
    have hid : ∀ x : Nat, x < ts.length → (ts.map D.int)[x]? = some (.int (atN ts x)) := fun x hx => by
      have := T_at (m := []) (ts := ts) hx
      simpa [encT] using this
    simp [turnF, compE_eq, range0 hlt]
    rw [compF_all rfl (fun (x : Nat) => D.int (x : Int)) (fun (x : Nat) => D.int (atN ts x + low K ((ts.length : Int) - (x : Int)))) fun x hx => by
      have := hid x (by simpa using hx)
      simp at this
      simp [stepF, this, low_eq (k := k) O]]
    simp [m1]
    rw [compF_all rfl (fun (x : Nat) => D.int (x : Int)) (fun (x : Nat) => D.int (atN ts x + high K ((ts.length : Int) - (x : Int)))) fun x hx => by
      have := hid x (by simpa using hx)
      simp at this
      simp [stepF, this, high_eq (k := k) O]]
    simp [m2]
    refine (takeC1_ok (k := k) at_law_take row _ tot (min (hi - lo) 900 + 1) _ (by omega)).imp fun v m hv => ?_
    obtain ⟨u, rfl, q3, q4, rfl⟩ := hv
    have hlim : ts.length < 1000000 := by omega
    have fin : ∀ (w : Int) (a : Nat), 0 ≤ w → w < 3 → ∃ x, nth [D.int lo, D.int hi, D.int (lo + u)] w = some (.int x) ∧ IsClock K (ts ++ [x]) := fun w a w1 w2 => by
      have : w = 0 ∨ w = 1 ∨ w = 2 := by omega
      rcases this with rfl | rfl | rfl
      · exact ⟨lo, by simp, hx lo (Int.le_refl _) hlh⟩
      · exact ⟨hi, by simp, hx hi hlh (Int.le_refl _)⟩
      · exact ⟨lo + u, by simp, hx _ (by omega) (by omega)⟩
    try simp
    by_cases hw : way = 0
    · simp [hw]
      refine (takeC1_ok (k := k) at_law_take row _ tot 3 _ (by omega)).imp fun v m hv => ?_
      obtain ⟨w, rfl, q5, q6, rfl⟩ := hv
      obtain ⟨x, hx1, hx2⟩ := fin w a q5 q6
      simp [hx1, hlim]
      exact ⟨_, ts ++ [x], ⟨rfl, by simp⟩, hx2, by simp; omega⟩
    · obtain ⟨x, hx1, hx2⟩ := fin way a q1 q2
      simp [hw, hx1, hlim]
      exact ⟨_, ts ++ [x], ⟨rfl, by simp⟩, hx2, by simp; omega⟩
  · obtain ⟨fl, r⟩ := fr
    obtain ⟨f3, ⟨z5, z6, z7, z8, f4⟩, a, ts, rfl, hc, hl⟩ := hI
    dsimp only at f3 f4
    subst f3 f4
    have hp : prim .tuple [.obj 2] (Dl row a ++ [.lst (ts.map .int)]) = some (encT ts) := rfl
    simp [hp]
    exact ⟨encT ts, Dl row a, ⟨_, [], rfl⟩, rfl, List.all_eq_true.mp under_Dl, rfl, encT ts, frz_sm (n := 1) (sm_T (by simp at hl; omega)), ts, rfl, ⟨_, rfl⟩, hc, by simpa using hl⟩
/-- a list of int tuples -/
def Ts (ds : List D) : Prop := ∃ tss : List (List Int), ds = tss.map encT ∧ ∀ ts ∈ tss, ts.length ≤ 1000
theorem law_true_of (bent : ∀ (K : Kind) (_ : KOk K) (ts : List Int) (_ : ts.length ≤ 100) (_ : 0 < ts.length) (row : List Int) (at_ : Nat) (tot : Int), Ok (callF P t 39 22 [dealV tot, encK K, encT ts] (Dl row at_)) fun v m => ∃ ds, v = .lst ds ∧ Ts ds ∧ ∃ a, m = Dl row a) :
    ∀ ns : List Int, ns.length ≤ 63 → (∀ z ∈ ns, Builtin.Int.intBits z ≤ 1048576) → ∃ m', callF P t 40 iLaw [.scr (ns.map .int)] [] = .ok (.bl true) m' := by
  intro ns hn _
  have go : Ok (callF P t (39 + 1) iLaw [.scr (ns.map .int)] []) fun v _ => v = .bl true := by
    refine call_okC at_law rfl rfl (Ok.imp (Q := fun fr m => fr.1 = .ret (.bl true) ∧ ∃ row a, m = Dl row a) ?_ fun fr m1 h => ?_)
    · simp [d_law, startD]
      refine (deal1_ok (k := 38) at_law_deal ns hn).imp fun v m hv => ?_
      obtain ⟨row, tot, rfl, rfl⟩ := hv
      try simp
      refine (kind_ok (k := 37) row 0 tot).imp fun v m hv => ?_
      obtain ⟨K, a1, rfl, rfl, O⟩ := hv
      simp [forms_ok (k := 37)]
      refine (counts_ok (k := 36) O row a1 tot).imp fun v m hv => ?_
      obtain ⟨rfl, a2, rfl⟩ := hv
      try simp
      refine (extremes_ok (k := 35) O row a2 tot).imp fun v m hv => ?_
      obtain ⟨rfl, a3, rfl⟩ := hv
      try simp
      refine (take1_ok (k := 38) at_law_take row a3 tot 14 (by omega)).imp fun v m hv => ?_
      obtain ⟨x, rfl, q1, q2, rfl⟩ := hv
      obtain ⟨n, hx⟩ := Int.eq_ofNat_of_zero_le (show 0 ≤ 3 + x by omega)
      try simp
      rw [hx]
      refine (clock_ok (k := 37) O row _ tot n (by omega)).imp fun v m hv => ?_
      obtain ⟨ts, a4, rfl, rfl, hc, hl⟩ := hv
      have h1 : ∀ m : Mem, callF P t 39 16 [encK K, encT ts] m = .ok (.bl true) m := fun m => by rw [law_is_clock_eq (k := 37) O ts (by omega), clockC_of hc]
      have h2 : ∀ m : Mem, callF P t 39 4 [encK K, encT ts] m = .ok (.bl true) m := fun m => by rw [is_clock_eq (k := 37) O ts (by omega), clockC_of hc]
      simp [h1, h2, bool_ok (k := 38) at_law_bool]
      refine (bent K O ts (by omega) (by omega) row a4 tot).imp fun v m hv => ?_
      obtain ⟨ds, rfl, ⟨tss, rfl, hts⟩, a5, rfl⟩ := hv
      try simp
      refine (forF_map encT (fun _ r m => (∃ z, r = [some (.scr (ns.map .int)), some (dealV tot), some (encK K), some (encT ts), z]) ∧ m = Dl row a5) (fun _ _ _ _ => rfl) ⟨⟨_, rfl⟩, rfl⟩ fun i o r m e hI => ?_).imp fun fr m1 hI => ?_
      · obtain ⟨⟨z, rfl⟩, rfl⟩ := hI
        have ho := hts o (List.mem_of_getElem? e)
        simp [turnF, is_clock_eq (k := 37) O o ho, law_is_clock_eq (k := 37) O o ho, bool_ok (k := 38) at_law_bool]
      · obtain ⟨fl, r⟩ := fr
        obtain ⟨f3, ⟨z, f4⟩, rfl⟩ := hI
        dsimp only at f3 f4
        subst f3 f4
        simp
        exact ⟨_, _, rfl⟩
    · obtain ⟨h1, row, a, rfl⟩ := h
      exact ⟨.bl true, [], _, _, rfl, rfl, rfl, .inl h1, .bl true, rfl, rfl⟩
  obtain ⟨v, m, e, rfl⟩ := go
  exact ⟨m, e⟩
theorem cut_dropN {xs : List D} {n : Nat} : cut xs (some (n : Int)) none = xs.drop n := by
  unfold cut
  rw [sIx_nat', sIx_none']
  by_cases h : n ≤ xs.length
  · rw [Nat.min_eq_left h, List.take_of_length_le (by rw [List.length_drop]; omega)]
  · rw [Nat.min_eq_right (by omega), List.drop_eq_nil_of_le (Nat.le_refl _), List.drop_eq_nil_of_le (by omega)]; simp
theorem take_T {a : List Int} {n : Nat} : slice (encT a) none (some (n : Int)) m = some (encT (a.take n)) := by
  show slice (.tup (a.map .int)) _ _ m = _
  rw [slice_tup, cut_take, encT, List.map_take]
theorem drop_T {a : List Int} {n : Nat} : slice (encT a) (some (n : Int)) none m = some (encT (a.drop n)) := by
  show slice (.tup (a.map .int)) _ _ m = _
  rw [slice_tup, cut_dropN, encT, List.map_drop]
theorem add_TT {a b : List Int} (h : a.length + b.length ≤ 1000000) : bin .add (encT a) (encT b) m = some (encT (a ++ b)) := by
  show bin .add (.tup (a.map .int)) (.tup (b.map .int)) m = _
  simp [h, encT]
theorem add_T1 {a : List Int} {x : Int} (h : a.length + 1 ≤ 1000000) : bin .add (encT a) (.tup [.int x]) m = some (encT (a ++ [x])) := add_TT (b := [x]) h
theorem add_1T {a : List Int} {x : Int} (h : a.length + 1 ≤ 1000000) : bin .add (.tup [.int x]) (encT a) m = some (encT (x :: a)) := add_TT (a := [x]) (by simp; omega)
theorem last_T {ts : List Int} (h : 0 < ts.length) : ∃ z, ∀ m : Mem, idx (encT ts) (.int (-1)) m = some (.int z) := by
  refine ⟨ts.getLast (List.ne_nil_of_length_pos h), fun m => ?_⟩
  show nth (ts.map D.int) (-1) = _
  rw [nth_m1, List.getLast?_map, List.getLast?_eq_some_getLast (List.ne_nil_of_length_pos h)]; rfl
theorem unders_Ts {n : Nat} : ∀ {tss : List (List Int)}, D.unders n (tss.map encT) = true
  | [] => by rw [List.map_nil, D.unders]
  | x :: xs => by
    rw [List.map_cons, D.unders, unders_Ts, Bool.and_true, encT, D.under]
    exact under_ints
theorem bent (K : Kind) (O : KOk K) (ts : List Int) (hl : ts.length ≤ 100) (h0 : 0 < ts.length) (row : List Int) (at_ : Nat) (tot : Int) : Ok (callF P t (k + 2) 22 [dealV tot, encK K, encT ts] (Dl row at_)) fun v m => ∃ ds, v = .lst ds ∧ Ts ds ∧ ∃ a, m = Dl row a := by
  refine call_okC at_law_bent rfl rfl ?_
  have e7 : (Dl row at_).length = 2 := rfl
  obtain ⟨z, hz⟩ := last_T h0
  have hd1 : ∀ m : Mem, slice (encT ts) (some 1) none m = some (encT ts.tail) := fun m => by rw [← List.drop_one]; exact drop_T (n := 1)
  have hdl : ts.tail.length + 1 ≤ 1000000 := by simp; omega
  have hl1 : ts.length + 1 ≤ 1000000 := by omega
  simp only [d_law_bent, evSs_cons, startD]
  simp [hd1, add_1T hdl, hz, add_T1 hl1, high_eq (k := k) O, e7]
  rw [show rangeS (.int 0) (.int 4) = some ((List.range 4).map fun (i : Nat) => D.int (i : Int)) from range0 (n := 4) (by omega)]
  rw [show [D.tup [], encT (1 :: ts.tail), encT ts.tail, encT (ts ++ [z - 1]), D.tup [D.int 0], encT (ts ++ [z + high K 1]), encT (ts ++ [z + high K 1 + 1])] = [[], 1 :: ts.tail, ts.tail, ts ++ [z - 1], [0], ts ++ [z + high K 1], ts ++ [z + high K 1 + 1]].map encT from rfl]
  simp only [Option.map_some, Res.of_some, Ok_ok]
  refine (forF_map (fun (i : Nat) => D.int (i : Int)) (fun j r m => (∃ z4 z5 z6 z7, r = [some (dealV tot), some (encK K), some (encT ts), some (.obj 2), z4, z5, z6, z7]) ∧ ∃ (a : Nat) (tss : List (List Int)), m = Dl row a ++ [.lst (tss.map encT)] ∧ (∀ o ∈ tss, o.length ≤ 1000) ∧ tss.length ≤ 7 + 4 * j) (fun _ _ _ _ => rfl) ⟨⟨_, _, _, _, rfl⟩, _, _, rfl, fun o ho => by simp at ho; rcases ho with rfl | rfl | rfl | rfl | rfl | rfl | rfl <;> (simp) <;> omega, by simp⟩ fun j i r m e hI => ?_).imp fun fr m1 hI => ?_
  · obtain ⟨⟨z4, z5, z6, z7, rfl⟩, a, tss, rfl, g1, g2⟩ := hI
    have hj : j < 4 := by
      have := (List.getElem?_eq_some_iff.mp e).1
      simpa using this
    simp [turnF]
    refine (takeC1_ok (k := k) at_law_take row a tot (ts.length : Nat) _ (by omega)).imp fun v m hv => ?_
    obtain ⟨x, rfl, q1, q2, rfl⟩ := hv
    obtain ⟨n, rfl⟩ := Int.eq_ofNat_of_zero_le q1
    have hn : n < ts.length := by omega
    try simp
    rw [show [D.int 1, D.int (-1)] = [1, -1].map D.int from rfl]
    refine (forF_map D.int (fun l r m => (∃ z6 z7, r = [some (dealV tot), some (encK K), some (encT ts), some (.obj 2), some (.int (i : Nat)), some (.int (n : Nat)), z6, z7]) ∧ ∃ (tss : List (List Int)), m = Dl row (a + 1) ++ [.lst (tss.map encT)] ∧ (∀ o ∈ tss, o.length ≤ 1000) ∧ tss.length ≤ 7 + 4 * j + 2 * l) (fun _ _ _ _ => rfl) ⟨⟨_, _, rfl⟩, tss, rfl, g1, by omega⟩ fun l b r m e hI => ?_).imp fun fr m1 hI => ?_
    · obtain ⟨⟨z6, z7, rfl⟩, tss, rfl, g1, g2⟩ := hI
      have hl2 : l < 2 := by
        have := (List.getElem?_eq_some_iff.mp e).1
        simpa using this
      have hlim : tss.length < 1000000 := by omega
      have hlim2 : tss.length + 1 < 1000000 := by omega
      have i1 : ∀ m : Mem, idx (encT ts) (.int (n : Nat)) m = some (.int (atN ts n)) := fun m => T_at hn
      have s1 : ∀ m : Mem, slice (encT ts) none (some (n : Int)) m = some (encT (ts.take n)) := fun m => take_T
      have s2 : ∀ m : Mem, slice (encT ts) (some (n : Int)) none m = some (encT (ts.drop n)) := fun m => drop_T
      have s3 : ∀ m : Mem, slice (encT ts) (some ((n : Int) + 1)) none m = some (encT (ts.drop (n + 1))) := fun m => drop_T (n := n + 1)
      have a1 : ∀ m : Mem, bin .add (encT (ts.take n)) (.tup [.int (atN ts n + b)]) m = some (encT (ts.take n ++ [atN ts n + b])) := fun m => add_T1 (by simp; omega)
      have a2 : ∀ m : Mem, bin .add (encT (ts.take n ++ [atN ts n + b])) (encT (ts.drop (n + 1))) m = some (encT (ts.take n ++ [atN ts n + b] ++ ts.drop (n + 1))) := fun m => add_TT (by simp; omega)
      have a3 : ∀ m : Mem, bin .add (encT (ts.take n)) (.tup ((ts.drop n).map fun x => D.int (x + b))) m = some (encT (ts.take n ++ (ts.drop n).map fun x => x + b)) := fun m => by
        have := add_TT (m := m) (a := ts.take n) (b := (ts.drop n).map fun x => x + b) (by simp; omega)
        rw [← this]
        unfold encT
        rw [List.map_map]; rfl
      simp [turnF, s1, i1, a1, s3, a2, hlim, compE_eq, s2]
      rw [← List.map_drop, compF_all rfl D.int (fun x => D.int (x + b)) fun x hx => by simp [stepF]]
      simp only [Ok_ok, a3, Res.of_some, Dl_cell, Dl_set, List.length_append, List.length_map, List.length_cons, List.length_nil]
      rw [if_pos (by omega)]
      simp only [Ok_ok]
      refine ⟨tss ++ [ts.take n ++ (atN ts n + b) :: ts.drop (n + 1), ts.take n ++ (ts.drop n).map fun x => x + b], ?_, ?_, ?_⟩
      · simp
      · intro o ho
        rcases List.mem_append.mp ho with ho | ho
        · exact g1 o ho
        · simp at ho
          rcases ho with rfl | rfl
          · simp; omega
          · simp; omega
      · simp; omega
    · obtain ⟨fl, r⟩ := fr
      obtain ⟨f3, ⟨z6, z7, f4⟩, tss, rfl, g1, g2⟩ := hI
      dsimp only at f3 f4
      subst f3 f4
      simp
      refine ⟨_, tss, ⟨rfl, rfl⟩, g1, ?_⟩
      simp at g2
      omega
  · obtain ⟨fl, r⟩ := fr
    obtain ⟨f3, ⟨z4, z5, z6, z7, f4⟩, a, tss, rfl, g1, g2⟩ := hI
    dsimp only at f3 f4
    subst f3 f4
    simp
    have hfz : D.frz 2 (Dl row a ++ [.lst (tss.map encT)]) (.obj 2) = some (.lst (tss.map encT)) := by
      rw [D.frz]
      unfold frzCell
      rw [if_neg (by omega)]
      show (match (Dl row a ++ [Cell.lst (tss.map encT)])[2]? with | some (Cell.lst xs) => if D.unders 2 xs = true then some (D.lst xs) else none | _ => none) = _
      rw [Dl_cell]
      simp [unders_Ts]
    exact ⟨.obj 2, Dl row a, ⟨_, [], rfl⟩, rfl, List.all_eq_true.mp under_Dl, rfl, .lst (tss.map encT), hfz, _, rfl, ⟨tss, rfl, g1⟩, _, rfl⟩
theorem law_true : ∀ ns : List Int, ns.length ≤ 63 → (∀ z ∈ ns, Builtin.Int.intBits z ≤ 1048576) → ∃ m', callF P t 40 iLaw [.scr (ns.map .int)] [] = .ok (.bl true) m' := law_true_of fun K O ts hl h0 row at_ tot => bent (k := 37) K O ts hl h0 row at_ tot
end
abbrev K0 : Nat := 40
abbrev turns : Nat := 100
end K82
open PySem PySem.W PySem.Calls PyProof.Rows
theorem PySem.Challenge.cw_dayholds_k82_whole_clocks_of_a_kind_holds : PySem.Challenge.rw_dayholds_k82_whole_clocks_of_a_kind.Holds := by
  w_on; o_law
  refine HandSHeadRun.head_any (r := OpenLaw.row PySem.Challenge.rw_dayholds_k82_whole_clocks_of_a_kind) (q := view (OpenLaw.row PySem.Challenge.rw_dayholds_k82_whole_clocks_of_a_kind).prog [27]) (H := K82.hk) (ob := K82.ob) (M := 4000) (loose := K82.loose) (d := HandSHeadRun.topDef (OpenLaw.row PySem.Challenge.rw_dayholds_k82_whole_clocks_of_a_kind).prog 27) (kwd := []) K82.ob_eq
    (by kernel_rfl) (fun s => by kernel_rfl) K82.run (by kernel_rfl) (by kernel_rfl) (by kernel_rfl) (by rfl) (by first | assumption | decide +kernel) (by decide +kernel) ⟨rfl, rfl, rfl, rfl, rfl, by decide +kernel⟩ ?hw ?hc
  case hw => w_witness2
  case hc =>
    exact Rf.walk_D (l := PySem.Challenge.rw_dayholds_k82_whole_clocks_of_a_kind) (n := 63) (k := K82.K0) (turns := K82.turns) (x := "script") (fa := K82.fa) (fn := K82.fn) (cells := K82.cells) (vs := K82.infs) (defs := K82.defs) (i := K82.iLaw) rfl (by decide) (by kernel_rfl) ⟨rfl, by decide, by decide⟩ (fun _ _ y => y) K82.defs_ok (by kernel_rfl) rfl rfl K82.law_true
