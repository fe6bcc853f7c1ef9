import PyProof.Rows.All
import Wide.All
import OpenK.AllK
import Wide.FinOn
import HandS.ForMost
import HandS.ForExc
import HandS.Lambda
import HandS.Wide
import HandS.Gcd
import HandS.IsInst
import HandS.Iter
import HandS.HotCalls
import HandS.Flow
import HandS.Defaults
import HandS.Property
import HandS.Star
import HandS.ExcOwn
import HandS.ExcField
import HandS.Comp
import HandS.Rev
import HandS.WordsExc
import PyProof.EqAt
import PyProof.RulesMatch
import PyProof.Rows.StrRules
import HandS.Deep
import HandS.SortRule
import HandS.SortInts
import HandS.NamedTupSort
import HandS.ExcIs
import KE.KExcIs
import HandS.Head0
import HandS.Head1
import HandS.Head2
import HandS.HeadEnd
import HandS.HeadHook1
import HandS.HeadHook2
import HandS.HeadHook3
import HandS.HeadHook4
import HandS.HeadWalk
import HandS.Words
import HandS.HeadNt
import HandS.MakeKwOnly
import HandS.Head3
import PySem.Challenge.RW_dealsformany_k59_equal_and_weighted_loss
set_option Elab.async false
set_option linter.all false
set_option maxRecDepth 100000
/-! VmA: pure data, the IR, its evaluator. -/
namespace Vm
open PySem

/-- data without a heap -/
inductive D where
  | non | bl (b : Bool) | int (i : Int) | str (s : Str)
  | tup (xs : List D) | lst (xs : List D)
  | ins (c : Nat) (fs : List (Nat × D))
  | scr (ns : List Int)
  | exn (c : Nat) (a : Option D)
  deriving Inhabited

abbrev Env := List (Option D)

/-- a result: a value, an exception of the class c with its one field, or no word -/
inductive R (α : Type) where
  | ok (a : α) | exc (c : Nat) (a : Option D) | bad

namespace R
variable {α β : Type}
@[reducible] def bind (r : R α) (f : α → R β) : R β := match r with
  | .ok a => f a
  | .exc c x => .exc c x
  | .bad => .bad
@[reducible] def guard (c : Prop) [Decidable c] (a : α) : R α := if c then .ok a else .bad
@[reducible] def ofOpt : Option α → R α
  | some a => .ok a
  | none => .bad
end R

inductive BOp where | add | sub | mul | fdiv | mod | pow
  deriving DecidableEq
inductive COp where | lt | le | gt | ge | eq | ne | isN | notN | isin | notin
  deriving DecidableEq
inductive BI where | len | int1 | abs | max2 | min2 | list1 | tuple1 | sortT | gcd | lcm | sum | str1 | all1 | any1 | maxL | minL
  deriving DecidableEq
inductive Ty where | tuple | int | bool | list | str
  deriving DecidableEq

inductive Tgt where
  | nm (i : Nat) | tp (ts : List Tgt)

mutual
inductive IE where
  | var (i : Nat) | lit (d : D) | glb (g : Nat)
  | tup (es : IEs) | lst (es : IEs)
  | bin (o : BOp) (a b : IE) | neg (a : IE) | not (a : IE)
  | cmp (o : COp) (a b : IE) | chn (o p : COp) (a b c : IE)
  | boo (isAnd : Bool) (es : IEs) | ite (t a b : IE)
  | ix (a b : IE) | slc (a : IE) (lo hi : IEs)
  | fld (f : Nat) (a : IE)
  | call (f : Nat) (es : IEs)
  | callK (f : Nat) (sh : Nat) (es ks : IEs)
  | callV (a : IE) (es : IEs)
  | makeK (c : Nat) (sh : Nat) (es ks : IEs)
  | meth (m : Nat) (a : IE) (es : IEs)
  | bi (b : BI) (es : IEs)
  | lcnt (a e : IE) | lidx (a e : IE)
  | isi (T : Ty) (a : IE)
  | isx (c : Nat) (a : IE)
  | comp (t : Tgt) (own : List Nat) (it : II) (cs : IEs) (e : IE)
  | refused (f : Nat) (e : IE)
inductive IEs where
  | nil | cons (e : IE) (es : IEs)
inductive II where
  | seq (a : IE) | rng1 (a : IE) | rng2 (a b : IE) | enum (a : IE) | zip (a b : IE) | rev (a : IE)
end

mutual
inductive IS where
  | share (i : Nat)
  | asg (t : Tgt) (e : IE)
  | asgF (i : Nat) (e : IE)
  | setF (i f : Nat) (e : IE)
  | setI (i : Nat) (k e : IE)
  | app (i : Nat) (e : IE)
  | pop (i : Nat)
  | expr (e : IE)
  | ret (e : IE) | retN
  | ifS (t : IE) (a b : ISs)
  | forS (o : List Nat) (t : Tgt) (it : II) (b : ISs)
  | whileS (o : List Nat) (t : IE) (b : ISs)
  | brk | cont | pass
  | raise (c : Nat) (es : IEs)
  | never
  | matchS (e : IE) (cs : ICs)
inductive ISs where
  | nil | cons (s : IS) (ss : ISs)
/-- the cases of a match over a text: the text (none: any), the body -/
inductive ICs where
  | nil | cons (k : Option Str) (b : ISs) (r : ICs)
end

/-- how a def's parameters are filled: by a positional value, a keyword's, a default -/
inductive Src where
  | pos (i : Nat) | kw (i : Nat) | dfl (d : D)
/-- a call's shape: so many positional, these keywords, what each parameter gets -/
structure Shp where
  np : Nat
  ks : List Str
  src : List Src
def fill (xs ys : List D) : List Src → Option (List D)
  | [] => some []
  | c :: r => match (match c with | .pos i => xs[i]? | .kw i => ys[i]? | .dfl d => some d), fill xs ys r with
    | some d, some ds => some (d :: ds)
    | _, _ => none
def shpD (S : Shp) (xs ys : List D) : Option (List D) := if xs.length = S.np ∧ ys.length = S.ks.length then fill xs ys S.src else none
/-- what stands around: the defs' meanings, the module's values, methods and properties by class, the loops' fuel -/
structure Sm where
  call : Nat → List D → R D
  sh : Nat → Shp
  made : Nat → List D → R D
  glb : Nat → D
  meth : Nat → Nat → Option Nat
  prop : Nat → Nat → Option Nat
  attrs : Nat → List Nat
  xfld : Nat → Nat
  sub : Nat → Nat → Bool
  xs : List Nat
  word : Nat → Nat × Nat
  hcall : Nat → List D → R D
  fuel : Nat

/-! ### operations -/
def maxLen : Nat := 16777216
def addD : D → D → R D
  | .int i, .int j => .ok (.int (i + j))
  | .str s, .str t => .guard (s.length + t.length ≤ maxLen) (.str (s ++ t))
  | .lst xs, .lst ys => .guard (xs.length + ys.length ≤ maxLen) (.lst (xs ++ ys))
  | .tup xs, .tup ys => .guard (xs.length + ys.length ≤ maxLen ∧ xs.length ≠ 0 ∧ ys.length ≠ 0) (.tup (xs ++ ys))
  | _, _ => .bad
def subD : D → D → R D
  | .int i, .int j => .ok (.int (i - j))
  | _, _ => .bad
def mulOk (i j : Int) : Prop := i.natAbs.log2 + j.natAbs.log2 < 1000000
instance (i j : Int) : Decidable (mulOk i j) := by unfold mulOk; infer_instance
def mulD : D → D → R D
  | .int i, .int j => .guard (mulOk i j) (.int (i * j))
  | .lst xs, .int k => .guard (0 ≤ k ∧ k ≤ 1000000 ∧ xs.length * k.toNat ≤ maxLen) (.lst (List.replicate k.toNat xs).flatten)
  | _, _ => .bad
def divOk (j : Int) : Prop := j ≠ 0 ∧ j.natAbs.log2 < 9000
instance (j : Int) : Decidable (divOk j) := by unfold divOk; infer_instance
def fdivD : D → D → R D
  | .int i, .int j => .guard (divOk j) (.int (i.fdiv j))
  | _, _ => .bad
def modD : D → D → R D
  | .int i, .int j => .guard (j ≠ 0) (.int (i.fmod j))
  | _, _ => .bad
def powD : D → D → R D
  | .int i, .int j => .guard (0 ≤ j ∧ j ≤ 1000 ∧ i.natAbs ≤ 1000) (.int (i ^ j.toNat))
  | _, _ => .bad
def binD : BOp → D → D → R D
  | .add => addD | .sub => subD | .mul => mulD | .fdiv => fdivD | .mod => modD | .pow => powD

mutual
def toPy : D → Option PyData
  | .non => some .none
  | .bl b => some (.bool b)
  | .int i => some (.int i)
  | .str s => some (.str s)
  | .tup xs => (toPys xs).map .tuple
  | .lst xs => (toPys xs).map .list
  | _ => none
def toPys : List D → Option (List PyData)
  | [] => some []
  | x :: xs => match toPy x, toPys xs with
    | some p, some ps => some (p :: ps)
    | _, _ => none
end
def eqD (x y : D) : R Bool := match toPy x, toPy y with
  | some p, some q => .guard (SeqAt.shaped p = true ∧ SeqAt.shaped q = true) (PyData.eqv p q)
  | _, _ => .bad
/-- a flat value, as the layer's V -/
def flat? : D → Option L2.V
  | .non => some .non
  | .bl b => some (.bl b)
  | .int i => some (.int i)
  | .str s => some (.str s)
  | _ => none
def flats? : List D → Option (List L2.V)
  | [] => some []
  | x :: xs => match flat? x, flats? xs with
    | some p, some ps => some (p :: ps)
    | _, _ => none
def inD (x : D) : D → R Bool
  | .lst ys | .tup ys => match flat? x, flats? ys with
    | some v, some vs => .ok (L2.inV v vs)
    | _, _ => .bad
  | _ => .bad
def ltI (p : Int → Int → Bool) : D → D → R D
  | .int i, .int j => .ok (.bl (p i j))
  | _, _ => .bad
def isNone : D → Bool
  | .non => true
  | _ => false
def cmpD : COp → D → D → R D
  | .lt, x, y => ltI (fun i j => decide (i < j)) x y
  | .le, x, y => ltI (fun i j => decide (i ≤ j)) x y
  | .gt, x, y => ltI (fun i j => decide (j < i)) x y
  | .ge, x, y => ltI (fun i j => decide (j ≤ i)) x y
  | .eq, x, y => (eqD x y).bind fun b => .ok (.bl b)
  | .ne, x, y => (eqD x y).bind fun b => .ok (.bl (!b))
  | .isN, x, y => match y with | .non => .ok (.bl (isNone x)) | _ => .bad
  | .notN, x, y => match y with | .non => .ok (.bl (!isNone x)) | _ => .bad
  | .isin, x, y => (inD x y).bind fun b => .ok (.bl b)
  | .notin, x, y => (inD x y).bind fun b => .ok (.bl (!b))

/-- truth of a value -/
def truth : D → R Bool
  | .bl b => .ok b
  | .non => .ok false
  | .int i => .ok (i != 0)
  | .str s => .guard (s.length ≤ maxLen) (s.length != 0)
  | .lst xs => .ok (!xs.isEmpty)
  | .tup xs => .ok (!xs.isEmpty)
  | _ => .bad

def ixD : D → D → R D
  | .lst xs, .int i => .ofOpt (L2.atI xs i)
  | .tup xs, .int i => .ofOpt (L2.atI xs i)
  | .scr ns, .int i => .ofOpt ((L2.atI ns i).map .int)
  | .str s, .int i => (R.guard (s.length ≤ maxLen) ()).bind fun _ => .ofOpt ((L2.atI s.cps.toList i).map fun c => .str ⟨#[c]⟩)
  | _, _ => .bad
def cutL {α : Type} (xs : List α) (lo hi : Option Int) : List α :=
  (xs.drop (HT.sIx xs.length 0 lo)).take (HT.sIx xs.length xs.length hi - HT.sIx xs.length 0 lo)
def partD : List D → R (Option Int)
  | [] => .ok none
  | [.int i] => .ok (some i)
  | _ => .bad
def slcD : D → Option Int → Option Int → R D
  | .lst xs, lo, hi => .ok (.lst (cutL xs lo hi))
  | .tup xs, lo, hi => .guard (¬ (HT.sIx xs.length 0 lo = 0 ∧ HT.sIx xs.length xs.length hi = xs.length)) (.tup (cutL xs lo hi))
  | _, _, _ => .bad
def lookF (f : Nat) : List (Nat × D) → Option D
  | [] => none
  | (g, d) :: r => if f = g then some d else lookF f r
def putF (f : Nat) (d : D) : List (Nat × D) → List (Nat × D)
  | [] => [(f, d)]
  | (g, e) :: r => if f = g then (g, d) :: r else (g, e) :: putF f d r
def rgD (n : Nat) (lo : Int) : List D := (List.range n).map fun i => .int (lo + (i : Nat))
def enumD (xs : List D) : List D := xs.zipIdx.map fun p => .tup [.int (p.2 : Nat), p.1]

def rng1D : D → R (List D)
  | .int n => .guard (-1000000000 ≤ n ∧ n ≤ 1000000000) (rgD n.toNat 0)
  | _ => .bad
def rng2D : D → D → R (List D)
  | .int lo, .int hi => .guard ((-1000000000 ≤ lo ∧ lo ≤ 1000000000) ∧ (-1000000000 ≤ hi ∧ hi ≤ 1000000000)) (rgD (hi - lo).toNat lo)
  | _, _ => .bad
def enum1D : D → R (List D)
  | .lst xs => .ok (enumD xs)
  | _ => .bad
def zipD : D → D → R (List D)
  | .lst xs, .lst ys => .ok ((xs.zip ys).map fun p => .tup [p.1, p.2])
  | _, _ => .bad
/-- a tuple of ints -/
def ints? : List D → Option (List Int)
  | [] => some []
  | .int i :: r => (ints? r).map (i :: ·)
  | _ :: _ => none
def row? : D → Option (List Int)
  | .tup xs => ints? xs
  | _ => none
def rows? : List D → Option (List (List Int))
  | [] => some []
  | x :: r => match row? x, rows? r with
    | some a, some b => some (a :: b)
    | _, _ => none
/-- insertion sort by the order of tuples of ints: stable -/
def insT (x : List Int) : List (List Int) → List (List Int)
  | [] => [x]
  | y :: r => if HT.lexLt x y then x :: y :: r else y :: insT x r
def sortT : List (List Int) → List (List Int)
  | [] => []
  | x :: r => insT x (sortT r)

def gcdI (a b : Int) : Int := ((Nat.gcd a.natAbs b.natAbs : Nat) : Int)
def lcmI (a b : Int) : Int := ((Nat.lcm a.natAbs b.natAbs : Nat) : Int)
def seq? : D → Option (List D)
  | .lst xs => some xs
  | .tup xs => some xs
  | _ => none
def bools? : List D → Option (List Bool)
  | [] => some []
  | .bl b :: r => (bools? r).map (b :: ·)
  | _ :: _ => none
def maxOf : List Int → Int
  | [] => 0
  | x :: r => r.foldl (fun a b => if b > a then b else a) x
def minOf : List Int → Int
  | [] => 0
  | x :: r => r.foldl (fun a b => if b < a then b else a) x
def biD : BI → List D → R D
  | .len, [.lst xs] => .ok (.int xs.length)
  | .len, [.tup xs] => .ok (.int xs.length)
  | .len, [.scr ns] => .ok (.int ns.length)
  | .len, [.str s] => .guard (s.length ≤ maxLen) (.int s.length)
  | .int1, [.int i] => .ok (.int i)
  | .int1, [.bl b] => .ok (.int (if b then 1 else 0))
  | .abs, [.int i] => .ok (.int (if i < 0 then -i else i))
  | .max2, [.int i, .int j] => .ok (.int (if j > i then j else i))
  | .min2, [.int i, .int j] => .ok (.int (if j < i then j else i))
  | .list1, [.lst xs] => .ok (.lst xs)
  | .list1, [.tup xs] => .ok (.lst xs)
  | .tuple1, [.lst xs] => .ok (.tup xs)
  | .tuple1, [.tup xs] => .ok (.tup xs)
  | .sortT, [.lst xs] => match rows? xs with
    | some rs => .guard (∀ r ∈ rs, r ≠ []) (.lst ((sortT rs).map fun r => .tup (r.map .int)))
    | none => .bad
  | .gcd, [.int i, .int j] => .ok (.int (gcdI i j))
  | .lcm, [.int i, .int j] => .guard (i.natAbs.log2 < 6000 ∧ j.natAbs.log2 < 6000) (.int (lcmI i j))
  | .sum, [.lst xs] => match ints? xs with
    | some ns => .ok (.int ns.sum)
    | none => .bad
  | .str1, [.int i] => .guard (i.natAbs.log2 < 1920) (.str (Str.ofString (toString i)))
  | .all1, [.lst xs] => match bools? xs with
    | some bs => .ok (.bl (bs.all id))
    | none => .bad
  | .any1, [.lst xs] => match bools? xs with
    | some bs => .ok (.bl (bs.any id))
    | none => .bad
  | .maxL, [.lst xs] => match ints? xs with
    | some ns => .guard (0 < ns.length) (.int (maxOf ns))
    | none => .bad
  | .minL, [.lst xs] => match ints? xs with
    | some ns => .guard (0 < ns.length) (.int (minOf ns))
    | none => .bad
  | _, _ => .bad
def isiD : Ty → D → R D
  | .tuple, .tup _ => .ok (.bl true)
  | .int, .int _ => .ok (.bl true)
  | .int, .bl _ => .ok (.bl true)
  | .bool, .bl _ => .ok (.bl true)
  | .list, .lst _ => .ok (.bl true)
  | .str, .str _ => .ok (.bl true)
  | _, .non => .ok (.bl false)
  | _, .bl _ => .ok (.bl false)
  | _, .int _ => .ok (.bl false)
  | _, .str _ => .ok (.bl false)
  | _, .tup _ => .ok (.bl false)
  | _, .lst _ => .ok (.bl false)
  | _, _ => .bad

/-! ### targets -/
mutual
def bindT : Tgt → D → Env → R Env
  | .nm i, d, ρ => .ok (ρ.set i (some d))
  | .tp ts, d, ρ => match d with
    | .tup xs => bindTs ts xs ρ
    | _ => .bad
def bindTs : List Tgt → List D → Env → R Env
  | [], [], ρ => .ok ρ
  | t :: ts, x :: xs, ρ => (bindT t x ρ).bind fun ρ' => bindTs ts xs ρ'
  | _, _, _ => .bad
end
def wipeE (ρ : Env) : List Nat → Env
  | [] => ρ
  | v :: vs => (wipeE ρ vs).set v none

/-- a comprehension's turns: an exception has no word -/
def compL (f : D → R (Option D)) : List D → R (List D)
  | [] => .ok []
  | x :: xs => match f x with
    | .ok o => match compL f xs with
      | .ok ys => .ok (match o with | some y => y :: ys | none => ys)
      | _ => .bad
    | _ => .bad

def lcntD (x y : D) : R D := match toPy x, toPy y with
  | some (.list ps), some q => .guard (SeqAt.shaped (.list ps) = true ∧ SeqAt.shaped q = true) (.int ((ps.countP fun z => PyData.eqv z q : Nat) : Int))
  | _, _ => .bad
def lidxD (x y : D) : R D := match toPy x, toPy y with
  | some (.list ps), some q => if SeqAt.shaped (.list ps) = true ∧ SeqAt.shaped q = true then (match ps.findIdx? (fun z => PyData.eqv z q) with
    | some j => .ok (.int (j : Nat))
    | none => .bad) else .bad
  | _, _ => .bad
mutual
/-- no exception within -/
def noExn : D → Bool
  | .tup ds => noExns ds
  | .lst ds => noExns ds
  | .ins _ fs => noExnF fs
  | .exn _ _ => false
  | _ => true
def noExns : List D → Bool
  | [] => true
  | d :: ds => noExn d && noExns ds
def noExnF : List (Nat × D) → Bool
  | [] => true
  | (_, d) :: r => noExn d && noExnF r
end
def noexc (r : R D) : R D := match r with
  | .ok d => .ok d
  | _ => .bad
section
variable (Φ : Sm)
def fldD (f : Nat) : D → R D
  | .ins c fs => match Φ.prop c f with
    | some g => noexc (Φ.call g [.ins c fs])
    | none => (R.guard (f ∈ Φ.attrs c) ()).bind fun _ => .ofOpt (lookF f fs)
  | .exn c (some d) => .guard (c ∈ Φ.xs ∧ Φ.xfld c = f) d
  | _ => .bad
/-- the place of __call__ among the names -/
def callName : Nat := 0
def methOf (m : Nat) : D → R Nat
  | .ins c fs => match Φ.meth c m, lookF m fs with
    | some g, none => .ok g
    | _, _ => .bad
  | _ => .bad
def callOf : D → R Nat
  | .ins c _ => .ofOpt (Φ.meth c callName)
  | _ => .bad
def isxD (c : Nat) : D → R D
  | .exn k _ => .guard (k ∈ Φ.xs) (.bl (Φ.sub k c))
  | _ => .bad

mutual
def evE : IE → Env → R D
  | .var i, ρ => match ρ[i]? with
    | some (some d) => .ok d
    | _ => .bad
  | .lit d, _ => .ok d
  | .glb g, _ => .ok (Φ.glb g)
  | .tup es, ρ => (evEs es ρ).bind fun xs => .guard (xs.length ≤ maxLen) (.tup xs)
  | .lst es, ρ => (evEs es ρ).bind fun xs => .guard (xs.length ≤ maxLen) (.lst xs)
  | .bin o a b, ρ => (evE a ρ).bind fun x => (evE b ρ).bind fun y => binD o x y
  | .neg a, ρ => (evE a ρ).bind fun x => match x with
    | .int i => .ok (.int (-i))
    | _ => .bad
  | .not a, ρ => (evE a ρ).bind fun x => (truth x).bind fun b => .ok (.bl (!b))
  | .cmp o a b, ρ => (evE a ρ).bind fun x => (evE b ρ).bind fun y => cmpD o x y
  | .chn o p a b c, ρ => (evE a ρ).bind fun x => (evE b ρ).bind fun y => (cmpD o x y).bind fun z => match z with
    | .bl true => (evE c ρ).bind fun w => cmpD p y w
    | .bl false => .ok (.bl false)
    | _ => .bad
  | .boo k es, ρ => evB k es ρ
  | .ite t a b, ρ => (evE t ρ).bind fun x => (truth x).bind fun c => if c then evE a ρ else evE b ρ
  | .ix a b, ρ => (evE a ρ).bind fun x => (evE b ρ).bind fun y => ixD x y
  | .slc a lo hi, ρ => (evE a ρ).bind fun x => (evEs lo ρ).bind fun l => (partD l).bind fun l' => (evEs hi ρ).bind fun h => (partD h).bind fun h' => slcD x l' h'
  | .fld f a, ρ => (evE a ρ).bind fun x => fldD Φ f x
  | .call f es, ρ => (evEs es ρ).bind fun xs => Φ.call f xs
  | .callK f sh es ks, ρ => (evEs es ρ).bind fun xs => (evEs ks ρ).bind fun ys => (R.ofOpt (shpD (Φ.sh sh) xs ys)).bind fun zs => Φ.call f zs
  | .callV a es, ρ => (evE a ρ).bind fun x => (callOf Φ x).bind fun g => (evEs es ρ).bind fun xs => Φ.call g (x :: xs)
  | .makeK c sh es ks, ρ => (evEs es ρ).bind fun xs => (evEs ks ρ).bind fun ys => (R.ofOpt (shpD (Φ.sh sh) xs ys)).bind fun zs => Φ.made c zs
  | .meth m a es, ρ => (evE a ρ).bind fun x => (methOf Φ m x).bind fun g => (evEs es ρ).bind fun xs => Φ.call g (x :: xs)
  | .bi b es, ρ => (evEs es ρ).bind fun xs => biD b xs
  | .lcnt a e, ρ => (evE a ρ).bind fun x => match x with
    | .lst ds => (evE e ρ).bind fun y => lcntD (.lst ds) y
    | _ => .bad
  | .lidx a e, ρ => (evE a ρ).bind fun x => match x with
    | .lst ds => (evE e ρ).bind fun y => lidxD (.lst ds) y
    | _ => .bad
  | .isi T a, ρ => (evE a ρ).bind fun x => isiD T x
  | .isx c a, ρ => (evE a ρ).bind fun x => isxD Φ c x
  | .comp t own it cs e, ρ => (evI it ρ).bind fun xs => (compL (fun x => (bindT t x (wipeE ρ own)).bind fun ρ' => (evT cs ρ').bind fun b => if b then (evE e ρ').bind fun y => .ok (some y) else .ok none) xs).bind fun ys => .guard (ys.length ≤ maxLen) (.lst ys)
  | .refused f e, ρ => match evE e ρ with
    | .ok _ => .ok .non
    | .exc c a => if Φ.sub c (Φ.word f).1 = true ∧ c ∈ Φ.xs then (match Φ.hcall (Φ.word f).2 [.exn c a] with
      | .ok d => .guard (noExn d = true) d
      | _ => .bad) else .bad
    | .bad => .bad
def evEs : IEs → Env → R (List D)
  | .nil, _ => .ok []
  | .cons e es, ρ => (evE e ρ).bind fun x => (evEs es ρ).bind fun xs => .ok (x :: xs)
/-- and, or: all but the last are truth values -/
def evB : Bool → IEs → Env → R D
  | _, .nil, _ => .bad
  | k, .cons e es, ρ => match es with
    | .nil => evE e ρ
    | es => (evE e ρ).bind fun x => match x with
      | .bl b => if b = k then evB k es ρ else .ok (.bl b)
      | _ => .bad
/-- the tests of a comprehension: none or one -/
def evT : IEs → Env → R Bool
  | .nil, _ => .ok true
  | .cons e es, ρ => match es with
    | .nil => (evE e ρ).bind fun x => truth x
    | _ => .bad
def evI : II → Env → R (List D)
  | .seq a, ρ => (evE a ρ).bind fun x => .ofOpt (seq? x)
  | .rng1 a, ρ => (evE a ρ).bind fun x => rng1D x
  | .rng2 a b, ρ => (evE a ρ).bind fun x => (evE b ρ).bind fun y => rng2D x y
  | .enum a, ρ => (evE a ρ).bind fun x => enum1D x
  | .zip a b, ρ => (evE a ρ).bind fun x => (evE b ρ).bind fun y => zipD x y
  | .rev a, ρ => (evE a ρ).bind fun x => .ofOpt ((seq? x).map List.reverse)
end

/-- a statement's end -/
inductive SR where
  | nx (ρ : Env) | rt (d : D) (ρ : Env) | bk (ρ : Env) | ct (ρ : Env) | exc (c : Nat) (a : Option D) | bad
@[reducible] def SR.ofR {α : Type} (r : R α) (f : α → SR) : SR := match r with
  | .ok a => f a
  | .exc c x => .exc c x
  | .bad => .bad
@[reducible] def SR.seq (r : SR) (f : Env → SR) : SR := match r with
  | .nx ρ => f ρ
  | r => r
/-- a turn's end -/
@[reducible] def SR.turn (r : SR) (f : Env → SR) : SR := match r with
  | .nx ρ => f ρ
  | .ct ρ => f ρ
  | .bk ρ => .nx ρ
  | r => r
def whileN (t : Env → R Bool) (b : Env → SR) : Nat → Env → SR
  | 0, _ => .bad
  | n + 1, ρ => SR.ofR (t ρ) fun c => if c then SR.turn (b ρ) (whileN t b n) else .nx ρ
def forL (t : Tgt) (b : Env → SR) : List D → Env → SR
  | [], ρ => .nx ρ
  | x :: xs, ρ => SR.ofR (bindT t x ρ) fun ρ' => SR.turn (b ρ') (forL t b xs)
def getO (ρ : Env) (i : Nat) : R D := match ρ[i]? with
  | some (some d) => .ok d
  | _ => .bad

mutual
def evS : IS → Env → SR
  | .share _, ρ => .nx ρ
  | .asg t e, ρ => .ofR (evE Φ e ρ) fun d => .ofR (bindT t d ρ) fun ρ' => .nx ρ'
  | .asgF i e, ρ => .ofR (evE Φ e ρ) fun d => if i < ρ.length then .nx (ρ.set i (some d)) else .bad
  | .setF i f e, ρ => .ofR (evE Φ e ρ) fun d => .ofR (getO ρ i) fun x => match x with
    | .ins c fs => if f ∈ Φ.attrs c ∧ Φ.prop c f = none ∧ fs.length < 500 then .nx (ρ.set i (some (.ins c (putF f d fs)))) else .bad
    | _ => .bad
  | .setI i k e, ρ => .ofR (evE Φ e ρ) fun d => .ofR (getO ρ i) fun x => .ofR (evE Φ k ρ) fun kk => match x, kk with
    | .lst xs, .int j => match L2.ixN xs.length j with
      | some m => .nx (ρ.set i (some (.lst (xs.set m d))))
      | none => .bad
    | _, _ => .bad
  | .app i e, ρ => .ofR (getO ρ i) fun x => match x with
    | .lst xs => .ofR (evE Φ e ρ) fun d => if xs.length < maxLen then .nx (ρ.set i (some (.lst (xs ++ [d])))) else .bad
    | _ => .bad
  | .pop i, ρ => .ofR (getO ρ i) fun x => match x with
    | .lst xs => if xs.length = 0 then .bad else .nx (ρ.set i (some (.lst xs.dropLast)))
    | _ => .bad
  | .expr e, ρ => .ofR (evE Φ e ρ) fun _ => .nx ρ
  | .ret e, ρ => .ofR (evE Φ e ρ) fun d => .rt d ρ
  | .retN, ρ => .rt .non ρ
  | .ifS t a b, ρ => .ofR (evE Φ t ρ) fun x => .ofR (truth x) fun c => if c then evSs a ρ else evSs b ρ
  | .forS _ t it b, ρ => .ofR (evI Φ it ρ) fun xs => forL t (evSs b) xs ρ
  | .whileS _ t b, ρ => whileN (fun ρ => (evE Φ t ρ).bind truth) (evSs b) Φ.fuel ρ
  | .brk, ρ => .bk ρ
  | .cont, ρ => .ct ρ
  | .pass, ρ => .nx ρ
  | .raise c es, ρ => .ofR (evEs Φ es ρ) fun xs => match xs with
    | [.str _] => .exc c none
    | _ => .bad
  | .never, _ => .bad
  | .matchS e cs, ρ => .ofR (evE Φ e ρ) fun d => match d with
    | .str z => evCs cs z ρ
    | _ => .bad
def evSs : ISs → Env → SR
  | .nil, ρ => .nx ρ
  | .cons s ss, ρ => SR.seq (evS s ρ) (evSs ss)
def evCs : ICs → Str → Env → SR
  | .nil, _, ρ => .nx ρ
  | .cons k b r, z, ρ => match k with
    | none => evSs b ρ
    | some y => if z = y then evSs b ρ else evCs r z ρ
end
end

/-! ### the program -/
/-- a def: how many parameters, how many slots, its body; init: an __init__ (its object is the first parameter) -/
structure Fn where
  np : Nat
  ns : Nat
  init : Bool
  fresh : Bool
  body : ISs
/-- the defs, the classes' __init__, the defs that may run behind an exception -/
structure Prog where
  fns : Nat → Option Fn
  inits : Nat → Option Nat
  hfns : Nat → Option Fn
  base : Sm
def hotP (P : Prog) : Prog := ⟨P.hfns, fun _ => none, fun _ => none, P.base⟩
def startE (ns : Nat) (ds : List D) : Env := ds.map some ++ List.replicate (ns - ds.length) none
def endR : SR → R D
  | .nx _ => .ok .non
  | .rt d _ => .ok d
  | .exc c a => .exc c a
  | _ => .bad
/-- an __init__'s end: its object -/
def endI (c : Nat) : SR → R D
  | .nx ρ => match getO ρ 0 with
    | .ok (.ins k fs) => if k = c then .ok (.ins c fs) else .bad
    | _ => .bad
  | .exc c a => .exc c a
  | _ => .bad
def smOf (P : Prog) (call : Nat → List D → R D) (mk : Nat → List D → R D) (hc : Nat → List D → R D) : Sm := { P.base with call := call, made := mk, hcall := hc }
mutual
def callN : Prog → Nat → Nat → List D → R D
  | _, 0, _, _ => .bad
  | P, n + 1, f, ds => match P.fns f with
    | some F => if F.init = false ∧ ds.length = F.np then endR (evSs (smOf P (callN P n) (mkN P n) (callN (hotP P) n)) F.body (startE F.ns ds)) else .bad
    | none => .bad
def mkN : Prog → Nat → Nat → List D → R D
  | _, 0, _, _ => .bad
  | P, n + 1, c, ds => match P.inits c with
    | some f => match P.fns f with
      | some F => if F.init = true ∧ ds.length + 1 = F.np then endI c (evSs (smOf P (callN P n) (mkN P n) (callN (hotP P) n)) F.body (startE F.ns (.ins c [] :: ds))) else .bad
      | none => .bad
    | none => .bad
end
end Vm

set_option maxRecDepth 100000
set_option maxHeartbeats 1000000
/-! VmB: data and the abstract heap. -/
namespace Vm
open PySem PySem.Spec PyProof.Rows L2

/-- what is never written -/
def Still (o : HO) : Prop := (∀ xs, o ≠ .lst xs) ∧ (∀ C dx fs, o ≠ .ins C dx fs)
def NoTbl (o : HO) : Prop := ∀ ps, o ≠ .tbl ps

/-- the program as it stands in the model -/
structure Pc where
  prog : Program
  w : World
  K : PySem.W.Frag
  mg : Str → Option Value
  base : Heap
  /-- the tables of code objects; the frames that make lambdas -/
  T : List (Addr × Str)
  lam : Scope → Bool
  cA : Nat → Addr
  xA : Nat → Addr
  nm : Nat → Str
  nn : Nat
  inj : ∀ f g, f < nn → g < nn → nm f = nm g → f = g
  xf : Nat → Str
  fA : Nat → Addr
  fD : Nat → FuncData
  fP : Nat → List Str
  /-- the exception at hand -/
  hot : Option (Addr × Obj)

/-- what holds of the tracked heap all the time -/
def Pc.G (C : Pc) (H : Hp) : Prop := LamX.Tabs C.T H
theorem Pc.gk (C : Pc) (H H' : Hp) (k : ∀ b o, H b = some o → Still o → H' b = some o) (g : C.G H) : C.G H' := fun p hp => by
  obtain ⟨ps, h1, h2, h3⟩ := g p hp
  refine ⟨ps, k _ _ h1 ⟨fun _ h => (nomatch h), fun _ _ _ h => (nomatch h)⟩, h2, fun pos cv hc => ?_⟩
  obtain ⟨c, e1, e2⟩ := h3 pos cv hc
  exact ⟨c, e1, k _ _ e2 ⟨fun _ h => (nomatch h), fun _ _ _ h => (nomatch h)⟩⟩
/-- nothing but a table may stand there -/
def Nw (H : Hp) (a : Addr) : Prop := ∀ o, H a = some o → ¬ NoTbl o
theorem nw {H : Hp} {a : Addr} (h : H a = none) : Nw H a := fun o e _ => by rw [h] at e; cases e
theorem nw_keep {H H' : Hp} (k : ∀ b o, H b = some o → NoTbl o → H' b = some o) : ∀ b, Nw H' b → Nw H b := fun b n o h t => n o (k b o h t) t
/-- the heap only grows (tables of code objects grow in place) -/
structure Ext (H H' : Hp) : Prop where
  keep : ∀ b o, H b = some o → NoTbl o → H' b = some o
  dom : ∀ b, Nw H' b → Nw H b
theorem Ext.refl (H : Hp) : Ext H H := ⟨fun _ _ h _ => h, fun _ h => h⟩
theorem Ext.trans {H H1 H2 : Hp} (a : Ext H H1) (b : Ext H1 H2) : Ext H H2 := ⟨fun c o h n => b.keep c o (a.keep c o h n) n, fun c h => a.dom c (b.dom c h)⟩
theorem Ext.of {H H' : Hp} (k : ∀ b o, H b = some o → NoTbl o → H' b = some o) : Ext H H' := ⟨k, nw_keep k⟩
theorem Ext.new {H : Hp} {p : Addr} {o : HO} (h : H p = none) : Ext H (upd H p o) := .of fun a u e _ => by
  rw [upd_ne (ne_of_none e h)]
  exact e

/-- the script: tracked and away, frozen, or written -/
def SqS (K : PySem.W.Frag) (Av : Addr → Prop) (H : Hp) (a : Addr) (xs : List V) : Prop :=
  (H a = some (.lst xs) ∧ ¬ Av a) ∨ (∃ o, H a = some (.frz o (.lst xs))) ∨ SqL K (fun _ => none) a xs
theorem SqS.sq {K : PySem.W.Frag} {Av : Addr → Prop} {H : Hp} {a : Addr} {xs : List V} (h : SqS K Av H a xs) : SqL K H a xs := by
  rcases h with h | ⟨o, h⟩ | h
  · exact .inl (.inl h.1)
  · exact .inl (.inr ⟨o, h⟩)
  · rcases h with (h | ⟨o, h⟩) | h
    · cases h
    · cases h
    · exact .inr h

def isMut : D → Bool
  | .lst _ => true
  | .ins _ _ => true
  | _ => false

section
variable (C : Pc) (Av : Addr → Prop) (H : Hp)
mutual
/-- v stands for d in H, away from the places Av -/
def Rep : D → V → Prop
  | .non, v => v = .non
  | .bl b, v => v = .bl b
  | .int i, v => v = .int i
  | .str s, v => v = .str s
  | .tup ds, v => ∃ a xs, v = .ref a ∧ SqT C.K H a xs ∧ Reps ds xs
  | .lst ds, v => ∃ a xs, v = .ref a ∧ ¬ Av a ∧ H a = some (.lst xs) ∧ Reps ds xs
  | .ins c fs, v => ∃ a dx ys, v = .ref a ∧ ¬ Av a ∧ H a = some (.ins (C.cA c) dx ys) ∧ RepF fs ys
  | .scr ns, v => ∃ a, v = .ref a ∧ SqS C.K Av H a (ns.map V.int)
  | .exn c x, v => ∃ p vs dd, C.hot = some p ∧ v = .ref p.1 ∧ Zc (.ref (C.xA c)) dd p.2 ∧ p.2.data = .fields vs ∧
      match x with
      | none => dd = none
      | some d => ∃ q y, dd = some q ∧ H q = some (.xd [(C.xf c, y)]) ∧ flat? d = some y
def Reps : List D → List V → Prop
  | [], [] => True
  | d :: ds, v :: vs => Rep d v ∧ Reps ds vs
  | _, _ => False
def RepF : List (Nat × D) → List (Str × V) → Prop
  | [], [] => True
  | (f, d) :: r, (s, v) :: q => s = C.nm f ∧ f < C.nn ∧ Rep d v ∧ RepF r q
  | _, _ => False
end
end

/-- the heap goes on: what is never written stays, what stands away from Av stays; Av' has nothing new among what stood -/
structure Keep (Av Av' : Addr → Prop) (H H' : Hp) : Prop where
  still : ∀ b o, H b = some o → Still o → NoTbl o → H' b = some o
  away : ∀ b o, H b = some o → NoTbl o → ¬ Av b → H' b = some o
  av : ∀ b o, H b = some o → NoTbl o → Av' b → Av b

theorem Keep.refl {Av : Addr → Prop} {H : Hp} : Keep Av Av H H := ⟨fun _ _ h _ _ => h, fun _ _ h _ _ => h, fun _ _ _ _ h => h⟩
theorem Keep.ext {Av : Addr → Prop} {H H' : Hp} (e : Ext H H') : Keep Av Av H H' := ⟨fun _ _ h _ n => e.keep _ _ h n, fun _ _ h n _ => e.keep _ _ h n, fun _ _ _ _ h => h⟩
theorem Keep.anti {Av Av' : Addr → Prop} {H : Hp} (h : ∀ b, Av' b → Av b) : Keep Av Av' H H := ⟨fun _ _ h _ _ => h, fun _ _ h _ _ => h, fun b _ _ _ z => h b z⟩
theorem Keep.extAnti {Av Av' : Addr → Prop} {H H' : Hp} (e : Ext H H') (h : ∀ b o, H b = some o → NoTbl o → Av' b → Av b) : Keep Av Av' H H' := ⟨fun _ _ h _ n => e.keep _ _ h n, fun _ _ h n _ => e.keep _ _ h n, h⟩

theorem still_tup {xs : List V} : Still (.tup xs) := ⟨fun _ h => (nomatch h), fun _ _ _ h => (nomatch h)⟩
theorem still_frz {o : Obj} {u : HO} : Still (.frz o u) := ⟨fun _ h => (nomatch h), fun _ _ _ h => (nomatch h)⟩
theorem still_xd {fs : List (Str × V)} : Still (.xd fs) := ⟨fun _ h => (nomatch h), fun _ _ _ h => (nomatch h)⟩
theorem notbl_tup {xs : List V} : NoTbl (.tup xs) := fun _ h => nomatch h
theorem notbl_lst {xs : List V} : NoTbl (.lst xs) := fun _ h => nomatch h
theorem notbl_frz {o : Obj} {u : HO} : NoTbl (.frz o u) := fun _ h => nomatch h
theorem notbl_xd {fs : List (Str × V)} : NoTbl (.xd fs) := fun _ h => nomatch h
theorem notbl_ins {C dx : Addr} {fs : List (Str × V)} : NoTbl (.ins C dx fs) := fun _ h => nomatch h

section
variable {C : Pc} {Av Av' : Addr → Prop} {H H' : Hp}
theorem sqt_keep (k : Keep Av Av' H H') {K : PySem.W.Frag} {a : Addr} {xs : List V} (h : SqT K H a xs) : SqT K H' a xs := by
  rcases h with (h | ⟨o, h⟩) | h
  · exact .inl (.inl (k.still _ _ h still_tup notbl_tup))
  · exact .inl (.inr ⟨o, k.still _ _ h still_frz notbl_frz⟩)
  · exact .inr h
theorem sqs_keep (k : Keep Av Av' H H') {K : PySem.W.Frag} {a : Addr} {xs : List V} (h : SqS K Av H a xs) : SqS K Av' H' a xs := by
  rcases h with ⟨h, n⟩ | ⟨o, h⟩ | h
  · exact .inl ⟨k.away _ _ h notbl_lst n, fun z => n (k.av _ _ h notbl_lst z)⟩
  · exact .inr (.inl ⟨o, k.still _ _ h still_frz notbl_frz⟩)
  · exact .inr (.inr h)

mutual
theorem Rep.keep (k : Keep Av Av' H H') : ∀ (d : D) (v : V), Rep C Av H d v → Rep C Av' H' d v
  | .non, _, h => by simpa only [Rep] using h
  | .bl _, _, h => by simpa only [Rep] using h
  | .int _, _, h => by simpa only [Rep] using h
  | .str _, _, h => by simpa only [Rep] using h
  | .tup ds, v, h => by
    simp only [Rep] at h ⊢
    obtain ⟨a, xs, e, q, r⟩ := h
    exact ⟨a, xs, e, sqt_keep k q, Reps.keep k ds xs r⟩
  | .lst ds, v, h => by
    simp only [Rep] at h ⊢
    obtain ⟨a, xs, e, n, q, r⟩ := h
    exact ⟨a, xs, e, fun z => n (k.av _ _ q notbl_lst z), k.away _ _ q notbl_lst n, Reps.keep k ds xs r⟩
  | .ins c fs, v, h => by
    simp only [Rep] at h ⊢
    obtain ⟨a, dx, ys, e, n, q, r⟩ := h
    exact ⟨a, dx, ys, e, fun z => n (k.av _ _ q notbl_ins z), k.away _ _ q notbl_ins n, RepF.keep k fs ys r⟩
  | .scr ns, v, h => by
    simp only [Rep] at h ⊢
    obtain ⟨a, e, q⟩ := h
    exact ⟨a, e, sqs_keep k q⟩
  | .exn c x, v, h => by
    simp only [Rep] at h ⊢
    obtain ⟨p, vs, dd, e1, e2, e3, e4, r⟩ := h
    refine ⟨p, vs, dd, e1, e2, e3, e4, ?_⟩
    cases x with
    | none => exact r
    | some d =>
      obtain ⟨q, y, h1, h2, h3⟩ := r
      exact ⟨q, y, h1, k.still _ _ h2 still_xd notbl_xd, h3⟩
theorem Reps.keep (k : Keep Av Av' H H') : ∀ (ds : List D) (vs : List V), Reps C Av H ds vs → Reps C Av' H' ds vs
  | [], [], _ => by simp only [Reps]
  | [], _ :: _, h => by simp only [Reps] at h
  | _ :: _, [], h => by simp only [Reps] at h
  | d :: ds, v :: vs, h => by
    simp only [Reps] at h ⊢
    exact ⟨Rep.keep k d v h.1, Reps.keep k ds vs h.2⟩
theorem RepF.keep (k : Keep Av Av' H H') : ∀ (fs : List (Nat × D)) (ys : List (Str × V)), RepF C Av H fs ys → RepF C Av' H' fs ys
  | [], [], _ => by simp only [RepF]
  | [], _ :: _, h => by simp only [RepF] at h
  | _ :: _, [], h => by simp only [RepF] at h
  | (f, d) :: fs, (s, v) :: ys, h => by
    simp only [RepF] at h ⊢
    exact ⟨h.1, h.2.1, Rep.keep k d v h.2.2.1, RepF.keep k fs ys h.2.2.2⟩
end
end
end Vm

set_option maxRecDepth 100000
set_option maxHeartbeats 1000000
/-! VmC: slots against the evaluator's environment; the judgements' readings. -/
namespace Vm
open PySem PySem.Spec PyProof.Rows L2

/-- a def's entry: the heap, the caller's own places, the object that may be changed -/
structure Fr0 where
  E0 : Hp
  A0 : Addr → Prop
  M0 : Option Addr
structure Fr0.Ok (F : Fr0) : Prop where
  tt : True
/-- the caller's own places stood at the entry -/
structure Fr0.Ok2 (F : Fr0) : Prop where
  a0 : ∀ b, F.A0 b → ∃ o, F.E0 b = some o ∧ NoTbl o ∧ F.M0 ≠ some b

/-- the own slots' places -/
def AvO (F : Fr0) (own : List Nat) (ρ : Env) (σ : L2.St) : Addr → Prop := fun b =>
  F.A0 b ∨ ∃ i d, i ∈ own ∧ ρ[i]? = some (some d) ∧ isMut d = true ∧ σ[i]? = some (some (.ref b))
/-- as Rep, the place itself free -/
def RepO (C : Pc) (Av : Addr → Prop) (H : Hp) (d : D) (v : V) : Prop := match d with
  | .lst ds => ∃ a xs, v = .ref a ∧ H a = some (.lst xs) ∧ Reps C Av H ds xs
  | .ins c fs => ∃ a dx ys, v = .ref a ∧ H a = some (.ins (C.cA c) dx ys) ∧ RepF C Av H fs ys
  | d => Rep C Av H d v

structure Sr (C : Pc) (F : Fr0) (own : List Nat) (ρ : Env) (σ : L2.St) (H : Hp) : Prop where
  g : C.G H
  len : ρ.length = σ.length
  ent : ∀ b o, F.E0 b = some o → NoTbl o → F.M0 ≠ some b → H b = some o
  dom : ∀ b, Nw H b → Nw F.E0 b
  a0 : ∀ b, F.A0 b → ∃ o, H b = some o ∧ NoTbl o
  slot : ∀ i d, ρ[i]? = some (some d) → ∃ v, σ[i]? = some (some v) ∧ (i ∉ own → Rep C (AvO F own ρ σ) H d v) ∧ RepO C (AvO F own ρ σ) H d v
  new : ∀ i d a, i ∈ own → ρ[i]? = some (some d) → isMut d = true → σ[i]? = some (some (.ref a)) → Nw F.E0 a ∨ F.M0 = some a
  dis : ∀ i j d e a, i ∈ own → j ∈ own → ρ[i]? = some (some d) → ρ[j]? = some (some e) → isMut d = true → isMut e = true → σ[i]? = some (some (.ref a)) → σ[j]? = some (some (.ref a)) → i = j
  m0 : ∀ x, F.M0 = some x → 0 ∈ own ∧ σ[0]? = some (some (.ref x)) ∧ ∃ A dx ys zs, F.E0 x = some (.ins A dx ys) ∧ H x = some (.ins A dx zs)

inductive Mode where | b | s | f
  deriving DecidableEq
/-- a value's standing behind an expression: borrowed, shared, fresh since H0 -/
def RepM (C : Pc) (m : Mode) (Av : Addr → Prop) (H0 H : Hp) (d : D) (v : V) : Prop := match m with
  | .b => RepO C Av H d v
  | .s => Rep C Av H d v
  | .f => match d with
    | .lst ds => ∃ a xs, v = .ref a ∧ Nw H0 a ∧ H a = some (.lst xs) ∧ Reps C (fun b => Av b ∨ b = a) H ds xs
    | .ins c fs => ∃ a dx ys, v = .ref a ∧ Nw H0 a ∧ H a = some (.ins (C.cA c) dx ys) ∧ RepF C (fun b => Av b ∨ b = a) H fs ys
    | d => Rep C Av H d v

def ExR (C : Pc) (c : Nat) (x : Option D) (cls : Value) (dd : Option Addr) (H : Hp) : Prop :=
  cls = .ref (C.xA c) ∧ match x with
    | none => dd = none
    | some d => ∃ q y, dd = some q ∧ H q = some (.xd [(C.xf c, y)]) ∧ flat? d = some y

section
variable (C : Pc) (F : Fr0) (W : WX)
def PostX (σ : L2.St) (H : Hp) (c : Nat) (x : Option D) : Prop := ∀ cls dd H', Ext H H' → C.G H' → ExR C c x cls dd H' → W cls dd σ H'
def PostE (own : List Nat) (m : Mode) (ρ : Env) (σ : L2.St) (H : Hp) (r : R D) (Q : VK) : Prop := match r with
  | .ok d => ∀ v H', Ext H H' → C.G H' → RepM C m (AvO F own ρ σ) H H' d v → Q v H'
  | .exc c x => PostX C W σ H c x
  | .bad => False
def PostA (own : List Nat) (ρ : Env) (σ : L2.St) (H : Hp) (r : R (List D)) (Q : List V → Hp → Prop) : Prop := match r with
  | .ok ds => ∀ vs H', Ext H H' → C.G H' → Reps C (AvO F own ρ σ) H' ds vs → Q vs H'
  | .exc c x => PostX C W σ H c x
  | .bad => False
def PostT (σ : L2.St) (H : Hp) (r : R Bool) (Q : Bool → Hp → Prop) : Prop := match r with
  | .ok b => ∀ H', Ext H H' → C.G H' → Q b H'
  | .exc c x => PostX C W σ H c x
  | .bad => False
def TEv (own : List Nat) (m : Mode) (r : Env → R D) : TE := fun σ H Q => ∃ ρ, Sr C F own ρ σ H ∧ PostE C F W own m ρ σ H (r ρ) Q
def TAv (own : List Nat) (r : Env → R (List D)) : TA := fun σ H Q => ∃ ρ, Sr C F own ρ σ H ∧ PostA C F W own ρ σ H (r ρ) Q
def TTv (own : List Nat) (r : Env → R Bool) : TT := fun σ H Q => ∃ ρ, Sr C F own ρ σ H ∧ PostT C W σ H (r ρ) Q
end

section
variable {C : Pc} {F : Fr0} {W : WX} {own : List Nat} {m ma : Mode} {ρ : Env} {σ : L2.St} {H H' H1 : Hp}

theorem Rep.ext {Av : Addr → Prop} {d : D} {v : V} (h : Rep C Av H d v) (e : Ext H H') : Rep C Av H' d v := Rep.keep (.ext e) d v h
theorem Reps.ext {Av : Addr → Prop} {d : List D} {v : List V} (h : Reps C Av H d v) (e : Ext H H') : Reps C Av H' d v := Reps.keep (.ext e) d v h
theorem RepF.ext {Av : Addr → Prop} {d : List (Nat × D)} {v : List (Str × V)} (h : RepF C Av H d v) (e : Ext H H') : RepF C Av H' d v := RepF.keep (.ext e) d v h
theorem Keep.anti' {Av Av' : Addr → Prop} {H : Hp} (h : ∀ b o, H b = some o → NoTbl o → Av' b → Av b) : Keep Av Av' H H := ⟨fun _ _ h _ _ => h, fun _ _ h _ _ => h, h⟩
/-- a new place is avoided -/
theorem keep_new {Av : Addr → Prop} {a : Addr} (n : H a = none) : Keep Av (fun b => Av b ∨ b = a) H H := .anti' fun b o e _ h => h.elim id fun q => by rw [q, n] at e; cases e
theorem Rep.avoid {Av : Addr → Prop} {a : Addr} {d : D} {v : V} (h : Rep C Av H d v) (n : H a = none) : Rep C (fun b => Av b ∨ b = a) H d v := Rep.keep (keep_new n) d v h
theorem Reps.avoid {Av : Addr → Prop} {a : Addr} {d : List D} {v : List V} (h : Reps C Av H d v) (n : H a = none) : Reps C (fun b => Av b ∨ b = a) H d v := Reps.keep (keep_new n) d v h
theorem RepF.avoid {Av : Addr → Prop} {a : Addr} {d : List (Nat × D)} {v : List (Str × V)} (h : RepF C Av H d v) (n : H a = none) : RepF C (fun b => Av b ∨ b = a) H d v := RepF.keep (keep_new n) d v h
theorem Rep.anti {Av Av' : Addr → Prop} {d : D} {v : V} (h : Rep C Av H d v) (k : ∀ b, Av' b → Av b) : Rep C Av' H d v := Rep.keep (.anti k) d v h
theorem Reps.anti {Av Av' : Addr → Prop} {d : List D} {v : List V} (h : Reps C Av H d v) (k : ∀ b, Av' b → Av b) : Reps C Av' H d v := Reps.keep (.anti k) d v h
theorem RepF.anti {Av Av' : Addr → Prop} {d : List (Nat × D)} {v : List (Str × V)} (h : RepF C Av H d v) (k : ∀ b, Av' b → Av b) : RepF C Av' H d v := RepF.keep (.anti k) d v h
theorem Rep.toO {Av : Addr → Prop} {d : D} {v : V} (h : Rep C Av H d v) : RepO C Av H d v := by
  cases d with
  | lst ds =>
    simp only [Rep] at h
    obtain ⟨a, xs, e, _, q, r⟩ := h
    exact ⟨a, xs, e, q, r⟩
  | ins c fs =>
    simp only [Rep] at h
    obtain ⟨a, dx, ys, e, _, q, r⟩ := h
    exact ⟨a, dx, ys, e, q, r⟩
  | _ => exact h
theorem RepO.keep {Av Av' : Addr → Prop} (k : Keep Av Av' H H') {d : D} {v : V} (h : RepO C Av H d v) (t : ∀ a o, isMut d = true → v = .ref a → H a = some o → NoTbl o → H' a = some o) : RepO C Av' H' d v := by
  cases d with
  | lst ds =>
    obtain ⟨a, xs, e, q, r⟩ := h
    exact ⟨a, xs, e, t a _ rfl e q notbl_lst, Reps.keep k _ _ r⟩
  | ins c fs =>
    obtain ⟨a, dx, ys, e, q, r⟩ := h
    exact ⟨a, dx, ys, e, t a _ rfl e q notbl_ins, RepF.keep k _ _ r⟩
  | _ => exact Rep.keep k _ _ h
theorem RepO.ext {Av : Addr → Prop} {d : D} {v : V} (h : RepO C Av H d v) (e : Ext H H') : RepO C Av H' d v := h.keep (.ext e) fun a o _ _ q n => e.keep a o q n
/-- what is mutable stands at a place -/
theorem RepO.at_ {Av : Addr → Prop} {d : D} {v : V} (h : RepO C Av H d v) (t : isMut d = true) : ∃ a o, v = .ref a ∧ H a = some o ∧ NoTbl o ∧ ¬ Still o := by
  cases d with
  | lst ds =>
    obtain ⟨a, xs, e, q, r⟩ := h
    exact ⟨a, _, e, q, notbl_lst, fun z => z.1 _ rfl⟩
  | ins c fs =>
    obtain ⟨a, dx, ys, e, q, r⟩ := h
    exact ⟨a, _, e, q, notbl_ins, fun z => z.2 _ _ _ rfl⟩
  | _ => cases t

theorem Sr.av (S : Sr C F own ρ σ H) (fo : F.Ok) {b : Addr} (h : AvO F own ρ σ b) : ∃ o, H b = some o ∧ NoTbl o := by
  rcases h with h | ⟨i, d, hi, hd, hm, hv⟩
  · exact S.a0 b h
  · obtain ⟨v, e, _, r⟩ := S.slot i d hd
    rw [hv] at e
    cases e
    obtain ⟨a, o, e1, q, n, _⟩ := r.at_ hm
    cases e1
    exact ⟨o, q, n⟩
theorem Sr.ext (S : Sr C F own ρ σ H) (e : Ext H H') (g : C.G H') : Sr C F own ρ σ H' :=
  ⟨g, S.len, fun b o h1 h2 h3 => e.keep b o (S.ent b o h1 h2 h3) h2, fun b h => S.dom b (e.dom b h), fun b h => let ⟨o, h1, h2⟩ := S.a0 b h; ⟨o, e.keep b o h1 h2, h2⟩, fun i d h => by
    obtain ⟨v, h1, h2, h3⟩ := S.slot i d h
    exact ⟨v, h1, fun n => (h2 n).ext e, h3.ext e⟩, S.new, S.dis, fun x h => let ⟨h1, h2, A, dx, ys, zs, h3, h4⟩ := S.m0 x h; ⟨h1, h2, A, dx, ys, zs, h3, e.keep _ _ h4 notbl_ins⟩⟩

theorem RepM.s {Av : Addr → Prop} {H0 : Hp} {d : D} {v : V} (h : RepM C m Av H0 H d v) (hm : m ≠ .b) (hAv : ∀ b, Av b → ∃ o, H0 b = some o ∧ NoTbl o) : Rep C Av H d v := by
  cases m with
  | b => exact absurd rfl hm
  | s => exact h
  | f =>
    have nn : ∀ a, Nw H0 a → ¬ Av a := fun a n z => by
      obtain ⟨o, q, t⟩ := hAv a z
      exact n o q t
    cases d with
    | lst ds =>
      obtain ⟨a, xs, e, n, q, r⟩ := h
      simp only [Rep]
      exact ⟨a, xs, e, nn a n, q, r.anti fun _ => .inl⟩
    | ins c fs =>
      obtain ⟨a, dx, ys, e, n, q, r⟩ := h
      simp only [Rep]
      exact ⟨a, dx, ys, e, nn a n, q, r.anti fun _ => .inl⟩
    | _ => exact h
theorem RepM.o {Av : Addr → Prop} {H0 : Hp} {d : D} {v : V} (h : RepM C m Av H0 H d v) : RepO C Av H d v := by
  cases m with
  | b => exact h
  | s => exact Rep.toO h
  | f =>
    cases d with
    | lst ds =>
      obtain ⟨a, xs, e, n, q, r⟩ := h
      exact ⟨a, xs, e, q, r.anti fun _ => .inl⟩
    | ins c fs =>
      obtain ⟨a, dx, ys, e, n, q, r⟩ := h
      exact ⟨a, dx, ys, e, q, r.anti fun _ => .inl⟩
    | _ => exact h
/-- seen from an earlier heap -/
theorem RepM.back {Av : Addr → Prop} {H0 : Hp} {d : D} {v : V} (h : RepM C m Av H1 H d v) (e : Ext H0 H1) : RepM C m Av H0 H d v := by
  cases m with
  | b => exact h
  | s => exact h
  | f =>
    cases d with
    | lst ds =>
      obtain ⟨a, xs, e1, n, q, r⟩ := h
      exact ⟨a, xs, e1, e.dom a n, q, r⟩
    | ins c fs =>
      obtain ⟨a, dx, ys, e1, n, q, r⟩ := h
      exact ⟨a, dx, ys, e1, e.dom a n, q, r⟩
    | _ => exact h
/-- what is not mutable -/
theorem RepM.flat {Av : Addr → Prop} {H0 : Hp} {d : D} {v : V} (h : Rep C Av H d v) (t : isMut d = false) : RepM C m Av H0 H d v := by
  cases m with
  | b => exact h.toO
  | s => exact h
  | f => cases d <;> first | exact h | cases t

theorem PostX.at {c : Nat} {x : Option D} (h : PostX C W σ H c x) (e : Ext H H1) : PostX C W σ H1 c x := fun cls dd H' e' g q => h cls dd H' (e.trans e') g q
theorem PostE.at {r : R D} {Q : VK} (h : PostE C F W own m ρ σ H r Q) (e : Ext H H1) : PostE C F W own m ρ σ H1 r Q := by
  cases r with
  | ok d => exact fun v H' e' g q => h v H' (e.trans e') g (q.back e)
  | exc c x => exact PostX.at h e
  | bad => exact h
theorem PostA.at {r : R (List D)} {Q : List V → Hp → Prop} (h : PostA C F W own ρ σ H r Q) (e : Ext H H1) : PostA C F W own ρ σ H1 r Q := by
  cases r with
  | ok d => exact fun v H' e' g q => h v H' (e.trans e') g q
  | exc c x => exact PostX.at h e
  | bad => exact h
theorem PostT.at {r : R Bool} {Q : Bool → Hp → Prop} (h : PostT C W σ H r Q) (e : Ext H H1) : PostT C W σ H1 r Q := by
  cases r with
  | ok d => exact fun H' e' g => h H' (e.trans e') g
  | exc c x => exact PostX.at h e
  | bad => exact h

theorem PE.imp {X : Cx} {e : Expr} {t t' : TE} (h : PE X e t) (k : ∀ σ H Q, t' σ H Q → t σ H Q) : PE X e t' := ⟨fun pins s σ H Q I q => h.run pins s σ H Q I (k σ H Q q)⟩
theorem PT.imp {X : Cx} {e : Expr} {t t' : TT} (h : PT X e t) (k : ∀ σ H Q, t' σ H Q → t σ H Q) : PT X e t' := ⟨fun pins s σ H Q I q => h.run pins s σ H Q I (k σ H Q q)⟩
theorem PW.imp {X : Cx} {e : Expr} {t t' : TT} (h : PW X e t) (k : ∀ σ H Q, t' σ H Q → t σ H Q) : PW X e t' := ⟨fun wh pins s σ H Q I q => h.run wh pins s σ H Q I (k σ H Q q)⟩
theorem PA.imp {X : Cx} {e : List Expr} {t t' : TA} (h : PA X e t) (k : ∀ σ H Q, t' σ H Q → t σ H Q) : PA X e t' := ⟨fun pos pins s σ H Q I q => h.run pos pins s σ H Q I (k σ H Q q)⟩
theorem PS.imp {X : Cx} {e : Stmt} {t t' : TS} (h : PS X e t) (k : ∀ D σ H, t' D σ H → t D σ H) : PS X e t' := ⟨fun pins s σ H D I q => h.run pins s σ H D I (k D σ H q)⟩
theorem PSs.imp {X : Cx} {e : List Stmt} {t t' : TS} (h : PSs X e t) (k : ∀ D σ H, t' D σ H → t D σ H) : PSs X e t' := ⟨fun pins s σ H D I q => h.run pins s σ H D I (k D σ H q)⟩

/-- an expression first, then what its value gives -/
theorem tev_bind {r : Env → R D} {k : D → R D} {Q : VK} {K : VK} (S : Sr C F own ρ σ H) (po : PostE C F W own m ρ σ H ((r ρ).bind k) Q)
    (h : ∀ d v H1, r ρ = .ok d → Ext H H1 → Sr C F own ρ σ H1 → RepM C ma (AvO F own ρ σ) H H1 d v → PostE C F W own m ρ σ H1 (k d) Q → K v H1) : TEv C F W own ma r σ H K := by
  refine ⟨ρ, S, ?_⟩
  cases e : r ρ with
  | ok d => 
    rw [e] at po
    exact fun v H1 e1 g1 q1 => h d v H1 e e1 (S.ext e1 g1) q1 (PostE.at po e1)
  | exc c x => rw [e] at po; exact po
  | bad => rw [e] at po; exact po
theorem tav_bind {r : Env → R (List D)} {k : List D → R D} {Q : VK} {K : List V → Hp → Prop} (S : Sr C F own ρ σ H) (po : PostE C F W own m ρ σ H ((r ρ).bind k) Q)
    (h : ∀ ds vs H1, r ρ = .ok ds → Ext H H1 → Sr C F own ρ σ H1 → Reps C (AvO F own ρ σ) H1 ds vs → PostE C F W own m ρ σ H1 (k ds) Q → K vs H1) : TAv C F W own r σ H K := by
  refine ⟨ρ, S, ?_⟩
  cases e : r ρ with
  | ok d => 
    rw [e] at po
    exact fun v H1 e1 g1 q1 => h d v H1 e e1 (S.ext e1 g1) q1 (PostE.at po e1)
  | exc c x => rw [e] at po; exact po
  | bad => rw [e] at po; exact po
theorem ttv_bind {r : Env → R Bool} {k : Bool → R D} {Q : VK} {K : Bool → Hp → Prop} (S : Sr C F own ρ σ H) (po : PostE C F W own m ρ σ H ((r ρ).bind k) Q)
    (h : ∀ b H1, r ρ = .ok b → Ext H H1 → Sr C F own ρ σ H1 → PostE C F W own m ρ σ H1 (k b) Q → K b H1) : TTv C F W own r σ H K := by
  refine ⟨ρ, S, ?_⟩
  cases e : r ρ with
  | ok d => 
    rw [e] at po
    exact fun H1 e1 g1 => h d H1 e e1 (S.ext e1 g1) (PostE.at po e1)
  | exc c x => rw [e] at po; exact po
  | bad => rw [e] at po; exact po
end
end Vm

set_option maxRecDepth 100000
set_option maxHeartbeats 2000000
/-! VmD: lists of data; operations by values. -/
namespace Vm
open PySem PySem.Spec PyProof.Rows L2

section
variable {C : Pc} {Av : Addr → Prop} {H : Hp}
theorem reps_iff : ∀ {ds : List D} {vs : List V}, Reps C Av H ds vs ↔ ds.length = vs.length ∧ ∀ (i : Nat) d v, ds[i]? = some d → vs[i]? = some v → Rep C Av H d v
  | [], [] => by simp [Reps]
  | [], _ :: _ => by simp [Reps]
  | _ :: _, [] => by simp [Reps]
  | d :: ds, v :: vs => by
    simp only [Reps, List.length_cons, Nat.add_right_cancel_iff]
    rw [reps_iff (ds := ds) (vs := vs)]
    constructor
    · rintro ⟨h, hl, ha⟩
      refine ⟨hl, fun i e u h1 h2 => ?_⟩
      cases i with
      | zero =>
        simp only [List.getElem?_cons_zero, Option.some.injEq] at h1 h2
        subst h1 h2
        exact h
      | succ i =>
        simp only [List.getElem?_cons_succ] at h1 h2
        exact ha i e u h1 h2
    · rintro ⟨hl, ha⟩
      exact ⟨ha 0 d v rfl rfl, hl, fun i e u h1 h2 => ha (i + 1) e u (by simpa using h1) (by simpa using h2)⟩
theorem Reps.length {ds : List D} {vs : List V} (h : Reps C Av H ds vs) : ds.length = vs.length := (reps_iff.mp h).1
theorem Reps.get {ds : List D} {vs : List V} (h : Reps C Av H ds vs) {i : Nat} {d : D} (hd : ds[i]? = some d) : ∃ v, vs[i]? = some v ∧ Rep C Av H d v := by
  obtain ⟨hl, ha⟩ := reps_iff.mp h
  have hi : i < ds.length := (List.getElem?_eq_some_iff.mp hd).1
  have hv : vs[i]? = some (vs[i]'(by omega)) := List.getElem?_eq_getElem (by omega)
  exact ⟨_, hv, ha i d _ hd hv⟩
theorem Reps.getv {ds : List D} {vs : List V} (h : Reps C Av H ds vs) {i : Nat} {v : V} (hv : vs[i]? = some v) : ∃ d, ds[i]? = some d ∧ Rep C Av H d v := by
  obtain ⟨hl, ha⟩ := reps_iff.mp h
  have hi : i < vs.length := (List.getElem?_eq_some_iff.mp hv).1
  have hd : ds[i]? = some (ds[i]'(by omega)) := List.getElem?_eq_getElem (by omega)
  exact ⟨_, hd, ha i _ v hd hv⟩
theorem Reps.nil : Reps C Av H [] [] := by simp [Reps]
theorem Reps.cons {d : D} {v : V} {ds : List D} {vs : List V} (h : Rep C Av H d v) (t : Reps C Av H ds vs) : Reps C Av H (d :: ds) (v :: vs) := by
  simp only [Reps]
  exact ⟨h, t⟩
theorem Reps.append : ∀ {ds : List D} {vs : List V} {es : List D} {us : List V}, Reps C Av H ds vs → Reps C Av H es us → Reps C Av H (ds ++ es) (vs ++ us)
  | [], [], _, _, _, t => t
  | [], _ :: _, _, _, h, _ => by simp [Reps] at h
  | _ :: _, [], _, _, h, _ => by simp [Reps] at h
  | d :: ds, v :: vs, es, us, h, t => by
    simp only [Reps, List.cons_append] at h ⊢
    exact ⟨h.1, h.2.append t⟩
theorem Reps.take {ds : List D} {vs : List V} (n : Nat) (h : Reps C Av H ds vs) : Reps C Av H (ds.take n) (vs.take n) := by
  obtain ⟨hl, ha⟩ := reps_iff.mp h
  refine reps_iff.mpr ⟨by simp [hl], fun i d v h1 h2 => ?_⟩
  rw [List.getElem?_take] at h1 h2
  split at h1
  · rename_i q
    rw [if_pos q] at h2
    exact ha i d v h1 h2
  · cases h1
theorem Reps.drop {ds : List D} {vs : List V} (n : Nat) (h : Reps C Av H ds vs) : Reps C Av H (ds.drop n) (vs.drop n) := by
  obtain ⟨hl, ha⟩ := reps_iff.mp h
  refine reps_iff.mpr ⟨by simp [hl], fun i d v h1 h2 => ?_⟩
  rw [List.getElem?_drop] at h1 h2
  exact ha _ d v h1 h2
theorem Reps.cut {ds : List D} {vs : List V} (lo hi : Option Int) (h : Reps C Av H ds vs) : Reps C Av H (cutL ds lo hi) (cutV vs lo hi) := by
  unfold cutL cutV
  rw [h.length]
  exact (h.drop _).take _
theorem Reps.set {ds : List D} {vs : List V} {d : D} {v : V} (h : Reps C Av H ds vs) (r : Rep C Av H d v) (n : Nat) : Reps C Av H (ds.set n d) (vs.set n v) := by
  obtain ⟨hl, ha⟩ := reps_iff.mp h
  refine reps_iff.mpr ⟨by simp [hl], fun i e u h1 h2 => ?_⟩
  rw [List.getElem?_set] at h1 h2
  split at h1
  · rename_i q
    rw [if_pos q] at h2
    split at h1
    · split at h2
      · cases h1; cases h2; exact r
      · cases h2
    · cases h1
  · rename_i q
    rw [if_neg q] at h2
    exact ha i e u h1 h2
theorem Reps.dropLast {ds : List D} {vs : List V} (h : Reps C Av H ds vs) : Reps C Av H ds.dropLast vs.dropLast := by
  rw [List.dropLast_eq_take, List.dropLast_eq_take, h.length]
  exact h.take _
theorem Reps.flat {ds : List D} {vs : List V} (h : Reps C Av H ds vs) : ∀ n : Nat, Reps C Av H (List.replicate n ds).flatten (List.replicate n vs).flatten
  | 0 => Reps.nil
  | n + 1 => by
    simp only [List.replicate_succ, List.flatten_cons]
    exact h.append (h.flat n)
theorem Reps.atI {ds : List D} {vs : List V} (h : Reps C Av H ds vs) {i : Int} {d : D} (e : atI ds i = some d) : ∃ v, L2.atI vs i = some v ∧ Rep C Av H d v := by
  unfold L2.atI at e ⊢
  rw [← h.length]
  cases q : ixN ds.length i with
  | none => rw [q] at e; cases e
  | some j =>
    rw [q] at e
    exact h.get (i := j) e
theorem rep_ints : ∀ {ns : List Int} {vs : List V}, Reps C Av H (ns.map D.int) vs ↔ vs = ns.map V.int
  | [], [] => by simp [Reps]
  | [], _ :: _ => by simp [Reps]
  | _ :: _, [] => by simp [Reps]
  | n :: ns, v :: vs => by
    simp only [List.map_cons, Reps, Rep, List.cons.injEq]
    rw [rep_ints (ns := ns) (vs := vs)]
theorem ints_map : ∀ {ds : List D} {ns : List Int}, ints? ds = some ns → ds = ns.map D.int
  | [], ns, h => by simp [ints?] at h; subst h; rfl
  | .int i :: r, ns, h => by
    simp only [ints?, Option.map_eq_some_iff] at h
    obtain ⟨m, h1, rfl⟩ := h
    rw [ints_map h1]
    rfl
  | .non :: _, _, h | .bl _ :: _, _, h | .str _ :: _, _, h | .tup _ :: _, _, h | .lst _ :: _, _, h | .ins _ _ :: _, _, h | .scr _ :: _, _, h | .exn _ _ :: _, _, h => by simp [ints?] at h
theorem bools_map : ∀ {ds : List D} {ns : List Bool}, bools? ds = some ns → ds = ns.map D.bl
  | [], ns, h => by simp [bools?] at h; subst h; rfl
  | .bl i :: r, ns, h => by
    simp only [bools?, Option.map_eq_some_iff] at h
    obtain ⟨m, h1, rfl⟩ := h
    rw [bools_map h1]
    rfl
  | .non :: _, _, h | .int _ :: _, _, h | .str _ :: _, _, h | .tup _ :: _, _, h | .lst _ :: _, _, h | .ins _ _ :: _, _, h | .scr _ :: _, _, h | .exn _ _ :: _, _, h => by simp [bools?] at h
theorem rep_bools : ∀ {ns : List Bool} {vs : List V}, Reps C Av H (ns.map D.bl) vs ↔ vs = ns.map V.bl
  | [], [] => by simp [Reps]
  | [], _ :: _ => by simp [Reps]
  | _ :: _, [] => by simp [Reps]
  | n :: ns, v :: vs => by
    simp only [List.map_cons, Reps, Rep, List.cons.injEq]
    rw [rep_bools (ns := ns) (vs := vs)]

/-- a flat value -/
theorem flat_rep {d : D} {x v : V} (e : flat? d = some x) : Rep C Av H d v ↔ v = x := by
  cases d <;> simp only [flat?, Option.some.injEq, reduceCtorEq] at e <;> subst e <;> simp only [Rep]
theorem flat_repO {d : D} {x v : V} (e : flat? d = some x) : RepO C Av H d v ↔ v = x := by
  cases d <;> simp only [flat?, Option.some.injEq, reduceCtorEq] at e <;> subst e <;> simp only [RepO, Rep]
theorem flat_flatV {d : D} {x : V} (e : flat? d = some x) : flatV x = true := by
  cases d <;> simp only [flat?, Option.some.injEq, reduceCtorEq] at e <;> subst e <;> rfl
theorem flats_rep : ∀ {ds : List D} {xs vs : List V}, flats? ds = some xs → Reps C Av H ds vs → vs = xs
  | [], xs, [], h, _ => by simp [flats?] at h; exact h.symm
  | [], _, _ :: _, _, r => by simp [Reps] at r
  | _ :: _, _, [], _, r => by simp [Reps] at r
  | d :: ds, xs, v :: vs, h, r => by
    simp only [flats?] at h
    split at h
    · rename_i p ps h1 h2
      cases h
      simp only [Reps] at r
      rw [(flat_rep h1).mp r.1, flats_rep h2 r.2]
    · cases h
theorem flats_flatV : ∀ {ds : List D} {xs : List V}, flats? ds = some xs → xs.all flatV = true
  | [], xs, h => by simp [flats?] at h; subst h; rfl
  | d :: ds, xs, h => by
    simp only [flats?] at h
    split at h
    · rename_i p ps h1 h2
      cases h
      rw [List.all_cons, flat_flatV h1, flats_flatV h2]
      rfl
    · cases h

mutual
theorem Rep.dp : ∀ {d : D} {v : V} {p : PyData}, toPy d = some p → Rep C Av H d v → Dp C.K H v p
  | .non, v, p, e, r => by simp only [toPy, Option.some.injEq] at e; subst e; simp only [Rep] at r; subst r; exact .non
  | .bl b, v, p, e, r => by simp only [toPy, Option.some.injEq] at e; subst e; simp only [Rep] at r; subst r; exact .bl b
  | .int b, v, p, e, r => by simp only [toPy, Option.some.injEq] at e; subst e; simp only [Rep] at r; subst r; exact .int b
  | .str b, v, p, e, r => by simp only [toPy, Option.some.injEq] at e; subst e; simp only [Rep] at r; subst r; exact .str b
  | .tup ds, v, p, e, r => by
    simp only [toPy, Option.map_eq_some_iff] at e
    obtain ⟨ps, h1, rfl⟩ := e
    simp only [Rep] at r
    obtain ⟨a, xs, rfl, q, r⟩ := r
    exact .tup q (Reps.dp h1 r)
  | .lst ds, v, p, e, r => by
    simp only [toPy, Option.map_eq_some_iff] at e
    obtain ⟨ps, h1, rfl⟩ := e
    simp only [Rep] at r
    obtain ⟨a, xs, rfl, n, q, r⟩ := r
    exact .lst (.of q) (Reps.dp h1 r)
  | .ins _ _, v, p, e, r => by simp [toPy] at e
  | .scr _, v, p, e, r => by simp [toPy] at e
  | .exn _ _, v, p, e, r => by simp [toPy] at e
theorem Reps.dp : ∀ {ds : List D} {vs : List V} {ps : List PyData}, toPys ds = some ps → Reps C Av H ds vs → DpAll C.K H vs ps
  | [], [], ps, e, r => by simp only [toPys, Option.some.injEq] at e; subst e; exact .nil
  | [], _ :: _, _, _, r => by simp [Reps] at r
  | _ :: _, [], _, _, r => by simp [Reps] at r
  | d :: ds, v :: vs, ps, e, r => by
    simp only [toPys] at e
    split at e
    · rename_i p qs h1 h2
      cases e
      simp only [Reps] at r
      exact .cons (Rep.dp h1 r.1) (Reps.dp h2 r.2)
    · cases e
end
theorem RepO.dp {d : D} {v : V} {p : PyData} (e : toPy d = some p) (r : RepO C Av H d v) : Dp C.K H v p := by
  cases d with
  | lst ds =>
    simp only [toPy, Option.map_eq_some_iff] at e
    obtain ⟨ps, h1, rfl⟩ := e
    obtain ⟨a, xs, rfl, q, r⟩ := r
    exact .lst (.of q) (Reps.dp h1 r)
  | ins _ _ => simp [toPy] at e
  | _ => exact Rep.dp (Av := Av) e r
end

theorem lineEq : maxLen = sizeLine := by rw [sizeLine_eq]; rfl
end Vm

set_option maxRecDepth 100000
set_option maxHeartbeats 2000000
/-! VmE: expressions: names, displays, operators, comparisons, tests. -/
namespace Vm
open PySem PySem.Spec PyProof.Rows L2

/-- where an expression stands -/
structure XOk (C : Pc) (cl : Bool) (k : Nat) (N : List Str) (sc : Scope) (W : WX) (X : Cx) : Prop where
  prog : X.prog = C.prog
  w : X.w = C.w
  K : X.K = C.K
  mg : X.mg = C.mg
  base : X.base = C.base
  nd : N.Nodup
  kind : sc.kind = .function
  eN : X.N = N
  eS : X.env.scope = sc
  tk : Takes X W
  po : PassesOwn (model X.prog X.w) X.A X.env X.xe
  room : L2H.RoomH k X.A
  calm : cl = true → X.calm = true ∧ X.A.handled = none
  cold : cl = true → C.hot = none
  hotc : cl = false → ∃ p, C.hot = some p ∧ p ∈ X.pn
  tb : C.lam sc = true → ∃ c P, LamX.TabB C.base C.mg c P ∧ X.env.code = .ref c ∧ (P, X.env.qual ++ "<lambda>") ∈ C.T ∧ ∀ p ∈ C.T, p.1 = P → p.2 = X.env.qual ++ "<lambda>"

theorem XOk.units {C : Pc} {cl : Bool} {k : Nat} {N : List Str} {sc : Scope} {W : WX} {X : Cx} (h : XOk C cl k N sc W X) : X.A.units + 64 < cLine := by have := h.room.un; omega

section
variable {C : Pc} {F : Fr0} {W : WX} {own : List Nat} {m ma mb : Mode} {ρ : Env} {σ : L2.St} {H H' H1 : Hp} {X : Cx} {N : List Str} {sc : Scope} {k : Nat} {cl : Bool}
variable {ra rb : Env → R D} {a b : Expr} {pos : Pos} {Q : VK}

theorem g_new {p : Addr} {o : HO} (g : C.G H) (n : H p = none) : C.G (upd H p o) := C.gk H _ (fun b u e _ => by rw [upd_ne (ne_of_none e n)]; exact e) g
theorem sql_of {K : PySem.W.Frag} {a : Addr} {xs : List V} (h : H a = some (.lst xs)) : SqL K H a xs := .of h
theorem avTr (S : Sr C F own ρ σ H) (fo : F.Ok) : ∀ b, AvO F own ρ σ b → ∃ o, H b = some o ∧ NoTbl o := fun b h => S.av fo h

/-! ### operators, by values -/
theorem v_add {x y : D} {v u : V} (S : Sr C F own ρ σ H) (r1 : RepO C (AvO F own ρ σ) H x v) (r2 : RepO C (AvO F own ρ σ) H y u) (po : PostE C F W own .f ρ σ H (addD x y) Q) :
    rI0 (fun i j => .int (i + j)) v u H Q ∨ (∃ i j, v = .str i ∧ u = .str j ∧ i.length + j.length ≤ sizeLine ∧ Q (.str (i ++ j)) H) ∨ rCat v u H Q ∨ rCatT C.K v u H Q := by
  unfold addD at po
  split at po
  · simp only [RepO, Rep] at r1 r2
    subst r1 r2
    exact .inl ⟨_, _, rfl, rfl, po _ H (Ext.refl H) S.g (by simp [RepM, Rep])⟩
  · simp only [RepO, Rep] at r1 r2
    subst r1 r2
    unfold R.guard at po
    split at po
    · rename_i h
      exact .inr (.inl ⟨_, _, rfl, rfl, by rw [← lineEq]; exact h, po _ H (Ext.refl H) S.g (by simp [RepM, Rep])⟩)
    · exact po.elim
  · rename_i xs ys
    obtain ⟨a, vs, rfl, ha, ra⟩ := r1
    obtain ⟨b, us, rfl, hb, rb⟩ := r2
    unfold R.guard at po
    split at po
    · rename_i h
      rw [ra.length, rb.length, lineEq] at h
      refine .inr (.inr (.inl ⟨a, b, vs, us, rfl, rfl, ha, hb, h, fun p hp => ?_⟩))
      refine po _ _ (Ext.new hp) (g_new S.g hp) ⟨p, _, rfl, nw hp, upd_same, ?_⟩
      exact ((ra.append rb).avoid hp).ext (Ext.new hp)
    · exact po.elim
  · rename_i xs ys
    simp only [RepO, Rep] at r1 r2
    obtain ⟨a, vs, rfl, ha, ra⟩ := r1
    obtain ⟨b, us, rfl, hb, rb⟩ := r2
    unfold R.guard at po
    split at po
    · rename_i h
      rw [ra.length, rb.length, lineEq] at h
      refine .inr (.inr (.inr ⟨a, b, vs, us, rfl, rfl, ha, hb, fun e => h.2.1 (by rw [e]; rfl), h.1, fun e => absurd (by rw [e]; rfl) h.2.2, fun _ p hp => ?_⟩))
      refine po _ _ (Ext.new hp) (g_new S.g hp) ?_
      simp only [RepM, Rep]
      exact ⟨p, _, rfl, .of upd_same, (ra.append rb).ext (Ext.new hp)⟩
    · exact po.elim
  · exact po.elim
theorem v_sub {x y : D} {v u : V} (S : Sr C F own ρ σ H) (r1 : RepO C (AvO F own ρ σ) H x v) (r2 : RepO C (AvO F own ρ σ) H y u) (po : PostE C F W own .f ρ σ H (subD x y) Q) :
    rI0 (fun i j => .int (i - j)) v u H Q := by
  unfold subD at po
  split at po
  · simp only [RepO, Rep] at r1 r2
    subst r1 r2
    exact ⟨_, _, rfl, rfl, po _ H (Ext.refl H) S.g (by simp [RepM, Rep])⟩
  · exact po.elim
theorem v_mul {x y : D} {v u : V} (S : Sr C F own ρ σ H) (r1 : RepO C (AvO F own ρ σ) H x v) (r2 : RepO C (AvO F own ρ σ) H y u) (po : PostE C F W own .f ρ σ H (mulD x y) Q) :
    rI CMulW (fun i j => .int (i * j)) v u H Q ∨ rRep v u H Q := by
  unfold mulD at po
  split at po
  · simp only [RepO, Rep] at r1 r2
    subst r1 r2
    unfold R.guard at po
    split at po
    · rename_i h
      exact .inl ⟨_, _, rfl, rfl, h, po _ H (Ext.refl H) S.g (by simp [RepM, Rep])⟩
    · exact po.elim
  · rename_i xs kk
    obtain ⟨a, vs, rfl, ha, ra⟩ := r1
    simp only [RepO, Rep] at r2
    subst r2
    unfold R.guard at po
    split at po
    · rename_i h
      rw [ra.length, lineEq] at h
      refine .inr ⟨a, kk, vs, rfl, rfl, ha, by omega, by omega, h.2.2, fun p hp => ?_⟩
      exact po _ _ (Ext.new hp) (g_new S.g hp) ⟨p, _, rfl, nw hp, upd_same, ((ra.flat _).avoid hp).ext (Ext.new hp)⟩
    · exact po.elim
  · exact po.elim
theorem op_fdivA : OpR X (binaryOp .FloorDiv) (rI (fun _ j => divOk j) fun i j => .int (i.fdiv j)) := opI fun i j _ _ _ _ _ hc q => floordiv_int hc.1 q (.inl (PyProof.noPylong_of_log2 hc.2))
theorem v_fdiv {x y : D} {v u : V} (S : Sr C F own ρ σ H) (r1 : RepO C (AvO F own ρ σ) H x v) (r2 : RepO C (AvO F own ρ σ) H y u) (po : PostE C F W own .f ρ σ H (fdivD x y) Q) :
    rI (fun _ j => divOk j) (fun i j => .int (i.fdiv j)) v u H Q := by
  unfold fdivD at po
  split at po
  · simp only [RepO, Rep] at r1 r2
    subst r1 r2
    unfold R.guard at po
    split at po
    · rename_i h
      exact ⟨_, _, rfl, rfl, h, po _ H (Ext.refl H) S.g (by simp [RepM, Rep])⟩
    · exact po.elim
  · exact po.elim
theorem v_mod {x y : D} {v u : V} (S : Sr C F own ρ σ H) (r1 : RepO C (AvO F own ρ σ) H x v) (r2 : RepO C (AvO F own ρ σ) H y u) (po : PostE C F W own .f ρ σ H (modD x y) Q) :
    rI (fun _ j => j ≠ 0) (fun i j => .int (i.fmod j)) v u H Q := by
  unfold modD at po
  split at po
  · simp only [RepO, Rep] at r1 r2
    subst r1 r2
    unfold R.guard at po
    split at po
    · rename_i h
      exact ⟨_, _, rfl, rfl, h, po _ H (Ext.refl H) S.g (by simp [RepM, Rep])⟩
    · exact po.elim
  · exact po.elim
theorem v_pow {x y : D} {v u : V} (S : Sr C F own ρ σ H) (r1 : RepO C (AvO F own ρ σ) H x v) (r2 : RepO C (AvO F own ρ σ) H y u) (po : PostE C F W own .f ρ σ H (powD x y) Q) :
    rI CPow (fun i j => .int (i ^ j.toNat)) v u H Q := by
  unfold powD at po
  split at po
  · simp only [RepO, Rep] at r1 r2
    subst r1 r2
    unfold R.guard at po
    split at po
    · rename_i h
      exact ⟨_, _, rfl, rfl, ⟨h.1, by omega, Nat.lt_of_le_of_lt h.2.2 (by decide)⟩, po _ H (Ext.refl H) S.g (by simp [RepM, Rep])⟩
    · exact po.elim
  · exact po.elim

/-- a two-place rule by values, behind two expressions -/
theorem two {op : D → D → R D} {t : TE} {rr : R2} (ht : t = tOp rr (TEv C F W own ma ra) (TEv C F W own mb rb)) (hv : ∀ ρ σ H x y v u Q, Sr C F own ρ σ H → RepO C (AvO F own ρ σ) H x v → RepO C (AvO F own ρ σ) H y u → PostE C F W own m ρ σ H (op x y) Q → rr v u H Q) :
    ∀ σ H Q, TEv C F W own m (fun ρ => (ra ρ).bind fun x => (rb ρ).bind fun y => op x y) σ H Q → t σ H Q := by
  subst ht
  intro σ H Q ⟨ρ, S, po⟩
  refine tev_bind S po fun x v H1 _ e1 S1 q1 po1 => tev_bind S1 po1 fun y u H2 _ e2 S2 q2 po2 => ?_
  exact hv ρ σ H2 x y v u Q S2 (q1.o.ext e2) q2.o po2
theorem e_add (hx : XOk C cl k N sc W X) (ha : PE X a (TEv C F W own ma ra)) (hb : PE X b (TEv C F W own mb rb)) :
    PE X (.BinOp a .Add b pos) (TEv C F W own .f fun ρ => (ra ρ).bind fun x => (rb ρ).bind fun y => addD x y) :=
  PE.imp (pe_op (op_add.or (op_add_str.or (op_cat.or op_catT))) ha hb) (two rfl fun ρ σ H x y v u Q S r1 r2 po => by rw [hx.K]; exact v_add S r1 r2 po)
theorem e_sub (ha : PE X a (TEv C F W own ma ra)) (hb : PE X b (TEv C F W own mb rb)) :
    PE X (.BinOp a .Sub b pos) (TEv C F W own .f fun ρ => (ra ρ).bind fun x => (rb ρ).bind fun y => subD x y) :=
  PE.imp (pe_op op_sub ha hb) (two rfl fun ρ σ H x y v u Q S r1 r2 po => v_sub S r1 r2 po)
theorem e_mul (ha : PE X a (TEv C F W own ma ra)) (hb : PE X b (TEv C F W own mb rb)) :
    PE X (.BinOp a .Mult b pos) (TEv C F W own .f fun ρ => (ra ρ).bind fun x => (rb ρ).bind fun y => mulD x y) :=
  PE.imp (pe_op (op_mulW.or op_rep) ha hb) (two rfl fun ρ σ H x y v u Q S r1 r2 po => v_mul S r1 r2 po)
theorem e_fdiv (ha : PE X a (TEv C F W own ma ra)) (hb : PE X b (TEv C F W own mb rb)) :
    PE X (.BinOp a .FloorDiv b pos) (TEv C F W own .f fun ρ => (ra ρ).bind fun x => (rb ρ).bind fun y => fdivD x y) :=
  PE.imp (pe_op op_fdivA ha hb) (two rfl fun ρ σ H x y v u Q S r1 r2 po => v_fdiv S r1 r2 po)
theorem e_mod (ha : PE X a (TEv C F W own ma ra)) (hb : PE X b (TEv C F W own mb rb)) :
    PE X (.BinOp a .Mod b pos) (TEv C F W own .f fun ρ => (ra ρ).bind fun x => (rb ρ).bind fun y => modD x y) :=
  PE.imp (pe_op op_modN ha hb) (two rfl fun ρ σ H x y v u Q S r1 r2 po => v_mod S r1 r2 po)
theorem e_pow (ha : PE X a (TEv C F W own ma ra)) (hb : PE X b (TEv C F W own mb rb)) :
    PE X (.BinOp a .Pow b pos) (TEv C F W own .f fun ρ => (ra ρ).bind fun x => (rb ρ).bind fun y => powD x y) :=
  PE.imp (pe_op op_pow ha hb) (two rfl fun ρ σ H x y v u Q S r1 r2 po => v_pow S r1 r2 po)
def opOf : BOp → Operator
  | .add => .Add | .sub => .Sub | .mul => .Mult | .fdiv => .FloorDiv | .mod => .Mod | .pow => .Pow
theorem e_bin (hx : XOk C cl k N sc W X) (o : BOp) (ha : PE X a (TEv C F W own ma ra)) (hb : PE X b (TEv C F W own mb rb)) :
    PE X (.BinOp a (opOf o) b pos) (TEv C F W own .f fun ρ => (ra ρ).bind fun x => (rb ρ).bind fun y => binD o x y) := by
  cases o
  · exact e_add hx ha hb
  · exact e_sub ha hb
  · exact e_mul ha hb
  · exact e_fdiv ha hb
  · exact e_mod ha hb
  · exact e_pow ha hb

/-! ### comparisons, by values -/
theorem v_ltI {p : Int → Int → Bool} {x y : D} {v u : V} (S : Sr C F own ρ σ H) (r1 : RepO C (AvO F own ρ σ) H x v) (r2 : RepO C (AvO F own ρ σ) H y u) (po : PostE C F W own .s ρ σ H (ltI p x y) Q) :
    rI0 (fun i j => .bl (p i j)) v u H Q := by
  unfold ltI at po
  split at po
  · simp only [RepO, Rep] at r1 r2
    subst r1 r2
    exact ⟨_, _, rfl, rfl, po _ H (Ext.refl H) S.g (by simp [RepM, Rep])⟩
  · exact po.elim
theorem v_eq {x y : D} {v u : V} {h : Bool → Bool} (S : Sr C F own ρ σ H) (r1 : RepO C (AvO F own ρ σ) H x v) (r2 : RepO C (AvO F own ρ σ) H y u) (po : PostE C F W own .s ρ σ H ((eqD x y).bind fun b => .ok (.bl (h b))) Q) :
    ∃ d e, Dp C.K H v d ∧ Dp C.K H u e ∧ SeqAt.shaped d = true ∧ SeqAt.shaped e = true ∧ Q (.bl (h (PyData.eqv d e))) H := by
  unfold eqD at po
  split at po
  · rename_i p q hp hq
    unfold R.guard at po
    split at po
    · rename_i hs
      exact ⟨p, q, r1.dp hp, r2.dp hq, hs.1, hs.2, po _ H (Ext.refl H) S.g (by simp [RepM, Rep])⟩
    · exact po.elim
  · exact po.elim
theorem isNone_v {Av : Addr → Prop} {x : D} {v : V} (r : RepO C Av H x v) : isNone x = decide (v = .non) := by
  cases x with
  | non => simp only [RepO, Rep] at r; subst r; rfl
  | lst ds => obtain ⟨a, xs, rfl, _⟩ := r; rfl
  | ins c fs => obtain ⟨a, dx, ys, rfl, _⟩ := r; rfl
  | tup ds => simp only [RepO, Rep] at r; obtain ⟨a, xs, rfl, _⟩ := r; rfl
  | scr ds => simp only [RepO, Rep] at r; obtain ⟨a, rfl, _⟩ := r; rfl
  | exn c fs => simp only [RepO, Rep] at r; obtain ⟨p, vs, dd, _, rfl, _⟩ := r; rfl
  | bl b => simp only [RepO, Rep] at r; subst r; rfl
  | int b => simp only [RepO, Rep] at r; subst r; rfl
  | str b => simp only [RepO, Rep] at r; subst r; rfl
theorem v_in {x y : D} {v u : V} {neg : Bool} (S : Sr C F own ρ σ H) (r1 : RepO C (AvO F own ρ σ) H x v) (r2 : RepO C (AvO F own ρ σ) H y u)
    (po : PostE C F W own .s ρ σ H ((inD x y).bind fun b => .ok (.bl (if neg then !b else b))) Q) : rIn C.K neg v u H Q := by
  have key : ∀ (ys : List D) (xs : List V) (q : Addr), u = .ref q → (SqL C.K H q xs ∨ SqT C.K H q xs) → Reps C (AvO F own ρ σ) H ys xs →
      PostE C F W own .s ρ σ H ((match flat? x, flats? ys with | some v, some vs => R.ok (L2.inV v vs) | _, _ => .bad).bind fun b => .ok (.bl (if neg then !b else b))) Q → rIn C.K neg v u H Q := by
    intro ys xs q e hs rs po
    split at po
    · rename_i x' ys' h1 h2
      have e1 := (flat_repO h1).mp r1
      have e2 := flats_rep h2 rs
      subst e1 e2
      refine ⟨q, _, e, hs, flat_flatV h1, flats_flatV h2, ?_⟩
      cases neg <;> exact po _ H (Ext.refl H) S.g (by simp [RepM, Rep])
    · exact po.elim
  unfold inD at po
  cases y with
  | lst ys =>
    obtain ⟨a, xs, rfl, ha, rs⟩ := r2
    exact key ys xs a rfl (.inl (.of ha)) rs po
  | tup ys =>
    simp only [RepO, Rep] at r2
    obtain ⟨a, xs, rfl, ha, rs⟩ := r2
    exact key ys xs a rfl (.inr ha) rs po
  | _ => exact po.elim
def copOf : COp → CmpOp
  | .lt => .Lt | .le => .LtE | .gt => .Gt | .ge => .GtE | .eq => .Eq | .ne => .NotEq | .isN => .Is | .notN => .IsNot | .isin => .In | .notin => .NotIn
/-- the rule of a comparison -/
def rCmp (K : PySem.W.Frag) : COp → R2
  | .lt => rI0 fun i j => .bl (decide (i < j)) | .le => rI0 fun i j => .bl (decide (i ≤ j)) | .gt => rI0 fun i j => .bl (decide (j < i)) | .ge => rI0 fun i j => .bl (decide (j ≤ i))
  | .eq => rEqD K | .ne => rNeD K
  | .isN => fun x y H Q => y = .non ∧ Q (.bl (decide (x = .non))) H
  | .notN => fun x y H Q => y = .non ∧ Q (.bl (!decide (x = .non))) H
  | .isin => rIn K false | .notin => rIn K true
theorem op_cmp (hx : XOk C cl k N sc W X) (o : COp) : OpR X (compareOp (copOf o)) (rCmp C.K o) := by
  have hu := hx.units
  have hK := hx.K
  cases o
  · exact op_lt
  · exact op_le
  · exact op_gt
  · exact op_ge
  · show OpR X (compareOp .Eq) (rEqD C.K); rw [← hK]; exact op_eqD hu
  · show OpR X (compareOp .NotEq) (rNeD C.K); rw [← hK]; exact op_neD hu
  · exact op_isN
  · exact op_notN
  · show OpR X (compareOp .In) (rIn C.K false); rw [← hK]; exact op_in_seq
  · show OpR X (compareOp .NotIn) (rIn C.K true); rw [← hK]; exact op_notIn_seq
theorem v_cmp (o : COp) {x y : D} {v u : V} (S : Sr C F own ρ σ H) (r1 : RepO C (AvO F own ρ σ) H x v) (r2 : RepO C (AvO F own ρ σ) H y u) (po : PostE C F W own .s ρ σ H (cmpD o x y) Q) : rCmp C.K o v u H Q := by
  cases o
  · exact v_ltI S r1 r2 po
  · exact v_ltI S r1 r2 po
  · exact v_ltI S r1 r2 po
  · exact v_ltI S r1 r2 po
  · exact v_eq (h := fun b => b) S r1 r2 po
  · exact v_eq (h := fun b => !b) S r1 r2 po
  · cases y <;> first | exact po.elim | skip
    simp only [RepO, Rep] at r2
    subst r2
    simp only [cmpD, isNone_v r1] at po
    exact ⟨rfl, po _ H (Ext.refl H) S.g (by simp [RepM, Rep])⟩
  · cases y <;> first | exact po.elim | skip
    simp only [RepO, Rep] at r2
    subst r2
    simp only [cmpD, isNone_v r1] at po
    exact ⟨rfl, po _ H (Ext.refl H) S.g (by simp [RepM, Rep])⟩
  · exact v_in (neg := false) S r1 r2 po
  · exact v_in (neg := true) S r1 r2 po
/-- a comparison gives a truth value -/
theorem cmp_bl {o : COp} {x y d : D} (h : cmpD o x y = .ok d) : ∃ c, d = .bl c := by
  cases o <;> simp only [cmpD, ltI] at h
  case lt | le | gt | ge => split at h <;> cases h; exact ⟨_, rfl⟩
  case eq | ne => cases e : eqD x y <;> rw [e] at h <;> cases h; exact ⟨_, rfl⟩
  case isN | notN => split at h <;> cases h; exact ⟨_, rfl⟩
  case isin | notin => cases e : inD x y <;> rw [e] at h <;> cases h; exact ⟨_, rfl⟩
theorem e_cmp (hx : XOk C cl k N sc W X) (o : COp) (ha : PE X a (TEv C F W own ma ra)) (hb : PE X b (TEv C F W own mb rb)) (hm : behindInMarks (copOf o) b = false) :
    PE X (.Compare a [copOf o] [b] pos) (TEv C F W own .s fun ρ => (ra ρ).bind fun x => (rb ρ).bind fun y => cmpD o x y) :=
  PE.imp (pe_cmpR (op_cmp hx o) ha hb hm) (two rfl fun ρ σ H x y v u Q S r1 r2 po => v_cmp o S r1 r2 po)
/-- a test whose value is known to be a truth value -/
def tRb (r : Env → R D) : Env → R Bool := fun ρ => (r ρ).bind truth
theorem t_cmp (hx : XOk C cl k N sc W X) (o : COp) (ha : PE X a (TEv C F W own ma ra)) (hb : PE X b (TEv C F W own mb rb)) (hm : behindInMarks (copOf o) b = false) :
    PT X (.Compare a [copOf o] [b] pos) (TTv C F W own (tRb fun ρ => (ra ρ).bind fun x => (rb ρ).bind fun y => cmpD o x y)) := by
  refine PT.imp (pt_cmpR (op_cmp hx o) ha hb hm) ?_
  intro σ H Q ⟨ρ, S, po⟩
  have h := two (C := C) (F := F) (W := W) (own := own) (m := .s) (ma := ma) (mb := mb) (ra := ra) (rb := rb) (op := cmpD o) (rr := rCmp C.K o) (t := tOp (rCmp C.K o) (TEv C F W own ma ra) (TEv C F W own mb rb)) rfl (fun ρ σ H x y v u Q S r1 r2 po => v_cmp o S r1 r2 po) σ H
    (fun x H' => ∃ k, x = .bl k ∧ Q k H')
  refine h ⟨ρ, S, ?_⟩
  show PostE C F W own .s ρ σ H ((ra ρ).bind fun x => (rb ρ).bind fun y => cmpD o x y) _
  have po : PostT C W σ H (((ra ρ).bind fun x => (rb ρ).bind fun y => cmpD o x y).bind truth) Q := po
  generalize e : ((ra ρ).bind fun x => (rb ρ).bind fun y => cmpD o x y) = r at po ⊢
  cases r with
  | bad => exact po
  | exc c x => exact po
  | ok d =>
    have hd : ∃ c, d = .bl c := by
      cases e1 : ra ρ <;> rw [e1] at e <;> try cases e
      cases e2 : rb ρ <;> rw [e2] at e <;> try cases e
      exact cmp_bl e
    obtain ⟨c, rfl⟩ := hd
    intro v H' e' g q
    simp only [RepM, Rep] at q
    subst q
    exact ⟨c, rfl, po H' e' g⟩
end
end Vm

set_option maxRecDepth 100000
set_option maxHeartbeats 2000000
/-! VmF: expressions: names, displays, subscripts, truth, and, or, not, if. -/
namespace Vm
open PySem PySem.Spec PyProof.Rows L2

section
variable {C : Pc} {F : Fr0} {W : WX} {own : List Nat} {m ma mb : Mode} {ρ : Env} {σ : L2.St} {H H' H1 : Hp} {X : Cx} {N : List Str} {sc : Scope} {k : Nat} {cl : Bool}
variable {ra rb : Env → R D} {ta tb : Env → R Bool} {ras : Env → R (List D)} {a b : Expr} {es : List Expr} {pos : Pos} {Q : VK}

/-- the mode of a name -/
def mdVar (own : List Nat) (i : Nat) : Mode := if i ∈ own then .b else .s
theorem e_var (hx : XOk C cl k N sc W X) {i : Nat} {x : Str} (hN : N[i]? = some x) (hv : Vis sc x) (hd : (x == ("__debug__" : Str)) = false) (hcd : (x == ("__classdict__" : Str)) = false) :
    PE X (.Name x pos) (TEv C F W own (mdVar own i) fun ρ => match ρ[i]? with | some (some d) => .ok d | _ => .bad) := by
  refine PE.imp (pe_var (i := i) (by rw [hx.eN]; exact hN) (by rw [hx.eS]; exact hv) hd hcd) ?_
  intro σ H Q ⟨ρ, S, po⟩
  show tVar i σ H Q
  simp only at po
  split at po
  · rename_i d e
    obtain ⟨v, h1, h2, h3⟩ := S.slot i d e
    refine ⟨v, h1, po v H (Ext.refl H) S.g ?_⟩
    unfold mdVar
    split
    · exact h3
    · rename_i n
      exact h2 n
  · exact po.elim
/-- a written value -/
theorem e_c {d : D} {v : V} {e : Expr} (h : PE X e (tC v)) (r : ∀ Av H, Rep C Av H d v) (hm : isMut d = false) : PE X e (TEv C F W own m fun _ => .ok d) := by
  refine PE.imp h ?_
  intro σ H Q ⟨ρ, S, po⟩
  exact po v H (Ext.refl H) S.g (RepM.flat (r _ _) hm)

/-! ### arguments, displays -/
theorem a_nil : PA X [] (TAv C F W own fun _ => .ok []) := by
  refine PA.imp pa_nil ?_
  intro σ H Q ⟨ρ, S, po⟩
  exact po [] H (Ext.refl H) S.g Reps.nil
theorem a_cons (fo : F.Ok) (hm : ma ≠ .b) (ha : PE X a (TEv C F W own ma ra)) (hr : PA X es (TAv C F W own ras)) (hs : starEach (a :: es) X.env = (false, eval a X.env) :: starEach es X.env) :
    PA X (a :: es) (TAv C F W own fun ρ => (ra ρ).bind fun x => (ras ρ).bind fun xs => .ok (x :: xs)) := by
  refine PA.imp (pa_cons ha hr hs) ?_
  intro σ H Q ⟨ρ, S, po⟩
  refine ⟨ρ, S, ?_⟩
  have po : PostA C F W own ρ σ H ((ra ρ).bind fun x => (ras ρ).bind fun xs => .ok (x :: xs)) Q := po
  cases e : ra ρ with
  | bad => rw [e] at po; exact po
  | exc c x => rw [e] at po; exact po
  | ok d =>
    rw [e] at po
    intro v H1 e1 g1 q1
    have S1 := S.ext e1 g1
    have q1 := q1.s hm (avTr S fo)
    refine ⟨ρ, S1, ?_⟩
    have po1 := PostA.at po e1
    show PostA C F W own ρ σ H1 (ras ρ) _
    cases e' : ras ρ with
    | bad => simp only [e'] at po1; exact po1
    | exc c x => simp only [e'] at po1; exact po1
    | ok ds =>
      simp only [e'] at po1
      intro vs H2 e2 g2 q2
      exact po1 (v :: vs) H2 e2 g2 (.cons (q1.ext e2) q2)
/-- all borrowed: one argument that is only looked at -/
theorem e_tup {x1 : Nat} (hs : PA X es (TAv C F W own ras)) : PE X (.Tuple es x1 pos) (TEv C F W own .s fun ρ => (ras ρ).bind fun xs => .guard (xs.length ≤ maxLen) (.tup xs)) := by
  refine PE.imp (pe_tup hs) ?_
  intro σ H Q ⟨ρ, S, po⟩
  refine tav_bind S po fun ds vs H1 _ e1 S1 q1 po1 => ?_
  unfold R.guard at po1
  split at po1
  · rename_i h
    rw [q1.length, lineEq] at h
    refine ⟨h, fun p hp => po1 _ _ (Ext.new hp) (g_new S1.g hp) ?_⟩
    simp only [RepM, Rep]
    exact ⟨p, vs, rfl, .of upd_same, q1.ext (Ext.new hp)⟩
  · exact po1.elim
theorem e_lst (hs : PA X es (TAv C F W own ras)) : PE X (.List es pos) (TEv C F W own .f fun ρ => (ras ρ).bind fun xs => .guard (xs.length ≤ maxLen) (.lst xs)) := by
  refine PE.imp (pe_lst hs) ?_
  intro σ H Q ⟨ρ, S, po⟩
  refine tav_bind S po fun ds vs H1 _ e1 S1 q1 po1 => ?_
  unfold R.guard at po1
  split at po1
  · rename_i h
    rw [q1.length, lineEq] at h
    exact ⟨h, fun p hp => po1 _ _ (Ext.new hp) (g_new S1.g hp) ⟨p, vs, rfl, nw hp, upd_same, (q1.avoid hp).ext (Ext.new hp)⟩⟩
  · exact po1.elim

/-! ### one operand -/
theorem e_neg (ha : PE X a (TEv C F W own ma ra)) : PE X (.UnaryOp .USub a pos) (TEv C F W own .s fun ρ => (ra ρ).bind fun x => match x with | .int i => .ok (.int (-i)) | _ => .bad) := by
  refine PE.imp (pe_un un_neg ha) ?_
  intro σ H Q ⟨ρ, S, po⟩
  refine tev_bind S po fun x v H1 _ e1 S1 q1 po1 => ?_
  have q1 := q1.o
  cases x <;> try exact po1.elim
  simp only [RepO, Rep] at q1
  subst q1
  exact ⟨_, rfl, po1 _ H1 (Ext.refl H1) S1.g (by simp [RepM, Rep])⟩

/-- truth by values -/
theorem v_truth {Av : Addr → Prop} {x : D} {v : V} {c : Bool} (r : RepO C Av H x v) (e : truth x = .ok c) : TruV C.K v H c := by
  cases x with
  | non => simp only [RepO, Rep] at r; subst r; simp only [truth, R.ok.injEq] at e; exact e.symm
  | bl b => simp only [RepO, Rep] at r; subst r; simp only [truth, R.ok.injEq] at e; exact e.symm
  | int b => simp only [RepO, Rep] at r; subst r; simp only [truth, R.ok.injEq] at e; exact e.symm
  | str b =>
    simp only [RepO, Rep] at r
    subst r
    simp only [truth, R.guard] at e
    split at e
    · rename_i h
      simp only [R.ok.injEq] at e
      rw [lineEq] at h
      refine ⟨h, ?_⟩
      rw [← e]
      by_cases q : b.length = 0
      · simp [q]
      · have q2 : ¬ ((b.length : Int) = 0) := by omega
        rw [show (b.length != 0) = true from bne_iff_ne.mpr q, show ((b.length : Int) != 0) = true from bne_iff_ne.mpr q2]
    · cases e
  | lst ds =>
    obtain ⟨a, xs, rfl, ha, r⟩ := r
    simp only [truth, R.ok.injEq] at e
    refine .inl ⟨xs, .of ha, ?_⟩
    rw [← e]
    have := r.length
    cases ds <;> cases xs <;> first | rfl | simp at this
  | tup ds =>
    simp only [RepO, Rep] at r
    obtain ⟨a, xs, rfl, ha, r⟩ := r
    simp only [truth, R.ok.injEq] at e
    refine .inr (.inl ⟨xs, ha, ?_⟩)
    rw [← e]
    have := r.length
    cases ds <;> cases xs <;> first | rfl | simp at this
  | _ => have e : R.bad = R.ok c := e; cases e
/-- an expression whose test is its value's truth -/
theorem t_of (hx : XOk C cl k N sc W X) (ha : PE X a (TEv C F W own ma ra)) (he : ∀ whole, isTrue a X.env whole = (do let v ← whole; standAt a.pos; holding [v] (truthy v))) : PT X a (TTv C F W own (tRb ra)) := by
  refine PT.imp (pt_truth ha he) ?_
  intro σ H Q ⟨ρ, S, po⟩
  refine ⟨ρ, S, ?_⟩
  have po : PostT C W σ H ((ra ρ).bind truth) Q := po
  cases e : ra ρ with
  | bad => rw [e] at po; exact po
  | exc c x => rw [e] at po; exact po
  | ok d =>
    rw [e] at po
    intro v H1 e1 g1 q1
    have po1 : PostT C W σ H1 (truth d) Q := PostT.at po e1
    cases e' : truth d with
    | bad => rw [e'] at po1; exact po1.elim
    | exc c x => cases d <;> simp [truth, R.guard] at e' <;> split at e' <;> cases e'
    | ok c =>
      rw [e'] at po1
      rw [hx.K]
      exact ⟨c, v_truth q1.o e', po1 H1 (Ext.refl H1) g1⟩
theorem e_not (hx : XOk C cl k N sc W X) (ha : PE X a (TEv C F W own ma ra)) : PE X (.UnaryOp .Not a pos) (TEv C F W own .s fun ρ => (ra ρ).bind fun x => (truth x).bind fun b => .ok (.bl (!b))) := by
  refine PE.imp (pe_notT ha) ?_
  intro σ H Q ⟨ρ, S, po⟩
  refine tev_bind S po fun x v H1 _ e1 S1 q1 po1 => ?_
  cases e' : truth x with
  | bad => rw [e'] at po1; exact po1.elim
  | exc c y => cases x <;> simp [truth, R.guard] at e' <;> split at e' <;> cases e'
  | ok c =>
    rw [e'] at po1
    rw [hx.K]
    exact ⟨c, v_truth q1.o e', po1 _ H1 (Ext.refl H1) S1.g (by simp [RepM, Rep])⟩
theorem t_not (ha : PT X a (TTv C F W own (tRb ra))) : PT X (.UnaryOp .Not a pos) (TTv C F W own (tRb fun ρ => (ra ρ).bind fun x => (truth x).bind fun b => .ok (.bl (!b)))) := by
  refine PT.imp (pt_not ha) ?_
  intro σ H Q ⟨ρ, S, po⟩
  refine ⟨ρ, S, ?_⟩
  have po : PostT C W σ H (((ra ρ).bind fun x => (truth x).bind fun b => .ok (.bl (!b))).bind truth) Q := po
  show PostT C W σ H ((ra ρ).bind truth) _
  cases e : ra ρ with
  | bad => rw [e] at po; exact po
  | exc c x => rw [e] at po; exact po
  | ok d =>
    rw [e] at po
    show PostT C W σ H (truth d) _
    have po : PostT C W σ H (((truth d).bind fun b => .ok (.bl (!b))).bind truth) Q := po
    cases e' : truth d with
    | bad => rw [e'] at po; exact po
    | exc c x => rw [e'] at po; exact po
    | ok c => rw [e'] at po; exact po
theorem e_ite {c : Expr} (fo : F.Ok) (hma : ma ≠ .b) (hmb : mb ≠ .b) (hc : PT X c (TTv C F W own ta)) (ha : PE X a (TEv C F W own ma ra)) (hb : PE X b (TEv C F W own mb rb)) :
    PE X (.IfExp c a b pos) (TEv C F W own .s fun ρ => (ta ρ).bind fun c => if c then ra ρ else rb ρ) := by
  refine PE.imp (pe_ifExp hc ha hb) ?_
  intro σ H Q ⟨ρ, S, po⟩
  refine ttv_bind S po fun c H1 _ e1 S1 po1 => ?_
  have mv : ∀ {mm : Mode} {r : R D}, mm ≠ .b → PostE C F W own .s ρ σ H1 r Q → PostE C F W own mm ρ σ H1 r Q := by
    intro mm r hm po
    cases r with
    | bad => exact po
    | exc c x => exact po
    | ok d => exact fun v H' e g q => po v H' e g (q.s hm (avTr S1 fo))
  cases c with
  | true => exact ⟨ρ, S1, mv hma po1⟩
  | false => exact ⟨ρ, S1, mv hmb po1⟩

/-! ### and, or -/
/-- what `and`, `or` give: all but the last are truth values -/
def andor (k : Bool) (r : R D) (s : R D) : R D := r.bind fun x => match x with
  | .bl b => if b = k then s else .ok (.bl b)
  | _ => .bad
theorem e_one {op : BoolOp} (h : PE X a (TEv C F W own ma ra)) : PE X (.BoolOp op [a] pos) (TEv C F W own ma ra) := pe_one h
theorem e_and (hb' : mb ≠ .b) (fo : F.Ok) (ha : PE X a (TEv C F W own ma ra)) (hb : PE X (.BoolOp .And (b :: es) pos) (TEv C F W own mb rb)) :
    PE X (.BoolOp .And (a :: b :: es) pos) (TEv C F W own .s fun ρ => andor true (ra ρ) (rb ρ)) := by
  refine PE.imp (pe_and ha hb) ?_
  intro σ H Q ⟨ρ, S, po⟩
  refine tev_bind S po fun x v H1 _ e1 S1 q1 po1 => ?_
  cases x <;> try exact po1.elim
  rename_i c hc
  have q1 := q1.o
  simp only [RepO, Rep] at q1
  subst q1
  refine ⟨c, rfl, ?_⟩
  cases c with
  | true =>
    refine iteT ⟨ρ, S1, ?_⟩
    have po1 : PostE C F W own .s ρ σ H1 (rb ρ) Q := po1
    cases e : rb ρ with
    | bad => rw [e] at po1; exact po1
    | exc c x => rw [e] at po1; exact po1
    | ok d => rw [e] at po1; exact fun v H' e g q => po1 v H' e g (q.s hb' (avTr S1 fo))
  | false => exact iteF (po1 _ H1 (Ext.refl H1) S1.g (by simp [RepM, Rep]))
theorem e_or (hb' : mb ≠ .b) (fo : F.Ok) (ha : PE X a (TEv C F W own ma ra)) (hb : PE X (.BoolOp .Or (b :: es) pos) (TEv C F W own mb rb)) :
    PE X (.BoolOp .Or (a :: b :: es) pos) (TEv C F W own .s fun ρ => andor false (ra ρ) (rb ρ)) := by
  refine PE.imp (pe_or ha hb) ?_
  intro σ H Q ⟨ρ, S, po⟩
  refine tev_bind S po fun x v H1 _ e1 S1 q1 po1 => ?_
  cases x <;> try exact po1.elim
  rename_i c hc
  have q1 := q1.o
  simp only [RepO, Rep] at q1
  subst q1
  refine ⟨c, rfl, ?_⟩
  cases c with
  | false =>
    refine iteF ⟨ρ, S1, ?_⟩
    have po1 : PostE C F W own .s ρ σ H1 (rb ρ) Q := po1
    cases e : rb ρ with
    | bad => rw [e] at po1; exact po1
    | exc c x => rw [e] at po1; exact po1
    | ok d => rw [e] at po1; exact fun v H' e g q => po1 v H' e g (q.s hb' (avTr S1 fo))
  | true => exact iteT (po1 _ H1 (Ext.refl H1) S1.g (by simp [RepM, Rep]))
theorem w_one {op : BoolOp} (h : PT X a (TTv C F W own ta)) : PW X (.BoolOp op [a] pos) (TTv C F W own ta) := by
  cases op
  · exact pw_and1 h
  · exact pw_or1 h
theorem w_and (ha : PT X a (TTv C F W own (tRb ra))) (hb : PW X (.BoolOp .And (b :: es) pos) (TTv C F W own (tRb rb))) :
    PW X (.BoolOp .And (a :: b :: es) pos) (TTv C F W own (tRb fun ρ => andor true (ra ρ) (rb ρ))) := by
  refine PW.imp (pw_and ha hb) ?_
  intro σ H Q ⟨ρ, S, po⟩
  refine ⟨ρ, S, ?_⟩
  have po : PostT C W σ H ((andor true (ra ρ) (rb ρ)).bind truth) Q := po
  show PostT C W σ H ((ra ρ).bind truth) _
  cases e : ra ρ with
  | bad => rw [e] at po; exact po
  | exc c x => rw [e] at po; exact po
  | ok d =>
    rw [e] at po
    cases d <;> try exact po.elim
    rename_i c
    intro H1 e1 g1
    have S1 := S.ext e1 g1
    have po1 := PostT.at po e1
    cases c with
    | true => exact iteT ⟨ρ, S1, po1⟩
    | false => exact iteF (po1 H1 (Ext.refl H1) g1)
theorem w_or (ha : PT X a (TTv C F W own (tRb ra))) (hb : PW X (.BoolOp .Or (b :: es) pos) (TTv C F W own (tRb rb))) :
    PW X (.BoolOp .Or (a :: b :: es) pos) (TTv C F W own (tRb fun ρ => andor false (ra ρ) (rb ρ))) := by
  refine PW.imp (pw_or ha hb) ?_
  intro σ H Q ⟨ρ, S, po⟩
  refine ⟨ρ, S, ?_⟩
  have po : PostT C W σ H ((andor false (ra ρ) (rb ρ)).bind truth) Q := po
  show PostT C W σ H ((ra ρ).bind truth) _
  cases e : ra ρ with
  | bad => rw [e] at po; exact po
  | exc c x => rw [e] at po; exact po
  | ok d =>
    rw [e] at po
    cases d <;> try exact po.elim
    rename_i c
    intro H1 e1 g1
    have S1 := S.ext e1 g1
    have po1 := PostT.at po e1
    cases c with
    | false => exact iteF ⟨ρ, S1, po1⟩
    | true => exact iteT (po1 H1 (Ext.refl H1) g1)

/-! ### a < b < c -/
variable {c : Expr} {mc : Mode} {rc : Env → R D}
def chnR (o p : COp) (x y : D) (r : R D) : R D := (cmpD o x y).bind fun z => match z with
  | .bl true => r.bind fun w => cmpD p y w
  | .bl false => .ok (.bl false)
  | _ => .bad
theorem chn_core (o p : COp) : ∀ σ H Q, TEv C F W own .s (fun ρ => (ra ρ).bind fun x => (rb ρ).bind fun y => chnR o p x y (rc ρ)) σ H Q →
    tChain (rCmp C.K o) (rCmp C.K p) (TEv C F W own ma ra) (TEv C F W own mb rb) (TEv C F W own mc rc) σ H Q := by
  intro σ H Q ⟨ρ, S, po⟩
  refine tev_bind S po fun x v H1 _ e1 S1 q1 po1 => tev_bind S1 po1 fun y u H2 _ e2 S2 q2 po2 => ?_
  refine v_cmp (W := W) o S2 (q1.o.ext e2) q2.o ?_
  cases e : cmpD o x y with
  | bad => unfold chnR at po2; rw [e] at po2; exact po2.elim
  | exc c x => unfold chnR at po2; rw [e] at po2; exact po2
  | ok d =>
    obtain ⟨c, rfl⟩ := cmp_bl e
    unfold chnR at po2
    rw [e] at po2
    intro w H3 e3 g3 q3
    simp only [RepM, Rep] at q3
    subst q3
    have S3 := S2.ext e3 g3
    have po3 := PostE.at po2 e3
    refine ⟨c, rfl, ?_⟩
    cases c with
    | true =>
      refine iteT ?_
      exact tev_bind S3 po3 fun z t H4 _ e4 S4 q4 po4 => v_cmp p S4 (q2.o.ext (e3.trans e4)) q4.o po4
    | false => exact iteF (po3 _ H3 (Ext.refl H3) g3 (by simp [RepM, Rep]))
theorem chn_bl {o p : COp} {x y d : D} {r : R D} (h : chnR o p x y r = .ok d) : ∃ c, d = .bl c := by
  unfold chnR at h
  cases e : cmpD o x y <;> rw [e] at h <;> try cases h
  obtain ⟨c, rfl⟩ := cmp_bl e
  cases c with
  | true =>
    cases r <;> try cases h
    exact cmp_bl h
  | false => cases h; exact ⟨_, rfl⟩
theorem e_chn (hx : XOk C cl k N sc W X) (o p : COp) (ha : PE X a (TEv C F W own ma ra)) (hb : PE X b (TEv C F W own mb rb)) (hc : PE X c (TEv C F W own mc rc)) (hm : lastMarks [copOf o, copOf p] [b, c] = false) :
    PE X (.Compare a [copOf o, copOf p] [b, c] pos) (TEv C F W own .s fun ρ => (ra ρ).bind fun x => (rb ρ).bind fun y => chnR o p x y (rc ρ)) :=
  PE.imp (pe_chain (op_cmp hx o) (op_cmp hx p) ha hb hc hm) (chn_core o p)
theorem t_chn (hx : XOk C cl k N sc W X) (o p : COp) (ha : PE X a (TEv C F W own ma ra)) (hb : PE X b (TEv C F W own mb rb)) (hc : PE X c (TEv C F W own mc rc)) (hm : lastMarks [copOf o, copOf p] [b, c] = false) :
    PT X (.Compare a [copOf o, copOf p] [b, c] pos) (TTv C F W own (tRb fun ρ => (ra ρ).bind fun x => (rb ρ).bind fun y => chnR o p x y (rc ρ))) := by
  refine PT.imp (pt_chain (op_cmp hx o) (op_cmp hx p) ha hb hc hm) ?_
  intro σ H Q ⟨ρ, S, po⟩
  refine chn_core o p σ H (fun x H' => ∃ k, x = .bl k ∧ Q k H') ⟨ρ, S, ?_⟩
  show PostE C F W own .s ρ σ H ((ra ρ).bind fun x => (rb ρ).bind fun y => chnR o p x y (rc ρ)) _
  have po : PostT C W σ H (((ra ρ).bind fun x => (rb ρ).bind fun y => chnR o p x y (rc ρ)).bind truth) Q := po
  generalize e : ((ra ρ).bind fun x => (rb ρ).bind fun y => chnR o p x y (rc ρ)) = r at po ⊢
  cases r with
  | bad => exact po
  | exc c x => exact po
  | ok d =>
    have hd : ∃ c, d = .bl c := by
      cases e1 : ra ρ <;> rw [e1] at e <;> try cases e
      cases e2 : rb ρ <;> rw [e2] at e <;> try cases e
      exact chn_bl e
    obtain ⟨c, rfl⟩ := hd
    intro v H' e' g q
    simp only [RepM, Rep] at q
    subst q
    exact ⟨c, rfl, po H' e' g⟩

/-! ### subscripts -/
theorem v_ix {x y : D} {v u : V} (S : Sr C F own ρ σ H) (r1 : RepO C (AvO F own ρ σ) H x v) (r2 : RepO C (AvO F own ρ σ) H y u) (po : PostE C F W own .s ρ σ H (ixD x y) Q) : rIx C.K v u H Q := by
  unfold ixD at po
  split at po
  · rename_i xs i
    obtain ⟨a, vs, rfl, ha, ra⟩ := r1
    simp only [RepO, Rep] at r2
    subst r2
    cases e : L2.atI xs i with
    | none => rw [e] at po; exact po.elim
    | some d =>
      rw [e] at po
      obtain ⟨w, h1, h2⟩ := ra.atI e
      exact .inl ⟨a, vs, i, w, rfl, rfl, .of ha, h1, po w H (Ext.refl H) S.g h2⟩
  · rename_i xs i
    simp only [RepO, Rep] at r1 r2
    obtain ⟨a, vs, rfl, ha, ra⟩ := r1
    subst r2
    cases e : L2.atI xs i with
    | none => rw [e] at po; exact po.elim
    | some d =>
      rw [e] at po
      obtain ⟨w, h1, h2⟩ := ra.atI e
      exact .inr (.inl ⟨a, vs, i, w, rfl, rfl, ha, h1, po w H (Ext.refl H) S.g h2⟩)
  · rename_i ns i
    simp only [RepO, Rep] at r1 r2
    obtain ⟨a, rfl, ha⟩ := r1
    subst r2
    cases e : L2.atI ns i with
    | none => rw [e] at po; exact po.elim
    | some d =>
      rw [e] at po
      have h1 : L2.atI (ns.map V.int) i = some (.int d) := by
        unfold L2.atI at e ⊢
        rw [List.length_map]
        cases q : ixN ns.length i with
        | none => rw [q] at e; cases e
        | some j =>
          rw [q] at e
          have e : ns[j]? = some d := e
          show (ns.map V.int)[j]? = some (.int d)
          rw [List.getElem?_map, e]
          rfl
      exact .inl ⟨a, _, i, _, rfl, rfl, ha.sq, h1, po _ H (Ext.refl H) S.g (by simp [RepM, Rep])⟩
  · rename_i z i
    simp only [RepO, Rep] at r1 r2
    subst r1 r2
    unfold R.guard at po
    split at po
    · rename_i h
      rw [lineEq] at h
      cases e : L2.atI z.cps.toList i with
      | none => simp only [R.bind, e] at po; exact po.elim
      | some d =>
        simp only [R.bind, e] at po
        exact .inr (.inr ⟨z, i, d, rfl, rfl, h, e, po _ H (Ext.refl H) S.g (by simp [RepM, Rep])⟩)
    · exact po.elim
  · exact po.elim
theorem e_ix (hx : XOk C cl k N sc W X) (ha : PE X a (TEv C F W own ma ra)) (hb : PE X b (TEv C F W own mb rb)) (hs : PlainIx b) :
    PE X (.Subscript a b pos) (TEv C F W own .s fun ρ => (ra ρ).bind fun x => (rb ρ).bind fun y => ixD x y) :=
  PE.imp (pe_ix ix_seq ha hb hs) (two rfl fun ρ σ H x y v u Q S r1 r2 po => by rw [hx.K]; exact v_ix S r1 r2 po)
/-- a slice's part -/
def TOv (C : Pc) (F : Fr0) (W : WX) (own : List Nat) (r : Env → R (Option Int)) : TO := fun σ H Q => ∃ ρ, Sr C F own ρ σ H ∧ match r ρ with
  | .ok o => ∀ H', Ext H H' → C.G H' → Q o H'
  | .exc c x => PostX C W σ H c x
  | .bad => False
theorem o_none : PO X none (TOv C F W own fun _ => .ok none) := ⟨fun pins s σ H Q I ⟨ρ, S, po⟩ => po_none.run pins s σ H Q I (po H (Ext.refl H) S.g)⟩
theorem o_some (ha : PE X a (TEv C F W own ma ra)) : PO X (some a) (TOv C F W own fun ρ => (ra ρ).bind fun x => partD [x]) := by
  refine ⟨fun pins s σ H Q I ⟨ρ, S, po⟩ => (po_some ha).run pins s σ H Q I ?_⟩
  refine ⟨ρ, S, ?_⟩
  cases e : ra ρ with
  | bad => simp only [e] at po
  | exc c x => simp only [e] at po; exact po
  | ok d =>
    simp only [e] at po
    intro v H1 e1 g1 q1
    cases d <;> try exact po.elim
    rename_i i
    have q1 := q1.o
    simp only [RepO, Rep] at q1
    subst q1
    exact ⟨i, rfl, po H1 e1 g1⟩
variable {lo hi : Option Expr} {rl rh : Env → R (Option Int)} {p2 : Pos}
theorem e_slc (hx : XOk C cl k N sc W X) (ha : PE X a (TEv C F W own ma ra)) (hl : PO X lo (TOv C F W own rl)) (hh : PO X hi (TOv C F W own rh)) :
    PE X (.Subscript a (.Slice lo hi none p2) pos) (TEv C F W own .f fun ρ => (ra ρ).bind fun x => (rl ρ).bind fun l => (rh ρ).bind fun h => slcD x l h) := by
  refine PE.imp (pe_slice (sl_list.or sl_tup) ha hl hh) ?_
  intro σ H Q ⟨ρ, S, po⟩
  refine tev_bind S po fun x v H1 _ e1 S1 q1 po1 => ?_
  refine ⟨ρ, S1, ?_⟩
  cases el : rl ρ with
  | bad => rw [el] at po1; exact po1
  | exc c x => rw [el] at po1; exact po1
  | ok l =>
    rw [el] at po1
    intro H2 e2 g2
    have S2 := S1.ext e2 g2
    have po2 := PostE.at po1 e2
    refine ⟨ρ, S2, ?_⟩
    cases eh : rh ρ with
    | bad => simp only [R.bind, eh] at po2; exact po2
    | exc c x => simp only [R.bind, eh] at po2; exact po2
    | ok h =>
      simp only [R.bind, eh] at po2
      intro H3 e3 g3
      have S3 := S2.ext e3 g3
      have po3 := PostE.at po2 e3
      have q3 := q1.o.ext (e2.trans e3)
      rw [hx.K]
      unfold slcD at po3
      split at po3
      · rename_i xs l' h'
        obtain ⟨a, vs, rfl, ha, ra⟩ := q3
        refine .inl ⟨a, vs, rfl, .of ha, fun p hp => ?_⟩
        exact po3 _ _ (Ext.new hp) (g_new g3 hp) ⟨p, _, rfl, nw hp, upd_same, ((ra.cut _ _).avoid hp).ext (Ext.new hp)⟩
      · rename_i xs l' h'
        simp only [RepO, Rep] at q3
        obtain ⟨a, vs, rfl, ha, ra⟩ := q3
        unfold R.guard at po3
        split at po3
        · rename_i hn
          rw [ra.length] at hn
          refine .inr ⟨a, vs, rfl, ha, hn, fun p hp => po3 _ _ (Ext.new hp) (g_new g3 hp) ?_⟩
          simp only [RepM, Rep]
          exact ⟨p, _, rfl, .of upd_same, (ra.cut _ _).ext (Ext.new hp)⟩
        · exact po3.elim
      · exact po3.elim
end
end Vm

set_option maxRecDepth 100000
set_option maxHeartbeats 2000000
/-! VmG: attributes, calls of the program's defs. -/
namespace Vm
open PySem PySem.Spec PyProof.Rows L2

/-! ### a def's promise -/
def PostC (C : Pc) (m : Mode) (A0 : Addr → Prop) (H : Hp) (r : R D) (Q : VK) (E : XK) : Prop := match r with
  | .ok d => ∀ v H', Ext H H' → C.G H' → RepM C m A0 H H' d v → Q v H'
  | .exc c x => ∀ cls dd H', Ext H H' → C.G H' → ExR C c x cls dd H' → E cls dd H'
  | .bad => False
def SpF (C : Pc) (m : Mode) (np : Nat) (call : List D → R D) : Sp := fun vs H Q E => ∃ ds A0, (∀ b, A0 b → ∃ o, H b = some o ∧ NoTbl o) ∧ C.G H ∧ Reps C A0 H ds vs ∧ ds.length = np ∧ PostC C m A0 H (call ds) Q E
/-- an __init__'s promise: the object at x, empty, is to become d -/
def SpI (C : Pc) (c np : Nat) (made : List D → R D) : Sp := fun vs H Q E => ∃ (x dx : Addr) (ws : List V) (ds : List D) (A0 : Addr → Prop), vs = .ref x :: ws ∧ H x = some (.ins (C.cA c) dx []) ∧ (∀ b, A0 b → ∃ o, H b = some o ∧ NoTbl o ∧ b ≠ x) ∧ C.G H ∧ Reps C (fun b => A0 b ∨ b = x) H ds ws ∧ ds.length + 1 = np ∧
  match made ds with
  | .ok d => ∀ H', (∀ b o, H b = some o → NoTbl o → b ≠ x → H' b = some o) → (∀ b, Nw H' b → Nw H b) → C.G H' →
      (∃ fs ys, d = .ins c fs ∧ H' x = some (.ins (C.cA c) dx ys) ∧ RepF C (fun b => A0 b ∨ b = x) H' fs ys) → Q .non H'
  | .exc k y => ∀ cls dd H', (∀ b o, H b = some o → NoTbl o → b ≠ x → H' b = some o) → (∀ b, Nw H' b → Nw H b) → C.G H' → ExR C k y cls dd H' → E cls dd H'
  | .bad => False

/-- a def called where the exception at hand is handled -/
structure FnHp (C : Pc) (k : Nat) (f : Nat) (sp : Sp) : Prop where
  len : ∀ vs H Q E, sp vs H Q E → vs.length = (C.fP f).length
  run : ∀ (A : Around) (outer : List PySem.Env) (s : Shared) (H : Hp) (args : Args) (us : List Value) (vs : List V) (Q : VK) (E : XK) (p : Addr × Obj), C.hot = some p → L2H.RoomH k A → L2H.PinOk outer H s p →
    Env0 C.prog C.w C.K C.mg C.base A outer s H → BindsTo s (C.fD f) args ((C.fP f).zip us) → Vals vs us → sp vs H Q E → codeAny (model C.prog C.w) A (.call (.ref (C.fA f)) args) (CR (L2.CX C.prog C.w) outer C.prog C.w H s Q E) s
def FOk (C : Pc) (cl : Bool) (k : Nat) (f : Nat) (sp : Sp) : Prop :=
  if cl = true then FnOk C.prog C.w C.K C.mg C.base (L2.CX C.prog C.w) k (C.fA f) (C.fD f) (C.fP f) sp else FnHp C k f sp
theorem FOk.len {C : Pc} {cl : Bool} {k f : Nat} {sp : Sp} (h : FOk C cl k f sp) : ∀ vs H Q E, sp vs H Q E → vs.length = (C.fP f).length := by
  unfold FOk at h
  split at h
  · exact h.len
  · exact h.len

section
variable {C : Pc} {F : Fr0} {W : WX} {own : List Nat} {m ma mb : Mode} {ρ : Env} {σ : L2.St} {H H' H1 : Hp} {X : Cx} {N : List Str} {sc : Scope} {k j f : Nat} {cl : Bool} {sp : Sp}
variable {ra rb : Env → R D} {ras rks : Env → R (List D)} {a b : Expr} {es : List Expr} {kws : List Keyword} {pos : Pos} {Q : VK}
variable {pins : List (Addr × Obj)} {s : Shared}

/-- what a callee's run ends in, in the caller's words -/
def EndC (X : Cx) (pins : List (Addr × Obj)) (σ : L2.St) (Q : VK) (r : Result) (s' : Shared) : Prop := match r with
  | .ok (.ret u) => EP X pins σ Q u s'
  | .ok _ => False
  | .error e => X.xe e s'
theorem runs (hx : XOk C cl k N sc W X) (ok : FOk C cl j f sp) (hj : j ≤ k) (I : Inv X pins σ H s) {args : Args} {us : List Value} {vs : List V} (b : BindsTo s (C.fD f) args ((C.fP f).zip us)) (r : Vals vs us) (h : sp vs H Q (WE W σ)) :
    codeAny (model X.prog X.w) X.A (.call (.ref (C.fA f)) args) (EndC X pins σ Q) s := by
  have tkc := passAt hx.tk σ
  unfold FOk at ok
  split at ok
  · rename_i hc
    have hr : Room j X.A := Room.mono (j := j) (k := k) ⟨(hx.calm hc).2, hx.room.dp, hx.room.un⟩ hj
    have e0 := I.env0
    rw [hx.prog, hx.w, hx.K, hx.mg, hx.base] at e0
    rw [hx.prog, hx.w]
    refine codeAny_mono (ok.run X.A X.stack s H args us vs Q (WE W σ) hr e0 b r h) fun r s' hq => ?_
    cases r with
    | error e =>
      refine tkc pins H s e s' I ?_
      rw [hx.prog, hx.w]
      exact hq
    | ok fl =>
      cases fl with
      | ret u =>
        refine I.after ?_
        rw [hx.prog, hx.w]
        exact hq
      | next => exact False.elim hq
      | brk => exact False.elim hq
      | cont => exact False.elim hq
  · rename_i hc
    have hc : cl = false := by simpa using hc
    obtain ⟨p, h1, h3⟩ := hx.hotc hc
    have P1 := I.pin p (List.mem_append_left _ h3)
    have hpin : L2H.PinOk X.stack H s p := ⟨P1.1, P1.2.1, fun hm => (List.mem_cons.mp (I.stkSub p.1 hm)).elim P1.2.2.1 P1.2.2.2.1, P1.2.2.2.2⟩
    have e0 := I.env0
    rw [hx.prog, hx.w, hx.K, hx.mg, hx.base] at e0
    rw [hx.prog, hx.w]
    refine codeAny_mono (ok.run X.A X.stack s H args us vs Q (WE W σ) p h1 (hx.room.mono hj) hpin e0 b r h) fun r s' hq => ?_
    cases r with
    | error e =>
      refine tkc pins H s e s' I ?_
      rw [hx.prog, hx.w]
      exact hq
    | ok fl =>
      cases fl with
      | ret u =>
        refine I.after ?_
        rw [hx.prog, hx.w]
        exact hq
      | next => exact False.elim hq
      | brk => exact False.elim hq
      | cont => exact False.elim hq
theorem run_call {g : Value} {us : List Value} {kw : List (Str × Value)} (h : codeAny (model X.prog X.w) X.A (.call g ⟨us, kw⟩) (EndC X pins σ Q) s) : wpAny (model X.prog X.w) X.A (call g us kw) (EP X pins σ Q) X.xe s := by
  refine wpAny_call (codeAny_mono h fun r s' hq => ?_)
  cases r with
  | error e => exact hq
  | ok fl =>
    cases fl with
    | ret u => exact hq
    | next => exact False.elim hq
    | brk => exact False.elim hq
    | cont => exact False.elim hq

/-! ### argument lists: no stars -/
def notSt : Expr → Bool
  | .Starred .. => false
  | _ => true
theorem star_cons {e : Expr} {es : List Expr} {env : PySem.Env} (h : notSt e = true) : starEach (e :: es) env = (false, eval e env) :: starEach es env := by
  cases e <;> first | rfl | cases h
theorem star_any {env : PySem.Env} {pos : Pos} : ∀ {es : List Expr}, es.all notSt = true → (backTo pos (starEach es env)).any (·.1) = false
  | [], _ => rfl
  | e :: es, h => by
    rw [List.all_cons, Bool.and_eq_true] at h
    rw [star_cons h.1]
    show (false || (backTo pos (starEach es env)).any (·.1)) = false
    rw [star_any h.2]
    rfl
theorem star_all {env : PySem.Env} {pos : Pos} : ∀ {es : List Expr}, es.all notSt = true → (backTo pos (starEach es env)).all (fun x => !x.1) = true
  | [], _ => rfl
  | e :: es, h => by
    rw [List.all_cons, Bool.and_eq_true] at h
    rw [star_cons h.1]
    show (true && (backTo pos (starEach es env)).all (fun x => !x.1)) = true
    rw [star_all h.2]
    rfl
/-- an argument list's reading, told by its evaluation -/
structure PAx (C : Pc) (F : Fr0) (W : WX) (own : List Nat) (X : Cx) (es : List Expr) (ras : Env → R (List D)) : Prop where
  pa : PA X es (TAv C F W own ras)
  nil : es = [] → ras = fun _ => .ok []
  ns : es.all notSt = true
theorem PAx.nil' : PAx C F W own X [] (fun _ => .ok []) := ⟨a_nil, fun _ => rfl, rfl⟩
theorem PAx.cons' (fo : F.Ok) (hm : ma ≠ .b) (ha : PE X a (TEv C F W own ma ra)) (hn : notSt a = true) (hr : PAx C F W own X es ras) : PAx C F W own X (a :: es) (fun ρ => (ra ρ).bind fun x => (ras ρ).bind fun xs => .ok (x :: xs)) :=
  ⟨a_cons fo hm ha hr.pa (star_cons hn), fun h => (nomatch h), by rw [List.all_cons, hn, hr.ns]; rfl⟩
/-- keywords: all named -/
structure PKx (C : Pc) (F : Fr0) (W : WX) (own : List Nat) (X : Cx) (kws : List Keyword) (ks : List Str) (rks : Env → R (List D)) : Prop where
  pk : PK X kws (TAv C F W own rks)
  nm : kws.map (·.arg) = ks.map some
theorem PKx.nil' : PKx C F W own X [] [] (fun _ => .ok []) := ⟨⟨fun pos pins s σ H Q I ⟨ρ, S, po⟩ => pk_nil.run pos pins s σ H Q I (po [] H (Ext.refl H) S.g Reps.nil)⟩, rfl⟩
theorem PKx.cons' {ks : List Str} {x : Str} {p : Pos} (fo : F.Ok) (hm : ma ≠ .b) (ha : PE X a (TEv C F W own ma ra)) (hr : PKx C F W own X kws ks rks) :
    PKx C F W own X (⟨some x, a, p⟩ :: kws) (x :: ks) (fun ρ => (ra ρ).bind fun x => (rks ρ).bind fun xs => .ok (x :: xs)) := by
  refine ⟨⟨fun pos pins s σ H Q I ⟨ρ, S, po⟩ => (pk_cons ha hr.pk).run pos pins s σ H Q I ?_⟩, ?_⟩
  · refine ⟨ρ, S, ?_⟩
    have po : PostA C F W own ρ σ H ((ra ρ).bind fun x => (rks ρ).bind fun xs => .ok (x :: xs)) Q := po
    cases e : ra ρ with
    | bad => rw [e] at po; exact po
    | exc c x => rw [e] at po; exact po
    | ok d =>
      rw [e] at po
      intro v H1 e1 g1 q1
      have S1 := S.ext e1 g1
      have q1 := q1.s hm (avTr S fo)
      refine ⟨ρ, S1, ?_⟩
      have po1 := PostA.at po e1
      show PostA C F W own ρ σ H1 (rks ρ) _
      cases e' : rks ρ with
      | bad => simp only [e'] at po1; exact po1
      | exc c x => simp only [e'] at po1; exact po1
      | ok ds =>
        simp only [e'] at po1
        intro vs H2 e2 g2 q2
        exact po1 (v :: vs) H2 e2 g2 (.cons (q1.ext e2) q2)
  · rw [List.map_cons, List.map_cons, hr.nm]
theorem kw_all {env : PySem.Env} {pos : Pos} : ∀ {kws : List Keyword} {ks : List Str}, kws.map (·.arg) = ks.map some → (backToKw pos (keywordEach kws env)).all (·.1.isSome) = true ∧ (backToKw pos (keywordEach kws env)).filterMap (·.1) = ks ∧ (backToKw pos (keywordEach kws env)).any (·.1.isNone) = false
  | [], [], _ => ⟨rfl, rfl, rfl⟩
  | [], _ :: _, h => by simp at h
  | _ :: _, [], h => by simp at h
  | ⟨n, e, p⟩ :: kws, k :: ks, h => by
    rw [List.map_cons, List.map_cons, List.cons.injEq] at h
    obtain ⟨h1, h2⟩ := h
    have h1 : n = some k := h1
    subst h1
    obtain ⟨a, b, c⟩ := kw_all (env := env) (pos := pos) h2
    refine ⟨?_, ?_, ?_⟩
    · show (true && (backToKw pos (keywordEach kws env)).all (·.1.isSome)) = true
      rw [a]
      rfl
    · show k :: (backToKw pos (keywordEach kws env)).filterMap (·.1) = _
      rw [b]
    · show (false || (backToKw pos (keywordEach kws env)).any (·.1.isNone)) = false
      rw [c]
      rfl

/-- a callee known by its place, the arguments, the call -/
theorem cw0 (hx : XOk C cl k N sc W X) {g : Value} {first : List Value} {Q : Value → Shared → Prop} (hk : PySem.W.keepIn C.K g = true) (ha : PAx C F W own X es ras) (I : Inv X pins σ H s)
    (h : TAv C F W own ras σ H fun vs H1 => ∀ us s1, Inv X pins σ H1 s1 → Vals vs us → wpAny (model X.prog X.w) X.A (call g (first ++ us)) Q X.xe s1) :
    wpAny (model X.prog X.w) X.A (callWith pos g first (backTo pos (starEach es X.env)) []) Q X.xe s := by
  rw [← hx.K] at hk
  cases es with
  | nil =>
    obtain ⟨ρ, S, po⟩ := h
    rw [ha.nil rfl] at po
    exact PySem.W.callWith_K0 I.kIn hk (po [] H (Ext.refl H) S.g Reps.nil [] s I .nil)
  | cons e es =>
    have ns := ha.ns
    rw [List.all_cons, Bool.and_eq_true] at ns
    refine PySem.W.callWith_K (h₀ := X.base) I.ok.mod.kin hk (thn (ha.pa.run pos pins s σ H _ I h) fun us s1 ⟨vs, H1, I1, r, q⟩ => ⟨I1.kIn, ?_⟩) (star_cons ns.1) (star_any ns.2)
    exact q us s1 I1 r
theorem cwk (hx : XOk C cl k N sc W X) {ks : List Str} {g : Value} {first : List Value} {Q : Value → Shared → Prop} (hk : PySem.W.keepIn C.K g = true) (ha : PAx C F W own X es ras) (hkw : PKx C F W own X kws ks rks) (I : Inv X pins σ H s)
    (h : TAv C F W own ras σ H fun vs H1 => TAv C F W own rks σ H1 fun zs H2 => ∀ us ws s2, Inv X pins σ H2 s2 → Vals vs us → Vals zs ws → wpAny (model X.prog X.w) X.A (call g (first ++ us) (ks.zip ws)) Q X.xe s2) :
    wpAny (model X.prog X.w) X.A (callWith pos g first (backTo pos (starEach es X.env)) (backToKw pos (keywordEach kws X.env))) Q X.xe s := by
  rw [← hx.K] at hk
  obtain ⟨k1, k2, k3⟩ := kw_all (env := X.env) (pos := pos) hkw.nm
  cases es with
  | nil =>
    obtain ⟨ρ, S, po⟩ := h
    rw [ha.nil rfl] at po
    have po := po [] H (Ext.refl H) S.g Reps.nil
    refine PySem.W.callWith_KW0 (h₀ := X.base) I.ok.mod.kin hk k1 (thn (hkw.pk.run pos pins s σ H _ I po) fun ws s2 ⟨zs, H2, I2, rz, q2⟩ => ⟨I2.kIn, ?_⟩) (by rw [k3]; rfl)
    rw [k2]
    exact q2 [] ws s2 I2 .nil rz
  | cons e es =>
    have ns := ha.ns
    have nsA := ha.ns
    rw [List.all_cons, Bool.and_eq_true] at ns
    refine PySem.W.callWith_KW (h₀ := X.base) I.ok.mod.kin hk k1 (thn (ha.pa.run pos pins s σ H _ I h) fun us s1 ⟨vs, H1, I1, r, q⟩ => ?_) (by rw [star_any nsA, k3]; rfl) (star_cons ns.1)
    refine thn (hkw.pk.run pos pins s1 σ H1 _ I1 q) fun ws s2 ⟨zs, H2, I2, rz, q2⟩ => ⟨I2.kIn, ?_⟩
    rw [k2]
    exact q2 us ws s2 I2 r rz

/-! ### how a def's parameters are filled -/
def fillV (dv : Nat → V) : Nat → List V → List V → List Src → List V
  | _, _, _, [] => []
  | n, vs, zs, c :: r => (match c with | .pos i => vs.getD i .non | .kw i => zs.getD i .non | .dfl _ => dv n) :: fillV dv (n + 1) vs zs r
/-- the shape is bound so -/
def ShpOk (C : Pc) (f : Nat) (S : Shp) : Prop := ∃ dv : Nat → V, (∀ n d, S.src[n]? = some (.dfl d) → ∀ Av H, Rep C Av H d (dv n)) ∧
  ∀ (s : Shared) (vs zs : List V) (us ws : List Value), C.K.In s.heap → Vals vs us → Vals zs ws → vs.length = S.np → zs.length = S.ks.length →
    ∃ all, Vals (fillV dv 0 vs zs S.src) all ∧ BindsTo s (C.fD f) ⟨us, S.ks.zip ws⟩ ((C.fP f).zip all)
theorem fill_rep {Av : Addr → Prop} {dv : Nat → V} {xs ys : List D} {vs zs : List V} (r1 : Reps C Av H xs vs) (r2 : Reps C Av H ys zs) : ∀ (src : List Src) (n : Nat) (ds : List D),
    (∀ i d, src[i]? = some (.dfl d) → Rep C Av H d (dv (n + i))) → fill xs ys src = some ds → Reps C Av H ds (fillV dv n vs zs src)
  | [], n, ds, _, e => by
    simp only [fill, Option.some.injEq] at e
    subst e
    exact Reps.nil
  | c :: r, n, ds, hd, e => by
    simp only [fill] at e
    split at e
    · rename_i d es h1 h2
      cases e
      refine Reps.cons ?_ (fill_rep r1 r2 r (n + 1) es (fun i d hi => by have := hd (i + 1) d (by simpa using hi); rw [show n + 1 + i = n + (i + 1) by omega]; exact this) h2)
      cases c with
      | pos i =>
        obtain ⟨v, hv, q⟩ := r1.get h1
        show Rep C Av H d (vs.getD i .non)
        rw [List.getD_eq_getElem?_getD, hv]
        exact q
      | kw i =>
        obtain ⟨v, hv, q⟩ := r2.get h1
        show Rep C Av H d (zs.getD i .non)
        rw [List.getD_eq_getElem?_getD, hv]
        exact q
      | dfl d' =>
        have h1 : d' = d := Option.some.inj h1
        rw [← h1]
        exact hd 0 d' rfl
    · cases e
end
end Vm

set_option maxRecDepth 100000
set_option maxHeartbeats 2000000
/-! VmH: the calls as rules. -/
namespace Vm
open PySem PySem.Spec PyProof.Rows L2

def PlainOk (C : Pc) (f : Nat) : Prop := ∀ (s : Shared) (us : List Value), C.K.In s.heap → us.length = (C.fP f).length → BindsTo s (C.fD f) ⟨us, []⟩ ((C.fP f).zip us)

section
variable {C : Pc} {F : Fr0} {W : WX} {own : List Nat} {m ma mb : Mode} {ρ : Env} {σ : L2.St} {H H' H1 : Hp} {X : Cx} {N : List Str} {sc : Scope} {k j f : Nat} {cl : Bool} {sp : Sp} {Φ : Sm}
variable {ra rb : Env → R D} {ras rks : Env → R (List D)} {a b o : Expr} {es : List Expr} {kws : List Keyword} {p pos apos : Pos} {Q : VK} {x : Str}
variable {pins : List (Addr × Obj)} {s : Shared}

theorem gl_of (hx : XOk C cl k N sc W X) (h : sc.names.lookup x = some .globalImplicit) : Gl X x := by
  show X.env.scope.names.lookup x = some .globalImplicit
  rw [hx.eS]
  exact h
theorem mg_of' (hx : XOk C cl k N sc W X) {u : Option Value} (h : C.mg x = u) : X.mg x = u := by rw [hx.mg]; exact h
theorem spF_of {np : Nat} {call : List D → R D} {ds : List D} {vs : List V} (fo : F.Ok) (S : Sr C F own ρ σ H) (q : Reps C (AvO F own ρ σ) H ds vs) (hl : call ds ≠ .bad → ds.length = np) (po : PostE C F W own m ρ σ H (call ds) Q) : SpF C m np call vs H Q (WE W σ) := by
  refine ⟨ds, AvO F own ρ σ, fun b h => S.av fo h, S.g, q, hl fun e => ?_, ?_⟩
  · rw [e] at po
    exact po
  · cases e : call ds with
    | bad => rw [e] at po; exact po
    | exc c x => rw [e] at po; exact po
    | ok d => rw [e] at po; exact po
/-- f(e, ..) -/
theorem e_call (hx : XOk C cl k N sc W X) (fo : F.Ok) {np : Nat} {call : List D → R D} (ok : FOk C cl j f (SpF C m np call)) (hj : j ≤ k) (hl : ∀ ds, call ds ≠ .bad → ds.length = np) (hb : PlainOk C f) (hg : sc.names.lookup x = some .globalImplicit) (hm : C.mg x = some (.ref (C.fA f)))
    (hk : PySem.W.keepIn C.K (.ref (C.fA f)) = true) (hd : (x == ("__debug__" : Str)) = false) (ha : PAx C F W own X es ras) : PE X (.Call (.Name x p) es [] pos) (TEv C F W own m fun ρ => (ras ρ).bind fun xs => call xs) := by
  refine ⟨fun pins s σ H Q I ⟨ρ, S, po⟩ => ?_⟩
  refine wpAny_Call_Name_kw (ld_glob I (gl_of hx hg) (mg_of' hx hm) ?_ hd)
  refine cw0 hx hk ha I (tav_bind S po fun ds vs H1 _ e1 S1 q1 po1 us s1 I1 r => ?_)
  have h := spF_of fo S1 q1 (hl ds) po1
  have hlen := ok.len _ _ _ _ h
  exact run_call (runs hx ok hj I1 (hb s1 _ (by rw [← hx.K]; exact I1.kIn) (by rw [List.nil_append, ← r.length]; exact hlen)) r h)
/-- f(e, .., k = v, ..) -/
theorem e_callK (hx : XOk C cl k N sc W X) (fo : F.Ok) {np : Nat} {call : List D → R D} {Sh : Shp} (ok : FOk C cl j f (SpF C m np call)) (hj : j ≤ k) (hl : ∀ ds, call ds ≠ .bad → ds.length = np) (hb : ShpOk C f Sh) (hg : sc.names.lookup x = some .globalImplicit) (hm : C.mg x = some (.ref (C.fA f)))
    (hk : PySem.W.keepIn C.K (.ref (C.fA f)) = true) (hd : (x == ("__debug__" : Str)) = false) (ha : PAx C F W own X es ras) (hkw : PKx C F W own X kws Sh.ks rks) :
    PE X (.Call (.Name x p) es kws pos) (TEv C F W own m fun ρ => (ras ρ).bind fun xs => (rks ρ).bind fun ys => (R.ofOpt (shpD Sh xs ys)).bind fun zs => call zs) := by
  refine ⟨fun pins s σ H Q I ⟨ρ, S, po⟩ => ?_⟩
  refine wpAny_Call_Name_kw (ld_glob I (gl_of hx hg) (mg_of' hx hm) ?_ hd)
  refine cwk hx hk ha hkw I (tav_bind S po fun ds vs H1 _ e1 S1 q1 po1 => tav_bind S1 po1 fun ys zs H2 _ e2 S2 q2 po2 us ws s2 I2 r rz => ?_)
  unfold shpD at po2
  split at po2
  · rename_i hn
    cases ef : fill ds ys Sh.src with
    | none => rw [ef] at po2; exact po2.elim
    | some fs =>
      rw [ef] at po2
      obtain ⟨dv, hdv, hbd⟩ := hb
      obtain ⟨all, hv, hbb⟩ := hbd s2 vs zs us ws (by rw [← hx.K]; exact I2.kIn) r rz (by rw [← q1.length]; exact hn.1) (by rw [← q2.length]; exact hn.2)
      have q3 := fill_rep (q1.ext e2) q2 Sh.src 0 fs (fun i d hi => by rw [Nat.zero_add]; exact hdv i d hi _ _) ef
      exact run_call (runs hx ok hj I2 (by rw [List.nil_append]; exact hbb) hv (spF_of fo S2 q3 (hl fs) po2))
  · exact po2.elim

/-! ### fields -/
theorem repF_look {Av : Addr → Prop} {g : Nat} (hg : g < C.nn) : ∀ {fs : List (Nat × D)} {ys : List (Str × V)}, RepF C Av H fs ys → match lookF g fs with
    | some d => ∃ v, ys.lookup (C.nm g) = some v ∧ Rep C Av H d v
    | none => ys.lookup (C.nm g) = none
  | [], [], _ => rfl
  | [], _ :: _, h => by simp [RepF] at h
  | _ :: _, [], h => by simp [RepF] at h
  | (f, d) :: fs, (s, v) :: ys, h => by
    simp only [RepF] at h
    obtain ⟨rfl, hn, hr, ht⟩ := h
    unfold lookF
    by_cases e : g = f
    · subst e
      rw [if_pos rfl]
      exact ⟨v, by simp [List.lookup], hr⟩
    · rw [if_neg e]
      have ne : (C.nm g == C.nm f) = false := by
        rw [beq_eq_false_iff_ne]
        exact fun q => e (C.inj g f hg hn q)
      have ih := repF_look hg ht
      rw [List.lookup_cons, ne]
      exact ih
theorem RepF.length {Av : Addr → Prop} : ∀ {fs : List (Nat × D)} {ys : List (Str × V)}, RepF C Av H fs ys → fs.length = ys.length
  | [], [], _ => rfl
  | [], _ :: _, h => by simp [RepF] at h
  | _ :: _, [], h => by simp [RepF] at h
  | (f, d) :: fs, (s, v) :: ys, h => by
    simp only [RepF] at h
    simp [RepF.length h.2.2.2]
theorem repF_put {Av : Addr → Prop} {g : Nat} {e : D} {w : V} (hg : g < C.nn) (r : Rep C Av H e w) : ∀ {fs : List (Nat × D)} {ys : List (Str × V)}, RepF C Av H fs ys → RepF C Av H (Vm.putF g e fs) (L2.putF (C.nm g) w ys)
  | [], [], _ => by
    simp only [Vm.putF, L2.putF, RepF]
    exact ⟨trivial, hg, r, trivial⟩
  | [], _ :: _, h => by simp [RepF] at h
  | _ :: _, [], h => by simp [RepF] at h
  | (f, d) :: fs, (s, v) :: ys, h => by
    simp only [RepF] at h
    obtain ⟨rfl, hn, hr, ht⟩ := h
    simp only [Vm.putF, L2.putF]
    by_cases q : g = f
    · subst q
      rw [if_pos rfl, if_pos rfl]
      simp only [RepF]
      exact ⟨trivial, hg, r, ht⟩
    · rw [if_neg q, if_neg fun z => q (C.inj f g hn hg z).symm]
      simp only [RepF]
      exact ⟨trivial, hn, hr, repF_put hg r ht⟩

/-- what the classes are -/
structure COk (C : Pc) (Φ : Sm) (cl : Bool) (k : Nat) (fm : Nat → Mode) (np : Nat → Nat) : Prop where
  attr : ∀ c f, f ∈ Φ.attrs c → Φ.prop c f = none → f < C.nn ∧ Cls C.K (C.cA c) ∧ NoAttr C.K (C.cA c) (C.nm f)
  prop : ∀ c f g, Φ.prop c f = some g → Cls C.K (C.cA c) ∧ ∃ p, PropOf C.K (C.cA c) (C.nm f) p (C.fA g)
  meth : ∀ c m g, m ≠ callName → Φ.meth c m = some g → m < C.nn ∧ Cls C.K (C.cA c) ∧ Meth C.K (C.cA c) (C.nm m) (C.fA g)
  callm : ∀ c g, Φ.meth c callName = some g → StX.CallO C.K (C.cA c) (C.fA g)
  bind : ∀ c m g, Φ.meth c m = some g ∨ Φ.prop c m = some g → PlainOk C g
  fn : ∀ g, FOk C cl k g (SpF C (fm g) (np g) (Φ.call g))
  len : ∀ g ds, Φ.call g ds ≠ .bad → ds.length = np g

/-- what the exceptions' classes are -/
structure EOk (C : Pc) (Φ : Sm) : Prop where
  fld : ∀ c, c ∈ Φ.xs → XfC C.K (C.xA c) ∧ PySem.W.findIn C.K (.ref (C.xA c)) (C.nm (Φ.xfld c)) = some none
  nm : ∀ c, c ∈ Φ.xs → C.xf c = C.nm (Φ.xfld c)
def ExFld (C : Pc) (H : Hp) (c : Nat) (dd : Option Addr) : Option D → Prop
  | none => dd = none
  | some d => ∃ q y, dd = some q ∧ H q = some (.xd [(C.xf c, y)]) ∧ flat? d = some y
theorem exn_at (hx : XOk C cl k N sc W X) (I : Inv X pins σ H s) {c : Nat} {y : Option D} {v : V} {Av : Addr → Prop} (q : Rep C Av H (.exn c y) v) : ∃ (p : Addr × Obj) (vs : Array Value) (dd : Option Addr), v = .ref p.1 ∧ s.heap.get? p.1 = some p.2 ∧ Zc (.ref (C.xA c)) dd p.2 ∧ p.2.data = .fields vs ∧ ExFld C H c dd y := by
  simp only [Rep] at q
  obtain ⟨p, vs, dd, h1, h2, h3, h4, h5⟩ := q
  cases hc : cl with
  | true => rw [hx.cold hc] at h1; cases h1
  | false =>
    obtain ⟨p', e1, e3⟩ := hx.hotc hc
    rw [h1] at e1
    cases e1
    exact ⟨p, vs, dd, h2, (I.pin p (List.mem_append_left _ e3)).1, h3, h4, by cases y <;> exact h5⟩
/-- an attribute; the property's getter lets nothing out -/
theorem e_fld {fm : Nat → Mode} {np : Nat → Nat} (hx : XOk C cl k N sc W X) (fo : F.Ok) (co : COk C Φ cl j fm np) (eo : EOk C Φ) (hj : j + 1 ≤ k) {g : Nat} (hcl : cl = false → ∀ c, Φ.prop c g = none) (hfm : ∀ c h, Φ.prop c g = some h → fm h ≠ .b) (hmb : ma = .b → ∀ c, Φ.prop c g = none)
    (hab : attributeBase a (C.nm g) X.env (eval a X.env) = eval a X.env) (ha : PE X a (TEv C F W own ma ra)) :
    PE X (.Attribute a (C.nm g) pos) (TEv C F W own .s fun ρ => (ra ρ).bind fun x => fldD Φ g x) := by
  refine ⟨fun pins s σ H Q I ⟨ρ, S, po⟩ => ?_⟩
  refine attr_of hab (thn (ha.run pins s σ H _ I (tev_bind (K := fun v H1 => ∀ u s1, Inv X pins σ H1 s1 → RelV v u → wpAny (model X.prog X.w) X.A (getAttr u (C.nm g) true) (EP X pins σ Q) X.xe s1) S po fun x v H1 ex e1 S1 q1 po1 u s1 I1 ru => ?_))
    fun u s1 ⟨v, H1, I1, r1, q1⟩ => q1 u s1 I1 r1)
  have q2 := q1.o
  cases x <;> simp only [fldD] at po1 <;> try exact po1.elim
  case ins c fs =>
    obtain ⟨aa, dx, ys, rfl, hH, rf⟩ := q2
    obtain rfl : u = Value.ref aa := ru
    cases hp : Φ.prop c g with
    | none =>
      rw [hp] at po1
      simp only [R.guard] at po1
      by_cases hm : g ∈ Φ.attrs c
      · obtain ⟨hn, hc, hna⟩ := co.attr c g hm hp
        rw [if_pos hm] at po1
        have hlk := repF_look hn rf
        cases el : lookF g fs with
        | none => rw [el] at po1; exact po1.elim
        | some d =>
          rw [el] at po1 hlk
          obtain ⟨w, hw, rw'⟩ := hlk
          rw [← hx.K] at hc hna
          exact getattr_ok I1 hH hc hna hw fun u' s2 I2 ru' => ⟨w, H1, I2, ru', po1 w H1 (Ext.refl H1) S1.g rw'⟩
      · rw [if_neg hm] at po1
        exact po1.elim
    | some h =>
      rw [hp] at po1
      simp only at po1
      obtain ⟨hc, p, hpo⟩ := co.prop c g h hp
      have hr : L2H.RoomH (j + 1) X.A := hx.room.mono hj
      have hcl : cl = true := by
        cases e : cl with
        | true => rfl
        | false => have := hcl e c; rw [hp] at this; cases this
      have calm := hx.calm hcl
      have Fg := co.fn h
      unfold FOk at Fg
      rw [if_pos hcl] at Fg
      rw [← hx.prog, ← hx.w, ← hx.K, ← hx.mg, ← hx.base] at Fg
      rw [← hx.K] at hc hpo
      have hb : Binds X.K (C.fD h) (C.fP h) [] := fun s us hin hl => by
        rw [List.append_nil] at hl ⊢
        exact co.bind c g h (.inr hp) s us (by rw [← hx.K]; exact hin) hl
      have hnb : ma ≠ .b := fun e => by have := hmb e c; rw [hp] at this; cases this
      have qs := q1.s hnb (avTr S fo)
      refine getprop_ok (E := fun _ _ _ => False) I1 hH hc hpo Fg ⟨calm.2, hr.dp, hr.un⟩ hb .nil (fun pins σ H s e s' I c => by
        obtain ⟨_, _, _, _, _, _, _, _, _, _, _, _, z⟩ := c
        exact z.elim) ?_
      refine ⟨[.ins c fs], AvO F own ρ σ, fun b hb => S1.av fo hb, S1.g, Reps.cons qs Reps.nil, co.len h _ fun e => ?_, ?_⟩
      · rw [e] at po1; exact po1
      · cases e : Φ.call h [.ins c fs] with
        | bad => rw [e] at po1; exact po1
        | exc c x => rw [e] at po1; exact po1.elim
        | ok d =>
          rw [e] at po1
          exact fun v H' e' g' q => po1 v H' e' g' (q.s (hfm c h hp) (avTr S1 fo))
  case exn c y =>
    cases y with
    | none => exact po1.elim
    | some d =>
      simp only [R.guard] at po1
      split at po1
      · rename_i hg
        have q3 : Rep C (AvO F own ρ σ) H1 (.exn c (some d)) v := q2
        obtain ⟨p, vs, dd, e1, e2, e3, e4, e5⟩ := exn_at hx I1 q3
        obtain ⟨qa, y, h1, h2, h3⟩ := e5
        subst e1 h1
        obtain rfl : u = Value.ref p.1 := ru
        obtain ⟨hin, hg⟩ := hg
        obtain ⟨T, hno⟩ := eo.fld c hin
        rw [eo.nm c hin] at h2
        have hxd : ObjOk X.prog X.w H1 s1.heap qa (.xd _) := I1.hok qa _ h2
        obtain ⟨mA, hns, hr⟩ := hxd
        obtain ⟨od, ho, hl⟩ := lookIn_ns hns
        have hlk : List.lookup (C.nm g) [(C.nm (Φ.xfld c), y)] = some y := by rw [hg]; simp [List.lookup]
        obtain ⟨u', hu, ru'⟩ := RelO.some_of (v := y) (o := mA (C.nm g)) (by rw [← hlk]; exact hr _)
        have J : PySem.W.InstAt s1.heap p.1 p.2 (C.xA c) (some od) := ⟨e2, e3.1, by unfold PySem.W.notCls; rw [e4], by rw [e3.2]; exact ho⟩
        rw [hg] at hno
        refine HandSPX.exc_get (K := C.K) (by rw [← hx.K]; exact I1.kIn) J T.ga T.gg T.exC (PySem.W.findObj_own T.hdC hno rfl (by rw [hl, hu])) (handed_of ru') ⟨y, H1, I1.tok _, ru', po1 y H1 (Ext.refl H1) S1.g ?_⟩
        simp only [RepM]
        exact (flat_rep h3).mpr rfl
      · exact po1.elim

/-! ### methods, makers, instances called -/
theorem meth_eq {m : Str} {env : PySem.Env} (h1 : es.all notSt = true) (h2 : es.length < 30) (h3 : (apos.endLine == pos.line) = true) (ha : attributeBase o m env (eval o env) = eval o env) :
    eval (.Call (.Attribute o m apos) es [] pos) env = (do
      let ov ← eval o env
      standAt apos.atName
      let (f, first) ← holding [ov] (getMethod ov m (do return (← importBound o env).getD true))
      callWith pos f first (backTo pos (starEach es env)) (backToKw pos (keywordEach [] env))) := by
  have few : methodCallForm es.length (backTo pos (starEach es env)) (backToKw pos (keywordEach [] env)) = true := by
    unfold methodCallForm
    rw [star_all h1]
    show (true && decide (es.length + 0 < 30)) = true
    rw [decide_eq_true (by omega)]
    rfl
  show (do
    let ov ← attributeBase o m env (eval o env)
    standAt apos.atName
    methodCall o m apos pos env ov (es.length + ([] : List Keyword).length) (backTo pos (starEach es env)) (backToKw pos (keywordEach [] env))) = _
  rw [ha]
  show (do
    let ov ← eval o env
    standAt apos.atName
    methodCall o m apos pos env ov es.length (backTo pos (starEach es env)) (backToKw pos (keywordEach [] env))) = _
  unfold methodCall methodCallPos calleeOf
  rw [few]
  simp only [h3]
  rfl
theorem e_meth {fm : Nat → Mode} {np : Nat → Nat} (hx : XOk C cl k N sc W X) (fo : F.Ok) (co : COk C Φ cl j fm np) (hj : j ≤ k) {g : Nat} (hg : g ≠ callName) (hmb : ma ≠ .b) (hfm : ∀ c h, Φ.meth c g = some h → fm h ≠ .b)
    (hlen : es.length < 30) (hl3 : (apos.endLine == pos.line) = true) (hab : attributeBase a (C.nm g) X.env (eval a X.env) = eval a X.env) (ha : PE X a (TEv C F W own ma ra)) (has : PAx C F W own X es ras) :
    PE X (.Call (.Attribute a (C.nm g) apos) es [] pos) (TEv C F W own .s fun ρ => (ra ρ).bind fun x => (methOf Φ g x).bind fun h => (ras ρ).bind fun xs => Φ.call h (x :: xs)) := by
  refine ⟨fun pins s σ H Q I ⟨ρ, S, po⟩ => ?_⟩
  refine PySem.W.methodCall_KW (thn (ha.run pins s σ H _ I (tev_bind (K := fun v H1 => ∀ u s1, Inv X pins σ H1 s1 → RelV v u → wpAny (model X.prog X.w) X.A (getMethod u (C.nm g) (do return (← importBound a X.env).getD true))
    (fun fx s2 => wpAny (model X.prog X.w) X.A (callWith pos fx.1 fx.2 (backTo pos (starEach es X.env)) (backToKw pos (keywordEach [] X.env))) (EP X pins σ Q) X.xe s2) X.xe s1) S po fun x v H1 ex e1 S1 q1 po1 u s1 I1 ru => ?_))
    fun u s1 ⟨v, H1, I1, r1, q1⟩ => q1 u s1 I1 r1) (meth_eq has.ns hlen hl3 hab)
  have qs := q1.s hmb (avTr S fo)
  cases x <;> simp only [methOf] at po1 <;> try exact po1.elim
  case ins c fs =>
    have qs2 := qs
    simp only [Rep] at qs2
    obtain ⟨aa, dx, ys, rfl, _, hH, rf⟩ := qs2
    obtain rfl : u = Value.ref aa := ru
    cases hp : Φ.meth c g with
    | none => rw [hp] at po1; exact po1.elim
    | some h =>
      obtain ⟨hn, hc, hme⟩ := co.meth c g h hg hp
      have hlk := repF_look hn rf
      cases el : lookF g fs with
      | some d => rw [hp, el] at po1; exact po1.elim
      | none =>
        rw [hp, el] at po1
        rw [el] at hlk
        rw [← hx.K] at hc hme
        refine getmeth_ok I1 hH hc hme hlk ?_
        refine cw0 hx (by rw [← hx.K]; exact hme.kp) has I1 (tav_bind S1 po1 fun ds vs H2 _ e2 S2 q2 po2 us s2 I2 r => ?_)
        have po3 : PostE C F W own (fm h) ρ σ H2 (Φ.call h (.ins c fs :: ds)) Q := by
          cases e : Φ.call h (.ins c fs :: ds) with
          | bad => rw [e] at po2; exact po2
          | exc c x => rw [e] at po2; exact po2
          | ok d => rw [e] at po2; exact fun v H' e' g' q => po2 v H' e' g' (q.s (hfm c h hp) (avTr S2 fo))
        have sp := spF_of fo S2 (Reps.cons (qs.ext e2) q2) (co.len h _) po3
        have hlen := (co.fn h).len _ _ _ _ sp
        have r2 : Vals (V.ref aa :: vs) ([Value.ref aa] ++ us) := .cons rfl r
        exact run_call (runs hx (co.fn h) hj I2 (co.bind c g h (.inl hp) s2 _ (by rw [← hx.K]; exact I2.kIn) (by rw [← r2.length]; exact hlen)) r2 sp)
/-- an instance called -/
theorem e_callV {fm : Nat → Mode} {np : Nat → Nat} (hx : XOk C cl k N sc W X) (fo : F.Ok) (co : COk C Φ cl j fm np) (hj : j ≤ k) (hmb : ma ≠ .b) (hfm : ∀ c h, Φ.meth c callName = some h → fm h ≠ .b) (hne : es ≠ [])
    (ht : eval (.Call a es [] pos) X.env = (do callWith pos (← eval a X.env) [] (backTo pos (starEach es X.env)) (backToKw pos (keywordEach [] X.env)))) (ha : PE X a (TEv C F W own ma ra)) (has : PAx C F W own X es ras) :
    PE X (.Call a es [] pos) (TEv C F W own .s fun ρ => (ra ρ).bind fun x => (callOf Φ x).bind fun h => (ras ρ).bind fun xs => Φ.call h (x :: xs)) := by
  refine ⟨fun pins s σ H Q I ⟨ρ, S, po⟩ => ?_⟩
  refine Call_ (thn (ha.run pins s σ H _ I (tev_bind (K := fun v H1 => ∀ u s1, Inv X pins σ H1 s1 → RelV v u → wpAny (model X.prog X.w) X.A (callWith pos u [] (backTo pos (starEach es X.env)) (backToKw pos (keywordEach [] X.env))) (EP X pins σ Q) X.xe s1)
    S po fun x v H1 ex e1 S1 q1 po1 u s1 I1 ru => ?_)) fun u s1 ⟨v, H1, I1, r1, q1⟩ => q1 u s1 I1 r1) ht
  have qs := q1.s hmb (avTr S fo)
  cases x <;> simp only [callOf] at po1 <;> try exact po1.elim
  case ins c fs =>
    have qs2 := qs
    simp only [Rep] at qs2
    obtain ⟨aa, dx, ys, rfl, hav, hH, rf⟩ := qs2
    obtain rfl : u = Value.ref aa := ru
    cases hp : Φ.meth c callName with
    | none => rw [hp] at po1; exact po1.elim
    | some h =>
      rw [hp] at po1
      have hc := co.callm c h hp
      rw [← hx.K] at hc
      have ns := has.ns
      cases es with
      | nil => exact absurd rfl hne
      | cons e es =>
        rw [List.all_cons, Bool.and_eq_true] at ns
        refine StX.callO_with (thn (has.pa.run pos pins s1 σ H1 _ I1 (tav_bind (K := fun vs H2 => ∀ us s2, Inv X pins σ H2 s2 → Vals vs us → (∃ C ox od, PySem.W.InstAt s2.heap aa ox C od ∧ ox.data = .plain) ∧ wpAny (model X.prog X.w) X.A (call (.ref aa) ([] ++ us)) (EP X pins σ Q) X.xe s2)
          S1 po1 fun ds vs H2 _ e2 S2 q2 po2 us s2 I2 r => ?_)) fun us s2 ⟨vs, H2, I2, r, q⟩ => q us s2 I2 r) (star_cons ns.1) (star_any ns.2)
        obtain ⟨ox, od, J, hd⟩ := StX.insC_at I2 (.inr ⟨dx, ys, e2.keep _ _ hH notbl_ins⟩)
        refine ⟨⟨_, ox, od, J, hd⟩, wpAny_call (PySem.W.kco_code I2.kIn J hd hc.at_ hc.fn hc.fi ?_)⟩
        have po3 : PostE C F W own (fm h) ρ σ H2 (Φ.call h (.ins c fs :: ds)) Q := by
          cases e : Φ.call h (.ins c fs :: ds) with
          | bad => rw [e] at po2; exact po2
          | exc c x => rw [e] at po2; exact po2
          | ok d => rw [e] at po2; exact fun v H' e' g' q => po2 v H' e' g' (q.s (hfm c h hp) (avTr S2 fo))
        have sp := spF_of fo S2 (Reps.cons (qs.ext e2) q2) (co.len h _) po3
        have hlen := (co.fn h).len _ _ _ _ sp
        have r2 : Vals (V.ref aa :: vs) (Value.ref aa :: us) := .cons rfl r
        refine codeAny_mono (runs hx (co.fn h) hj I2 (co.bind c callName h (.inl hp) s2 (Value.ref aa :: us) (by rw [← hx.K]; exact I2.kIn) (by rw [← r2.length]; exact hlen)) r2 sp) fun r s' hq => ?_
        cases r with
        | error e => exact hq
        | ok fl =>
          cases fl with
          | ret u => exact hq
          | next => exact False.elim hq
          | brk => exact False.elim hq
          | cont => exact False.elim hq

/-! ### making an instance -/
/-- how an __init__'s parameters behind self are filled -/
def ShpI (C : Pc) (f : Nat) (S : Shp) : Prop := ∃ dv : Nat → V, (∀ n d, S.src[n]? = some (.dfl d) → ∀ Av H, Rep C Av H d (dv n)) ∧
  ∀ (s : Shared) (u0 : Value) (v0 : V) (vs zs : List V) (us ws : List Value), C.K.In s.heap → RelV v0 u0 → Vals vs us → Vals zs ws → vs.length = S.np → zs.length = S.ks.length →
    ∃ all, Vals (v0 :: fillV dv 0 vs zs S.src) all ∧ BindsTo s (C.fD f) ⟨u0 :: us, S.ks.zip ws⟩ ((C.fP f).zip all)
theorem made_ext {x dx : Addr} {o u : HO} {H' : Hp} (nx : H x = none) (nd : H dx = none) (h1 : ∀ b o', (upd (upd H dx u) x o) b = some o' → NoTbl o' → b ≠ x → H' b = some o') : Ext H H' := .of fun b q e n => by
  have n1 : b ≠ x := ne_of_none e nx
  have n2 : b ≠ dx := ne_of_none e nd
  exact h1 b q (by rw [upd_ne n1, upd_ne n2]; exact e) n n1
/-- the object is laid, its __init__ runs -/
theorem run_made (hx : XOk C cl k N sc W X) (fo : F.Ok) (hcl : cl = true) {c np : Nat} {made : List D → R D} (ok : FOk C cl j f (SpI C c np made)) (hj : j + 1 ≤ k) (hl : ∀ ds, made ds ≠ .bad → ds.length + 1 = np) (M : Mk C.K (C.cA c) (C.fA f))
    (S : Sr C F own ρ σ H) {ds : List D} {vs : List V} {us : List Value} {kw : List (Str × Value)} (q : Reps C (AvO F own ρ σ) H ds vs) (po : PostE C F W own .f ρ σ H (made ds) Q) (I : Inv X pins σ H s)
    (hb : ∀ (s' : Shared) (x : Addr), C.K.In s'.heap → ∃ all, Vals (V.ref x :: vs) all ∧ BindsTo s' (C.fD f) ⟨Value.ref x :: us, kw⟩ ((C.fP f).zip all)) :
    wpAny (model X.prog X.w) X.A (call (.ref (C.cA c)) us kw) (EP X pins σ Q) X.xe s := by
  have calm := hx.calm hcl
  have tkc := passAt hx.tk σ
  unfold FOk at ok
  rw [if_pos hcl] at ok
  have hr : Room (j + 1) X.A := Room.mono (j := j + 1) (k := k) ⟨calm.2, hx.room.dp, hx.room.un⟩ hj
  have I2 := Inv.made (C := C.cA c) I
  have nx : H (s.heap.objs.size + 1) = none := I.hok.fresh (Nat.le_succ _)
  have nd : H s.heap.objs.size = none := I.hok.fresh (Nat.le_refl _)
  have ndx : s.heap.objs.size ≠ s.heap.objs.size + 1 := Nat.ne_of_lt (Nat.lt_succ_self _)
  have ex : Ext H (upd (upd H s.heap.objs.size (.own (s.heap.objs.size + 1))) (s.heap.objs.size + 1) (.ins (C.cA c) s.heap.objs.size [])) := made_ext nx nd (fun _ _ h _ _ => h)
  have gx : C.G (upd (upd H s.heap.objs.size (.own (s.heap.objs.size + 1))) (s.heap.objs.size + 1) (.ins (C.cA c) s.heap.objs.size [])) := C.gk H _ (fun b o e _ => by rw [upd_ne (ne_of_none e nx), upd_ne (ne_of_none e nd)]; exact e) S.g
  obtain ⟨all, hv, hbb⟩ := hb _ (s.heap.objs.size + 1) (by rw [← hx.K]; exact I2.kIn)
  have sp : SpI C c np made (V.ref (s.heap.objs.size + 1) :: vs) (upd (upd H s.heap.objs.size (.own (s.heap.objs.size + 1))) (s.heap.objs.size + 1) (.ins (C.cA c) s.heap.objs.size [])) (fun v H2 => v = .non ∧ Q (.ref (s.heap.objs.size + 1)) H2) (WE W σ) := by
    refine ⟨s.heap.objs.size + 1, s.heap.objs.size, vs, ds, AvO F own ρ σ, rfl, upd_same, fun b hb => ?_, gx, (q.avoid nx).ext ex, hl ds fun e => ?_, ?_⟩
    · obtain ⟨o, h1, h2⟩ := S.av fo hb
      exact ⟨o, ex.keep b o h1 h2, h2, ne_of_none h1 nx⟩
    · rw [e] at po; exact po
    · cases e : made ds with
      | bad => rw [e] at po; exact po
      | exc c y =>
        rw [e] at po
        exact fun cls dd H' h1 h2 g' q' => po cls dd H' (made_ext nx nd h1) g' q'
      | ok d =>
        rw [e] at po
        intro H' h1 h2 g' ⟨fs, ys, ed, hH, rf⟩
        subst ed
        exact ⟨rfl, po (.ref (s.heap.objs.size + 1)) H' (made_ext nx nd h1) g' ⟨s.heap.objs.size + 1, s.heap.objs.size, ys, rfl, nw nx, hH, rf⟩⟩
  have e0 := I2.env0
  rw [hx.prog, hx.w, hx.K, hx.mg, hx.base] at e0
  have Mm := M
  rw [← hx.K] at Mm
  refine wpAny_call (make_map (f := C.fA f) I.kIn Mm.makes Mm.init (beq_iff_eq.mp Mm.fn) ?_)
  have run := ok.run _ X.stack _ _ ⟨Value.ref (s.heap.objs.size + 1) :: us, kw⟩ all _ _ (WE W σ) (hr.make (C.cA c) us kw) (e0.make (C.cA c) us kw) hbb hv sp
  rw [← hx.prog, ← hx.w] at run
  refine codeAny_mono run fun r s' hq => ?_
  cases r with
  | error e => exact tkc pins _ _ e s' I2 hq
  | ok fl =>
    cases fl with
    | ret u =>
      obtain ⟨v, H', I3, rv, ev, q3⟩ := I2.after hq
      subst ev
      exact ⟨rv, ⟨V.ref (s.heap.objs.size + 1), H', I3, rfl, q3⟩⟩
    | next => exact False.elim hq
    | brk => exact False.elim hq
    | cont => exact False.elim hq
/-- C(e, .., k = v, ..) -/
theorem e_make (hx : XOk C cl k N sc W X) (fo : F.Ok) (hcl : cl = true) {c np : Nat} {made : List D → R D} {Sh : Shp} (ok : FOk C cl j f (SpI C c np made)) (hj : j + 1 ≤ k) (hl : ∀ ds, made ds ≠ .bad → ds.length + 1 = np) (M : Mk C.K (C.cA c) (C.fA f)) (hb : ShpI C f Sh)
    (hg : sc.names.lookup x = some .globalImplicit) (hm : C.mg x = some (.ref (C.cA c))) (hd : (x == ("__debug__" : Str)) = false) (ha : PAx C F W own X es ras) (hkw : PKx C F W own X kws Sh.ks rks) :
    PE X (.Call (.Name x p) es kws pos) (TEv C F W own .f fun ρ => (ras ρ).bind fun xs => (rks ρ).bind fun ys => (R.ofOpt (shpD Sh xs ys)).bind fun zs => made zs) := by
  refine ⟨fun pins s σ H Q I ⟨ρ, S, po⟩ => ?_⟩
  refine wpAny_Call_Name_kw (ld_glob I (gl_of hx hg) (mg_of' hx hm) ?_ hd)
  refine cwk hx M.kp ha hkw I (tav_bind S po fun ds vs H1 _ e1 S1 q1 po1 => tav_bind S1 po1 fun ys zs H2 _ e2 S2 q2 po2 us ws s2 I2 r rz => ?_)
  unfold shpD at po2
  split at po2
  · rename_i hn
    cases ef : fill ds ys Sh.src with
    | none => rw [ef] at po2; exact po2.elim
    | some fs =>
      rw [ef] at po2
      obtain ⟨dv, hdv, hbd⟩ := hb
      have q3 := fill_rep (q1.ext e2) q2 Sh.src 0 fs (fun i d hi => by rw [Nat.zero_add]; exact hdv i d hi _ _) ef
      rw [List.nil_append]
      exact run_made hx fo hcl ok hj hl M S2 q3 po2 I2 fun s' xa hin => hbd s' (.ref xa) (.ref xa) vs zs us ws hin rfl r rz (by rw [← q1.length]; exact hn.1) (by rw [← q2.length]; exact hn.2)
  · exact po2.elim
end
end Vm

set_option maxRecDepth 100000
set_option maxHeartbeats 2000000
/-! VmI: built-in functions. -/
namespace Vm
open PySem PySem.Spec PyProof.Rows L2

section
variable {C : Pc} {F : Fr0} {W : WX} {own : List Nat} {m ma mb : Mode} {ρ : Env} {σ : L2.St} {H H' H1 : Hp} {X : Cx} {N : List Str} {sc : Scope} {k j f : Nat} {cl : Bool} {sp : Sp} {Φ : Sm}
variable {ra rb : Env → R D} {ras rks : Env → R (List D)} {a b o : Expr} {es : List Expr} {kws : List Keyword} {p pos apos : Pos} {Q : VK} {x : Str} {r : List V → Hp → VK → Prop}
variable {pins : List (Addr × Obj)} {s : Shared}

/-- one argument, borrowed if need be -/
theorem b_1 {bi : List D → R D} (hn : notSt a = true) (hr : ∀ t, PA X [a] t → PE X (.Call (.Name x p) [a] [] pos) (tCB r t)) (ha : PE X a (TEv C F W own ma ra))
    (hv : ∀ ρ σ H y v Q, Sr C F own ρ σ H → RepO C (AvO F own ρ σ) H y v → PostE C F W own m ρ σ H (bi [y]) Q → r [v] H Q) :
    PE X (.Call (.Name x p) [a] [] pos) (TEv C F W own m fun ρ => ((ra ρ).bind fun y => .ok [y]).bind fun xs => bi xs) := by
  refine PE.imp (hr _ (pa_cons ha pa_nil (star_cons hn))) ?_
  intro σ H Q ⟨ρ, S, po⟩
  have po : PostE C F W own m ρ σ H ((ra ρ).bind fun y => bi [y]) Q := by
    cases e : ra ρ <;> simp only [e] at po ⊢ <;> exact po
  refine tev_bind (r := ra) S po fun y v H1 _ e1 S1 q1 po1 => ?_
  exact hv ρ σ H1 y v Q S1 q1.o po1
theorem b_2 {bi : List D → R D} (hna : notSt a = true) (hnb : notSt b = true) (hr : ∀ t, PA X [a, b] t → PE X (.Call (.Name x p) [a, b] [] pos) (tCB r t)) (ha : PE X a (TEv C F W own ma ra)) (hb : PE X b (TEv C F W own mb rb))
    (hv : ∀ ρ σ H y z v u Q, Sr C F own ρ σ H → RepO C (AvO F own ρ σ) H y v → RepO C (AvO F own ρ σ) H z u → PostE C F W own m ρ σ H (bi [y, z]) Q → r [v, u] H Q) :
    PE X (.Call (.Name x p) [a, b] [] pos) (TEv C F W own m fun ρ => ((ra ρ).bind fun y => ((rb ρ).bind fun z => .ok [z]).bind fun zs => .ok (y :: zs)).bind fun xs => bi xs) := by
  refine PE.imp (hr _ (pa_cons ha (pa_cons hb pa_nil (star_cons hnb)) (star_cons hna))) ?_
  intro σ H Q ⟨ρ, S, po⟩
  have po : PostE C F W own m ρ σ H ((ra ρ).bind fun y => (rb ρ).bind fun z => bi [y, z]) Q := by
    cases e : ra ρ <;> simp only [e] at po ⊢
    · cases e' : rb ρ <;> simp only [e'] at po ⊢ <;> exact po
    · exact po
    · exact po
  refine tev_bind (r := ra) S po fun y v H1 _ e1 S1 q1 po1 => tev_bind (r := rb) S1 po1 fun z u H2 _ e2 S2 q2 po2 => ?_
  exact hv ρ σ H2 y z v u Q S2 (q1.o.ext e2) q2.o po2

/-- a built-in's name is free -/
def Free (C : Pc) (x : Str) : Prop := C.mg x = none
theorem callB1 (hx : XOk C cl k N sc W X) {id : String} (hc : CallR X (.builtin id) r) (hg : sc.names.lookup x = some .globalImplicit) (hm : Free C x) (hv : bootBuiltins x = some (.builtin id)) (hn : x ≠ "__name__") (hd : (x == ("__debug__" : Str)) = false) {es : List Expr} (hs : es.all notSt = true) (he : notSt a = true) :
    ∀ t, PA X (a :: es) t → PE X (.Call (.Name x p) (a :: es) [] pos) (tCB r t) := fun t ht => pe_callB hc (gl_of hx hg) (mg_of' hx hm) hv ht hn hd (star_cons he) (star_any hs)
theorem callT1 (hx : XOk C cl k N sc W X) {id : String} (hc : CallR X (.type id) r) (hg : sc.names.lookup x = some .globalImplicit) (hm : Free C x) (hv : bootBuiltins x = some (.type id)) (hn : x ≠ "__name__") (hd : (x == ("__debug__" : Str)) = false) {es : List Expr} (hs : es.all notSt = true) (he : notSt a = true) :
    ∀ t, PA X (a :: es) t → PE X (.Call (.Name x p) (a :: es) [] pos) (tCB r t) := fun t ht => pe_callTy hc (gl_of hx hg) (mg_of' hx hm) hv ht hn hd (star_cons he) (star_any hs)
theorem callM1 (hx : XOk C cl k N sc W X) {id : String} (hc : CallR X (.builtin id) r) (hg : sc.names.lookup x = some .globalImplicit) (hm : C.mg x = some (.builtin id)) (hd : (x == ("__debug__" : Str)) = false) {es : List Expr} (hs : es.all notSt = true) (he : notSt a = true) :
    ∀ t, PA X (a :: es) t → PE X (.Call (.Name x p) (a :: es) [] pos) (tCB r t) := fun t ht => pe_callBfun hc (gl_of hx hg) (mg_of' hx hm) ht hd (star_cons he) (star_any hs)

/-! ### by values -/
abbrev V1 (C : Pc) (F : Fr0) (W : WX) (own : List Nat) (m : Mode) (b : BI) (r : List V → Hp → VK → Prop) : Prop := ∀ ρ σ H y v Q, Sr C F own ρ σ H → RepO C (AvO F own ρ σ) H y v → PostE C F W own m ρ σ H (biD b [y]) Q → r [v] H Q
abbrev V2 (C : Pc) (F : Fr0) (W : WX) (own : List Nat) (m : Mode) (b : BI) (r : List V → Hp → VK → Prop) : Prop := ∀ ρ σ H y z v u Q, Sr C F own ρ σ H → RepO C (AvO F own ρ σ) H y v → RepO C (AvO F own ρ σ) H z u → PostE C F W own m ρ σ H (biD b [y, z]) Q → r [v, u] H Q
def rLen1 (K : PySem.W.Frag) : List V → Hp → VK → Prop := fun xs H Q => ∃ x n, xs = [x] ∧ LenV K x H n ∧ Q (.int n) H
theorem v_len : V1 C F W own .s .len (rLen1 C.K) := by
  intro ρ σ H y v Q S r po
  cases y <;> simp only [biD] at po <;> try exact po.elim
  case lst ds =>
    obtain ⟨a, xs, rfl, ha, rs⟩ := r
    exact ⟨_, xs.length, rfl, .inl ⟨xs, .of ha, rfl⟩, by rw [← rs.length]; exact po _ H (Ext.refl H) S.g (by simp [RepM, Rep])⟩
  case tup ds =>
    simp only [RepO, Rep] at r
    obtain ⟨a, xs, rfl, ha, rs⟩ := r
    exact ⟨_, xs.length, rfl, .inr ⟨xs, ha, rfl⟩, by rw [← rs.length]; exact po _ H (Ext.refl H) S.g (by simp [RepM, Rep])⟩
  case scr ns =>
    simp only [RepO, Rep] at r
    obtain ⟨a, rfl, ha⟩ := r
    exact ⟨_, ns.length, rfl, .inl ⟨_, ha.sq, by simp⟩, po _ H (Ext.refl H) S.g (by simp [RepM, Rep])⟩
  case str z =>
    simp only [RepO, Rep] at r
    subst r
    unfold R.guard at po
    split at po
    · rename_i h
      exact ⟨_, z.length, rfl, ⟨by rw [← lineEq]; exact h, rfl⟩, po _ H (Ext.refl H) S.g (by simp [RepM, Rep])⟩
    · exact po.elim
def rInt1 : List V → Hp → VK → Prop := fun xs H Q => (∃ i, xs = [.int i] ∧ Q (.int i) H) ∨ ∃ k, xs = [.bl k] ∧ Q (.int (if k then 1 else 0)) H
theorem v_int1 : V1 C F W own .s .int1 rInt1 := by
  intro ρ σ H y v Q S r po
  cases y <;> simp only [biD] at po <;> try exact po.elim
  case int i =>
    simp only [RepO, Rep] at r
    subst r
    exact .inl ⟨i, rfl, po _ H (Ext.refl H) S.g (by simp [RepM, Rep])⟩
  case bl i =>
    simp only [RepO, Rep] at r
    subst r
    exact .inr ⟨i, rfl, po _ H (Ext.refl H) S.g (by simp [RepM, Rep])⟩
def rAbs1 : List V → Hp → VK → Prop := fun xs H Q => ∃ i, xs = [.int i] ∧ Q (.int (if i < 0 then -i else i)) H
theorem v_abs : V1 C F W own .s .abs rAbs1 := by
  intro ρ σ H y v Q S r po
  cases y <;> simp only [biD] at po <;> try exact po.elim
  case int i =>
    simp only [RepO, Rep] at r
    subst r
    exact ⟨i, rfl, po _ H (Ext.refl H) S.g (by simp [RepM, Rep])⟩
def rMax2 : List V → Hp → VK → Prop := fun xs H Q => ∃ i j, xs = [.int i, .int j] ∧ Q (.int (if j > i then j else i)) H
def rMin2 : List V → Hp → VK → Prop := fun xs H Q => ∃ i j, xs = [.int i, .int j] ∧ Q (.int (if j < i then j else i)) H
theorem v_max2 : V2 C F W own .s .max2 rMax2 := by
  intro ρ σ H y z v u Q S r1 r2 po
  cases y <;> cases z <;> simp only [biD] at po <;> try exact po.elim
  simp only [RepO, Rep] at r1 r2
  subst r1 r2
  exact ⟨_, _, rfl, po _ H (Ext.refl H) S.g (by simp [RepM, Rep])⟩
theorem v_min2 : V2 C F W own .s .min2 rMin2 := by
  intro ρ σ H y z v u Q S r1 r2 po
  cases y <;> cases z <;> simp only [biD] at po <;> try exact po.elim
  simp only [RepO, Rep] at r1 r2
  subst r1 r2
  exact ⟨_, _, rfl, po _ H (Ext.refl H) S.g (by simp [RepM, Rep])⟩
def rListS1 (K : PySem.W.Frag) : List V → Hp → VK → Prop := fun xs H Q => ∃ p ys, xs = [.ref p] ∧ (SqL K H p ys ∨ SqT K H p ys) ∧ ∀ l, H l = none → Q (.ref l) (upd H l (.lst ys))
theorem v_list1 : V1 C F W own .f .list1 (rListS1 C.K) := by
  intro ρ σ H y v Q S r po
  cases y <;> simp only [biD] at po <;> try exact po.elim
  case lst ds =>
    obtain ⟨a, xs, rfl, ha, rs⟩ := r
    exact ⟨a, xs, rfl, .inl (.of ha), fun l hl => po _ _ (Ext.new hl) (g_new S.g hl) ⟨l, xs, rfl, nw hl, upd_same, (rs.avoid hl).ext (Ext.new hl)⟩⟩
  case tup ds =>
    simp only [RepO, Rep] at r
    obtain ⟨a, xs, rfl, ha, rs⟩ := r
    exact ⟨a, xs, rfl, .inr ha, fun l hl => po _ _ (Ext.new hl) (g_new S.g hl) ⟨l, xs, rfl, nw hl, upd_same, (rs.avoid hl).ext (Ext.new hl)⟩⟩
def rTupS1 (K : PySem.W.Frag) : List V → Hp → VK → Prop := fun xs H Q => ∃ p ys, xs = [.ref p] ∧ ((SqL K H p ys ∧ ∀ l, H l = none → Q (.ref l) (upd H l (.tup ys))) ∨ (SqT K H p ys ∧ Q (.ref p) H))
theorem v_tuple1 : V1 C F W own .s .tuple1 (rTupS1 C.K) := by
  intro ρ σ H y v Q S r po
  cases y <;> simp only [biD] at po <;> try exact po.elim
  case lst ds =>
    obtain ⟨a, xs, rfl, ha, rs⟩ := r
    refine ⟨a, xs, rfl, .inl ⟨.of ha, fun l hl => po _ _ (Ext.new hl) (g_new S.g hl) ?_⟩⟩
    simp only [RepM, Rep]
    exact ⟨l, xs, rfl, .of upd_same, rs.ext (Ext.new hl)⟩
  case tup ds =>
    simp only [RepO, Rep] at r
    obtain ⟨a, xs, rfl, ha, rs⟩ := r
    refine ⟨a, xs, rfl, .inr ⟨ha, po _ H (Ext.refl H) S.g ?_⟩⟩
    simp only [RepM, Rep]
    exact ⟨a, xs, rfl, ha, rs⟩
theorem v_gcd : V2 C F W own .s .gcd rGcd := by
  intro ρ σ H y z v u Q S r1 r2 po
  cases y <;> cases z <;> simp only [biD] at po <;> try exact po.elim
  simp only [RepO, Rep] at r1 r2
  subst r1 r2
  exact ⟨_, _, rfl, po _ H (Ext.refl H) S.g (by simp [RepM, Rep, gcdI])⟩
def rLcm : List V → Hp → VK → Prop := fun vs H Q => ∃ a b : Int, vs = [.int a, .int b] ∧ a.natAbs.log2 < 6000 ∧ b.natAbs.log2 < 6000 ∧ Q (.int (lcmI a b)) H
theorem log2_max {a b n : Nat} (ha : a.log2 < n) (hb : b.log2 < n) : (max a b).log2 < n := by
  rcases Nat.le_total a b with h | h
  · rw [Nat.max_eq_right h]; exact hb
  · rw [Nat.max_eq_left h]; exact ha
theorem lt_of_log2 {a n : Nat} (h : a.log2 < n) : a < 2 ^ n := by
  by_cases q : a = 0
  · subst q; exact Nat.two_pow_pos n
  · exact (Nat.log2_lt q).mp h
theorem cr_lcm : CallR X (.builtin "math.lcm") rLcm := by
  intro pins s σ H vs us Q I r h
  obtain ⟨a, b, rfl, h1, h2, q⟩ := h
  obtain ⟨t, u, rfl⟩ := Vals.int2 r
  have e : Nat.lcm 1 a.natAbs = a.natAbs := Nat.lcm_one_left _
  have hsz : ((((Nat.lcm 1 a.natAbs).lcm b.natAbs : Nat) : Int)).natAbs.log2 < bitsLine := by
    rw [e, Int.natAbs_natCast]
    have b1 := lt_of_log2 h1
    have b2 := lt_of_log2 h2
    have hle : a.natAbs.lcm b.natAbs < 2 ^ 12000 := by
      have : a.natAbs.lcm b.natAbs ≤ a.natAbs * b.natAbs := by
        unfold Nat.lcm
        exact Nat.div_le_self _ _
      refine Nat.lt_of_le_of_lt this ?_
      rw [show 12000 = 6000 + 6000 from rfl, Nat.pow_add]
      exact Nat.mul_lt_mul'' b1 b2
    have hb : bitsLine = 134217728 := by decide
    rw [hb]
    have := PySem.Flt.log2_lt_of (by decide : 0 < 12000) hle
    omega
  have h3 : ¬(max 1 a.natAbs).log2 / 30 + 1 > 450 := by
    have := log2_max (a := 1) (b := a.natAbs) (n := 6000) (by decide) h1
    omega
  have h4 : ¬(max a.natAbs b.natAbs).log2 / 30 + 1 > 450 := by
    have := log2_max h1 h2
    omega
  have g := PySem.W.mg_run_lcm a t b u h3 h4 hsz
  rw [e] at g
  exact PySem.call_function_meets PySem.W.MGF.kind_lcm PySem.W.MGF.plain_lcm PySem.W.MGF.entry_lcm (PySem.W.MGF.args_lcm _ _) g.meets ⟨.int _, H, I.tok _, ⟨_, rfl⟩, q⟩
theorem v_lcm : V2 C F W own .s .lcm rLcm := by
  intro ρ σ H y z v u Q S r1 r2 po
  cases y <;> cases z <;> simp only [biD] at po <;> try exact po.elim
  simp only [RepO, Rep] at r1 r2
  subst r1 r2
  unfold R.guard at po
  split at po
  · rename_i h
    exact ⟨_, _, rfl, h.1, h.2, po _ H (Ext.refl H) S.g (by simp [RepM, Rep])⟩
  · exact po.elim
theorem v_sum : V1 C F W own .s .sum (rSum C.K) := by
  intro ρ σ H y v Q S r po
  cases y <;> simp only [biD] at po <;> try exact po.elim
  case lst ds =>
    obtain ⟨a, xs, rfl, ha, rs⟩ := r
    split at po
    · rename_i ns e
      rw [ints_map e] at rs
      rw [rep_ints.mp rs] at ha
      exact ⟨a, ns, rfl, .of ha, po _ H (Ext.refl H) S.g (by simp [RepM, Rep])⟩
    · exact po.elim
def rStr1 : List V → Hp → VK → Prop := fun xs H Q => ∃ i : Int, xs = [.int i] ∧ i.natAbs.log2 < 1920 ∧ Q (.str (toString i)) H
theorem v_str1 : V1 C F W own .s .str1 rStr1 := by
  intro ρ σ H y v Q S r po
  cases y <;> simp only [biD] at po <;> try exact po.elim
  case int i =>
    simp only [RepO, Rep] at r
    subst r
    unfold R.guard at po
    split at po
    · rename_i h
      exact ⟨i, rfl, h, po _ H (Ext.refl H) S.g (by simp [RepM, Rep])⟩
    · exact po.elim
theorem v_all1 : V1 C F W own .s .all1 (rAll C.K) := by
  intro ρ σ H y v Q S r po
  cases y <;> simp only [biD] at po <;> try exact po.elim
  case lst ds =>
    obtain ⟨a, xs, rfl, ha, rs⟩ := r
    split at po
    · rename_i ns e
      rw [bools_map e] at rs
      rw [rep_bools.mp rs] at ha
      exact ⟨a, ns, rfl, .of ha, po _ H (Ext.refl H) S.g (by simp [RepM, Rep])⟩
    · exact po.elim
theorem v_any1 : V1 C F W own .s .any1 (rAny C.K) := by
  intro ρ σ H y v Q S r po
  cases y <;> simp only [biD] at po <;> try exact po.elim
  case lst ds =>
    obtain ⟨a, xs, rfl, ha, rs⟩ := r
    split at po
    · rename_i ns e
      rw [bools_map e] at rs
      rw [rep_bools.mp rs] at ha
      exact ⟨a, ns, rfl, .of ha, po _ H (Ext.refl H) S.g (by simp [RepM, Rep])⟩
    · exact po.elim
theorem max_fold : ∀ (l : List Int) (x : Int), (l.foldl (fun a b => if b > a then b else a) x ∈ x :: l) ∧ ∀ y ∈ x :: l, y ≤ l.foldl (fun a b => if b > a then b else a) x
  | [], x => by simp
  | z :: l, x => by
    rw [List.foldl_cons]
    obtain ⟨h1, h2⟩ := max_fold l (if z > x then z else x)
    refine ⟨?_, fun y hy => ?_⟩
    · rcases List.mem_cons.mp h1 with e | e
      · rw [e]; split <;> simp
      · exact List.mem_cons_of_mem _ (List.mem_cons_of_mem _ e)
    · have h3 := h2 _ List.mem_cons_self
      have h4 := fun hy => h2 y (List.mem_cons_of_mem _ hy)
      revert h3 h4
      generalize List.foldl _ _ l = t
      intro h3 h4
      rcases List.mem_cons.mp hy with e | hy
      · subst e; split at h3 <;> omega
      · rcases List.mem_cons.mp hy with e | hy
        · subst e; split at h3 <;> omega
        · exact h4 hy
theorem min_fold : ∀ (l : List Int) (x : Int), (l.foldl (fun a b => if b < a then b else a) x ∈ x :: l) ∧ ∀ y ∈ x :: l, l.foldl (fun a b => if b < a then b else a) x ≤ y
  | [], x => by simp
  | z :: l, x => by
    rw [List.foldl_cons]
    obtain ⟨h1, h2⟩ := min_fold l (if z < x then z else x)
    refine ⟨?_, fun y hy => ?_⟩
    · rcases List.mem_cons.mp h1 with e | e
      · rw [e]; split <;> simp
      · exact List.mem_cons_of_mem _ (List.mem_cons_of_mem _ e)
    · have h3 := h2 _ List.mem_cons_self
      have h4 := fun hy => h2 y (List.mem_cons_of_mem _ hy)
      revert h3 h4
      generalize List.foldl _ _ l = t
      intro h3 h4
      rcases List.mem_cons.mp hy with e | hy
      · subst e; split at h3 <;> omega
      · rcases List.mem_cons.mp hy with e | hy
        · subst e; split at h3 <;> omega
        · exact h4 hy
theorem v_maxL : V1 C F W own .s .maxL (rMax C.K) := by
  intro ρ σ H y v Q S r po
  cases y <;> simp only [biD] at po <;> try exact po.elim
  case lst ds =>
    obtain ⟨a, xs, rfl, ha, rs⟩ := r
    split at po
    · rename_i ns e
      rw [ints_map e] at rs
      rw [rep_ints.mp rs] at ha
      unfold R.guard at po
      split at po
      · rename_i hn
        refine ⟨a, ns, rfl, .of ha, hn, fun m hm hle => ?_⟩
        have e : m = maxOf ns := by
          cases ns with
          | nil => cases hm
          | cons x l =>
            obtain ⟨h1, h2⟩ := max_fold l x
            exact Int.le_antisymm (h2 m hm) (hle _ h1)
        subst e
        exact po _ H (Ext.refl H) S.g (by simp [RepM, Rep])
      · exact po.elim
    · exact po.elim
theorem v_minL : V1 C F W own .s .minL (rMin C.K) := by
  intro ρ σ H y v Q S r po
  cases y <;> simp only [biD] at po <;> try exact po.elim
  case lst ds =>
    obtain ⟨a, xs, rfl, ha, rs⟩ := r
    split at po
    · rename_i ns e
      rw [ints_map e] at rs
      rw [rep_ints.mp rs] at ha
      unfold R.guard at po
      split at po
      · rename_i hn
        refine ⟨a, ns, rfl, .of ha, hn, fun m hm hle => ?_⟩
        have e : m = minOf ns := by
          cases ns with
          | nil => cases hm
          | cons x l =>
            obtain ⟨h1, h2⟩ := min_fold l x
            exact Int.le_antisymm (hle _ h1) (h2 m hm)
        subst e
        exact po _ H (Ext.refl H) S.g (by simp [RepM, Rep])
      · exact po.elim
    · exact po.elim

/-! ### isinstance -/
def tyName : Ty → String
  | .tuple => "tuple" | .int => "int" | .bool => "bool" | .list => "list" | .str => "str"
/-- the built-in class of a datum -/
def clsOf : D → Option String
  | .non => some "NoneType" | .bl _ => some "bool" | .int _ => some "int" | .str _ => some "str" | .tup _ => some "tuple" | .lst _ => some "list"
  | _ => none
theorem rep_cls {Av : Addr → Prop} {y : D} {v : V} {c : String} (r : RepO C Av H y v) (e : clsOf y = some c) : TyX C.K H v (.type c) := by
  cases y <;> simp only [clsOf, Option.some.injEq, reduceCtorEq] at e <;> subst e
  case non => simp only [RepO, Rep] at r; subst r; exact .base .non
  case bl b => simp only [RepO, Rep] at r; subst r; exact .base (.bl b)
  case int b => simp only [RepO, Rep] at r; subst r; exact .base (.int b)
  case str b => simp only [RepO, Rep] at r; subst r; exact .base (.str b)
  case tup ds =>
    simp only [RepO, Rep] at r
    obtain ⟨a, xs, rfl, ha, rs⟩ := r
    rcases ha with (h | ⟨o, h⟩) | ⟨o, its, n, h1, h2, _⟩
    · exact .base (.tup h)
    · exact .fTuple h
    · exact .kTuple h1 h2
  case lst ds =>
    obtain ⟨a, xs, rfl, ha, rs⟩ := r
    exact .base (.lst ha)
def isiB : Ty → String → Bool
  | .tuple, c => c == "tuple"
  | .int, c => c == "int" || c == "bool"
  | .bool, c => c == "bool"
  | .list, c => c == "list"
  | .str, c => c == "str"
theorem isi_kit : ∀ (T : Ty) (c : String), c ∈ ["NoneType", "bool", "int", "str", "tuple", "list"] → kitB c (tyName T) = some (isiB T c) := by
  intro T c hc
  simp only [List.mem_cons, List.not_mem_nil, or_false] at hc
  rcases hc with rfl | rfl | rfl | rfl | rfl | rfl <;> cases T <;> decide +kernel
theorem isi_cls {T : Ty} {y d : D} (h : isiD T y = .ok d) : ∃ c, clsOf y = some c ∧ c ∈ ["NoneType", "bool", "int", "str", "tuple", "list"] ∧ d = .bl (isiB T c) := by
  cases y <;> cases T <;> simp only [isiD, R.ok.injEq, reduceCtorEq] at h <;> subst h <;> exact ⟨_, rfl, by decide, congrArg D.bl (by decide)⟩
theorem isi_exc {T : Ty} {y : D} {c : Nat} {e : Option D} (h : isiD T y = .exc c e) : False := by
  cases y <;> cases T <;> simp only [isiD, reduceCtorEq] at h
theorem bootTy : ∀ T : Ty, bootBuiltins (Str.ofString (tyName T)) = some (.type (tyName T)) := by
  intro T
  cases T <;> decide +kernel
theorem e_isi (hx : XOk C cl k N sc W X) (T : Ty) {p2 : Pos} (hg : sc.names.lookup ("isinstance" : Str) = some .globalImplicit) (hm : Free C "isinstance") (hgT : sc.names.lookup (Str.ofString (tyName T)) = some .globalImplicit) (hmT : Free C (Str.ofString (tyName T)))
    (hn : notSt a = true) (ha : PE X a (TEv C F W own ma ra)) :
    PE X (.Call (.Name "isinstance" p) [a, .Name (Str.ofString (tyName T)) p2] [] pos) (TEv C F W own .s fun ρ => (ra ρ).bind fun y => isiD T y) := by
  have hT : PE X (.Name (Str.ofString (tyName T)) p2) (tC (.ty (tyName T))) := pe_bltn (gl_of hx hgT) (mg_of' hx hmT) (bootTy T) rfl (by cases T <;> decide) (by cases T <;> decide)
  refine PE.imp (callB1 (r := rIsi X.K) hx call_isi hg hm (by decide +kernel) (by decide) (by decide) rfl hn _ (pa_cons ha (pa_cons hT pa_nil (star_cons rfl)) (star_cons hn))) ?_
  intro σ H Q ⟨ρ, S, po⟩
  refine tev_bind (r := ra) S po fun y v H1 _ e1 S1 q1 po1 => ?_
  cases e : isiD T y with
  | bad => rw [e] at po1; exact po1.elim
  | exc c x => exact (isi_exc e).elim
  | ok d =>
    rw [e] at po1
    obtain ⟨c, h1, h2, rfl⟩ := isi_cls e
    rw [hx.K]
    exact ⟨v, .ty (tyName T), .type c, .type (tyName T), isiB T c, rfl, .ty _, rep_cls q1.o h1, kit_ty (isi_kit T c h2), po1 _ H1 (Ext.refl H1) S1.g (by simp [RepM, Rep])⟩
end
end Vm

set_option maxRecDepth 100000
set_option maxHeartbeats 2000000
/-! VmJ: what a loop or a comprehension walks; targets; comprehensions. -/
namespace Vm
open PySem PySem.Spec PyProof.Rows L2

/-- J walks xs as long as what stands away from Av (fix = false: what stands at all) stays -/
def WalkJ (C : Pc) (fx : Bool) (Av : Addr → Prop) (J : It) (xs : List D) (H1 : Hp) : Prop :=
  ∀ (i : Nat) (Av' : Addr → Prop) (H' : Hp), Keep Av Av' H1 H' → (fx = true → Ext H1 H') →
    (xs.length ≤ i → J.stop i H') ∧ ∀ d, xs[i]? = some d → J.go i H' ∧ ∀ x H'', J.yld i H' x H'' → Ext H' H'' ∧ (C.G H' → C.G H'') ∧ Rep C Av' H'' d x
theorem WalkJ.fix {C : Pc} {Av : Addr → Prop} {J : It} {xs : List D} {H1 : Hp} (w : WalkJ C false Av J xs H1) : WalkJ C true Av J xs H1 := fun i Av' H' k _ => w i Av' H' k fun z => nomatch z

def PostI (C : Pc) (W : WX) (fx : Bool) (Av : Addr → Prop) (σ : L2.St) (H : Hp) (r : R (List D)) (Q : It → Hp → Prop) : Prop := match r with
  | .ok xs => ∀ J H', Ext H H' → C.G H' → WalkJ C fx Av J xs H' → Q J H'
  | .exc c x => PostX C W σ H c x
  | .bad => False
def TIv (C : Pc) (F : Fr0) (W : WX) (own : List Nat) (fx : Bool) (r : Env → R (List D)) : TI := fun σ H Q => ∃ ρ, Sr C F own ρ σ H ∧ PostI C W fx (AvO F own ρ σ) σ H (r ρ) Q
theorem PI.imp {X : Cx} {tg e : Expr} {t t' : TI} (h : PI X tg e t) (k : ∀ σ H Q, t' σ H Q → t σ H Q) : PI X tg e t' := ⟨fun pins s σ H Q I q => h.run pins s σ H Q I (k σ H Q q)⟩

section
variable {C : Pc} {F : Fr0} {W : WX} {own : List Nat} {m ma mb : Mode} {ρ : Env} {σ : L2.St} {H H' H1 : Hp} {X : Cx} {N : List Str} {sc : Scope} {k j f : Nat} {cl fx : Bool} {sp : Sp} {Φ : Sm}
variable {ra rb : Env → R D} {ras rks : Env → R (List D)} {a b o tg : Expr} {es : List Expr} {kws : List Keyword} {p pos apos : Pos} {Q : VK} {x : Str}
variable {pins : List (Addr × Obj)} {s : Shared}

/-- a list or a tuple, whichever it is -/
theorem pi_seq {tl : TE} (hl : PE X a tl) : PI X tg a (fun σ H R => tl σ H fun v H1 => ∃ p, v = .ref p ∧ (((∃ xs, SqL X.K H1 p xs) ∧ R (Itl X.K p) H1) ∨ ((∃ xs, SqT X.K H1 p xs) ∧ R (Itt X.K p) H1))) := by
  constructor
  intro pins s σ H R I h
  refine thn (hl.run pins s σ H _ I h) ?_
  rintro u s1 ⟨v, H1, I1, r1, p, rfl, q⟩
  obtain rfl : u = Value.ref p := r1
  have new : ∀ b ∈ [s1.heap.objs.size], FpOk X pins H1 b := by
    intro b hb
    rw [List.mem_singleton] at hb
    rw [hb]
    exact I1.fpOk (Nat.le_refl _) (I1.hok.fresh (Nat.le_refl _))
  have kp : ∀ (ob : Obj) (b : Addr) (z : Obj), s1.heap.get? b = some z → (s1.heap.push ob).get? b = some z := fun ob b z e => Heap.get?_push_of_some _ e
  rcases q with ⟨⟨xs, hq⟩, q⟩ | ⟨⟨xs, hq⟩, q⟩
  · obtain ⟨its, rv, pl, hz⟩ := I1.list hq
    exact wpAny_pyIter_list pl.isList ⟨_, _, _, _, H1, rfl, I1.kept (t' := s1.toks) (kp _), turn_list p _, ⟨_, Heap.get?_push_size _ rfl, rfl, rfl⟩, new, q⟩
  · obtain ⟨its, rv, pl, hz⟩ := I1.tuple hq
    exact wpAny_pyIter_tuple (show s1.heap.IsTuple p its.toArray from pl) ⟨_, _, _, _, H1, rfl, I1.kept (t' := s1.toks) (kp _), turn_tuple p _, ⟨_, Heap.get?_push_size _ rfl, rfl, rfl⟩, new, q⟩
theorem sql_inj {K : PySem.W.Frag} {q : Addr} {vs : List V} (h : H q = some (.lst vs)) (I : Inv X pins σ H s) (hk : X.K = K) : ∀ ys, SqL K H q ys → ys = vs := fun ys hy => by rw [← hk] at hy; exact I.list_inj hy (.of h)

/-- the walk of a list that stands -/
theorem walk_lst {K : PySem.W.Frag} {Av : Addr → Prop} {q : Addr} {vs : List V} {ds : List D} (hq : H q = some (.lst vs)) (hr : Reps C Av H ds vs) (hav : fx = false → ¬ Av q) (hK : C.K = K) : WalkJ C fx Av (Itl K q) ds H := by
  intro i Av' H' kp kx
  have h' : H' q = some (.lst vs) := by
    cases fx with
    | true => exact (kx rfl).keep _ _ hq notbl_lst
    | false => exact kp.away _ _ hq notbl_lst (hav rfl)
  have r' : Reps C Av' H' ds vs := Reps.keep kp _ _ hr
  refine ⟨fun hl => ⟨vs, .of h', by rw [← hr.length]; exact hl⟩, fun d hd => ?_⟩
  obtain ⟨v, hv, rv⟩ := r'.get hd
  refine ⟨⟨vs, v, .of h', hv⟩, fun x H'' y => ?_⟩
  obtain ⟨rfl, y⟩ := y
  have e := y vs (.of h')
  rw [hv] at e
  cases e
  exact ⟨Ext.refl _, fun g => g, rv⟩
theorem walk_tup {K : PySem.W.Frag} {Av : Addr → Prop} {q : Addr} {vs : List V} {ds : List D} (hq : SqT K H q vs) (hr : Reps C Av H ds vs) : WalkJ C fx Av (Itt K q) ds H := by
  intro i Av' H' kp kx
  have h' : SqT K H' q vs := sqt_keep kp hq
  have r' : Reps C Av' H' ds vs := Reps.keep kp _ _ hr
  refine ⟨fun hl => ⟨vs, h', by rw [← hr.length]; exact hl⟩, fun d hd => ?_⟩
  obtain ⟨v, hv, rv⟩ := r'.get hd
  refine ⟨⟨vs, v, h', hv⟩, fun x H'' y => ?_⟩
  obtain ⟨rfl, y⟩ := y
  have e := y vs h'
  rw [hv] at e
  cases e
  exact ⟨Ext.refl _, fun g => g, rv⟩
theorem PostI.at {Av : Addr → Prop} {r : R (List D)} {Q : It → Hp → Prop} (h : PostI C W fx Av σ H r Q) (e : Ext H H1) : PostI C W fx Av σ H1 r Q := by
  cases r with
  | ok d => exact fun J H' e' g q => h J H' (e.trans e') g q
  | exc c x => exact PostX.at h e
  | bad => exact h
theorem tiv_bind {r : Env → R D} {kk : D → R (List D)} {Q : It → Hp → Prop} {K : VK} (S : Sr C F own ρ σ H) (po : PostI C W fx (AvO F own ρ σ) σ H ((r ρ).bind kk) Q)
    (h : ∀ d v H1, r ρ = .ok d → Ext H H1 → Sr C F own ρ σ H1 → RepM C ma (AvO F own ρ σ) H H1 d v → PostI C W fx (AvO F own ρ σ) σ H1 (kk d) Q → K v H1) : TEv C F W own ma r σ H K := by
  refine ⟨ρ, S, ?_⟩
  cases e : r ρ with
  | ok d =>
    rw [e] at po
    exact fun v H1 e1 g1 q1 => h d v H1 e e1 (S.ext e1 g1) q1 (PostI.at po e1)
  | exc c x => rw [e] at po; exact po
  | bad => rw [e] at po; exact po
theorem i_seq (hx : XOk C cl k N sc W X) (fo : F.Ok) (hm : fx = false → ma ≠ .b) (ha : PE X a (TEv C F W own ma ra)) : PI X tg a (TIv C F W own fx fun ρ => (ra ρ).bind fun y => R.ofOpt (seq? y)) := by
  refine PI.imp (pi_seq ha) ?_
  intro σ H Q ⟨ρ, S, po⟩
  refine tiv_bind S po fun d v H1 _ e1 S1 q1 po1 => ?_
  cases d <;> simp only [seq?] at po1 <;> try exact po1.elim
  case lst ds =>
    obtain ⟨q, vs, rfl, hq, rs⟩ := q1.o
    refine ⟨q, rfl, .inl ⟨⟨vs, .of hq⟩, po1 _ H1 (Ext.refl H1) S1.g (walk_lst hq rs (fun hf => ?_) hx.K.symm)⟩⟩
    have q2 := q1.s (hm hf) (avTr S fo)
    simp only [Rep] at q2
    obtain ⟨q', vs', e', n, _⟩ := q2
    cases e'
    exact n
  case tup ds =>
    have q2 := q1.o
    simp only [RepO, Rep] at q2
    obtain ⟨q, vs, rfl, hq, rs⟩ := q2
    rw [← hx.K] at hq
    exact ⟨q, rfl, .inr ⟨⟨vs, hq⟩, po1 _ H1 (Ext.refl H1) S1.g (walk_tup hq rs)⟩⟩
theorem rgD_get {n i : Nat} {lo : Int} {d : D} (h : (rgD n lo)[i]? = some d) : i < n ∧ d = .int (lo + (i : Nat)) := by
  unfold rgD at h
  rw [List.getElem?_map] at h
  cases e : (List.range n)[i]? with
  | none => rw [e] at h; cases h
  | some j =>
    rw [e] at h
    obtain ⟨h1, h2⟩ := List.getElem?_eq_some_iff.mp e
    rw [List.getElem_range] at h2
    rw [List.length_range] at h1
    subst h2
    cases h
    exact ⟨h1, rfl⟩
theorem walk_rng {Av : Addr → Prop} {n : Nat} {lo : Int} : WalkJ C fx Av (Itr lo n) (rgD n lo) H := by
  intro i Av' H' kp kx
  refine ⟨fun hl => ?_, fun d hd => ?_⟩
  · unfold rgD at hl
    rw [List.length_map, List.length_range] at hl
    exact hl
  · obtain ⟨h1, rfl⟩ := rgD_get hd
    refine ⟨h1, fun x H'' y => ?_⟩
    obtain ⟨rfl, rfl⟩ := y
    exact ⟨Ext.refl _, fun g => g, by simp [Rep]⟩
theorem rev_get {α : Type} {xs : List α} {i : Nat} {d : α} (h : xs.reverse[i]? = some d) : i < xs.length ∧ xs[xs.length - 1 - i]? = some d := by
  have hi : i < xs.length := by
    have := (List.getElem?_eq_some_iff.mp h).1
    rwa [List.length_reverse] at this
  rw [List.getElem?_reverse hi] at h
  exact ⟨hi, h⟩
theorem walk_rev {K : PySem.W.Frag} {Av : Addr → Prop} {q : Addr} {vs : List V} {ds : List D} (hq : H q = some (.lst vs)) (hr : Reps C Av H ds vs) (hav : fx = false → ¬ Av q) (hK : C.K = K) : WalkJ C fx Av (Itv K q vs.length) ds.reverse H := by
  intro i Av' H' kp kx
  have h' : H' q = some (.lst vs) := by
    cases fx with
    | true => exact (kx rfl).keep _ _ hq notbl_lst
    | false => exact kp.away _ _ hq notbl_lst (hav rfl)
  have r' : Reps C Av' H' ds vs := Reps.keep kp _ _ hr
  refine ⟨fun hl => ?_, fun d hd => ?_⟩
  · rw [List.length_reverse, hr.length] at hl
    exact hl
  · obtain ⟨hi, hd⟩ := rev_get hd
    obtain ⟨v, hv, rv⟩ := r'.get hd
    rw [hr.length] at hi hv
    refine ⟨⟨hi, vs, v, .of h', hv⟩, fun x H'' y => ?_⟩
    obtain ⟨rfl, y⟩ := y
    have e := y vs (.of h')
    rw [hv] at e
    cases e
    exact ⟨Ext.refl _, fun g => g, rv⟩
theorem walk_revT {K : PySem.W.Frag} {Av : Addr → Prop} {q : Addr} {vs : List V} {ds : List D} (hq : SqT K H q vs) (hr : Reps C Av H ds vs) : WalkJ C fx Av (RT.ItvT K q vs.length) ds.reverse H := by
  intro i Av' H' kp kx
  have h' : SqT K H' q vs := sqt_keep kp hq
  have r' : Reps C Av' H' ds vs := Reps.keep kp _ _ hr
  refine ⟨fun hl => ?_, fun d hd => ?_⟩
  · rw [List.length_reverse, hr.length] at hl
    exact hl
  · obtain ⟨hi, hd⟩ := rev_get hd
    obtain ⟨v, hv, rv⟩ := r'.get hd
    rw [hr.length] at hi hv
    refine ⟨⟨hi, vs, v, h', hv⟩, fun x H'' y => ?_⟩
    obtain ⟨rfl, y⟩ := y
    have e := y vs h'
    rw [hv] at e
    cases e
    exact ⟨Ext.refl _, fun g => g, rv⟩
theorem i_rev (hx : XOk C cl k N sc W X) (fo : F.Ok) (hm' : fx = false → ma ≠ .b) (hg : sc.names.lookup ("reversed" : Str) = some .globalImplicit) (hm : Free C "reversed") (hn : notSt a = true) (ha : PE X a (TEv C F W own ma ra)) :
    PI X tg (.Call (.Name "reversed" p) [a] [] pos) (TIv C F W own fx fun ρ => (ra ρ).bind fun y => R.ofOpt ((seq? y).map List.reverse)) := by
  refine PI.imp (RT.pi_revA (gl_of hx hg) (mg_of' hx hm) ha (star_cons hn)) ?_
  intro σ H Q ⟨ρ, S, po⟩
  refine tiv_bind S po fun d v H1 _ e1 S1 q1 po1 => ?_
  cases d <;> simp only [seq?] at po1 <;> try exact po1.elim
  case lst ds =>
    obtain ⟨q, vs, rfl, hq, rs⟩ := q1.o
    refine ⟨q, vs, rfl, .inl ⟨.of hq, po1 _ H1 (Ext.refl H1) S1.g (walk_rev hq rs (fun hf => ?_) hx.K.symm)⟩⟩
    have q2 := q1.s (hm' hf) (avTr S fo)
    simp only [Rep] at q2
    obtain ⟨q', vs', e', n, _⟩ := q2
    cases e'
    exact n
  case tup ds =>
    have q2 := q1.o
    simp only [RepO, Rep] at q2
    obtain ⟨q, vs, rfl, hq, rs⟩ := q2
    rw [← hx.K] at hq
    exact ⟨q, vs, rfl, .inr ⟨hq, po1 _ H1 (Ext.refl H1) S1.g (walk_revT hq rs)⟩⟩
theorem i_rng1 (hx : XOk C cl k N sc W X) (hg : sc.names.lookup ("range" : Str) = some .globalImplicit) (hm : Free C "range") (hn : notSt a = true) (ha : PE X a (TEv C F W own ma ra)) :
    PI X tg (.Call (.Name "range" p) [a] [] pos) (TIv C F W own fx fun ρ => (ra ρ).bind fun y => rng1D y) := by
  refine PI.imp (pi_range1 (gl_of hx hg) (mg_of' hx hm) (pa_cons ha pa_nil (star_cons hn)) (star_cons hn)) ?_
  intro σ H Q ⟨ρ, S, po⟩
  refine tiv_bind S po fun d v H1 _ e1 S1 q1 po1 => ?_
  cases d <;> try exact po1.elim
  have q2 := q1.o
  simp only [RepO, Rep] at q2
  subst q2
  simp only [rng1D, R.guard] at po1
  split at po1
  · rename_i hb
    exact ⟨_, rfl, by omega, by omega, po1 _ H1 (Ext.refl H1) S1.g walk_rng⟩
  · exact po1.elim
theorem i_rng2 (hx : XOk C cl k N sc W X) (hg : sc.names.lookup ("range" : Str) = some .globalImplicit) (hm : Free C "range") (hn : notSt a = true) (hn2 : notSt b = true) (ha : PE X a (TEv C F W own ma ra)) (hb : PE X b (TEv C F W own mb rb)) :
    PI X tg (.Call (.Name "range" p) [a, b] [] pos) (TIv C F W own fx fun ρ => (ra ρ).bind fun y => (rb ρ).bind fun z => rng2D y z) := by
  refine PI.imp (pi_range2 (gl_of hx hg) (mg_of' hx hm) (pa_cons ha (pa_cons hb pa_nil (star_cons hn2)) (star_cons hn)) (by rw [star_cons hn, star_cons hn2]; rfl) (star_cons hn2)) ?_
  intro σ H Q ⟨ρ, S, po⟩
  refine tiv_bind S po fun d v H1 _ e1 S1 q1 po1 => tiv_bind S1 po1 fun e u H2 _ e2 S2 q2 po2 => ?_
  cases d <;> cases e <;> try exact po2.elim
  have r1 := q1.o
  have r2 := q2.o
  simp only [RepO, Rep] at r1 r2
  subst r1 r2
  simp only [rng2D, R.guard] at po2
  split at po2
  · rename_i hb
    exact ⟨_, _, rfl, ⟨by omega, by omega, by omega, by omega⟩, po2 _ H2 (Ext.refl H2) S2.g walk_rng⟩
  · exact po2.elim
theorem enumD_get {xs : List D} {i : Nat} {d : D} (h : (enumD xs)[i]? = some d) : ∃ y, xs[i]? = some y ∧ d = .tup [.int (i : Nat), y] := by
  unfold enumD at h
  rw [List.getElem?_map, List.getElem?_zipIdx] at h
  cases e : xs[i]? with
  | none => rw [e] at h; cases h
  | some y =>
    rw [e] at h
    simp only [Option.map_some, Option.some.injEq, Nat.zero_add] at h
    exact ⟨y, rfl, h.symm⟩
theorem walk_enum {K : PySem.W.Frag} {Av : Addr → Prop} {q : Addr} {vs : List V} {ds : List D} (hq : H q = some (.lst vs)) (hr : Reps C Av H ds vs) (hav : fx = false → ¬ Av q) (hK : C.K = K) : WalkJ C fx Av (Ite K q) (enumD ds) H := by
  intro i Av' H' kp kx
  have h' : H' q = some (.lst vs) := by
    cases fx with
    | true => exact (kx rfl).keep _ _ hq notbl_lst
    | false => exact kp.away _ _ hq notbl_lst (hav rfl)
  have r' : Reps C Av' H' ds vs := Reps.keep kp _ _ hr
  refine ⟨fun hl => ⟨vs, .of h', ?_⟩, fun d hd => ?_⟩
  · unfold enumD at hl
    rw [List.length_map, List.length_zipIdx] at hl
    rw [← hr.length]
    exact hl
  · obtain ⟨y, hy, rfl⟩ := enumD_get hd
    obtain ⟨v, hv, rv⟩ := r'.get hy
    refine ⟨⟨vs, v, .of h', hv⟩, fun x H'' yl => ?_⟩
    obtain ⟨T, z, rfl, hT, rfl, hz⟩ := yl
    have e := hz vs (.of h')
    rw [hv] at e
    cases e
    refine ⟨Ext.new hT, fun g => g_new g hT, ?_⟩
    simp only [Rep, Reps]
    exact ⟨T, _, rfl, .of upd_same, ⟨rfl, rv.ext (Ext.new hT), trivial⟩⟩
theorem i_enum (hx : XOk C cl k N sc W X) (fo : F.Ok) {elts : List Expr} {kk : Nat} {tpos : Pos} (hm' : fx = false → ma ≠ .b) (hg : sc.names.lookup ("enumerate" : Str) = some .globalImplicit) (hm : Free C "enumerate") (hn : notSt a = true) (ha : PE X a (TEv C F W own ma ra)) :
    PI X (.Tuple elts kk tpos) (.Call (.Name "enumerate" p) [a] [] pos) (TIv C F W own fx fun ρ => (ra ρ).bind fun y => enum1D y) := by
  refine PI.imp (pi_enum (gl_of hx hg) (mg_of' hx hm) (pa_cons ha pa_nil (star_cons hn)) (star_cons hn)) ?_
  intro σ H Q ⟨ρ, S, po⟩
  refine tiv_bind S po fun d v H1 _ e1 S1 q1 po1 => ?_
  cases d <;> try exact po1.elim
  rename_i ds _
  obtain ⟨q, vs, rfl, hq, rs⟩ := q1.o
  refine ⟨q, vs, rfl, .of hq, po1 _ H1 (Ext.refl H1) S1.g (walk_enum hq rs (fun hf => ?_) hx.K.symm)⟩
  have q2 := q1.s (hm' hf) (avTr S fo)
  simp only [Rep] at q2
  obtain ⟨q', vs', e', n, _⟩ := q2
  cases e'
  exact n
end
end Vm

set_option maxRecDepth 100000
set_option maxHeartbeats 2000000
/-! VmK: targets, comprehensions. -/
namespace Vm
open PySem PySem.Spec PyProof.Rows L2

mutual
def slots : Tgt → List Nat
  | .nm i => [i]
  | .tp ts => slotss ts
def slotss : List Tgt → List Nat
  | [] => []
  | t :: ts => slots t ++ slotss ts
end
/-- only these slots differ -/
structure SameBut (ts : List Nat) (σ σ' : L2.St) : Prop where
  len : σ'.length = σ.length
  at_ : ∀ i : Nat, i ∉ ts → σ'[i]? = σ[i]?
theorem SameBut.refl {ts : List Nat} {σ : L2.St} : SameBut ts σ σ := ⟨rfl, fun _ _ => rfl⟩
theorem SameBut.trans {ts us : List Nat} {σ σ1 σ2 : L2.St} (a : SameBut ts σ σ1) (b : SameBut us σ1 σ2) : SameBut (ts ++ us) σ σ2 :=
  ⟨b.len.trans a.len, fun i h => by rw [List.mem_append, not_or] at h; rw [b.at_ i h.2, a.at_ i h.1]⟩

section
variable {C : Pc} {F : Fr0} {W : WX} {own : List Nat} {m ma mb : Mode} {ρ ρ' : Env} {σ σ' : L2.St} {H H' H1 : Hp} {X : Cx} {N : List Str} {sc : Scope} {k j f : Nat} {cl fx : Bool} {sp : Sp} {Φ : Sm}
variable {ra rb : Env → R D} {ras rks : Env → R (List D)} {a b o tg : Expr} {es : List Expr} {kws : List Keyword} {p pos apos : Pos} {Q : VK} {x : Str}
variable {pins : List (Addr × Obj)} {s : Shared}

/-- the own places are the same -/
def AvEq (F : Fr0) (own : List Nat) (ρ : Env) (σ : L2.St) (ρ' : Env) (σ' : L2.St) : Prop := ∀ b, AvO F own ρ' σ' b ↔ AvO F own ρ σ b
theorem AvEq.trans {ρ1 : Env} {σ1 : L2.St} (a : AvEq F own ρ σ ρ1 σ1) (b : AvEq F own ρ1 σ1 ρ' σ') : AvEq F own ρ σ ρ' σ' := fun c => (b c).trans (a c)
/-- a slot that is not own takes a value -/
theorem av_set {i : Nat} {d : Option D} {v : Option V} (hi : i ∉ own) : AvEq F own ρ σ (ρ.set i d) (σ.set i v) := by
  intro b
  have ne : ∀ j, j ∈ own → i ≠ j := fun j hj e => hi (e ▸ hj)
  constructor
  · rintro (h | ⟨j, e, hj, h1, h2, h3⟩)
    · exact .inl h
    · rw [List.getElem?_set_ne (ne j hj)] at h1 h3
      exact .inr ⟨j, e, hj, h1, h2, h3⟩
  · rintro (h | ⟨j, e, hj, h1, h2, h3⟩)
    · exact .inl h
    · refine .inr ⟨j, e, hj, ?_, h2, ?_⟩
      · rw [List.getElem?_set_ne (ne j hj)]; exact h1
      · rw [List.getElem?_set_ne (ne j hj)]; exact h3
theorem Sr.avEq (S : Sr C F own ρ σ H) (e : AvEq F own ρ σ ρ' σ') {d : D} {v : V} : (Rep C (AvO F own ρ σ) H d v → Rep C (AvO F own ρ' σ') H d v) ∧ (RepO C (AvO F own ρ σ) H d v → RepO C (AvO F own ρ' σ') H d v) :=
  ⟨fun h => h.anti fun b z => (e b).mp z, fun h => h.keep (.anti fun b z => (e b).mp z) fun _ _ _ _ z _ => z⟩
theorem Sr.set (S : Sr C F own ρ σ H) {i : Nat} {d : D} {v : V} (hi : i ∉ own) (hl : i < ρ.length) (r : Rep C (AvO F own ρ σ) H d v) : Sr C F own (ρ.set i (some d)) (σ.set i (some v)) H := by
  have e := av_set (F := F) (ρ := ρ) (σ := σ) (d := some d) (v := some v) hi
  have hl2 : i < σ.length := by rw [← S.len]; exact hl
  refine ⟨S.g, by rw [List.length_set, List.length_set]; exact S.len, S.ent, S.dom, S.a0, fun j d' h => ?_, fun j d' a hj h1 h2 h3 => ?_, fun j1 j2 d1 d2 a h1 h2 h3 h4 h5 h6 h7 h8 => ?_, fun x h => let ⟨h1, h2, h3⟩ := S.m0 x h; ⟨h1, by rw [List.getElem?_set_ne (fun z => by subst z; exact hi h1)]; exact h2, h3⟩⟩
  · by_cases q : i = j
    · subst q
      rw [List.getElem?_set_self hl] at h
      cases h
      exact ⟨v, List.getElem?_set_self hl2, fun _ => (S.avEq e).1 r, (S.avEq e).2 r.toO⟩
    · rw [List.getElem?_set_ne q] at h ⊢
      obtain ⟨w, h1, h2, h3⟩ := S.slot j d' h
      exact ⟨w, h1, fun n => (S.avEq e).1 (h2 n), (S.avEq e).2 h3⟩
  · have q : i ≠ j := fun z => hi (z ▸ hj)
    rw [List.getElem?_set_ne q] at h1 h3
    exact S.new j d' a hj h1 h2 h3
  · have q1 : i ≠ j1 := fun z => hi (z ▸ h1)
    have q2 : i ≠ j2 := fun z => hi (z ▸ h2)
    rw [List.getElem?_set_ne q1] at h3 h7
    rw [List.getElem?_set_ne q2] at h4 h8
    exact S.dis j1 j2 d1 d2 a h1 h2 h3 h4 h5 h6 h7 h8

/-! ### targets -/
/-- what a binding must give -/
def PostG (C : Pc) (F : Fr0) (own : List Nat) (ts : List Nat) (ρ : Env) (σ : L2.St) (H : Hp) (r : R Env) (K : L2.St → Hp → Prop) : Prop := match r with
  | .ok ρ' => ∀ σ', Sr C F own ρ' σ' H → AvEq F own ρ σ ρ' σ' → SameBut ts σ σ' → K σ' H
  | _ => False
def TGv (C : Pc) (F : Fr0) (own : List Nat) (t : Tgt) : TG := fun v σ H K => ∃ ρ d, Sr C F own ρ σ H ∧ Rep C (AvO F own ρ σ) H d v ∧ PostG C F own (slots t) ρ σ H (bindT t d ρ) K
def TGsv (C : Pc) (F : Fr0) (own : List Nat) (ts : List Tgt) : TGs := fun vs σ H K => ∃ ρ ds, Sr C F own ρ σ H ∧ Reps C (AvO F own ρ σ) H ds vs ∧ PostG C F own (slotss ts) ρ σ H (bindTs ts ds ρ) K
theorem PG.imp {t t' : TG} (h : PG X a t) (k : ∀ v σ H K, t' v σ H K → t v σ H K) : PG X a t' := ⟨fun pins s σ H v u K I r q => h.run pins s σ H v u K I r (k v σ H K q)⟩
theorem PGs.imp {t t' : TGs} (h : PGs X es t) (k : ∀ v σ H K, t' v σ H K → t v σ H K) : PGs X es t' := ⟨fun pins s σ H v u K I r q => h.run pins s σ H v u K I r (k v σ H K q)⟩
mutual
/-- a target's check: names by slot, local or cell, none of them own -/
def ckT (N : List Str) (sc : Scope) (bnd : Str → Bool) (own : List Nat) : Tgt → Expr → Bool
  | .nm i, .Name x _ => decide (N[i]? = some x) && (sc.names.lookup x == some .local || sc.names.lookup x == some .cell) && bnd x && !own.contains i
  | .tp ts, .Tuple es _ _ => ckTs N sc bnd own ts es
  | _, _ => false
def ckTs (N : List Str) (sc : Scope) (bnd : Str → Bool) (own : List Nat) : List Tgt → List Expr → Bool
  | [], [] => true
  | t :: ts, e :: es => ckT N sc bnd own t e && ckTs N sc bnd own ts es
  | _, _ => false
end
theorem ckTs_len {bnd : Str → Bool} : ∀ {ts : List Tgt} {es : List Expr}, ckTs N sc bnd own ts es = true → ts.length = es.length ∧ es.all notSt = true
  | [], [], _ => ⟨rfl, rfl⟩
  | [], _ :: _, h => by simp [ckTs] at h
  | _ :: _, [], h => by simp [ckTs] at h
  | t :: ts, e :: es, h => by
    simp only [ckTs, Bool.and_eq_true] at h
    obtain ⟨h1, h2⟩ := ckTs_len h.2
    refine ⟨by simp [h1], ?_⟩
    rw [List.all_cons, h2, Bool.and_true]
    have := h.1
    cases t <;> cases e <;> first | rfl | simp [ckT] at this
theorem asgEach_cons {e : Expr} {es : List Expr} {env : PySem.Env} (h : notSt e = true) : assignEach (e :: es) env = (false, assign e env) :: assignEach es env := by
  cases e <;> first | rfl | cases h
theorem asgEach_all {env : PySem.Env} : ∀ {es : List Expr}, es.all notSt = true → (assignEach es env).length = es.length ∧ (assignEach es env).findIdx? (·.1) = none
  | [], _ => ⟨rfl, rfl⟩
  | e :: es, h => by
    rw [List.all_cons, Bool.and_eq_true] at h
    obtain ⟨h1, h2⟩ := asgEach_all (env := env) h.2
    rw [asgEach_cons h.1]
    refine ⟨by simp [h1], ?_⟩
    rw [List.findIdx?_cons]
    simp [h2]
mutual
theorem g_tgt (hx : XOk C cl k N sc W X) (hcl : cl = true) {bnd : Str → Bool} (hb : ∀ x, bnd x = true → X.fn x = true ∨ sc.names.lookup x = some .local) : ∀ (t : Tgt) (e : Expr), ckT N sc bnd own t e = true → PG X e (TGv C F own t)
  | .nm i, .Name x pp, h => by
    simp only [ckT, Bool.and_eq_true, decide_eq_true_eq, Bool.or_eq_true, beq_iff_eq, Bool.not_eq_true', List.contains_eq_mem, decide_eq_false_iff_not] at h
    obtain ⟨⟨⟨h1, h2⟩, h3⟩, h4⟩ := h
    refine PG.imp (pg_name (i := i) (by rw [hx.eN]; exact hx.nd) (by rw [hx.eN]; exact h1) (by rw [hx.eS]; exact h2) (by rw [hx.eS]; exact hb x h3)) ?_
    rintro v σ H K ⟨ρ, d, S, r, po⟩
    simp only [bindT, PostG] at po
    by_cases hl : i < ρ.length
    · exact po _ (S.set h4 hl r) (av_set h4) ⟨by rw [List.length_set], fun j hj => List.getElem?_set_ne (fun z => hj (by simp [slots, z]))⟩
    · have e1 : ρ.set i (some d) = ρ := List.set_eq_of_length_le (by omega)
      have e2 : σ.set i (some v) = σ := List.set_eq_of_length_le (by rw [← S.len]; omega)
      rw [e1] at po
      show K (σ.set i (some v)) H
      rw [e2]
      exact po σ S (fun _ => Iff.rfl) SameBut.refl
  | .tp ts, .Tuple es kk pp, h => by
    simp only [ckT] at h
    obtain ⟨h1, h2⟩ := ckTs_len h
    obtain ⟨h3, h4⟩ := asgEach_all (env := X.env) h2
    refine PG.imp (pg_tup (n := es.length) (hx.calm hcl).1 (g_tgts hx hcl hb ts es h) h3 h4) ?_
    rintro v σ H K ⟨ρ, d, S, r, po⟩
    cases d <;> simp only [bindT, PostG] at po <;> try exact po.elim
    rename_i ds
    simp only [Rep] at r
    obtain ⟨q, xs, rfl, hq, rs⟩ := r
    rw [← hx.K] at hq
    refine ⟨q, xs, rfl, hq, ?_, ρ, ds, S, rs, po⟩
    rw [← rs.length, ← h1]
    have hbl : ∀ (ts : List Tgt) (ds : List D) (ρ ρ' : Env), bindTs ts ds ρ = .ok ρ' → ds.length = ts.length := by
      intro ts
      induction ts with
      | nil => intro ds ρ ρ' e; cases ds <;> simp [bindTs] at e ⊢
      | cons t ts ih =>
        intro ds ρ ρ' e
        cases ds with
        | nil => simp [bindTs] at e
        | cons d ds =>
          simp only [bindTs] at e
          cases e1 : bindT t d ρ <;> rw [e1] at e <;> try cases e
          simp [ih _ _ _ e]
    cases e : bindTs ts ds ρ with
    | ok ρ' => exact hbl _ _ _ _ e
    | exc c y => rw [e] at po; exact po.elim
    | bad => rw [e] at po; exact po.elim
  | .nm _, .Tuple .., h | .nm _, .BoolOp .., h | .nm _, .NamedExpr .., h | .nm _, .BinOp .., h | .nm _, .UnaryOp .., h | .nm _, .Lambda .., h | .nm _, .IfExp .., h | .nm _, .Dict .., h | .nm _, .Set .., h
  | .nm _, .ListComp .., h | .nm _, .SetComp .., h | .nm _, .DictComp .., h | .nm _, .GeneratorExp .., h | .nm _, .Await .., h | .nm _, .Yield .., h | .nm _, .YieldFrom .., h | .nm _, .Compare .., h | .nm _, .Call .., h
  | .nm _, .FormattedValue .., h | .nm _, .JoinedStr .., h | .nm _, .Constant .., h | .nm _, .Attribute .., h | .nm _, .Subscript .., h | .nm _, .Starred .., h | .nm _, .List .., h | .nm _, .Slice .., h => by simp [ckT] at h
  | .tp _, .Name .., h | .tp _, .BoolOp .., h | .tp _, .NamedExpr .., h | .tp _, .BinOp .., h | .tp _, .UnaryOp .., h | .tp _, .Lambda .., h | .tp _, .IfExp .., h | .tp _, .Dict .., h | .tp _, .Set .., h
  | .tp _, .ListComp .., h | .tp _, .SetComp .., h | .tp _, .DictComp .., h | .tp _, .GeneratorExp .., h | .tp _, .Await .., h | .tp _, .Yield .., h | .tp _, .YieldFrom .., h | .tp _, .Compare .., h | .tp _, .Call .., h
  | .tp _, .FormattedValue .., h | .tp _, .JoinedStr .., h | .tp _, .Constant .., h | .tp _, .Attribute .., h | .tp _, .Subscript .., h | .tp _, .Starred .., h | .tp _, .List .., h | .tp _, .Slice .., h => by simp [ckT] at h
theorem g_tgts (hx : XOk C cl k N sc W X) (hcl : cl = true) {bnd : Str → Bool} (hb : ∀ x, bnd x = true → X.fn x = true ∨ sc.names.lookup x = some .local) : ∀ (ts : List Tgt) (es : List Expr), ckTs N sc bnd own ts es = true → PGs X es (TGsv C F own ts)
  | [], [], _ => by
    refine PGs.imp pgs_nil ?_
    rintro vs σ H K ⟨ρ, ds, S, r, po⟩
    cases ds with
    | nil =>
      cases vs with
      | nil => exact ⟨rfl, po σ S (fun _ => Iff.rfl) SameBut.refl⟩
      | cons => simp [Reps] at r
    | cons => simp [bindTs, PostG] at po
  | [], _ :: _, h => by simp [ckTs] at h
  | _ :: _, [], h => by simp [ckTs] at h
  | t :: ts, e :: es, h => by
    obtain ⟨_, hs⟩ := ckTs_len h
    simp only [ckTs, Bool.and_eq_true] at h
    rw [List.all_cons, Bool.and_eq_true] at hs
    refine PGs.imp (pgs_cons (g_tgt hx hcl hb t e h.1) (g_tgts hx hcl hb ts es h.2) (by rw [asgEach_cons hs.1]; rfl)) ?_
    rintro vs σ H K ⟨ρ, ds, S, r, po⟩
    cases ds with
    | nil => simp [bindTs, PostG] at po
    | cons d ds =>
      cases vs with
      | nil => simp [Reps] at r
      | cons v vs =>
        simp only [Reps] at r
        refine ⟨v, vs, rfl, ρ, d, S, r.1, ?_⟩
        simp only [bindTs] at po
        cases e1 : bindT t d ρ with
        | bad => rw [e1] at po; exact po
        | exc c y => rw [e1] at po; exact po
        | ok ρ1 =>
          rw [e1] at po
          intro σ1 S1 a1 b1
          refine ⟨ρ1, ds, S1, r.2.anti fun b z => (a1 b).mp z, ?_⟩
          have po : PostG C F own (slotss (t :: ts)) ρ σ H (bindTs ts ds ρ1) K := po
          cases e2 : bindTs ts ds ρ1 with
          | bad => rw [e2] at po; exact po
          | exc c y => rw [e2] at po; exact po
          | ok ρ2 =>
            rw [e2] at po
            exact fun σ2 S2 a2 b2 => po σ2 S2 (a1.trans a2) (by simp only [slotss]; exact b1.trans b2)
end
end
end Vm

set_option maxRecDepth 100000
set_option maxHeartbeats 2000000
/-! VmL: list comprehensions. -/
namespace Vm
open PySem PySem.Spec PyProof.Rows L2

theorem wipe_get {σ : L2.St} {i : Nat} : ∀ {vs : List Nat}, (wipe σ vs)[i]? = if i ∈ vs then (if i < σ.length then some none else none) else σ[i]?
  | [] => by simp [wipe]
  | v :: vs => by
    show ((wipe σ vs).set v none)[i]? = _
    by_cases e : v = i
    · subst e
      rw [if_pos List.mem_cons_self]
      by_cases h : v < σ.length
      · rw [if_pos h, List.getElem?_set_self (by rw [wipe_length]; exact h)]
      · rw [if_neg h, List.getElem?_eq_none (by rw [List.length_set, wipe_length]; omega)]
    · rw [List.getElem?_set_ne e, wipe_get (vs := vs)]
      have : (i ∈ v :: vs) ↔ i ∈ vs := by
        rw [List.mem_cons]
        exact ⟨fun h => h.elim (fun z => absurd z.symm e) id, .inr⟩
      simp only [this]
theorem wipeE_length (ρ : Env) : ∀ vs : List Nat, (wipeE ρ vs).length = ρ.length
  | [] => rfl
  | v :: vs => by
    show ((wipeE ρ vs).set v none).length = _
    rw [List.length_set, wipeE_length ρ vs]
theorem wipeE_get {ρ : Env} {i : Nat} : ∀ {vs : List Nat}, (wipeE ρ vs)[i]? = if i ∈ vs then (if i < ρ.length then some none else none) else ρ[i]?
  | [] => by simp [wipeE]
  | v :: vs => by
    show ((wipeE ρ vs).set v none)[i]? = _
    by_cases e : v = i
    · subst e
      rw [if_pos List.mem_cons_self]
      by_cases h : v < ρ.length
      · rw [if_pos h, List.getElem?_set_self (by rw [wipeE_length]; exact h)]
      · rw [if_neg h, List.getElem?_eq_none (by rw [List.length_set, wipeE_length]; omega)]
    · rw [List.getElem?_set_ne e, wipeE_get (vs := vs)]
      have : (i ∈ v :: vs) ↔ i ∈ vs := by
        rw [List.mem_cons]
        exact ⟨fun h => h.elim (fun z => absurd z.symm e) id, .inr⟩
      simp only [this]
theorem wipe_same {σ σ2 : L2.St} {ts vs : List Nat} (h : SameBut ts (wipe σ vs) σ2) (hs : ∀ i ∈ ts, i ∈ vs) : wipe σ2 vs = wipe σ vs := by
  apply List.ext_getElem?
  intro i
  have hl : σ2.length = σ.length := by rw [h.len, wipe_length]
  rw [wipe_get, wipe_get, hl]
  by_cases e : i ∈ vs
  · rw [if_pos e, if_pos e]
  · rw [if_neg e, if_neg e, h.at_ i (fun z => e (hs i z)), wipe_get, if_neg e]

/-- a further place is kept away from -/
def Fr0.and (F : Fr0) (D : Addr) : Fr0 := { F with A0 := fun b => F.A0 b ∨ b = D }

section
variable {C : Pc} {F : Fr0} {W : WX} {own : List Nat} {m ma me : Mode} {ρ ρ' : Env} {σ σ' : L2.St} {H H' H1 : Hp} {X : Cx} {N : List Str} {sc : Scope} {k j f : Nat} {cl fx : Bool} {sp : Sp} {Φ : Sm}

theorem av_wipe {vs : List Nat} (h : ∀ i ∈ vs, i ∉ own) : AvEq F own ρ σ (wipeE ρ vs) (wipe σ vs) := by
  intro b
  have ne : ∀ j, j ∈ own → j ∉ vs := fun j hj e => h j e hj
  constructor
  · rintro (h | ⟨j, e, hj, h1, h2, h3⟩)
    · exact .inl h
    · rw [wipeE_get, if_neg (ne j hj)] at h1
      rw [wipe_get, if_neg (ne j hj)] at h3
      exact .inr ⟨j, e, hj, h1, h2, h3⟩
  · rintro (h | ⟨j, e, hj, h1, h2, h3⟩)
    · exact .inl h
    · refine .inr ⟨j, e, hj, ?_, h2, ?_⟩
      · rw [wipeE_get, if_neg (ne j hj)]; exact h1
      · rw [wipe_get, if_neg (ne j hj)]; exact h3
theorem Sr.wipe (S : Sr C F own ρ σ H) {vs : List Nat} (h : ∀ i ∈ vs, i ∉ own) : Sr C F own (wipeE ρ vs) (wipe σ vs) H := by
  have e := av_wipe (F := F) (ρ := ρ) (σ := σ) h
  have nv : ∀ (i : Nat) (d : D), (wipeE ρ vs)[i]? = some (some d) → i ∉ vs ∧ ρ[i]? = some (some d) := fun i d q => by
    rw [wipeE_get] at q
    by_cases z : i ∈ vs
    · rw [if_pos z] at q
      split at q <;> cases q
    · rw [if_neg z] at q
      exact ⟨z, q⟩
  refine ⟨S.g, by rw [wipeE_length, wipe_length]; exact S.len, S.ent, S.dom, S.a0, fun i d q => ?_, fun i d a hi h1 h2 h3 => ?_, fun i1 i2 d1 d2 a g1 g2 g3 g4 g5 g6 g7 g8 => ?_, fun x q => let ⟨h1, h2, h3⟩ := S.m0 x q; ⟨h1, by rw [wipe_get, if_neg (fun z => h 0 z h1)]; exact h2, h3⟩⟩
  · obtain ⟨n, q⟩ := nv i d q
    obtain ⟨w, h1, h2, h3⟩ := S.slot i d q
    exact ⟨w, by rw [wipe_get, if_neg n]; exact h1, fun n => (S.avEq e).1 (h2 n), (S.avEq e).2 h3⟩
  · obtain ⟨n, q⟩ := nv i d h1
    rw [wipe_get, if_neg n] at h3
    exact S.new i d a hi q h2 h3
  · obtain ⟨n1, q1⟩ := nv i1 d1 g3
    obtain ⟨n2, q2⟩ := nv i2 d2 g4
    rw [wipe_get, if_neg n1] at g7
    rw [wipe_get, if_neg n2] at g8
    exact S.dis i1 i2 d1 d2 a g1 g2 q1 q2 g5 g6 g7 g8
theorem av_and {D : Addr} (b : Addr) : AvO (F.and D) own ρ σ b ↔ (AvO F own ρ σ b ∨ b = D) := by
  constructor
  · rintro ((h | h) | h)
    · exact .inl (.inl h)
    · exact .inr h
    · exact .inl (.inr h)
  · rintro ((h | h) | h)
    · exact .inl (.inl h)
    · exact .inr h
    · exact .inl (.inr h)
theorem keep_and {D : Addr} {Av Av' : Addr → Prop} (n : H1 D = none) (e : Ext H1 H) (h : ∀ b, Av' b → Av b ∨ b = D) : Keep Av Av' H1 H :=
  .extAnti e fun b o q _ z => (h b z).elim id fun y => by rw [y, n] at q; cases q
theorem Sr.and (S : Sr C F own ρ σ H1) {D : Addr} {xs : List V} (n : H1 D = none) (e : Ext H1 H) (g : C.G H) (hD : H D = some (.lst xs)) : Sr C (F.and D) own ρ σ H := by
  have kk : Keep (AvO F own ρ σ) (AvO (F.and D) own ρ σ) H1 H := keep_and n e fun b => (av_and b).mp
  refine ⟨g, S.len, fun b o h1 h2 h3 => e.keep b o (S.ent b o h1 h2 h3) h2, fun b h => S.dom b (e.dom b h), fun b h => ?_, fun i d q => ?_, S.new, S.dis, fun x h => let ⟨h1, h2, A, dx, ys, zs, h3, h4⟩ := S.m0 x h; ⟨h1, h2, A, dx, ys, zs, h3, e.keep _ _ h4 notbl_ins⟩⟩
  · rcases h with h | h
    · obtain ⟨o, h1, h2⟩ := S.a0 b h
      exact ⟨o, e.keep b o h1 h2, h2⟩
    · rw [h]
      exact ⟨_, hD, notbl_lst⟩
  · obtain ⟨v, h1, h2, h3⟩ := S.slot i d q
    exact ⟨v, h1, fun z => Rep.keep kk _ _ (h2 z), h3.keep kk fun a o _ _ q n => e.keep a o q n⟩

/-- a comprehension's turn -/
def stepC (t : Tgt) (ow : List Nat) (rc : Env → R Bool) (re : Env → R D) (ρ : Env) (x : D) : R (Option D) :=
  (bindT t x (wipeE ρ ow)).bind fun ρ' => (rc ρ').bind fun b => if b then (re ρ').bind fun y => .ok (some y) else .ok none
abbrev W0 : WX := fun _ _ _ _ => False

theorem comp_core {t : Tgt} {ow : List Nat} {rit : Env → R (List D)} {rc : Env → R Bool} {re : Env → R D} (hme : me ≠ .b) (how : ∀ i ∈ ow, i ∉ own) (hts : ∀ i ∈ slots t, i ∈ ow) : ∀ σ H Q,
    TEv C F W own .f (fun ρ => (rit ρ).bind fun xs => (compL (stepC t ow rc re ρ) xs).bind fun ys => .guard (ys.length ≤ maxLen) (.lst ys)) σ H Q →
    tLc (TIv C F W own true rit) (fun v σ H K => ∃ D, TGv C (F.and D) own t v σ H K) (fun σ H K => ∃ D, TTv C (F.and D) W0 own rc σ H K) (fun σ H K => ∃ D, TEv C (F.and D) W0 own me re σ H K) ow σ H Q := by
  intro σ H Q ⟨ρ, S, po⟩
  refine ⟨ρ, S, ?_⟩
  cases e : rit ρ with
  | bad => simp only [e] at po; exact po
  | exc c x => simp only [e] at po; exact po
  | ok xs =>
    simp only [e] at po
    intro J H1 e1 g1 wk D hD
    have S1 := S.ext e1 g1
    have po1 := PostE.at po e1
    cases ec : compL (stepC t ow rc re ρ) xs with
    | bad => simp only [R.bind, ec] at po1; exact po1.elim
    | exc c x =>
      exfalso
      cases xs with
      | nil => simp [compL] at ec
      | cons x xs =>
        simp only [compL] at ec
        split at ec
        · split at ec <;> cases ec
        · cases ec
    | ok ys =>
      simp only [R.bind, R.guard, ec] at po1
      by_cases hlen : ys.length ≤ maxLen
      case neg => rw [if_neg hlen] at po1; exact po1.elim
      case pos =>
      rw [if_pos hlen] at po1
      refine ⟨fun i m H => m = xs.length - i ∧ i ≤ xs.length ∧ C.G H ∧ Ext H1 H ∧ ∃ done rest acc, ys = done ++ rest ∧ compL (stepC t ow rc re ρ) (xs.drop i) = .ok rest ∧ H D = some (.lst acc) ∧ Reps C (fun b => AvO F own ρ σ b ∨ b = D) H done acc,
        ⟨xs.length, by simp, Nat.zero_le _, g_new g1 hD, Ext.new hD, [], ys, [], rfl, by rw [List.drop_zero]; exact ec, upd_same, Reps.nil⟩, ?_⟩
      rintro i m H2 ⟨rfl, hi, g2, e2, done, rest, acc, hys, hr, hacc, hreps⟩
      obtain ⟨wstop, wgo⟩ := wk i (fun b => AvO F own ρ σ b ∨ b = D) H2 (keep_and hD e2 fun b => id) (fun _ => e2)
      by_cases hlt : i < xs.length
      · refine .inr ?_
        have hx : xs[i]? = some xs[i] := List.getElem?_eq_getElem hlt
        obtain ⟨go, yl⟩ := wgo _ hx
        rw [List.drop_eq_getElem_cons hlt] at hr
        simp only [compL] at hr
        split at hr <;> try cases hr
        rename_i o hstep
        split at hr <;> try cases hr
        rename_i rest' hrest
        unfold stepC at hstep
        refine ⟨go, fun H' => C.G H' ∧ Ext H1 H' ∧ ∃ done' rest' acc', ys = done' ++ rest' ∧ compL (stepC t ow rc re ρ) (xs.drop (i + 1)) = .ok rest' ∧ H' D = some (.lst acc') ∧ Reps C (fun b => AvO F own ρ σ b ∨ b = D) H' done' acc',
          fun H' ⟨a1, a2, a3⟩ => ⟨xs.length - (i + 1), by omega, rfl, hlt, a1, a2, a3⟩, fun x H3 y => ?_⟩
        obtain ⟨e3, g3, r3⟩ := yl x H3 y
        have e13 := e2.trans e3
        have hD3 := e3.keep D _ hacc notbl_lst
        have S3 := (S1.wipe how).and hD e13 (g3 g2) hD3
        have avw : ∀ b, AvO (F.and D) own (wipeE ρ ow) (wipe σ ow) b ↔ (AvO F own ρ σ b ∨ b = D) := fun b => (av_and b).trans (or_congr (av_wipe how b) Iff.rfl)
        refine ⟨D, _, _, S3, r3.anti fun b z => (avw b).mp z, ?_⟩
        cases eb : bindT t xs[i] (wipeE ρ ow) with
        | bad => rw [eb] at hstep; cases hstep
        | exc c x => rw [eb] at hstep; cases hstep
        | ok ρ2 =>
          rw [eb] at hstep
          intro σ2 S4 a4 b4
          refine ⟨wipe_same b4 hts, D, ρ2, S4, ?_⟩
          have hstep : (rc ρ2).bind (fun b => if b then (re ρ2).bind fun y => .ok (some y) else .ok none) = .ok o := hstep
          cases et : rc ρ2 with
          | bad => rw [et] at hstep; cases hstep
          | exc c x => rw [et] at hstep; cases hstep
          | ok b =>
            rw [et] at hstep
            intro H5 e5 g5
            have e15 := e13.trans e5
            have hD5 := e5.keep D _ hD3 notbl_lst
            have av2 : ∀ b, AvO (F.and D) own ρ2 σ2 b ↔ (AvO F own ρ σ b ∨ b = D) := fun b => (a4 b).trans (avw b)
            cases b with
            | false =>
              have hstep : (R.ok none : R (Option Vm.D)) = .ok o := hstep
              cases hstep
              exact iteF ⟨g5, e15, done, rest', acc, hys, hrest, hD5, (hreps.ext e3).ext e5⟩
            | true =>
              refine iteT ⟨D, ρ2, S4.ext e5 g5, ?_⟩
              have hstep : ((re ρ2).bind fun y => .ok (some y)) = .ok o := hstep
              cases ee : re ρ2 with
              | bad => rw [ee] at hstep; cases hstep
              | exc c x => rw [ee] at hstep; cases hstep
              | ok yd =>
                rw [ee] at hstep
                cases hstep
                intro v H6 e6 g6 q6
                have e16 := e15.trans e6
                have hD6 := e6.keep D _ hD5 notbl_lst
                have q6 := q6.s hme fun b z => (S4.ext e5 g5).av ⟨trivial⟩ z
                have hal : acc.length = done.length := (Reps.length hreps).symm
                refine ⟨acc, hD6, ?_, ?_, ?_, done ++ [yd], rest', acc ++ [v], by rw [hys]; simp, hrest, upd_same, ?_⟩
                · rw [hys, List.length_append, List.length_cons, lineEq] at hlen
                  omega
                · exact C.gk H6 _ (fun b o q st => by rw [upd_ne (fun z => by rw [z, hD6] at q; cases q; exact st.1 _ rfl)]; exact q) g6
                · refine .of fun b o q n => ?_
                  rw [upd_ne (ne_of_none q hD)]
                  exact e16.keep b o q n
                · have kD : ∀ {Av : Addr → Prop}, (∀ b, Av b ↔ (AvO F own ρ σ b ∨ b = D)) → Keep Av (fun b => AvO F own ρ σ b ∨ b = D) H6 (upd H6 D (.lst (acc ++ [v]))) := fun {Av} hA => by
                    refine ⟨fun b o q st _ => ?_, fun b o q _ n => ?_, fun b o _ _ z => (hA b).mpr z⟩
                    · rw [upd_ne (fun z => by rw [z, hD6] at q; cases q; exact st.1 _ rfl)]
                      exact q
                    · rw [upd_ne (fun z => n ((hA b).mpr (.inr z)))]
                      exact q
                  exact (Reps.keep (kD fun b => Iff.rfl) _ _ (((hreps.ext e3).ext e5).ext e6)).append (Reps.cons (Rep.keep (kD av2) _ _ q6) Reps.nil)
      · have hi2 : i = xs.length := by omega
        subst hi2
        rw [List.drop_length] at hr
        simp only [compL, R.ok.injEq] at hr
        subst hr
        rw [List.append_nil] at hys
        subst hys
        refine .inl ⟨wstop (Nat.le_refl _), po1 (.ref D) H2 e2 g2 ⟨D, acc, rfl, nw hD, hacc, hreps⟩⟩
end
end Vm

set_option maxRecDepth 100000
set_option maxHeartbeats 2000000
/-! VmM: a list comprehension as a value, and straight into a name. -/
namespace Vm
open PySem PySem.Spec PyProof.Rows L2

section
variable {C : Pc} {F : Fr0} {W : WX} {own : List Nat} {m ma me : Mode} {ρ ρ' : Env} {σ σ' : L2.St} {H H' H1 : Hp} {X : Cx} {N : List Str} {sc scope : Scope} {k j f i : Nat} {cl fx : Bool} {sp : Sp} {Φ : Sm}

theorem blk_ok (hx : XOk C cl k N sc W X) (hcl : cl = true) (hlm : C.lam (relS scope sc) = true → C.lam sc = true) (hk : scope.kind = .function) {s : Shared} {H : Hp} {A : Addr} {cs : List (Str × Addr)} {fp : List Addr} :
    XOk C true k N (relS scope sc) W0 (X.blk s H scope (compEnvC scope cs A X.env) fp) := by
  refine ⟨hx.prog, hx.w, hx.K, hx.mg, hx.base, hx.nd, hk, hx.eN, ?_, L2.takes0, PassesOwn.never, hx.room, fun _ => hx.calm hcl, fun _ => hx.cold hcl, fun z => (nomatch z), fun z => hx.tb (hlm z)⟩
  rw [← hx.eS]
  rfl
/-- the tests: none or one -/
structure PTx (C : Pc) (F : Fr0) (W : WX) (own : List Nat) (X : Cx) (ifs : List Expr) (r : Env → R Bool) : Prop where
  run : PTs X ifs (TTv C F W own r)
theorem ptx_nil : PTx C F W own X [] (fun _ => .ok true) := by
  refine ⟨⟨fun pins s σ H Q I ⟨ρ, S, po⟩ => pts_nil.run pins s σ H Q I (po H (Ext.refl H) S.g)⟩⟩
theorem ptx_one {e : Expr} {r : Env → R Bool} (h : PT X e (TTv C F W own r)) : PTx C F W own X [e] r := ⟨pts_one h⟩

theorem ex_te {e : Expr} {re : Env → R D} {ft : Addr → Fr0} (h : ∀ D, PE X e (TEv C (ft D) W own me re)) : PE X e (fun σ H K => ∃ D, TEv C (ft D) W own me re σ H K) :=
  ⟨fun pins s σ H Q I ⟨D, q⟩ => (h D).run pins s σ H Q I q⟩
theorem ex_tt {e : List Expr} {re : Env → R Bool} {ft : Addr → Fr0} (h : ∀ D, PTx C (ft D) W own X e re) : PTs X e (fun σ H K => ∃ D, TTv C (ft D) W own re σ H K) :=
  ⟨fun pins s σ H Q I ⟨D, q⟩ => (h D).run.run pins s σ H Q I q⟩
theorem ex_tg {e : Expr} {t : Tgt} {ft : Addr → Fr0} (h : ∀ D, PG X e (TGv C (ft D) own t)) : PG X e (fun v σ H K => ∃ D, TGv C (ft D) own t v σ H K) :=
  ⟨fun pins s σ H v u K I r ⟨D, q⟩ => (h D).run pins s σ H v u K I r q⟩

def bndB (scope sc : Scope) (x : Str) : Bool := (scope.names.lookup x == some .cell) || ((relS scope sc).names.lookup x == some .local)
/-- a comprehension's frame: its scope, its own names by slot -/
def ckBlk (N : List Str) (sc scope : Scope) (bo : List (Str × Nat)) (own ow : List Nat) (t : Tgt) (tg : Expr) : Bool :=
  blkC N sc scope bo && decide (bo.map (·.2) = ow) && (ow.all fun i => !own.contains i) && ((slots t).all fun i => ow.contains i) && ckT N (relS scope sc) (bndB scope sc) own t tg
theorem ckBlk_out {bo : List (Str × Nat)} {ow : List Nat} {t : Tgt} {tg : Expr} (h : ckBlk N sc scope bo own ow t tg = true) :
    blkC N sc scope bo = true ∧ bo.map (·.2) = ow ∧ (∀ i ∈ ow, i ∉ own) ∧ (∀ i ∈ slots t, i ∈ ow) ∧ ckT N (relS scope sc) (bndB scope sc) own t tg = true := by
  unfold ckBlk at h
  simp only [Bool.and_eq_true, decide_eq_true_eq, List.all_eq_true, Bool.not_eq_true', List.contains_eq_mem, decide_eq_false_iff_not] at h
  obtain ⟨⟨⟨⟨h1, h2⟩, h3⟩, h4⟩, h5⟩ := h
  exact ⟨h1, h2, fun i hi => h3 i hi, fun i hi => by simpa using h4 i hi, h5⟩
theorem e_comp {elt tg iter : Expr} {ifs : List Expr} {bo : List (Str × Nat)} {ow : List Nat} {pos : Pos} {t : Tgt} {rit : Env → R (List D)} {rc : Env → R Bool} {re : Env → R D} (hx : XOk C cl k N sc W X) (hcl : cl = true) (hlm : C.lam (relS scope sc) = true → C.lam sc = true) (hme : me ≠ .b)
    (hi : PI X tg iter (TIv C F W own true rit)) (hb : ckBlk N sc scope bo own ow t tg = true)
    (ht : ∀ D X', XOk C true k N (relS scope sc) W0 X' → PTx C (F.and D) W0 own X' ifs rc)
    (he : ∀ D X', XOk C true k N (relS scope sc) W0 X' → PE X' elt (TEv C (F.and D) W0 own me re)) (hs : ∀ x, foldedSetIterable iter X.env x = pure x) :
    PE X (.ListComp elt [⟨tg, iter, ifs, 0⟩] scope pos) (TEv C F W own .f fun ρ => (rit ρ).bind fun xs => (compL (stepC t ow rc re ρ) xs).bind fun ys => .guard (ys.length ≤ maxLen) (.lst ys)) := by
  obtain ⟨b1, b2, b3, b4, b5⟩ := ckBlk_out hb
  have bk : BlkOk N sc scope bo := blkOk_by b1
  refine PE.imp (pe_lc (hx.calm hcl).1 (by rw [hx.eN]; exact hx.nd) hi (by rw [hx.eN, hx.eS]; exact bk) (fun s H A cs fp => ex_tg (ft := fun D => F.and D) fun D => g_tgt (blk_ok hx hcl hlm bk.kind) rfl (bnd := bndB scope sc) (fun x q => ?_) t tg b5) (fun s H A cs fp => ex_tt fun D => ht D _ (blk_ok hx hcl hlm bk.kind)) (fun s H A cs fp => ex_te fun D => he D _ (blk_ok hx hcl hlm bk.kind)) hs) ?_
  · unfold bndB at q
    rw [Bool.or_eq_true] at q
    exact q.imp id fun z => by simpa using z
  · intro σ H Q q
    rw [b2]
    exact comp_core hme b3 b4 σ H Q q
/-- an assignment of a comprehension to a local of the same line stores within -/
def swC (sc scope : Scope) (y : Str) (py pos : Pos) : Bool := (py.line == pos.line) && !(scope.names.any fun (n, k) => n == y && (k == .local || k == .cell))
theorem s_setLc {elt tg iter : Expr} {ifs : List Expr} {bo : List (Str × Nat)} {ow : List Nat} {pos spos py : Pos} {y : Str} {t : Tgt} {rit : Env → R (List D)} {rc : Env → R Bool} {re : Env → R D} (hx : XOk C cl k N sc W X) (hcl : cl = true) (hlm : C.lam (relS scope sc) = true → C.lam sc = true) (hme : me ≠ .b)
    (hy : N[i]? = some y) (hyl : sc.names.lookup y = some .local) (hw : swC sc scope y py pos = true)
    (hi : PI X tg iter (TIv C F W own true rit)) (hb : ckBlk N sc scope bo own ow t tg = true)
    (ht : ∀ D X', XOk C true k N (relS scope sc) W0 X' → PTx C (F.and D) W0 own X' ifs rc)
    (he : ∀ D X', XOk C true k N (relS scope sc) W0 X' → PE X' elt (TEv C (F.and D) W0 own me re)) (hs : ∀ x, foldedSetIterable iter X.env x = pure x) :
    PS X (.Assign [.Name y py] (.ListComp elt [⟨tg, iter, ifs, 0⟩] scope pos) spos) (tAsg (TEv C F W own .f fun ρ => (rit ρ).bind fun xs => (compL (stepC t ow rc re ρ) xs).bind fun ys => .guard (ys.length ≤ maxLen) (.lst ys)) (gName i)) := by
  obtain ⟨b1, b2, b3, b4, b5⟩ := ckBlk_out hb
  have bk : BlkOk N sc scope bo := blkOk_by b1
  unfold swC at hw
  simp only [Bool.and_eq_true, Bool.not_eq_true'] at hw
  refine PS.imp (ps_setLc (i := i) (hx.calm hcl).1 (by rw [hx.eN]; exact hx.nd) (by rw [hx.eN]; exact hy) (by rw [hx.eS]; exact hyl) (sw_true (by rw [hx.eS]; exact hx.kind) (by rw [hx.eS]; exact hyl) hw.1 hw.2) hi (by rw [hx.eN, hx.eS]; exact bk) (fun s H A cs fp => ex_tg (ft := fun D => F.and D) fun D => g_tgt (blk_ok hx hcl hlm bk.kind) rfl (bnd := bndB scope sc) (fun x q => ?_) t tg b5) (fun s H A cs fp => ex_tt fun D => ht D _ (blk_ok hx hcl hlm bk.kind)) (fun s H A cs fp => ex_te fun D => he D _ (blk_ok hx hcl hlm bk.kind)) hs) ?_
  · unfold bndB at q
    rw [Bool.or_eq_true] at q
    exact q.imp id fun z => by simpa using z
  · intro K σ H q
    rw [b2]
    exact comp_core hme b3 b4 σ H _ q
end
end Vm

set_option maxRecDepth 100000
set_option maxHeartbeats 2000000
/-! VmN: statements. -/
namespace Vm
open PySem PySem.Spec PyProof.Rows L2

/-- what a def leaves alone -/
structure EntK (F : Fr0) (H : Hp) : Prop where
  ent : ∀ b o, F.E0 b = some o → NoTbl o → F.M0 ≠ some b → H b = some o
  dom : ∀ b, Nw H b → Nw F.E0 b
theorem Sr.entK {C : Pc} {F : Fr0} {own : List Nat} {ρ : Env} {σ : L2.St} {H : Hp} (S : Sr C F own ρ σ H) : EntK F H := ⟨S.ent, S.dom⟩
theorem EntK.ext {F : Fr0} {H H' : Hp} (k : EntK F H) (e : Ext H H') : EntK F H' := ⟨fun b o h1 h2 h3 => e.keep b o (k.ent b o h1 h2 h3) h2, fun b h => k.dom b (e.dom b h)⟩

section
variable (C : Pc) (F : Fr0) (W : WX)
def PostSX (c : Nat) (x : Option D) : Prop := ∀ cls dd σ H', EntK F H' → C.G H' → ExR C c x cls dd H' → W cls dd σ H'
/-- what a statement must come to: own' behind it (none: it never gets there), oL at a loop's end, fm what is returned -/
def PostS (A : Addr → Prop) (H0 : Hp) (o' : Option (List Nat)) (oL : List Nat) (fm : Mode) (E : Ends) : SR → Prop
  | .nx ρ' => match o' with
    | some o => ∀ σ' H', Sr C F o ρ' σ' H' → Keep A (AvO F o ρ' σ') H0 H' → E.nx σ' H'
    | none => True
  | .bk ρ' => ∀ σ' H', Sr C F oL ρ' σ' H' → Keep A (AvO F oL ρ' σ') H0 H' → E.bk σ' H'
  | .ct ρ' => ∀ σ' H', Sr C F oL ρ' σ' H' → Keep A (AvO F oL ρ' σ') H0 H' → E.ct σ' H'
  | .rt d ρ' => F.M0 = none ∧ ∀ v H', EntK F H' → C.G H' → RepM C fm F.A0 F.E0 H' d v → E.rt v H'
  | .exc c x => PostSX C F W c x
  | .bad => False
def TSv (own : List Nat) (o' : Option (List Nat)) (oL : List Nat) (fm : Mode) (r : Env → SR) : TS := fun E σ H => ∃ ρ, Sr C F own ρ σ H ∧ PostS C F W (AvO F own ρ σ) H o' oL fm E (r ρ)
end

section
variable {C : Pc} {F : Fr0} {W : WX} {own oL : List Nat} {o' o1 o2 : Option (List Nat)} {m ma mb fm : Mode} {ρ ρ' : Env} {σ σ' : L2.St} {H H' H1 : Hp} {X : Cx} {N : List Str} {sc scope : Scope} {k j f i : Nat} {cl fx : Bool} {sp : Sp} {Φ : Sm} {E : Ends}
variable {ra rb : Env → R D} {ras rks : Env → R (List D)} {r r1 r2 : Env → SR} {a b o tg : Expr} {es : List Expr} {p p' pos apos : Pos} {Q : VK} {x : Str} {st : Stmt} {sts st1 st2 : List Stmt}

theorem psx_x {c : Nat} {y : Option D} (h : PostSX C F W c y) (S : Sr C F own ρ σ H) : PostX C W σ H c y := fun cls dd H' e g q => h cls dd σ H' (S.entK.ext e) g q
theorem Keep.trans {A A1 A2 : Addr → Prop} {H H1 H2 : Hp} (a : Keep A A1 H H1) (b : Keep A1 A2 H1 H2) : Keep A A2 H H2 :=
  ⟨fun c o h s n => b.still c o (a.still c o h s n) s n, fun c o h n z => b.away c o (a.away c o h n z) n fun y => z (a.av c o h n y), fun c o h n y => Classical.byContradiction fun z => z (a.av c o h n (b.av c o (a.away c o h n z) n y))⟩
theorem PostS.at {A A1 : Addr → Prop} {H0 H1 : Hp} {r : SR} (h : PostS C F W A H0 o' oL fm E r) (k : Keep A A1 H0 H1) : PostS C F W A1 H1 o' oL fm E r := by
  cases r with
  | nx ρ1 =>
    cases o' with
    | none => exact trivial
    | some o => exact fun σ' H' S k' => h σ' H' S (k.trans k')
  | rt d ρ1 => exact h
  | bk ρ1 => exact fun σ' H' S k' => h σ' H' S (k.trans k')
  | ct ρ1 => exact fun σ' H' S k' => h σ' H' S (k.trans k')
  | exc c x => exact h
  | bad => exact h
/-- an expression within a statement -/
theorem sv_bind {ra : Env → R D} {K : VK} {ks : D → SR} (S : Sr C F own ρ σ H) (po : PostS C F W (AvO F own ρ σ) H o' oL fm E (SR.ofR (ra ρ) ks))
    (h : ∀ d v H1, ra ρ = .ok d → Ext H H1 → Sr C F own ρ σ H1 → RepM C ma (AvO F own ρ σ) H H1 d v → PostS C F W (AvO F own ρ σ) H1 o' oL fm E (ks d) → K v H1) : TEv C F W own ma ra σ H K := by
  refine ⟨ρ, S, ?_⟩
  cases e : ra ρ with
  | ok d => rw [e] at po; exact fun v H1 e1 g1 q1 => h d v H1 e e1 (S.ext e1 g1) q1 (PostS.at po (.ext e1))
  | exc c x => rw [e] at po; exact psx_x po S
  | bad => rw [e] at po; exact po
theorem sa_bind {ras : Env → R (List D)} {K : List V → Hp → Prop} {ks : List D → SR} (S : Sr C F own ρ σ H) (po : PostS C F W (AvO F own ρ σ) H o' oL fm E (SR.ofR (ras ρ) ks))
    (h : ∀ d v H1, ras ρ = .ok d → Ext H H1 → Sr C F own ρ σ H1 → Reps C (AvO F own ρ σ) H1 d v → PostS C F W (AvO F own ρ σ) H1 o' oL fm E (ks d) → K v H1) : TAv C F W own ras σ H K := by
  refine ⟨ρ, S, ?_⟩
  cases e : ras ρ with
  | ok d => rw [e] at po; exact fun v H1 e1 g1 q1 => h d v H1 e e1 (S.ext e1 g1) q1 (PostS.at po (.ext e1))
  | exc c x => rw [e] at po; exact psx_x po S
  | bad => rw [e] at po; exact po
theorem st_bind {rt : Env → R Bool} {K : Bool → Hp → Prop} {ks : Bool → SR} (S : Sr C F own ρ σ H) (po : PostS C F W (AvO F own ρ σ) H o' oL fm E (SR.ofR (rt ρ) ks))
    (h : ∀ b H1, rt ρ = .ok b → Ext H H1 → Sr C F own ρ σ H1 → PostS C F W (AvO F own ρ σ) H1 o' oL fm E (ks b) → K b H1) : TTv C F W own rt σ H K := by
  refine ⟨ρ, S, ?_⟩
  cases e : rt ρ with
  | ok d => rw [e] at po; exact fun H1 e1 g1 => h d H1 e e1 (S.ext e1 g1) (PostS.at po (.ext e1))
  | exc c x => rw [e] at po; exact psx_x po S
  | bad => rw [e] at po; exact po

/-! ### blocks -/
theorem ss_nil : PSs X [] (TSv C F W own (some own) oL fm fun ρ => .nx ρ) := PSs.imp pss_nil fun E σ H ⟨ρ, S, po⟩ => po σ H S .refl
theorem ss_cons {ol' : List Nat} (h1 : PS X st (TSv C F W own (some ol') oL fm r1)) (h2 : PSs X sts (TSv C F W ol' o2 oL fm r2)) : PSs X (st :: sts) (TSv C F W own o2 oL fm fun ρ => SR.seq (r1 ρ) r2) := by
  refine PSs.imp (pss_cons h1 h2) ?_
  rintro E σ H ⟨ρ, S, po⟩
  refine ⟨ρ, S, ?_⟩
  have po : PostS C F W (AvO F own ρ σ) H o2 oL fm E (SR.seq (r1 ρ) r2) := po
  cases e : r1 ρ with
  | nx ρ1 => rw [e] at po; exact fun σ1 H1 S1 k1 => ⟨ρ1, S1, PostS.at po k1⟩
  | rt d ρ1 => rw [e] at po; exact po
  | bk ρ1 => rw [e] at po; exact po
  | ct ρ1 => rw [e] at po; exact po
  | exc c x => rw [e] at po; exact po
  | bad => rw [e] at po; exact po
theorem ss_last (h1 : PS X st (TSv C F W own none oL fm r1)) : PSs X [st] (TSv C F W own none oL fm fun ρ => SR.seq (r1 ρ) (fun ρ => .nx ρ)) := by
  refine PSs.imp (pss_one h1) ?_
  rintro E σ H ⟨ρ, S, po⟩
  refine ⟨ρ, S, ?_⟩
  have po : PostS C F W (AvO F own ρ σ) H none oL fm E (SR.seq (r1 ρ) (fun ρ => .nx ρ)) := po
  cases e : r1 ρ with
  | nx ρ1 => exact trivial
  | rt d ρ1 => rw [e] at po; exact po
  | bk ρ1 => rw [e] at po; exact po
  | ct ρ1 => rw [e] at po; exact po
  | exc c x => rw [e] at po; exact po
  | bad => rw [e] at po; exact po
theorem s_pass : PS X (.Pass pos) (TSv C F W own (some own) oL fm fun ρ => .nx ρ) := PS.imp ps_pass fun E σ H ⟨ρ, S, po⟩ => po σ H S .refl
theorem s_brk : PS X (.Break pos) (TSv C F W own none own fm fun ρ => .bk ρ) := PS.imp ps_break fun E σ H ⟨ρ, S, po⟩ => po σ H S .refl
theorem s_cont : PS X (.Continue pos) (TSv C F W own none own fm fun ρ => .ct ρ) := PS.imp ps_continue fun E σ H ⟨ρ, S, po⟩ => po σ H S .refl
def notLc : Expr → Bool
  | .ListComp .. => false
  | .SetComp .. => false
  | .DictComp .. => false
  | _ => true
theorem swaps_no {e : Expr} {t : Option Expr} {l : Nat} {env : PySem.Env} (h : notLc e = true) : swapsWith e t l env = pure false := by
  cases e <;> first | rfl | cases h
theorem s_expr (he : PE X a (TEv C F W own ma ra)) (hn : notLc a = true) : PS X (.Expr a pos) (TSv C F W own (some own) oL fm fun ρ => .ofR (ra ρ) fun _ => .nx ρ) := by
  refine PS.imp (ps_expr he (swaps_no hn)) ?_
  rintro E σ H ⟨ρ, S, po⟩
  exact sv_bind S po fun d v H1 _ e1 S1 q1 po => po σ H1 S1 .refl
theorem s_retN (hM : F.M0 = none) : PS X (.Return none pos) (TSv C F W own none oL fm fun ρ => .rt .non ρ) := by
  refine PS.imp ps_retN ?_
  rintro E σ H ⟨ρ, S, po⟩
  exact po.2 _ _ S.entK S.g (RepM.flat (by simp [Rep]) rfl)
/-- how a value of one standing becomes the def's -/
theorem ret_rep (S : Sr C F own ρ σ H) (S1 : Sr C F own ρ σ H1) (fo2 : F.Ok2) {d : D} {v : V} (hm : ma = .f ∨ (ma = .s ∧ fm = .s)) (q : RepM C ma (AvO F own ρ σ) H H1 d v) : RepM C fm F.A0 F.E0 H1 d v := by
  have A : ∀ b, F.A0 b → AvO F own ρ σ b := fun b h => .inl h
  rcases hm with rfl | ⟨rfl, rfl⟩
  · cases fm with
    | b => exact q.o.keep (.anti A) fun _ _ _ _ z _ => z
    | s => exact (q.s (by decide) fun b h => S.av ⟨trivial⟩ h).anti A
    | f =>
      cases d with
      | lst ds =>
        obtain ⟨p, xs, e, n, q, r⟩ := q
        exact ⟨p, xs, e, S.dom p n, q, r.anti fun b h => h.imp (A b) id⟩
      | ins c fs =>
        obtain ⟨p, dx, xs, e, n, q, r⟩ := q
        exact ⟨p, dx, xs, e, S.dom p n, q, r.anti fun b h => h.imp (A b) id⟩
      | _ => exact Rep.anti q A
  · exact Rep.anti q A
theorem s_ret (fo2 : F.Ok2) (hM : F.M0 = none) (hm : ma = .f ∨ (ma = .s ∧ fm = .s)) (he : PE X a (TEv C F W own ma ra)) : PS X (.Return (some a) pos) (TSv C F W own none oL fm fun ρ => .ofR (ra ρ) fun d => .rt d ρ) := by
  refine PS.imp (ps_ret he) ?_
  rintro E σ H ⟨ρ, S, po⟩
  exact sv_bind S po fun d v H1 _ e1 S1 q1 po => po.2 v H1 S1.entK S1.g (ret_rep S S1 fo2 hm q1)
theorem own_rep (S : Sr C F own ρ σ H) (fo2 : F.Ok2) (hM : F.M0 = none) {d : D} {v : V} (hi : i ∈ own) (h1 : ρ[i]? = some (some d)) (h2 : σ[i]? = some (some v)) (q : RepO C (AvO F own ρ σ) H d v) : RepM C fm F.A0 F.E0 H d v := by
  have A : ∀ b, F.A0 b → AvO F own ρ σ b := fun b h => .inl h
  have nq : ∀ p, isMut d = true → v = .ref p → Nw F.E0 p ∧ ¬ F.A0 p := fun p hm e => by
    rcases S.new i d p hi h1 hm (by rw [h2, e]) with z | z
    · refine ⟨z, fun y => ?_⟩
      obtain ⟨o, y, t, _⟩ := fo2.a0 p y
      exact z o y t
    · rw [hM] at z
      cases z
  cases hm : isMut d with
  | false =>
    refine RepM.flat ?_ hm
    cases d <;> first | exact Rep.anti q A | cases hm
  | true =>
    cases fm with
    | b => exact q.keep (.anti A) fun _ _ _ _ z _ => z
    | s =>
      cases d with
      | lst ds =>
        obtain ⟨p, xs, e, q, r⟩ := q
        show Rep C F.A0 H (.lst ds) v
        simp only [Rep]
        exact ⟨p, xs, e, (nq p rfl e).2, q, r.anti A⟩
      | ins c fs =>
        obtain ⟨p, dx, xs, e, q, r⟩ := q
        show Rep C F.A0 H (.ins c fs) v
        simp only [Rep]
        exact ⟨p, dx, xs, e, (nq p rfl e).2, q, r.anti A⟩
      | _ => cases hm
    | f =>
      cases d with
      | lst ds =>
        obtain ⟨p, xs, e, q, r⟩ := q
        exact ⟨p, xs, e, (nq p rfl e).1, q, r.anti fun b z => z.elim (A b) fun z => .inr ⟨i, _, hi, h1, rfl, by rw [h2, e, z]⟩⟩
      | ins c fs =>
        obtain ⟨p, dx, xs, e, q, r⟩ := q
        exact ⟨p, dx, xs, e, (nq p rfl e).1, q, r.anti fun b z => z.elim (A b) fun z => .inr ⟨i, _, hi, h1, rfl, by rw [h2, e, z]⟩⟩
      | _ => cases hm
/-- an own list is returned -/
theorem s_retO (hx : XOk C cl k N sc W X) (fo2 : F.Ok2) (hM : F.M0 = none) (hi : i ∈ own) (hN : N[i]? = some x) (hv : Vis sc x) (hd : (x == ("__debug__" : Str)) = false) (hcd : (x == ("__classdict__" : Str)) = false) :
    PS X (.Return (some (.Name x p)) pos) (TSv C F W own none oL fm fun ρ => .ofR (match ρ[i]? with | some (some d) => R.ok d | _ => .bad) fun d => .rt d ρ) := by
  refine PS.imp (ps_ret (pe_var (i := i) (by rw [hx.eN]; exact hN) (by rw [hx.eS]; exact hv) hd hcd)) ?_
  rintro E σ H ⟨ρ, S, po⟩
  have po : PostS C F W (AvO F own ρ σ) H none oL fm E (.ofR (match ρ[i]? with | some (some d) => R.ok d | _ => .bad) fun d => .rt d ρ) := po
  split at po
  · rename_i d e
    obtain ⟨v, h1, h2, h3⟩ := S.slot i d e
    exact ⟨v, h1, po.2 v H S.entK S.g (own_rep S fo2 hM hi e h1 h3)⟩
  · exact po.elim
theorem s_if {t : Expr} {rt : Env → R Bool} (ht : PT X t (TTv C F W own rt)) (h1 : PSs X st1 (TSv C F W own o1 oL fm r1)) (h2 : PSs X st2 (TSv C F W own o2 oL fm r2)) (e1 : o1 = none ∨ o1 = o') (e2 : o2 = none ∨ o2 = o') :
    PS X (.If t st1 st2 pos) (TSv C F W own o' oL fm fun ρ => .ofR (rt ρ) fun c => if c then r1 ρ else r2 ρ) := by
  have wk : ∀ {o1 : Option (List Nat)} {E : Ends} {A : Addr → Prop} {H : Hp} (r : SR), (o1 = none ∨ o1 = o') → PostS C F W A H o' oL fm E r → PostS C F W A H o1 oL fm E r := fun {o1 E A H} r h q => by
    rcases h with rfl | rfl
    · cases r with
      | nx ρ1 => exact trivial
      | rt d ρ1 => exact q
      | bk ρ1 => exact q
      | ct ρ1 => exact q
      | exc c x => exact q
      | bad => exact q
    · exact q
  refine PS.imp (ps_if ht h1 h2) ?_
  rintro E σ H ⟨ρ, S, po⟩
  refine st_bind S po fun c H1 _ e S1 po => ?_
  cases c with
  | true => exact ⟨ρ, S1, wk _ e1 po⟩
  | false => exact ⟨ρ, S1, wk _ e2 po⟩
end
end Vm

set_option maxRecDepth 100000
set_option maxHeartbeats 2000000
/-! VmO: own slots are set, shared, written. -/
namespace Vm
open PySem PySem.Spec PyProof.Rows L2

section
variable {C : Pc} {F : Fr0} {W : WX} {own oL : List Nat} {o' o1 o2 : Option (List Nat)} {m ma mb fm : Mode} {ρ ρ' : Env} {σ σ' : L2.St} {H H' H1 : Hp} {X : Cx} {N : List Str} {sc scope : Scope} {k j f i : Nat} {cl fx : Bool} {sp : Sp} {Φ : Sm} {E : Ends}
variable {ra rb : Env → R D} {ras rks : Env → R (List D)} {r r1 r2 : Env → SR} {a b o tg : Expr} {es : List Expr} {p p' pos apos : Pos} {Q : VK} {x : Str} {st : Stmt} {sts st1 st2 : List Stmt}

def addO (i : Nat) (own : List Nat) : List Nat := if i ∈ own then own else i :: own
theorem mem_addO {i j : Nat} {own : List Nat} : j ∈ addO i own ↔ (j = i ∨ j ∈ own) := by
  unfold addO
  split
  · rename_i h
    exact ⟨.inr, fun z => z.elim (fun e => e ▸ h) id⟩
  · exact List.mem_cons
/-- where a value of mode f stands, newly -/
def FreshA (d : D) (v : V) (H : Hp) : Prop := isMut d = true → ∃ q, v = .ref q ∧ Nw H q
theorem freshA_of (q : RepM C .f (AvO F own ρ σ) H H1 d v) : FreshA d v H := fun hm => by
  cases d with
  | lst ds => obtain ⟨p, xs, e, n, _⟩ := q; exact ⟨p, e, n⟩
  | ins c fs => obtain ⟨p, dx, xs, e, n, _⟩ := q; exact ⟨p, e, n⟩
  | _ => cases hm
/-- a fresh value goes to a slot: the slot is own -/
theorem Sr.setO (S : Sr C F own ρ σ H) (e : Ext H H1) (g : C.G H1) (hl : i < ρ.length) {d : D} {v : V} (h0 : F.M0 = none ∨ i ≠ 0) (q : RepM C .f (AvO F own ρ σ) H H1 d v) :
    Sr C F (addO i own) (ρ.set i (some d)) (σ.set i (some v)) H1 ∧ Keep (AvO F own ρ σ) (AvO F (addO i own) (ρ.set i (some d)) (σ.set i (some v))) H H1 := by
  have hl2 : i < σ.length := by rw [← S.len]; exact hl
  have fr := freshA_of q
  have av : ∀ b, AvO F (addO i own) (ρ.set i (some d)) (σ.set i (some v)) b → AvO F own ρ σ b ∨ (isMut d = true ∧ v = .ref b) := by
    rintro b (h | ⟨j, d', hj, h1, h2, h3⟩)
    · exact .inl (.inl h)
    · by_cases z : i = j
      · subst z
        rw [List.getElem?_set_self hl] at h1
        rw [List.getElem?_set_self hl2] at h3
        cases h1
        cases h3
        exact .inr ⟨h2, rfl⟩
      · rw [List.getElem?_set_ne z] at h1 h3
        exact .inl (.inr ⟨j, d', (mem_addO.mp hj).elim (fun y => absurd y.symm z) id, h1, h2, h3⟩)
  have kk : Keep (AvO F own ρ σ) (AvO F (addO i own) (ρ.set i (some d)) (σ.set i (some v))) H H1 := .extAnti e fun b o ho tb z => (av b z).elim id fun ⟨y1, y2⟩ => by
    obtain ⟨p, e1, e2⟩ := fr y1
    rw [y2] at e1
    cases e1
    exact (e2 o ho tb).elim
  refine ⟨⟨g, by rw [List.length_set, List.length_set]; exact S.len, fun b o h1 h2 h3 => e.keep b o (S.ent b o h1 h2 h3) h2, fun b h => S.dom b (e.dom b h), fun b h => let ⟨o, h1, h2⟩ := S.a0 b h; ⟨o, e.keep b o h1 h2, h2⟩, fun j d' h => ?_, fun j d' p hj h1 h2 h3 => ?_, fun j1 j2 d1 d2 p h1 h2 h3 h4 h5 h6 h7 h8 => ?_, fun x h => ?_⟩, kk⟩
  · by_cases z : i = j
    · subst z
      rw [List.getElem?_set_self hl] at h
      cases h
      refine ⟨v, List.getElem?_set_self hl2, fun n => absurd (mem_addO.mpr (.inl rfl)) n, ?_⟩
      cases d with
      | lst ds =>
        obtain ⟨p, xs, e1, n, h1, h2⟩ := q
        exact ⟨p, xs, e1, h1, h2.anti fun b y => (av b y).imp id fun ⟨_, y⟩ => by rw [e1] at y; cases y; rfl⟩
      | ins c fs =>
        obtain ⟨p, dx, xs, e1, n, h1, h2⟩ := q
        exact ⟨p, dx, xs, e1, h1, h2.anti fun b y => (av b y).imp id fun ⟨_, y⟩ => by rw [e1] at y; cases y; rfl⟩
      | _ => exact Rep.anti q fun b y => (av b y).elim id fun ⟨y, _⟩ => by cases y
    · rw [List.getElem?_set_ne z] at h ⊢
      obtain ⟨w, h1, h2, h3⟩ := S.slot j d' h
      refine ⟨w, h1, fun n => Rep.keep kk _ _ (h2 fun y => n (mem_addO.mpr (.inr y))), h3.keep kk fun p o _ _ y n => e.keep p o y n⟩
  · by_cases z : i = j
    · subst z
      rw [List.getElem?_set_self hl] at h1
      rw [List.getElem?_set_self hl2] at h3
      cases h1
      cases h3
      obtain ⟨p', e1, e2⟩ := fr h2
      cases e1
      exact .inl (S.dom _ e2)
    · rw [List.getElem?_set_ne z] at h1 h3
      exact S.new j d' p ((mem_addO.mp hj).elim (fun y => absurd y.symm z) id) h1 h2 h3
  · have old : ∀ {j : Nat} {d' : D}, j ≠ i → (ρ.set i (some d))[j]? = some (some d') → isMut d' = true → (σ.set i (some v))[j]? = some (some (.ref p)) → ¬ Nw H p := fun {j d'} z y1 y2 y3 => by
      rw [List.getElem?_set_ne (fun w => z w.symm)] at y1 y3
      obtain ⟨w, e1, _, e3⟩ := S.slot j d' y1
      rw [y3] at e1
      cases e1
      obtain ⟨p', o, e4, e5, e6, _⟩ := e3.at_ y2
      cases e4
      exact fun y => y o e5 e6
    have new : ∀ {d' : D}, (ρ.set i (some d))[i]? = some (some d') → isMut d' = true → (σ.set i (some v))[i]? = some (some (.ref p)) → Nw H p := fun {d'} y1 y2 y3 => by
      rw [List.getElem?_set_self hl] at y1
      rw [List.getElem?_set_self hl2] at y3
      cases y1
      cases y3
      obtain ⟨p', e1, e2⟩ := fr y2
      cases e1
      exact e2
    by_cases z1 : j1 = i
    · by_cases z2 : j2 = i
      · rw [z1, z2]
      · subst z1
        exact absurd (new h3 h5 h7) (old z2 h4 h6 h8)
    · by_cases z2 : j2 = i
      · subst z2
        exact absurd (new h4 h6 h8) (old z1 h3 h5 h7)
      · rw [List.getElem?_set_ne (fun w => z1 w.symm)] at h3 h7
        rw [List.getElem?_set_ne (fun w => z2 w.symm)] at h4 h8
        exact S.dis j1 j2 d1 d2 p ((mem_addO.mp h1).elim (fun y => absurd y z1) id) ((mem_addO.mp h2).elim (fun y => absurd y z2) id) h3 h4 h5 h6 h7 h8
  · obtain ⟨h1, h2, A, dx, ys, zs, h3, h4⟩ := S.m0 x h
    refine ⟨mem_addO.mpr (.inr h1), ?_, A, dx, ys, zs, h3, e.keep _ _ h4 notbl_ins⟩
    rcases h0 with z | z
    · rw [z] at h; cases h
    · rw [List.getElem?_set_ne z]; exact h2
def remO (i : Nat) (own : List Nat) : List Nat := own.filter fun j => j != i
theorem mem_remO {i j : Nat} {own : List Nat} : j ∈ remO i own ↔ (j ∈ own ∧ j ≠ i) := by
  unfold remO
  rw [List.mem_filter]
  simp
/-- an own place is given up -/
theorem Sr.share (S : Sr C F own ρ σ H) (fo2 : F.Ok2) (h0 : F.M0 = none ∨ i ≠ 0) : Sr C F (remO i own) ρ σ H ∧ Keep (AvO F own ρ σ) (AvO F (remO i own) ρ σ) H H := by
  have av : ∀ b, AvO F (remO i own) ρ σ b → AvO F own ρ σ b := by
    rintro b (h | ⟨j, d', hj, h⟩)
    · exact .inl h
    · exact .inr ⟨j, d', (mem_remO.mp hj).1, h⟩
  have kk : Keep (AvO F own ρ σ) (AvO F (remO i own) ρ σ) H H := .anti av
  refine ⟨⟨S.g, S.len, S.ent, S.dom, S.a0, fun j d h => ?_, fun j d p hj => S.new j d p (mem_remO.mp hj).1, fun j1 j2 d1 d2 p h1 h2 => S.dis j1 j2 d1 d2 p (mem_remO.mp h1).1 (mem_remO.mp h2).1, fun x h => ?_⟩, kk⟩
  · obtain ⟨v, h1, h2, h3⟩ := S.slot j d h
    have h3' := h3.keep kk fun _ _ _ _ z _ => z
    refine ⟨v, h1, fun n => ?_, h3'⟩
    by_cases hj : j ∈ own
    · have e : j = i := Classical.byContradiction fun z => n (mem_remO.mpr ⟨hj, z⟩)
      subst e
      have nav : ∀ p, isMut d = true → v = .ref p → ¬ AvO F (remO j own) ρ σ p := by
        rintro p hm e (y | ⟨j', d', hj', y1, y2, y3⟩)
        · obtain ⟨o, z1, z2, z3⟩ := fo2.a0 p y
          rcases S.new j d p hj h hm (by rw [h1, e]) with z | z
          · exact z o z1 z2
          · exact z3 z
        · exact (mem_remO.mp hj').2 (S.dis j' j d' d p (mem_remO.mp hj').1 hj y1 h y2 hm y3 (by rw [h1, e]))
      cases d with
      | lst ds =>
        obtain ⟨p, xs, e, q, r⟩ := h3'
        simp only [Rep]
        exact ⟨p, xs, e, nav p rfl e, q, r⟩
      | ins c fs =>
        obtain ⟨p, dx, xs, e, q, r⟩ := h3'
        simp only [Rep]
        exact ⟨p, dx, xs, e, nav p rfl e, q, r⟩
      | _ => exact h3'
    · exact Rep.keep kk _ _ (h2 hj)
  · obtain ⟨h1, h2, h3⟩ := S.m0 x h
    refine ⟨mem_remO.mpr ⟨h1, ?_⟩, h2, h3⟩
    rcases h0 with z | z
    · rw [z] at h; cases h
    · exact fun y => z y.symm
/-- an own place is written -/
theorem keep_w {l : Addr} {o0 o1 : HO} (hl : H l = some o0) (ns : ¬ Still o0) (hA : AvO F own ρ σ l) (av : ∀ b, AvO F own ρ' σ b → AvO F own ρ σ b) : Keep (AvO F own ρ σ) (AvO F own ρ' σ) H (upd H l o1) := by
  refine ⟨fun b o q s _ => ?_, fun b o q _ n => ?_, fun b o _ _ z => av b z⟩
  · rw [upd_ne (fun z => by rw [z, hl] at q; cases q; exact ns s)]
    exact q
  · rw [upd_ne (fun z => n (by rw [z]; exact hA))]
    exact q
theorem av_w {d0 d1 : D} (hρ : ρ[i]? = some (some d0)) (hm : isMut d0 = true) : ∀ b, AvO F own (ρ.set i (some d1)) σ b → AvO F own ρ σ b := by
  have hl : i < ρ.length := by
    obtain ⟨h, _⟩ := List.getElem?_eq_some_iff.mp hρ
    exact h
  rintro b (h | ⟨j, d', hj, h1, h2, h3⟩)
  · exact .inl h
  · by_cases z : i = j
    · subst z
      exact .inr ⟨i, d0, hj, hρ, hm, h3⟩
    · rw [List.getElem?_set_ne z] at h1
      exact .inr ⟨j, d', hj, h1, h2, h3⟩
theorem Sr.write (S : Sr C F own ρ σ H) (hi : i ∈ own) {d0 d1 : D} {l : Addr} {o0 o1 : HO} (hρ : ρ[i]? = some (some d0)) (hm : isMut d0 = true) (hσ : σ[i]? = some (some (.ref l))) (hl : H l = some o0) (n0 : NoTbl o0) (ns : ¬ Still o0) (n1 : NoTbl o1)
    (hins : ∀ A dx ys, o0 = .ins A dx ys → ∃ zs, o1 = .ins A dx zs) (hq : RepO C (AvO F own ρ σ) (upd H l o1) d1 (.ref l)) :
    Sr C F own (ρ.set i (some d1)) σ (upd H l o1) ∧ Keep (AvO F own ρ σ) (AvO F own (ρ.set i (some d1)) σ) H (upd H l o1) := by
  have hlen : i < ρ.length := by
    obtain ⟨h, _⟩ := List.getElem?_eq_some_iff.mp hρ
    exact h
  have hA : AvO F own ρ σ l := .inr ⟨i, d0, hi, hρ, hm, hσ⟩
  have av := av_w (F := F) (own := own) (σ := σ) (d1 := d1) hρ hm
  have kk : Keep (AvO F own ρ σ) (AvO F own (ρ.set i (some d1)) σ) H (upd H l o1) := keep_w hl ns hA av
  refine ⟨⟨C.gk H _ (fun b o q s => ?_) S.g, by rw [List.length_set]; exact S.len, fun b o h1 h2 h3 => ?_, fun b h => ?_, fun b h => ?_, fun j d' h => ?_, fun j d' p hj h1 h2 h3 => ?_, fun j1 j2 e1 e2 p h1 h2 h3 h4 h5 h6 h7 h8 => ?_, fun x h => ?_⟩, kk⟩
  · rw [upd_ne (fun z => by rw [z, hl] at q; cases q; exact ns s)]
    exact q
  · have q := S.ent b o h1 h2 h3
    rw [upd_ne (fun z => ?_)]
    · exact q
    · rcases S.new i d0 l hi hρ hm hσ with y | y
      · rw [← z] at y; exact y o h1 h2
      · exact h3 (by rw [z]; exact y)
  · refine S.dom b ?_
    by_cases z : b = l
    · rw [z] at h; exact (h o1 upd_same n1).elim
    · exact fun o ho => h o (by rw [upd_ne z]; exact ho)
  · obtain ⟨o, h1, h2⟩ := S.a0 b h
    by_cases z : b = l
    · rw [z, upd_same]; exact ⟨o1, rfl, n1⟩
    · rw [upd_ne z]; exact ⟨o, h1, h2⟩
  · by_cases z : i = j
    · subst z
      rw [List.getElem?_set_self hlen] at h
      cases h
      exact ⟨.ref l, hσ, fun n => absurd hi n, hq.keep (.anti av) fun _ _ _ _ z _ => z⟩
    · rw [List.getElem?_set_ne z] at h
      obtain ⟨w, h1, h2, h3⟩ := S.slot j d' h
      refine ⟨w, h1, fun n => Rep.keep kk _ _ (h2 n), ?_⟩
      by_cases hj : j ∈ own
      · refine h3.keep kk fun p o hm' e q n => ?_
        rw [upd_ne (fun y => z ?_)]
        · exact q
        · subst y
          exact (S.dis j i d' d0 p hj hi h hρ hm' hm (by rw [h1, e]) hσ).symm
      · exact (Rep.keep kk _ _ (h2 hj)).toO
  · by_cases z : i = j
    · subst z
      exact S.new i d0 p hj hρ hm h3
    · rw [List.getElem?_set_ne z] at h1
      exact S.new j d' p hj h1 h2 h3
  · have old : ∀ {j : Nat} {e : D}, (ρ.set i (some d1))[j]? = some (some e) → isMut e = true → ∃ e', ρ[j]? = some (some e') ∧ isMut e' = true := fun {j e} y1 y2 => by
      by_cases z : i = j
      · subst z; exact ⟨d0, hρ, hm⟩
      · rw [List.getElem?_set_ne z] at y1; exact ⟨e, y1, y2⟩
    obtain ⟨e1', y1, y2⟩ := old h3 h5
    obtain ⟨e2', y3, y4⟩ := old h4 h6
    exact S.dis j1 j2 e1' e2' p h1 h2 y1 y3 y2 y4 h7 h8
  · obtain ⟨h1, h2, A, dx, ys, zs, h3, h4⟩ := S.m0 x h
    by_cases z : x = l
    · subst z
      rw [hl] at h4
      cases h4
      obtain ⟨ws, e⟩ := hins A dx zs rfl
      refine ⟨h1, h2, A, dx, ys, ws, h3, by rw [upd_same, e]⟩
    · exact ⟨h1, h2, A, dx, ys, zs, h3, by rw [upd_ne z]; exact h4⟩
end
end Vm

set_option maxRecDepth 100000
set_option maxHeartbeats 2000000
/-! VmP: assignments, list methods, loops. -/
namespace Vm
open PySem PySem.Spec PyProof.Rows L2

section
variable {C : Pc} {F : Fr0} {W : WX} {own oL : List Nat} {o' o1 o2 : Option (List Nat)} {m ma mb fm : Mode} {ρ ρ' : Env} {σ σ' : L2.St} {H H' H1 : Hp} {X : Cx} {N : List Str} {sc scope : Scope} {k j f i : Nat} {cl fx : Bool} {sp : Sp} {Φ : Sm} {E : Ends}
variable {ra rb rk : Env → R D} {ras rks : Env → R (List D)} {r r1 r2 : Env → SR} {a b o tg e1 e2 : Expr} {es : List Expr} {p p' pos apos cpos : Pos} {Q : VK} {x : Str} {st : Stmt} {sts st1 st2 : List Stmt}

/-! ### assignments -/
theorem s_share (fo2 : F.Ok2) (h0 : F.M0 = none ∨ i ≠ 0) (h : PSs X sts (TSv C F W (remO i own) o' oL fm r)) : PSs X sts (TSv C F W own o' oL fm r) := by
  refine PSs.imp h ?_
  rintro E σ H ⟨ρ, S, po⟩
  obtain ⟨S1, k1⟩ := S.share fo2 h0
  exact ⟨ρ, S1, PostS.at po k1⟩
/-- a name that may be set here -/
def nmOk (N : List Str) (sc : Scope) (i : Nat) (x : Str) : Bool := decide (N[i]? = some x) && (sc.names.lookup x == some .local || sc.names.lookup x == some .cell)
theorem nmOk_out (h : nmOk N sc i x = true) : N[i]? = some x ∧ (sc.names.lookup x = some .local ∨ sc.names.lookup x = some .cell) := by
  unfold nmOk at h
  simpa only [Bool.and_eq_true, decide_eq_true_eq, Bool.or_eq_true, beq_iff_eq] using h
theorem set_oob {α : Type} {l : List α} {i : Nat} {a : α} (h : ¬ i < l.length) : l.set i a = l := List.set_eq_of_length_le (by omega)
/-- what stands in a slot takes another value -/
theorem post_set (S1 : Sr C F own ρ σ H1) (e : Ext H H1) (hi : i ∉ own) {d : D} {v : V} (q : Rep C (AvO F own ρ σ) H1 d v) (po : PostS C F W (AvO F own ρ σ) H1 (some own) oL fm E (.nx (ρ.set i (some d)))) : E.nx (σ.set i (some v)) H1 := by
  by_cases hl : i < ρ.length
  · exact po _ _ (S1.set hi hl q) (.anti fun b z => (av_set hi b).mp z)
  · rw [set_oob (by rw [← S1.len]; exact hl)]
    rw [set_oob hl] at po
    exact po _ _ S1 .refl
/-- a name takes what stands elsewhere too, or is not mutable -/
theorem s_setS (hx : XOk C cl k N sc W X) (hfn : ∀ y, X.fn y = true) (hn : nmOk N sc i x = true) (hi : i ∉ own) (hma : ma ≠ .b) (he : PE X a (TEv C F W own ma ra)) (hlc : notLc a = true) :
    PS X (.Assign [.Name x p] a pos) (TSv C F W own (some own) oL fm fun ρ => .ofR (ra ρ) fun d => .ofR (bindT (.nm i) d ρ) fun ρ' => .nx ρ') := by
  obtain ⟨n1, n2⟩ := nmOk_out hn
  refine PS.imp (ps_set (i := i) (by rw [hx.eN]; exact hx.nd) (by rw [hx.eN]; exact n1) (by rw [hx.eS]; exact n2) he (swaps_no hlc) (.inl (hfn x))) ?_
  rintro E σ H ⟨ρ, S, po⟩
  exact sv_bind S po fun d v H1 _ e1 S1 q1 po => post_set S1 e1 hi (q1.s hma (avTr S ⟨trivial⟩)) po
/-- a name takes a fresh value: it is own -/
theorem s_setF (hx : XOk C cl k N sc W X) (hfn : ∀ y, X.fn y = true) (hn : nmOk N sc i x = true) (h0 : F.M0 = none ∨ i ≠ 0) (he : PE X a (TEv C F W own .f ra)) (hlc : notLc a = true) :
    PS X (.Assign [.Name x p] a pos) (TSv C F W own (some (addO i own)) oL fm fun ρ => .ofR (ra ρ) fun d => if i < ρ.length then .nx (ρ.set i (some d)) else .bad) := by
  obtain ⟨n1, n2⟩ := nmOk_out hn
  refine PS.imp (ps_set (i := i) (by rw [hx.eN]; exact hx.nd) (by rw [hx.eN]; exact n1) (by rw [hx.eS]; exact n2) he (swaps_no hlc) (.inl (hfn x))) ?_
  rintro E σ H ⟨ρ, S, po⟩
  refine ⟨ρ, S, ?_⟩
  have po : PostS C F W (AvO F own ρ σ) H (some (addO i own)) oL fm E (.ofR (ra ρ) fun d => if i < ρ.length then .nx (ρ.set i (some d)) else .bad) := po
  cases e : ra ρ with
  | bad => rw [e] at po; exact po
  | exc c y => rw [e] at po; exact psx_x po S
  | ok d =>
    rw [e] at po
    intro v H1 e1 g1 q1
    have po : PostS C F W (AvO F own ρ σ) H (some (addO i own)) oL fm E (if i < ρ.length then .nx (ρ.set i (some d)) else .bad) := po
    by_cases hl : i < ρ.length
    · rw [if_pos hl] at po
      obtain ⟨S1, k1⟩ := S.setO e1 g1 hl h0 q1
      exact po _ _ S1 k1
    · rw [if_neg hl] at po
      exact po.elim
def notTup : Expr → Bool
  | .Tuple .. => false
  | _ => true
theorem swst_no {tg a : Expr} {env : PySem.Env} (h : notTup a = true) : swappedStores [tg] a env = pure none := by
  unfold swappedStores
  cases tg <;> cases a <;> first | rfl | cases h
/-- a tuple is taken apart -/
theorem s_tup (hx : XOk C cl k N sc W X) (hcl : cl = true) {bnd : Str → Bool} (hb : ∀ x, bnd x = true → X.fn x = true ∨ sc.names.lookup x = some .local) {t : Tgt} (hg : ckT N sc bnd own t tg = true) (hma : ma ≠ .b) (he : PE X a (TEv C F W own ma ra)) (hlc : notLc a = true) (hnt : notTup a = true) :
    PS X (.Assign [tg] a pos) (TSv C F W own (some own) oL fm fun ρ => .ofR (ra ρ) fun d => .ofR (bindT t d ρ) fun ρ' => .nx ρ') := by
  have h1 : (assignEach [tg] X.env).map (·.2) = [assign tg X.env] := by
    cases t <;> cases tg <;> first | rfl | simp [ckT] at hg
  refine PS.imp (ps_asg he (g_tgt (F := F) hx hcl hb t tg hg) (by show swapsWith a (some tg) pos.line X.env = _; exact swaps_no hlc) (swst_no hnt) h1) ?_
  rintro E σ H ⟨ρ, S, po⟩
  refine sv_bind S po fun d v H1 _ e1 S1 q1 po => ?_
  refine ⟨ρ, d, S1, q1.s hma (avTr S ⟨trivial⟩), ?_⟩
  have po : PostS C F W (AvO F own ρ σ) H1 (some own) oL fm E (.ofR (bindT t d ρ) fun ρ' => .nx ρ') := po
  cases e : bindT t d ρ with
  | bad => rw [e] at po; exact po
  | exc c y =>
    exfalso
    have nx : (∀ (t : Tgt) (d : D) (ρ : Env) c y, bindT t d ρ ≠ .exc c y) ∧ (∀ (ts : List Tgt) (ds : List D) (ρ : Env) c y, bindTs ts ds ρ ≠ .exc c y) := by
      have A : ∀ n : Nat, (∀ (t : Tgt) (d : D) (ρ : Env) c y, sizeOf t ≤ n → bindT t d ρ ≠ .exc c y) ∧ (∀ (ts : List Tgt) (ds : List D) (ρ : Env) c y, sizeOf ts ≤ n → bindTs ts ds ρ ≠ .exc c y) := by
        intro n
        induction n with
        | zero =>
          refine ⟨fun t d ρ c y h => ?_, fun ts ds ρ c y h => ?_⟩
          · cases t <;> simp at h
          · cases ts <;> simp at h
        | succ n ih =>
          refine ⟨fun t d ρ c y h => ?_, fun ts ds ρ c y h => ?_⟩
          · cases t with
            | nm i => simp [bindT]
            | tp ts =>
              cases d <;> simp only [bindT] <;> first | (intro z; cases z) | skip
              exact ih.2 ts _ ρ c y (by simp at h; omega)
          · cases ts with
            | nil => cases ds <;> simp [bindTs]
            | cons t ts =>
              cases ds with
              | nil => simp [bindTs]
              | cons d ds =>
                simp only [bindTs]
                cases e : bindT t d ρ with
                | bad => intro z; cases z
                | exc c' y' => exact absurd e (ih.1 t d ρ c' y' (by simp at h; omega))
                | ok ρ1 => exact ih.2 ts ds ρ1 c y (by simp at h; omega)
      exact ⟨fun t d ρ c y => (A _).1 t d ρ c y (Nat.le_refl _), fun ts ds ρ c y => (A _).2 ts ds ρ c y (Nat.le_refl _)⟩
    exact nx.1 t d ρ c y e
  | ok ρ1 =>
    rw [e] at po
    exact fun σ2 S2 a2 b2 => po σ2 H1 S2 (.anti fun b z => (a2 b).mp z)

/-! ### list methods -/
def abC : Expr → Bool
  | .Call (.Name id _) [] [] _ => id != "super"
  | _ => true
theorem ab_no {e : Expr} {m : Str} {env : PySem.Env} {w : Sem Value} (h : abC e = true) : attributeBase e m env w = w := by
  unfold attributeBase
  split
  · rename_i id _ _
    have h : (id != "super") = true := h
    rw [h]
    rfl
  · rfl
theorem own_at (S : Sr C F own ρ σ H) {d : D} (h : ρ[i]? = some (some d)) : ∃ v, σ[i]? = some (some v) ∧ RepO C (AvO F own ρ σ) H d v := by
  obtain ⟨v, h1, _, h3⟩ := S.slot i d h
  exact ⟨v, h1, h3⟩
theorem getO_ok {d : D} (h : getO ρ i = .ok d) : ρ[i]? = some (some d) := by
  unfold getO at h
  split at h
  · rename_i d' e
    cases h
    exact e
  · cases h
theorem getO_ex {c : Nat} {y : Option D} : getO ρ i ≠ .exc c y := by
  unfold getO
  split <;> intro z <;> cases z
theorem few1 {e : Expr} {env : PySem.Env} (h : notSt e = true) : ((backTo cpos (starEach [e] env)).all (fun x => !x.1) && (backToKw cpos (keywordEach [] env)).all (fun x => x.1.isSome)
      && decide (([e] : List Expr).length + ([] : List Keyword).length + (if ([] : List Keyword).isEmpty then 0 else 1) < 30)) = true := by
  rw [star_cons h]
  rfl
theorem repO_lst {Av : Addr → Prop} {ds : List D} {v : V} (h : RepO C Av H (.lst ds) v) : ∃ l xs, v = .ref l ∧ H l = some (.lst xs) ∧ Reps C Av H ds xs := h
theorem notStill_lst {xs : List V} : ¬ Still (.lst xs) := fun z => z.1 _ rfl
theorem notStill_ins {A dx : Addr} {xs : List (Str × V)} : ¬ Still (.ins A dx xs) := fun z => z.2 _ _ _ rfl
theorem tyL {K : PySem.W.Frag} {l : Addr} {xs : List V} (h : H l = some (.lst xs)) : tyV K "list" (.ref l) H := .inl ⟨rfl, _, SqL.of h⟩
theorem reps_one {Av : Addr → Prop} {d : D} {vs : List V} (h : Reps C Av H [d] vs) : ∃ y, vs = [y] ∧ Rep C Av H d y := by
  match vs, h with
  | [], h => simp [Reps] at h
  | [y], h =>
    simp only [Reps] at h
    exact ⟨y, rfl, h.1⟩
  | _ :: _ :: _, h => simp [Reps] at h
def notSlc : Expr → Bool
  | .Slice .. => false
  | _ => true
theorem asg_sub {o i : Expr} {pos : Pos} {env : PySem.Env} (h : notSlc i = true) (v : Value) : assign (.Subscript o i pos) env v = (do
      let ov ← holding [v] (eval o env)
      let iv ← holding [v, ov] (eval i env)
      standAt pos
      holding [v, ov, iv] (setItem ov iv v)
      release [v, ov, iv] []) := by
  cases i <;> first | rfl | cases h
theorem s_app (hx : XOk C cl k N sc W X) (hN : N[i]? = some x) (hv : Vis sc x) (hd : (x == ("__debug__" : Str)) = false) (hcd : (x == ("__classdict__" : Str)) = false) (hi : i ∈ own) (hma : ma ≠ .b) (he : PE X a (TEv C F W own ma ra)) (hns : notSt a = true) (hline : (apos.endLine == cpos.line) = true) :
    PS X (.Expr (.Call (.Attribute (.Name x p) "append" apos) [a] [] cpos) pos) (TSv C F W own (some own) oL fm fun ρ => .ofR (getO ρ i) fun x => match x with
      | .lst xs => .ofR (ra ρ) fun d => if xs.length < maxLen then .nx (ρ.set i (some (.lst (xs ++ [d])))) else .bad
      | _ => .bad) := by
  have ha : PA X [a] (TAv C F W own fun ρ => (ra ρ).bind fun x => R.bind (.ok []) fun xs => .ok (x :: xs)) := a_cons ⟨trivial⟩ hma he a_nil (star_cons hns)
  refine PS.imp (ps_expr (pe_bm PySem.F.plainAttrs_list PySem.F.slot_list_append rfl mt_append (pe_var (i := i) (by rw [hx.eN]; exact hN) (by rw [hx.eS]; exact hv) hd hcd) ha (ab_no rfl) (few1 hns) hline (star_cons hns) rfl) (swaps_no rfl)) ?_
  rintro E σ H ⟨ρ, S, po⟩
  cases eg : getO ρ i with
  | bad => simp only [eg] at po; exact po.elim
  | exc c y => exact absurd eg getO_ex
  | ok d0 =>
    simp only [eg] at po
    have hρ := getO_ok eg
    obtain ⟨v, hσ, q0⟩ := own_at S hρ
    cases d0 <;> try exact po.elim
    rename_i ds
    obtain ⟨l, xs, rfl, hl, hr⟩ := repO_lst q0
    refine ⟨_, hσ, tyL hl, ρ, S, ?_⟩
    show PostA C F W own ρ σ H ((ra ρ).bind fun x => R.bind (.ok []) fun xs => .ok (x :: xs)) _
    cases er : ra ρ with
    | bad => simp only [er] at po; exact po.elim
    | exc c y => simp only [er] at po; exact psx_x po S
    | ok d =>
      simp only [er] at po
      intro vs H1 e1 g1 q1
      have S1 := S.ext e1 g1
      have po : PostS C F W (AvO F own ρ σ) H1 (some own) oL fm E (if ds.length < maxLen then .nx (ρ.set i (some (.lst (ds ++ [d])))) else .bad) := PostS.at po (.ext e1)
      obtain ⟨y, rfl, ry⟩ := reps_one q1
      have hl1 := e1.keep _ _ hl notbl_lst
      by_cases hlen : ds.length < maxLen
      · rw [if_pos hlen] at po
        refine ⟨l, xs, y, rfl, rfl, hl1, by rw [← hr.length, ← lineEq]; exact hlen, ?_⟩
        have hA : AvO F own ρ σ l := .inr ⟨i, _, hi, hρ, rfl, hσ⟩
        have kw : Keep (AvO F own ρ σ) (AvO F own ρ σ) H1 (upd H1 l (.lst (xs ++ [y]))) := keep_w hl1 notStill_lst hA fun _ z => z
        obtain ⟨S2, k2⟩ := S1.write (d1 := .lst (ds ++ [d])) (o1 := .lst (xs ++ [y])) hi hρ rfl hσ hl1 notbl_lst notStill_lst notbl_lst (fun _ _ _ z => by cases z) ⟨l, _, rfl, upd_same, ((Reps.keep kw _ _ (hr.ext e1)).append (Reps.keep kw _ _ q1))⟩
        exact po _ _ S2 k2
      · rw [if_neg hlen] at po
        exact po.elim
theorem s_pop (hx : XOk C cl k N sc W X) (hN : N[i]? = some x) (hv : Vis sc x) (hd : (x == ("__debug__" : Str)) = false) (hcd : (x == ("__classdict__" : Str)) = false) (hi : i ∈ own) (hline : (apos.endLine == cpos.line) = true) :
    PS X (.Expr (.Call (.Attribute (.Name x p) "pop" apos) [] [] cpos) pos) (TSv C F W own (some own) oL fm fun ρ => .ofR (getO ρ i) fun x => match x with
      | .lst xs => if xs.length = 0 then .bad else .nx (ρ.set i (some (.lst xs.dropLast)))
      | _ => .bad) := by
  refine PS.imp (ps_expr (pe_bm0 PySem.F.plainAttrs_list PySem.F.slot_list_pop rfl mt_pop (pe_var (i := i) (by rw [hx.eN]; exact hN) (by rw [hx.eS]; exact hv) hd hcd) (ab_no rfl) hline) (swaps_no rfl)) ?_
  rintro E σ H ⟨ρ, S, po⟩
  cases eg : getO ρ i with
  | bad => simp only [eg] at po; exact po.elim
  | exc c y => exact absurd eg getO_ex
  | ok d0 =>
    simp only [eg] at po
    have hρ := getO_ok eg
    obtain ⟨v, hσ, q0⟩ := own_at S hρ
    cases d0 <;> try exact po.elim
    rename_i ds
    obtain ⟨l, xs, rfl, hl, hr⟩ := repO_lst q0
    refine ⟨_, hσ, tyL hl, ?_⟩
    have po : PostS C F W (AvO F own ρ σ) H (some own) oL fm E (if ds.length = 0 then .bad else .nx (ρ.set i (some (.lst ds.dropLast)))) := po
    by_cases hlen : ds.length = 0
    · rw [if_pos hlen] at po
      exact po.elim
    · rw [if_neg hlen] at po
      have hn : xs.length ≠ 0 := by rw [← hr.length]; exact hlen
      refine ⟨l, xs, xs[xs.length - 1]'(by omega), rfl, rfl, hl, List.getElem?_eq_getElem (by omega), ?_⟩
      have hA : AvO F own ρ σ l := .inr ⟨i, _, hi, hρ, rfl, hσ⟩
      have kw : Keep (AvO F own ρ σ) (AvO F own ρ σ) H (upd H l (.lst xs.dropLast)) := keep_w hl notStill_lst hA fun _ z => z
      obtain ⟨S2, k2⟩ := S.write (d1 := .lst ds.dropLast) (o1 := .lst xs.dropLast) hi hρ rfl hσ hl notbl_lst notStill_lst notbl_lst (fun _ _ _ z => by cases z) ⟨l, _, rfl, upd_same, Reps.keep kw _ _ hr.dropLast⟩
      exact po _ _ S2 k2
theorem sole {t e : Expr} {l : Nat} {env : PySem.Env} (h : notLc e = true) : swapsWithSole [t] e l env = pure false := by
  show swapsWith e (some t) l env = _
  exact swaps_no h
/-- x[k] = e -/
theorem s_setI (hx : XOk C cl k N sc W X) (hN : N[i]? = some x) (hv : Vis sc x) (hd : (x == ("__debug__" : Str)) = false) (hcd : (x == ("__classdict__" : Str)) = false) (hi : i ∈ own) (hma : ma ≠ .b) (he : PE X a (TEv C F W own ma ra)) (hk : PE X b (TEv C F W own mb rk)) (hlc : notLc a = true) (hnt : notTup a = true) (hsl : notSlc b = true) :
    PS X (.Assign [.Subscript (.Name x p) b p'] a pos) (TSv C F W own (some own) oL fm fun ρ => .ofR (ra ρ) fun d => .ofR (getO ρ i) fun x => .ofR (rk ρ) fun kk => match x, kk with
      | .lst xs, .int j => match L2.ixN xs.length j with
        | some m => .nx (ρ.set i (some (.lst (xs.set m d))))
        | none => .bad
      | _, _ => .bad) := by
  refine PS.imp (ps_asg he (pg_sub (pe_var (i := i) (by rw [hx.eN]; exact hN) (by rw [hx.eS]; exact hv) hd hcd) hk set_list (asg_sub hsl)) (sole hlc) (swst_no hnt) rfl) ?_
  rintro E σ H ⟨ρ, S, po⟩
  refine sv_bind S po fun d v H1 _ e1 S1 q1 po => ?_
  have rv := q1.s hma (avTr S ⟨trivial⟩)
  cases eg : getO ρ i with
  | bad => simp only [eg] at po; exact po.elim
  | exc c y => exact absurd eg getO_ex
  | ok d0 =>
    simp only [eg] at po
    have hρ := getO_ok eg
    obtain ⟨w, hσ, q0⟩ := own_at S1 hρ
    refine ⟨_, hσ, ρ, S1, ?_⟩
    cases er : rk ρ with
    | bad => simp only [er] at po; exact po.elim
    | exc c y => simp only [er] at po; exact psx_x po S1
    | ok kd =>
      simp only [er] at po
      intro u H2 e2 g2 q2
      have S2 := S1.ext e2 g2
      have po := PostS.at po (.ext e2)
      obtain ⟨ds, rfl⟩ : ∃ ds, d0 = .lst ds := by cases d0 <;> first | exact ⟨_, rfl⟩ | exact po.elim
      obtain ⟨jj, rfl⟩ : ∃ jj, kd = .int jj := by cases kd <;> first | exact ⟨_, rfl⟩ | exact po.elim
      obtain ⟨l, xs, rfl, hl, hr⟩ := repO_lst (q0.ext e2)
      have q2 := q2.o
      simp only [RepO, Rep] at q2
      subst q2
      have po : PostS C F W (AvO F own ρ σ) H2 (some own) oL fm E (match L2.ixN ds.length jj with
        | some m => .nx (ρ.set i (some (.lst (ds.set m d))))
        | none => .bad) := po
      cases ej : ixN ds.length jj with
      | none => rw [ej] at po; exact po.elim
      | some mm =>
        rw [ej] at po
        refine ⟨l, xs, jj, mm, rfl, rfl, hl, by rw [← hr.length]; exact ej, ?_⟩
        have hA : AvO F own ρ σ l := .inr ⟨i, _, hi, hρ, rfl, hσ⟩
        have kw : Keep (AvO F own ρ σ) (AvO F own ρ σ) H2 (upd H2 l (.lst (xs.set mm v))) := keep_w hl notStill_lst hA fun _ z => z
        obtain ⟨S3, k3⟩ := S2.write (d1 := .lst (ds.set mm d)) (o1 := .lst (xs.set mm v)) hi hρ rfl hσ hl notbl_lst notStill_lst notbl_lst (fun _ _ _ z => by cases z) ⟨l, _, rfl, upd_same, (Reps.keep kw _ _ hr).set (Rep.keep kw _ _ (rv.ext e2)) mm⟩
        exact po _ _ S3 k3
/-- o.f = e -/
theorem s_setFld {fm' : Nat → Mode} {np : Nat → Nat} {g : Nat} (hx : XOk C cl k N sc W X) (co : COk C Φ cl j fm' np) (hN : N[i]? = some x) (hv : Vis sc x) (hd : (x == ("__debug__" : Str)) = false) (hcd : (x == ("__classdict__" : Str)) = false) (hi : i ∈ own) (hma : ma ≠ .b) (he : PE X a (TEv C F W own ma ra)) (hlc : notLc a = true) :
    PS X (.Assign [.Attribute (.Name x p) (C.nm g) p'] a pos) (TSv C F W own (some own) oL fm fun ρ => .ofR (ra ρ) fun d => .ofR (getO ρ i) fun x => match x with
      | .ins c fs => if g ∈ Φ.attrs c ∧ Φ.prop c g = none ∧ fs.length < 500 then .nx (ρ.set i (some (.ins c (putF g d fs)))) else .bad
      | _ => .bad) := by
  refine PS.imp (ps_fld (pe_var (i := i) (by rw [hx.eN]; exact hN) (by rw [hx.eS]; exact hv) hd hcd) he (swaps_no hlc)) ?_
  rintro E σ H ⟨ρ, S, po⟩
  refine sv_bind S po fun d v H1 _ e1 S1 q1 po => ?_
  have rv := q1.s hma (avTr S ⟨trivial⟩)
  cases eg : getO ρ i with
  | bad => simp only [eg] at po; exact po.elim
  | exc c y => exact absurd eg getO_ex
  | ok d0 =>
    simp only [eg] at po
    have hρ := getO_ok eg
    obtain ⟨w, hσ, q0⟩ := own_at S1 hρ
    cases d0 <;> try exact po.elim
    rename_i c fs
    obtain ⟨l, dx, ys, rfl, hl, hr⟩ := q0
    have po : PostS C F W (AvO F own ρ σ) H1 (some own) oL fm E (if g ∈ Φ.attrs c ∧ Φ.prop c g = none ∧ fs.length < 500 then .nx (ρ.set i (some (.ins c (putF g d fs)))) else .bad) := po
    by_cases hg : g ∈ Φ.attrs c ∧ Φ.prop c g = none ∧ fs.length < 500
    · rw [if_pos hg] at po
      obtain ⟨a1, a2, a3⟩ := co.attr c g hg.1 hg.2.1
      refine ⟨_, hσ, l, _, dx, ys, rfl, hl, by rw [hx.K]; exact a2, by rw [hx.K]; exact a3, by rw [← hr.length]; omega, ?_⟩
      have hA : AvO F own ρ σ l := .inr ⟨i, _, hi, hρ, rfl, hσ⟩
      have kw : Keep (AvO F own ρ σ) (AvO F own ρ σ) H1 (upd H1 l (.ins (C.cA c) dx (L2.putF (C.nm g) v ys))) := keep_w hl notStill_ins hA fun _ z => z
      obtain ⟨S3, k3⟩ := S1.write (d1 := .ins c (putF g d fs)) (o1 := .ins (C.cA c) dx (L2.putF (C.nm g) v ys)) hi hρ rfl hσ hl notbl_ins notStill_ins notbl_ins (fun _ _ _ z => by cases z; exact ⟨_, rfl⟩) ⟨l, dx, _, rfl, upd_same, repF_put a1 (Rep.keep kw _ _ rv) (RepF.keep kw _ _ hr)⟩
      exact po _ _ S3 k3
    · rw [if_neg hg] at po
      exact po.elim
end
end Vm

set_option maxRecDepth 100000
set_option maxHeartbeats 2000000
/-! VmQ: loops, raise. -/
namespace Vm
open PySem PySem.Spec PyProof.Rows L2

section
variable {C : Pc} {F : Fr0} {W : WX} {own oL : List Nat} {o' o1 o2 : Option (List Nat)} {m ma mb fm : Mode} {ρ ρ' : Env} {σ σ' : L2.St} {H H' H1 : Hp} {X : Cx} {N : List Str} {sc scope : Scope} {k j f i : Nat} {cl fx : Bool} {sp : Sp} {Φ : Sm} {E : Ends}
variable {ra rb rk : Env → R D} {ras rks : Env → R (List D)} {r r1 r2 : Env → SR} {a b o tg e1 e2 : Expr} {es : List Expr} {p p' pos apos cpos : Pos} {Q : VK} {x : Str} {st : Stmt} {sts st1 st2 : List Stmt}

theorem s_while {c : Expr} {rt : Env → R Bool} {n : Nat} (hx : XOk C cl k N sc W X) (ht : PT X c (TTv C F W own rt)) (hb : PSs X sts (TSv C F W own o1 own fm r)) (e1 : o1 = none ∨ o1 = some own) :
    PS X (.While c sts [] pos) (TSv C F W own (some own) oL fm (whileN rt r n)) := by
  refine PS.imp (ps_while hx.po ht hb) ?_
  rintro E σ H ⟨ρ, S, po⟩
  refine ⟨fun m σ' H' => ∃ ρ', Sr C F own ρ' σ' H' ∧ PostS C F W (AvO F own ρ' σ') H' (some own) oL fm E (whileN rt r m ρ'), ⟨n, ρ, S, po⟩, ?_⟩
  rintro m σ1 H1 ⟨ρ1, S1, po⟩
  cases m with
  | zero => exact po.elim
  | succ m =>
    have po : PostS C F W (AvO F own ρ1 σ1) H1 (some own) oL fm E (SR.ofR (rt ρ1) fun c => if c then SR.turn (r ρ1) (whileN rt r m) else .nx ρ1) := po
    refine st_bind S1 po fun c H2 _ e2 S2 po => ?_
    cases c with
    | false => exact po σ1 H2 S2 .refl
    | true =>
      refine ⟨fun σ' H' => ∃ ρ', Sr C F own ρ' σ' H' ∧ PostS C F W (AvO F own ρ' σ') H' (some own) oL fm E (whileN rt r m ρ'), fun σ' H' h => ⟨m, Nat.lt_succ_self m, h⟩, ρ1, S2, ?_⟩
      have po : PostS C F W (AvO F own ρ1 σ1) H2 (some own) oL fm E (SR.turn (r ρ1) (whileN rt r m)) := po
      cases er : r ρ1 with
      | nx ρ2 =>
        rw [er] at po
        rcases e1 with rfl | rfl
        · exact trivial
        · exact fun σ' H' S' k' => ⟨ρ2, S', PostS.at po k'⟩
      | ct ρ2 =>
        rw [er] at po
        exact fun σ' H' S' k' => ⟨ρ2, S', PostS.at po k'⟩
      | bk ρ2 => rw [er] at po; exact po
      | rt d ρ2 => rw [er] at po; exact po
      | exc c y => rw [er] at po; exact po
      | bad => rw [er] at po; exact po
theorem bind_noexc : (∀ (t : Tgt) (d : D) (ρ : Env) c y, bindT t d ρ ≠ .exc c y) := by
  have A : ∀ n : Nat, (∀ (t : Tgt) (d : D) (ρ : Env) c y, sizeOf t ≤ n → bindT t d ρ ≠ .exc c y) ∧ (∀ (ts : List Tgt) (ds : List D) (ρ : Env) c y, sizeOf ts ≤ n → bindTs ts ds ρ ≠ .exc c y) := by
    intro n
    induction n with
    | zero =>
      refine ⟨fun t d ρ c y h => ?_, fun ts ds ρ c y h => ?_⟩
      · cases t <;> simp at h
      · cases ts <;> simp at h
    | succ n ih =>
      refine ⟨fun t d ρ c y h => ?_, fun ts ds ρ c y h => ?_⟩
      · cases t with
        | nm i => simp [bindT]
        | tp ts =>
          cases d <;> simp only [bindT] <;> first | (intro z; cases z) | skip
          exact ih.2 ts _ ρ c y (by simp at h; omega)
      · cases ts with
        | nil => cases ds <;> simp [bindTs]
        | cons t ts =>
          cases ds with
          | nil => simp [bindTs]
          | cons d ds =>
            simp only [bindTs]
            cases e : bindT t d ρ with
            | bad => intro z; cases z
            | exc c' y' => exact absurd e (ih.1 t d ρ c' y' (by simp at h; omega))
            | ok ρ1 => exact ih.2 ts ds ρ1 c y (by simp at h; omega)
  exact fun t d ρ c y => (A _).1 t d ρ c y (Nat.le_refl _)
theorem PostI.sv {fx : Bool} {rit : Env → R (List D)} {Q : It → Hp → Prop} {ks : List D → SR} (S : Sr C F own ρ σ H) (po : PostS C F W (AvO F own ρ σ) H o' oL fm E (SR.ofR (rit ρ) ks))
    (h : ∀ xs J H1, rit ρ = .ok xs → Ext H H1 → Sr C F own ρ σ H1 → WalkJ C fx (AvO F own ρ σ) J xs H1 → PostS C F W (AvO F own ρ σ) H1 o' oL fm E (ks xs) → Q J H1) : TIv C F W own fx rit σ H Q := by
  refine ⟨ρ, S, ?_⟩
  cases e : rit ρ with
  | ok d => rw [e] at po; exact fun v H1 e1 g1 q1 => h d v H1 e e1 (S.ext e1 g1) q1 (PostS.at po (.ext e1))
  | exc c x => rw [e] at po; exact psx_x po S
  | bad => rw [e] at po; exact po
theorem s_for {iter : Expr} {rit : Env → R (List D)} {bnd : Str → Bool} {t : Tgt} (hx : XOk C cl k N sc W X) (hcl : cl = true) (hb : ∀ x, bnd x = true → X.fn x = true ∨ sc.names.lookup x = some .local) (hg : ckT N sc bnd own t tg = true)
    (hi : PI X tg iter (TIv C F W own false rit)) (hbd : PSs X sts (TSv C F W own o1 own fm r)) (e1 : o1 = none ∨ o1 = some own) (hs : ∀ x, foldedSetIterable iter X.env x = pure x) :
    PS X (.For tg iter sts [] pos) (TSv C F W own (some own) oL fm fun ρ => .ofR (rit ρ) fun xs => forL t r xs ρ) := by
  refine PS.imp (ps_for hx.po (hx.calm hcl).1 hi (g_tgt (F := F) hx hcl hb t tg hg) hbd hs) ?_
  rintro E σ H ⟨ρ, S, po⟩
  refine PostI.sv S po fun xs J H1 _ e1' S1 wk po => ?_
  refine ⟨fun n m σ' H' => m = xs.length - n ∧ n ≤ xs.length ∧ ∃ ρ', Sr C F own ρ' σ' H' ∧ Keep (AvO F own ρ σ) (AvO F own ρ' σ') H1 H' ∧ PostS C F W (AvO F own ρ' σ') H' (some own) oL fm E (forL t r (xs.drop n) ρ'), ⟨xs.length, by simp, Nat.zero_le _, ρ, S1, .refl, by rw [List.drop_zero]; exact po⟩, ?_⟩
  rintro n m σ2 H2 ⟨rfl, hn, ρ2, S2, k2, po⟩
  obtain ⟨wstop, wgo⟩ := wk n _ H2 k2 (fun z => nomatch z)
  by_cases hlt : n < xs.length
  · refine .inr ?_
    have hxn : xs[n]? = some xs[n] := List.getElem?_eq_getElem hlt
    obtain ⟨go, yl⟩ := wgo _ hxn
    refine ⟨go, fun σ' H' => ∃ ρ', Sr C F own ρ' σ' H' ∧ Keep (AvO F own ρ σ) (AvO F own ρ' σ') H1 H' ∧ PostS C F W (AvO F own ρ' σ') H' (some own) oL fm E (forL t r (xs.drop (n + 1)) ρ'), fun σ' H' h => ⟨xs.length - (n + 1), by omega, rfl, hlt, h⟩, fun v H3 y => ?_⟩
    obtain ⟨e3, g3, r3⟩ := yl v H3 y
    rw [List.drop_eq_getElem_cons hlt] at po
    have S3 := S2.ext e3 (g3 S2.g)
    have po : PostS C F W (AvO F own ρ2 σ2) H3 (some own) oL fm E (SR.ofR (bindT t xs[n] ρ2) fun ρ' => SR.turn (r ρ') (forL t r (xs.drop (n + 1)))) := PostS.at po (.ext e3)
    refine ⟨ρ2, xs[n], S3, r3, ?_⟩
    have k3 := k2.trans (.ext e3)
    cases eb : bindT t xs[n] ρ2 with
    | bad => rw [eb] at po; exact po
    | exc c y => exact absurd eb (bind_noexc _ _ _ _ _)
    | ok ρ3 =>
      rw [eb] at po
      intro σ3 S4 a4 b4
      refine ⟨ρ3, S4, ?_⟩
      have kb : Keep (AvO F own ρ2 σ2) (AvO F own ρ3 σ3) H3 H3 := .anti fun b z => (a4 b).mp z
      have po : PostS C F W (AvO F own ρ3 σ3) H3 (some own) oL fm E (SR.turn (r ρ3) (forL t r (xs.drop (n + 1)))) := PostS.at po kb
      have k4 := k3.trans kb
      cases er : r ρ3 with
      | nx ρ4 =>
        rw [er] at po
        rcases e1 with rfl | rfl
        · exact trivial
        · exact fun σ' H' S' k' => ⟨ρ4, S', k4.trans k', PostS.at po k'⟩
      | ct ρ4 =>
        rw [er] at po
        exact fun σ' H' S' k' => ⟨ρ4, S', k4.trans k', PostS.at po k'⟩
      | bk ρ4 => rw [er] at po; exact po
      | rt d ρ4 => rw [er] at po; exact po
      | exc c y => rw [er] at po; exact po
      | bad => rw [er] at po; exact po
  · have hn2 : n = xs.length := by omega
    subst hn2
    rw [List.drop_length] at po
    exact .inl ⟨wstop (Nat.le_refl _), po σ2 H2 S2 .refl⟩

/-- an exception of an own class without fields -/
structure RaiseOk (C : Pc) (c : Nat) (x : Str) : Prop where
  cls : ∃ B newId initId bmB, ExcBaseFacts B newId initId bmB ∧ PySem.W.excIn C.K (C.xA c) bmB newId = true
  mg : C.mg x = some (.ref (C.xA c))
  keep : PySem.W.keepIn C.K (.ref (C.xA c)) = true
  sub : PySem.W.subIn C.K (.ref (C.xA c)) (.type "BaseException") = some true
  ty : PySem.W.typeIn C.K (.ref (C.xA c)) = some (.type "type")
theorem s_raise {c : Nat} {msg : Str} {jj : Nat} {p2 : Pos} (hx : XOk C cl k N sc W X) (hcl : cl = true) (ro : RaiseOk C c x) (hg : sc.names.lookup x = some .globalImplicit) (hd : (x == ("__debug__" : Str)) = false) :
    PS X (.Raise (some (.Call (.Name x p) [.Constant (.str msg) jj p2] [] p')) none pos) (TSv C F W own none oL fm fun _ => .exc c none) := by
  obtain ⟨B, newId, initId, bmB, fb, ei⟩ := ro.cls
  refine PS.imp (ps_raise (hx.calm hcl).1 hx.tk (pmk_own fb (by rw [hx.K]; exact ei) (mg_of' hx ro.mg) (by rw [hx.K]; exact ro.keep) (raises_own (by rw [hx.K]; exact ro.sub) (by rw [hx.K]; exact ro.ty)) (gl_of hx hg) hd)) ?_
  rintro E σ H ⟨ρ, S, po⟩
  exact po _ _ σ H S.entK S.g ⟨rfl, rfl⟩
end
end Vm

set_option maxRecDepth 100000
set_option maxHeartbeats 4000000
/-! VmQA: match over a text; what is never reached. -/
namespace Vm
open PySem PySem.Spec PyProof.Rows L2

section
variable {C : Pc} {F : Fr0} {W : WX} {own oL : List Nat} {o' o1 o2 : Option (List Nat)} {me fm : Mode} {ρ : Env} {σ : L2.St} {H : Hp} {X : Cx}
variable {re : Env → R D} {r r1 r2 : Env → SR} {rc : Str → Env → SR} {e : Expr} {p pos : Pos} {cs : List MatchCase} {body : List Stmt} {st : Stmt}
theorem s_never : PS X st (TSv C F W own o' oL fm fun _ => .bad) := ⟨fun _ _ _ _ _ _ ⟨_, _, h⟩ => h.elim⟩
/-- the cases, tried on a text -/
def PCs (X : Cx) (cs : List MatchCase) (z : Str) (t : TS) : Prop := ∀ (first : Bool) (pins : List (Addr × Obj)) (s : Shared) (σ : L2.St) (H : Hp) (D : Ends) (tk : Tok), Inv X pins σ H s → t D σ H →
  wpAny (model X.prog X.w) X.A (matchCases cs X.env (.str z tk) first) (SP X pins D) X.xe s
theorem wkS {o1 : Option (List Nat)} {E : Ends} {A : Addr → Prop} {H : Hp} (r : SR) (h : o1 = none ∨ o1 = o') (q : PostS C F W A H o' oL fm E r) : PostS C F W A H o1 oL fm E r := by
  rcases h with rfl | rfl
  · cases r with
    | nx ρ1 => exact trivial
    | rt d ρ1 => exact q
    | bk ρ1 => exact q
    | ct ρ1 => exact q
    | exc c x => exact q
    | bad => exact q
  · exact q
theorem pcs_nil {z : Str} : PCs X [] z (TSv C F W own (some own) oL fm fun ρ => .nx ρ) := by
  intro first pins s σ H D tk I ⟨ρ, S, po⟩
  exact wpAny_matchCases_nil ⟨σ, H, I, po σ H S (.ext (Ext.refl H))⟩
theorem pcs_any {z : Str} {rest : List MatchCase} (hb : PSs X body (TSv C F W own o' oL fm r)) : PCs X (⟨.MatchAs none none p, none, body⟩ :: rest) z (TSv C F W own o' oL fm r) := by
  intro first pins s σ H D tk I h
  exact wpAny_matchCases_cons (wpAny_matchPattern_Capture (wpAny_assignInOrder_none (hb.run pins s σ H D I h)))
theorem pcs_lit {z y : Str} {j : Nat} {p2 : Pos} {rest : List MatchCase} (hb : PSs X body (TSv C F W own o1 oL fm r1)) (hr : PCs X rest z (TSv C F W own o2 oL fm r2)) (e1 : o1 = none ∨ o1 = o') (e2 : o2 = none ∨ o2 = o') :
    PCs X (⟨.MatchValue (.Constant (.str y) j p2) p, none, body⟩ :: rest) z (TSv C F W own o' oL fm fun ρ => if z = y then r1 ρ else r2 ρ) := by
  intro first pins s σ H D tk I ⟨ρ, S, po⟩
  refine wpAny_matchCases_cons (wpAny_matchPattern_Value (thn (pe_str.run pins s σ H (fun v H1 => v = .str y ∧ H1 = H) I ⟨rfl, rfl⟩) fun u s1 ⟨v, H1, I1, ru, hv, hH⟩ => ?_))
  subst hv hH
  obtain ⟨tk2, rfl⟩ := ru
  refine PyProof.Rows.eq_str ?_
  have ht : ∀ {b : Bool} {Q : Bool → Shared → Prop} {E : Value → Shared → Prop}, Q b s1 → wpAny (model X.prog X.w) X.A (truthy (.bool b)) Q E s1 := fun h => wpAny_pure h
  refine ht ?_
  by_cases hz : z = y
  · have : (z == y) = true := by simpa using hz
    rw [this]
    have po : PostS C F W (AvO F own ρ σ) H1 o' oL fm D (if z = y then r1 ρ else r2 ρ) := po
    rw [if_pos hz] at po
    exact wpAny_assignInOrder_none (hb.run pins s1 σ H1 D I1 ⟨ρ, S, wkS _ e1 po⟩)
  · have : (z == y) = false := by simpa using hz
    rw [this]
    have po : PostS C F W (AvO F own ρ σ) H1 o' oL fm D (if z = y then r1 ρ else r2 ρ) := po
    rw [if_neg hz] at po
    exact hr false pins s1 σ H1 D tk I1 ⟨ρ, S, wkS _ e2 po⟩
theorem s_match (he : PE X e (TEv C F W own me re)) (hc : ∀ z, PCs X cs z (TSv C F W own o' oL fm (rc z))) :
    PS X (.Match e cs pos) (TSv C F W own o' oL fm fun ρ => .ofR (re ρ) fun d => match d with | .str z => rc z ρ | _ => .bad) := by
  refine ⟨fun pins s σ H D I ⟨ρ, S, po⟩ => ?_⟩
  refine wpAny_Match (thn (he.run pins s σ H (fun v H1 => ∃ z, v = .str z ∧ TSv C F W own o' oL fm (rc z) D σ H1) I (sv_bind S po fun d v H1 _ e1 S1 q1 po1 => ?_)) fun u s1 ⟨v, H1, I1, ru, z, hv, hT⟩ => ?_)
  · cases d <;> try exact po1.elim
    rename_i z _
    have q2 := q1.o
    simp only [RepO, Rep] at q2
    exact ⟨z, q2, ρ, S1, po1⟩
  · subst hv
    obtain ⟨tk, rfl⟩ := ru
    exact hc z true pins s1 σ H1 D tk I1 hT
end
end Vm

set_option maxRecDepth 100000
set_option maxHeartbeats 4000000
/-! VmR: what the check of an expression rests on; views; built-ins. -/
namespace Vm
open PySem PySem.Spec PyProof.Rows L2

/-- the names around -/
structure Gi where
  nm : Nat → Str
  nn : Nat
  fname : Nat → Option Str
  fr : Nat → Bool
  plain : Nat → Bool
  shp : Nat → Nat → Bool
  sh : Nat → Shp
  gname : Nat → Option Str
  cname : Nat → Option Str
  shpI : Nat → Nat → Bool
  xname : Nat → Option Str
  rname : Nat → Option Str
  xisn : Nat → Option (Str × Bool)
  isP : Nat → Bool
  bi : BI → Bool
  lam : Scope → Bool
def Gi.fm (G : Gi) (f : Nat) : Mode := if G.fr f = true then .f else .s
theorem Gi.fm_ne {G : Gi} {f : Nat} : G.fm f ≠ .b := by
  unfold Gi.fm
  split <;> decide

section
/-! ### views of an expression -/
def xName : Expr → Option (Str × Pos)
  | .Name x p => some (x, p)
  | _ => none
def xTuple : Expr → Option (List Expr × Nat × Pos)
  | .Tuple es k p => some (es, k, p)
  | _ => none
def xList : Expr → Option (List Expr × Pos)
  | .List es p => some (es, p)
  | _ => none
def xBin : Expr → Option (Expr × Operator × Expr × Pos)
  | .BinOp a o b p => some (a, o, b, p)
  | _ => none
def xUn : Expr → Option (UnaryOp × Expr × Pos)
  | .UnaryOp o a p => some (o, a, p)
  | _ => none
def xCmp : Expr → Option (Expr × List CmpOp × List Expr × Pos)
  | .Compare a os bs p => some (a, os, bs, p)
  | _ => none
def xBool : Expr → Option (BoolOp × List Expr × Pos)
  | .BoolOp o es p => some (o, es, p)
  | _ => none
def xIf : Expr → Option (Expr × Expr × Expr × Pos)
  | .IfExp t a b p => some (t, a, b, p)
  | _ => none
def xSub : Expr → Option (Expr × Expr × Pos)
  | .Subscript a b p => some (a, b, p)
  | _ => none
def xSlice : Expr → Option (Option Expr × Option Expr × Pos)
  | .Slice lo hi none p => some (lo, hi, p)
  | _ => none
def xAttr : Expr → Option (Expr × Str × Pos)
  | .Attribute a x p => some (a, x, p)
  | _ => none
def xCall : Expr → Option (Expr × List Expr × List Keyword × Pos)
  | .Call f es ks p => some (f, es, ks, p)
  | _ => none
def xComp : Expr → Option (Expr × Expr × Expr × List Expr × Scope × Pos)
  | .ListComp elt [⟨tg, it, ifs, 0⟩] sc p => some (elt, tg, it, ifs, sc, p)
  | _ => none
def xLam : Expr → Option (Arguments × Expr × Scope × Pos)
  | .Lambda ps b sc p => some (ps, b, sc, p)
  | _ => none
variable {x : Expr}
theorem xLam_eq {a} (h : xLam x = some a) : x = .Lambda a.1 a.2.1 a.2.2.1 a.2.2.2 := by cases x <;> simp [xLam] at h; subst h; rfl
theorem xName_eq {a} (h : xName x = some a) : x = .Name a.1 a.2 := by cases x <;> simp [xName] at h; subst h; rfl
theorem xTuple_eq {a} (h : xTuple x = some a) : x = .Tuple a.1 a.2.1 a.2.2 := by cases x <;> simp [xTuple] at h; subst h; rfl
theorem xList_eq {a} (h : xList x = some a) : x = .List a.1 a.2 := by cases x <;> simp [xList] at h; subst h; rfl
theorem xBin_eq {a} (h : xBin x = some a) : x = .BinOp a.1 a.2.1 a.2.2.1 a.2.2.2 := by cases x <;> simp [xBin] at h; subst h; rfl
theorem xUn_eq {a} (h : xUn x = some a) : x = .UnaryOp a.1 a.2.1 a.2.2 := by cases x <;> simp [xUn] at h; subst h; rfl
theorem xCmp_eq {a} (h : xCmp x = some a) : x = .Compare a.1 a.2.1 a.2.2.1 a.2.2.2 := by cases x <;> simp [xCmp] at h; subst h; rfl
theorem xBool_eq {a} (h : xBool x = some a) : x = .BoolOp a.1 a.2.1 a.2.2 := by cases x <;> simp [xBool] at h; subst h; rfl
theorem xIf_eq {a} (h : xIf x = some a) : x = .IfExp a.1 a.2.1 a.2.2.1 a.2.2.2 := by cases x <;> simp [xIf] at h; subst h; rfl
theorem xSub_eq {a} (h : xSub x = some a) : x = .Subscript a.1 a.2.1 a.2.2 := by cases x <;> simp [xSub] at h; subst h; rfl
theorem xSlice_eq {a} (h : xSlice x = some a) : x = .Slice a.1 a.2.1 none a.2.2 := by
  unfold xSlice at h
  split at h <;> simp at h
  subst h
  rfl
theorem xAttr_eq {a} (h : xAttr x = some a) : x = .Attribute a.1 a.2.1 a.2.2 := by cases x <;> simp [xAttr] at h; subst h; rfl
theorem xCall_eq {a} (h : xCall x = some a) : x = .Call a.1 a.2.1 a.2.2.1 a.2.2.2 := by cases x <;> simp [xCall] at h; subst h; rfl
theorem xComp_eq {a} (h : xComp x = some a) : x = .ListComp a.1 [⟨a.2.1, a.2.2.1, a.2.2.2.1, 0⟩] a.2.2.2.2.1 a.2.2.2.2.2 := by
  unfold xComp at h
  split at h <;> simp at h
  subst h
  rfl
end

/-! ### literals -/
def litC : D → Expr → Bool
  | .int i, .Constant (.int j) _ _ => i == j
  | .str s, .Constant (.str t) _ _ => s == t
  | .bl b, .Constant (.bool c) _ _ => b == c
  | .non, .Constant .none _ _ => true
  | _, _ => false
section
variable {C : Pc} {F : Fr0} {W : WX} {own oL : List Nat} {m ma mb fm : Mode} {ρ ρ' : Env} {σ σ' : L2.St} {H H' H1 : Hp} {X : Cx} {N : List Str} {sc scope : Scope} {k j f i : Nat} {cl fx : Bool} {sp : Sp} {Φ : Sm}
variable {ra rb rk : Env → R D} {ras rks : Env → R (List D)} {a b o tg : Expr} {es : List Expr} {p p' pos apos cpos : Pos} {Q : VK} {x : Str}
theorem e_lit {d : D} {e : Expr} (h : litC d e = true) : PE X e (TEv C F W own .f fun _ => .ok d) := by
  cases d <;> cases e <;> simp [litC] at h
  all_goals rename_i c jj pp
  all_goals cases c <;> simp [litC] at h
  · exact e_c pe_non (fun _ _ => by simp [Rep]) rfl
  · subst h; exact e_c pe_bl (fun _ _ => by simp [Rep]) rfl
  · subst h; exact e_c pe_int (fun _ _ => by simp [Rep]) rfl
  · subst h; exact e_c pe_str (fun _ _ => by simp [Rep]) rfl

/-! ### built-ins -/
def biName : BI → Str
  | .len => "len" | .int1 => "int" | .abs => "abs" | .max2 => "max" | .min2 => "min" | .list1 => "list" | .tuple1 => "tuple" | .sortT => "sorted" | .gcd => "gcd" | .lcm => "lcm" | .sum => "sum" | .str1 => "str" | .all1 => "all" | .any1 => "any" | .maxL => "max" | .minL => "min"
def biTwo : BI → Bool
  | .max2 => true | .min2 => true | .gcd => true | .lcm => true | _ => false
def biCalm : BI → Bool
  | .max2 => true | .min2 => true | .sum => true | .all1 => true | .any1 => true | .maxL => true | .minL => true | _ => false
def biM : BI → Mode
  | .list1 => .f | .sortT => .f | _ => .s
/-- where a built-in's name leads -/
def BiOk (C : Pc) : BI → Prop
  | .gcd => C.mg "gcd" = some (.builtin "math.gcd")
  | .lcm => C.mg "lcm" = some (.builtin "math.lcm")
  | b => Free C (biName b)
theorem e_bi2 (hx : XOk C cl k N sc W X) (q : BI) (h2 : biTwo q = true) (hc : biCalm q = true → cl = true) (hm : BiOk C q) (hg : sc.names.lookup (biName q) = some .globalImplicit) (hna : notSt a = true) (hnb : notSt b = true) (ha : PE X a (TEv C F W own ma ra)) (hb : PE X b (TEv C F W own mb rb)) :
    PE X (.Call (.Name (biName q) p) [a, b] [] pos) (TEv C F W own (biM q) fun ρ => ((ra ρ).bind fun y => ((rb ρ).bind fun z => .ok [z]).bind fun zs => .ok (y :: zs)).bind fun xs => biD q xs) := by
  have hs : [b].all notSt = true := by rw [List.all_cons, hnb]; rfl
  cases q <;> first | cases h2 | skip
  · exact b_2 hna hnb (callB1 hx (call_max2 (hx.calm (hc rfl)).1) hg hm (by decide +kernel) (by decide) (by decide) hs hna) ha hb v_max2
  · exact b_2 hna hnb (callB1 hx (call_min2 (hx.calm (hc rfl)).1) hg hm (by decide +kernel) (by decide) (by decide) hs hna) ha hb v_min2
  · exact b_2 hna hnb (callM1 hx cr_gcd hg hm (by decide) hs hna) ha hb v_gcd
  · exact b_2 hna hnb (callM1 hx cr_lcm hg hm (by decide) hs hna) ha hb v_lcm
theorem e_bi1 (hx : XOk C cl k N sc W X) (q : BI) (h2 : biTwo q = false) (hso : q ≠ .sortT) (hc : biCalm q = true → cl = true) (hm : BiOk C q) (hg : sc.names.lookup (biName q) = some .globalImplicit) (hna : notSt a = true) (ha : PE X a (TEv C F W own ma ra)) :
    PE X (.Call (.Name (biName q) p) [a] [] pos) (TEv C F W own (biM q) fun ρ => ((ra ρ).bind fun y => .ok [y]).bind fun xs => biD q xs) := by
  have hK := hx.K
  cases q <;> first | exact absurd rfl hso | cases h2 | skip
  · exact b_1 hna (callB1 hx (call_len) hg hm (by decide +kernel) (by decide) (by decide) rfl hna) ha (by rw [hK]; exact v_len)
  · exact b_1 hna (callT1 hx call_int1 hg hm (by decide +kernel) (by decide) (by decide) rfl hna) ha v_int1
  · exact b_1 hna (callB1 hx call_abs hg hm (by decide +kernel) (by decide) (by decide) rfl hna) ha v_abs
  · exact b_1 hna (callT1 hx call_list_of hg hm (by decide +kernel) (by decide) (by decide) rfl hna) ha (by rw [hK]; exact v_list1)
  · exact b_1 hna (callT1 hx call_tuple_of hg hm (by decide +kernel) (by decide) (by decide) rfl hna) ha (by rw [hK]; exact v_tuple1)
  · exact b_1 hna (callB1 hx (cr_sum (hx.calm (hc rfl)).1) hg hm (by decide +kernel) (by decide) (by decide) rfl hna) ha (by rw [hK]; exact v_sum)
  · exact b_1 hna (callT1 hx call_str_int hg hm (by decide +kernel) (by decide) (by decide) rfl hna) ha v_str1
  · exact b_1 hna (callB1 hx (cr_all (hx.calm (hc rfl)).1) hg hm (by decide +kernel) (by decide) (by decide) rfl hna) ha (by rw [hK]; exact v_all1)
  · exact b_1 hna (callB1 hx (cr_any (hx.calm (hc rfl)).1) hg hm (by decide +kernel) (by decide) (by decide) rfl hna) ha (by rw [hK]; exact v_any1)
  · exact b_1 hna (callB1 hx (cr_max (hx.calm (hc rfl)).1) hg hm (by decide +kernel) (by decide) (by decide) rfl hna) ha (by rw [hK]; exact v_maxL)
  · exact b_1 hna (callB1 hx (cr_min (hx.calm (hc rfl)).1) hg hm (by decide +kernel) (by decide) (by decide) rfl hna) ha (by rw [hK]; exact v_minL)
end
end Vm

set_option maxRecDepth 100000
set_option maxHeartbeats 4000000
/-! VmY: sorted, a list of tuples of ints. -/
namespace Vm
open PySem PySem.Spec PyProof.Rows L2

section
variable {prog : Program} {w : World} {A : Around} {s : Shared}
theorem lex_row {fin : Bool} : ∀ (ns ms : List Int) (us ws : List Value) (i : Nat), IntsAre us ns → IntsAre ws ms → fin = decide (us.length < ws.length) → PySem.W.KatLex prog w A true fin (fun r s' => s' = s ∧ r = HT.lexLt ns ms) (us.zip ws) i s
  | [], ms, us, ws, i, hi, hj, hf => by
    cases hi
    refine PySem.W.kat_nil ⟨rfl, ?_⟩
    cases hj with
    | nil => rw [hf]; rfl
    | cons => rw [hf]; rfl
  | n :: ns, [], us, ws, i, hi, hj, hf => by
    cases hj
    cases hi
    exact PySem.W.kat_nil ⟨rfl, by rw [hf]; rfl⟩
  | n :: ns, m :: ms, us, ws, i, hi, hj, hf => by
    cases hi with
    | cons _ _ hi =>
      cases hj with
      | cons _ _ hj =>
        refine PySem.W.kat_cons (SeqAt.EqAt.int_int _ _ _ _ prog w _ _ ?_)
        rw [HT.lexLt_cons]
        refine PySem.W.kat_go (fun e => ?_) fun e => ?_
        · have e : n = m := by simpa using e
          rw [if_pos e]
          exact PySem.W.kat_yes (lex_row ns ms _ _ (i + 1) hi hj (by rw [hf]; simp))
        · have e : ¬ n = m := by simpa using e
          rw [if_neg e]
          exact PySem.W.kat_no (TS.oneLt_ints _ ⟨rfl, rfl⟩)
/-- a tuple of these ints -/
def IsRow (h : Heap) (v : Value) (ns : List Int) : Prop := ∃ a its, v = .ref a ∧ IsTup h a its ∧ IntsAre its.toList ns
theorem IsRow.keeps {h h' : Heap} {v : Value} {ns : List Int} (r : IsRow h v ns) (k : ∀ b o, h.get? b = some o → o.cls = .type "tuple" → h'.get? b = some o) : IsRow h' v ns := by
  obtain ⟨a, its, e, ⟨o, h1, h2, h3⟩, hi⟩ := r
  exact ⟨a, its, e, ⟨o, k a o h1 h2, h2, h3⟩, hi⟩
theorem rows_cmp {vs : List Value} {k : Value → List Int} (hp : ∀ v ∈ vs, IsRow s.heap v (k v)) : SrtO.Cmp prog w A s (tuples' true) (fun p => p.1 ∈ vs) (SrtO.lt2 fun v u => HT.lexLt (k v) (k u)) := by
  intro p q hm hm'
  have h1 := hp _ hm
  have h2 := hp _ hm'
  show wpAny (model prog w) A (keyLt' (tuples' true) p.1 q.1) (fun r s' => s' = s ∧ r = HT.lexLt (k p.1) (k q.1)) (fun _ _ => False) s
  generalize k p.1 = ns at h1 ⊢
  generalize k q.1 = ms at h2 ⊢
  obtain ⟨a, its, e1, ⟨o1, g1, _, n1, d1⟩, i1⟩ := h1
  obtain ⟨b, jts, e2, ⟨o2, g2, _, n2, d2⟩, i2⟩ := h2
  rw [e1, e2]
  exact PySem.W.kat_lt g1 d1 g2 d2 (lex_row ns ms _ _ 0 i1 i2 (by simp))
theorem rows_firsts {h : Heap} {k : Value → List Int} : ∀ {vs : List Value}, (∀ v ∈ vs, IsRow h v (k v) ∧ k v ≠ []) → ∃ fs, PySem.W.KatTups h vs fs ∧ fs.length = vs.length ∧ ∀ f ∈ fs, ∃ x t, f = Value.int x t
  | [], _ => ⟨[], PySem.W.KatTups.nil, rfl, fun f hf => nomatch hf⟩
  | v :: vs, hv => by
    obtain ⟨fs, h1, h2, h3⟩ := rows_firsts fun u hu => hv u (List.mem_cons_of_mem _ hu)
    obtain ⟨⟨a, its, e, ⟨o, g1, c1, n1, d1⟩, i1⟩, ne⟩ := hv v List.mem_cons_self
    subst e
    have hd : ∀ (l : List Value) (ns : List Int), IntsAre l ns → ns ≠ [] → ∃ x t, l[0]? = some (Value.int x t) := fun l ns i n => by
      cases i with
      | nil => exact absurd rfl n
      | cons x t _ => exact ⟨x, t, rfl⟩
    obtain ⟨x, t, hx⟩ := hd _ _ i1 ne
    rw [Array.getElem?_toList] at hx
    exact ⟨_ :: fs, PySem.W.KatTups.cons g1 c1 d1 hx h1, by simp [h2], fun f hf => (List.mem_cons.mp hf).elim (fun e => ⟨x, t, e⟩) (h3 f)⟩
theorem rows_sortable {a : Addr} {vs : List Value} {k : Value → List Int} (h0 : 0 < vs.length) (hp : ∀ v ∈ vs, IsRow s.heap v (k v) ∧ k v ≠ []) (ha : ∀ o, s.heap.get? a = some o → o.cls ≠ .type "tuple") : SrtO.SortableO prog w A s a vs fun v u => HT.lexLt (k v) (k u) := by
  intro h' keep
  have hp' : ∀ v ∈ vs, IsRow h' v (k v) ∧ k v ≠ [] := fun v hm => ⟨(hp v hm).1.keeps fun b o e c => keep b o (fun z => by subst z; exact ha o e c) e, (hp v hm).2⟩
  obtain ⟨fs, f1, f2, f3⟩ := rows_firsts hp'
  refine ⟨tuples' true, fun Q E hq => ?_, rows_cmp fun v hm => (hp' v hm).1⟩
  refine PySem.W.kat_kind (T := .type "int") f1 (by omega) (fun f hm => ?_) (by rfl) ?_
  · obtain ⟨x, t, rfl⟩ := f3 f hm
    exact PySem.W.Looks.now
  · have e : (Value.type "int" != Value.type "tuple") = true := by decide +kernel
    rw [e]
    exact hq
end

/-- the tracked value of a reference -/
def absV : Value → V
  | .ref a => .ref a
  | _ => .non
def rSortR (K : PySem.W.Frag) : List V → Hp → VK → Prop := fun vs H Q => ∃ (a : Addr) (ys : List V) (rs : List (List Int)), vs = [V.ref a] ∧ SqL K H a ys ∧ ys.length = rs.length ∧ (∀ (i : Nat) (y : V) (r : List Int), ys[i]? = some y → rs[i]? = some r → ∃ t, y = V.ref t ∧ SqT K H t (r.map V.int) ∧ r ≠ []) ∧
  ∀ (k : V → List Int) (zs : List V) (p : Addr), ys.map k = rs → SrtO.Srtd (fun v u => HT.lexLt (k v) (k u)) zs → zs.Perm ys → H p = none → Q (.ref p) (upd H p (.lst zs))
theorem map_int_inj : ∀ {xs ys : List Int}, xs.map V.int = ys.map V.int → xs = ys
  | [], [], _ => rfl
  | [], _ :: _, h => by cases h
  | _ :: _, [], h => by cases h
  | x :: xs, y :: ys, h => by
    rw [List.map_cons, List.map_cons, List.cons.injEq] at h
    obtain ⟨h1, h2⟩ := h
    cases h1
    rw [map_int_inj h2]
section
variable {X : Cx}
theorem abs_vals : ∀ {ys : List V} {us : List Value}, Vals ys us → (∀ y ∈ ys, ∃ t, y = V.ref t) → us.map absV = ys ∧ ∀ u ∈ us, ∃ t, u = Value.ref t
  | _, _, .nil, _ => ⟨rfl, fun u hu => nomatch hu⟩
  | _, _, .cons r t, h => by
    obtain ⟨h1, h2⟩ := abs_vals t fun y hy => h y (List.mem_cons_of_mem _ hy)
    obtain ⟨a, e⟩ := h _ List.mem_cons_self
    subst e
    cases r
    refine ⟨by rw [List.map_cons, h1]; rfl, fun u hu => ?_⟩
    rcases List.mem_cons.mp hu with e | hu
    · exact ⟨a, e⟩
    · exact h2 u hu
theorem vals_refs : ∀ {us : List Value}, (∀ u ∈ us, ∃ t, u = Value.ref t) → Vals (us.map absV) us
  | [], _ => .nil
  | u :: us, h => by
    obtain ⟨t, e⟩ := h u List.mem_cons_self
    subst e
    exact .cons rfl (vals_refs fun v hv => h v (List.mem_cons_of_mem _ hv))
theorem cr_sortR : CallR X (.builtin "sorted") (rSortR X.K) := by
  intro pins s σ H vs us Q I r h
  obtain ⟨a, ys, rs, rfl, hs, hlr, hpt, q⟩ := h
  obtain ⟨its, rv, hl, hz⟩ := I.list hs
  rw [Vals.ref1 r]
  have at_ : ∀ y ∈ ys, ∃ (t : Addr) (r : List Int), y = V.ref t ∧ SqT X.K H t (r.map V.int) ∧ r ≠ [] := fun y hy => by
    obtain ⟨i, hi, e⟩ := List.getElem_of_mem hy
    obtain ⟨t, h1, h2, h3⟩ := hpt i y (rs[i]'(by omega)) (by rw [List.getElem?_eq_getElem hi, e]) (List.getElem?_eq_getElem (by omega))
    exact ⟨t, _, h1, h2, h3⟩
  have ex : ∃ k : V → List Int, ∀ y t r, y = V.ref t → SqT X.K H t (r.map V.int) → k y = r := by
    refine ⟨fun y => Classical.epsilon fun r => ∃ t, y = V.ref t ∧ SqT X.K H t (r.map V.int), fun y t r e h => ?_⟩
    subst e
    have sp := Classical.epsilon_spec (p := fun r => ∃ t', V.ref t = V.ref t' ∧ SqT X.K H t' (r.map V.int)) ⟨r, t, rfl, h⟩
    obtain ⟨t', e', h'⟩ := sp
    cases e'
    exact map_int_inj (I.tuple_inj h' h)
  obtain ⟨k, hkk⟩ := ex
  have hk : ∀ y ∈ ys, ∃ t, y = V.ref t ∧ SqT X.K H t ((k y).map V.int) ∧ k y ≠ [] := fun y hy => by
    obtain ⟨t, r, e, h1, h2⟩ := at_ y hy
    rw [hkk y t r e h1]
    exact ⟨t, e, h1, h2⟩
  have hmap : ys.map k = rs := by
    apply List.ext_getElem?
    intro i
    rw [List.getElem?_map]
    by_cases hi : i < ys.length
    · rw [List.getElem?_eq_getElem hi, List.getElem?_eq_getElem (show i < rs.length by omega)]
      obtain ⟨t, h1, h2, _⟩ := hpt i _ (rs[i]'(by omega)) (List.getElem?_eq_getElem hi) (List.getElem?_eq_getElem (by omega))
      rw [Option.map_some, hkk _ t _ h1 h2]
    · rw [List.getElem?_eq_none (by omega), List.getElem?_eq_none (by omega)]
      rfl
  have q := fun zs p h1 h2 h3 => q k zs p hmap h1 h2 h3
  obtain ⟨e1, e2⟩ := abs_vals rv fun y hy => let ⟨t, e, _⟩ := hk y hy; ⟨t, e⟩
  have hrow : ∀ v ∈ its, IsRow s.heap v (k (absV v)) ∧ k (absV v) ≠ [] := fun v hv => by
    obtain ⟨t, e⟩ := e2 v hv
    have hy : absV v ∈ ys := by rw [← e1]; exact List.mem_map.mpr ⟨v, hv, rfl⟩
    obtain ⟨t', e', hq, hn⟩ := hk _ hy
    obtain ⟨js, r1, h1, _⟩ := I.tuple hq
    subst e
    cases e'
    exact ⟨⟨t, _, rfl, h1, r1.ints⟩, hn⟩
  refine SrtO.sorted_ord (NtL.swo_lexL fun v : Value => k (absV v)) hl.isList (by rw [← rv.length]; exact hz) (fun h2 h1 a' ha kk => ?_) fun out h1 h2 => ?_
  · refine rows_sortable (s := { s with heap := h1 }) (by omega) (fun v hm => ⟨(hrow v hm).1.keeps fun b o e _ => (kk b o e).2, (hrow v hm).2⟩) fun o e => ?_
    have e' : some o = some (seqObj "list" its.toArray 0) := e.symm.trans ha
    cases e'
    intro c
    exact absurd (Value.type.inj c) (by decide)
  · obtain ⟨ep, he'⟩ := PyProof.Rows.sortedAll_at s.heap its out.toArray
    have hrefs : ∀ u ∈ out, ∃ t, u = Value.ref t := fun u hu => e2 u (h2.perm.mem_iff.mp hu)
    have hlen : (out.map absV).length ≤ sizeLine := by
      rw [List.length_map, h2.perm.length_eq, ← rv.length]
      exact hz
    refine ⟨.ref _, upd H (s.heap.objs.size + 1) (.lst (out.map absV)), I.laid (t' := s.toks) (fun _ _ => PyProof.Rows.sortedAll_old) (Nat.le_succ _) ⟨hlen, out, ep, vals_refs hrefs, he'⟩, rfl, q _ _ ?_ ?_ (I.hok.fresh (Nat.le_succ _))⟩
    · exact List.pairwise_map.mpr h1
    · rw [← e1]
      exact h2.perm.map absV
end

/-! ### the order of rows -/
theorem lex_total : ∀ {xs ys : List Int}, HT.lexLt xs ys = false → HT.lexLt ys xs = false → xs = ys
  | [], [], _, _ => rfl
  | [], y :: ys, h, _ => by rw [HT.lexLt_nil_cons] at h; cases h
  | x :: xs, [], _, h => by rw [HT.lexLt_nil_cons] at h; cases h
  | x :: xs, y :: ys, h1, h2 => by
    rw [HT.lexLt_cons] at h1 h2
    by_cases e : x = y
    · subst e
      rw [if_pos rfl] at h1 h2
      rw [lex_total h1 h2]
    · rw [if_neg e] at h1
      rw [if_neg fun z => e z.symm] at h2
      have a := of_decide_eq_false h1
      have b := of_decide_eq_false h2
      omega
theorem swoL : SrtO.Swo HT.lexLt := NtL.swo_lexL (fun x : List Int => x)
theorem insT_perm (x : List Int) : ∀ l, (insT x l).Perm (x :: l)
  | [] => List.Perm.refl _
  | y :: r => by
    unfold insT
    split
    · exact List.Perm.refl _
    · exact ((insT_perm x r).cons y).trans (List.Perm.swap x y r)
theorem sortT_perm : ∀ l, (sortT l).Perm l
  | [] => List.Perm.refl _
  | x :: r => (insT_perm x (sortT r)).trans ((sortT_perm r).cons x)
theorem insT_srtd (x : List Int) : ∀ l, SrtO.Srtd HT.lexLt l → SrtO.Srtd HT.lexLt (insT x l)
  | [], _ => SrtO.srtd_one x
  | y :: r, h => by
    unfold insT
    split
    · rename_i hl
      refine List.pairwise_cons.mpr ⟨fun z hz => ?_, h⟩
      have := swoL.lt_all h hl z hz
      exact swoL.asym _ _ this
    · rename_i hl
      have hl : HT.lexLt x y = false := by simpa using hl
      obtain ⟨h1, h2⟩ := List.pairwise_cons.mp h
      refine List.pairwise_cons.mpr ⟨fun z hz => ?_, insT_srtd x r h2⟩
      rcases List.mem_cons.mp ((insT_perm x r).mem_iff.mp hz) with e | hz
      · rw [e]; exact hl
      · exact h1 z hz
theorem sortT_srtd : ∀ l, SrtO.Srtd HT.lexLt (sortT l)
  | [] => List.Pairwise.nil
  | x :: r => insT_srtd x _ (sortT_srtd r)
theorem rows_uniq : ∀ {l m : List (List Int)}, SrtO.Srtd HT.lexLt l → SrtO.Srtd HT.lexLt m → l.Perm m → l = m
  | [], m, _, _, h => (List.Perm.eq_nil h.symm).symm
  | x :: l, [], _, _, h => absurd h.length_eq (by simp)
  | x :: l, y :: m, hl, hm, h => by
    obtain ⟨a1, a2⟩ := List.pairwise_cons.mp hl
    obtain ⟨b1, b2⟩ := List.pairwise_cons.mp hm
    have e : x = y := by
      apply lex_total
      · rcases List.mem_cons.mp (h.mem_iff.mp List.mem_cons_self) with e | z
        · rw [e]; exact swoL.refl y
        · exact b1 x z
      · rcases List.mem_cons.mp (h.mem_iff.mpr List.mem_cons_self) with e | z
        · rw [e]; exact swoL.refl x
        · exact a1 y z
    subst e
    rw [rows_uniq a2 b2 (List.Perm.cons_inv h)]

/-! ### by values -/
theorem ints_eq {C : Pc} {Av : Addr → Prop} {H : Hp} : ∀ {r : List Int} {ds : List D} {vs : List V}, ints? ds = some r → Reps C Av H ds vs → vs = r.map V.int ∧ ds = r.map D.int
  | r, [], vs, h, q => by
    cases h
    cases vs with
    | nil => exact ⟨rfl, rfl⟩
    | cons => simp [Reps] at q
  | r, d :: ds, vs, h, q => by
    cases d <;> simp only [ints?] at h <;> try cases h
    rename_i i
    cases e : ints? ds with
    | none => rw [e] at h; cases h
    | some r' =>
      rw [e] at h
      cases h
      cases vs with
      | nil => simp [Reps] at q
      | cons v vs =>
        simp only [Reps] at q
        obtain ⟨h1, h2⟩ := ints_eq e q.2
        have q1 := q.1
        simp only [Rep] at q1
        rw [h1, h2, q1]
        exact ⟨rfl, rfl⟩
theorem rows_at : ∀ {ds : List D} {rs : List (List Int)}, rows? ds = some rs → ds.length = rs.length ∧ ∀ (i : Nat) (d : D) (r : List Int), ds[i]? = some d → rs[i]? = some r → row? d = some r
  | [], rs, h => by
    cases h
    exact ⟨rfl, fun i d r e => by simp at e⟩
  | d :: ds, rs, h => by
    simp only [rows?] at h
    split at h
    · rename_i a b h1 h2
      cases h
      obtain ⟨k1, k2⟩ := rows_at h2
      refine ⟨by simp [k1], fun i d' r e1 e2 => ?_⟩
      cases i with
      | zero =>
        simp only [List.getElem?_cons_zero, Option.some.injEq] at e1 e2
        rw [← e1, ← e2]
        exact h1
      | succ i =>
        simp only [List.getElem?_cons_succ] at e1 e2
        exact k2 i d' r e1 e2
    · cases h
section
variable {C : Pc} {F : Fr0} {W : WX} {own : List Nat}
theorem v_sortT : V1 C F W own .f .sortT (rSortR C.K) := by
  intro ρ σ H y v Q S r po
  cases y <;> simp only [biD] at po <;> try exact po.elim
  rename_i ds
  obtain ⟨a, ys, rfl, ha, hr⟩ := r
  cases er : rows? ds with
  | none => simp only [er] at po; exact po.elim
  | some rs =>
    simp only [er, R.guard] at po
    by_cases hne : ∀ r ∈ rs, r ≠ []
    · rw [if_pos hne] at po
      obtain ⟨hl, hat⟩ := rows_at er
      obtain ⟨hlen, hpt⟩ := reps_iff.mp hr
      have pt : ∀ i y r, ys[i]? = some y → rs[i]? = some r → ∃ t, y = V.ref t ∧ SqT C.K H t (r.map V.int) ∧ r ≠ [] := fun i y r e1 e2 => by
        have hi : i < ds.length := by
          obtain ⟨h, _⟩ := List.getElem?_eq_some_iff.mp e2
          omega
        have hd : ds[i]? = some ds[i] := List.getElem?_eq_getElem hi
        have hrow := hat i _ r hd e2
        have hrep := hpt i _ _ hd e1
        generalize ds[i] = d at hrow hrep
        cases d <;> simp only [row?] at hrow <;> try cases hrow
        simp only [Rep] at hrep
        obtain ⟨t, vs, e, hq, hi'⟩ := hrep
        rw [(ints_eq hrow hi').1] at hq
        exact ⟨t, e, hq, hne r (List.mem_of_getElem? e2)⟩
      refine ⟨a, ys, rs, rfl, .of ha, by rw [← hlen, hl], pt, fun k zs p hk hs hp hpn => ?_⟩
      have hzk : zs.map k = sortT rs := by
        refine rows_uniq (List.pairwise_map.mpr hs) (sortT_srtd rs) ?_
        rw [← hk]
        exact (hp.map k).trans (sortT_perm _).symm
      refine po _ _ (Ext.new hpn) (g_new S.g hpn) ⟨p, zs, rfl, nw hpn, upd_same, ?_⟩
      refine reps_iff.mpr ⟨by rw [List.length_map, ← hzk, List.length_map], fun i d z e1 e2 => ?_⟩
      rw [List.getElem?_map, ← hzk, List.getElem?_map, e2] at e1
      cases e1
      have hz : z ∈ ys := hp.mem_iff.mp (List.mem_of_getElem? e2)
      obtain ⟨j, hj, ej⟩ := List.getElem_of_mem hz
      have hjr : rs[j]? = some (k z) := by
        rw [← hk, List.getElem?_map, List.getElem?_eq_getElem hj, ej]
        rfl
      obtain ⟨t, h1, h2, _⟩ := pt j z (k z) (by rw [List.getElem?_eq_getElem hj, ej]) hjr
      simp only [Rep]
      refine ⟨t, _, h1, sqt_keep (Av := AvO F own ρ σ) (Av' := AvO F own ρ σ) (.ext (Ext.new hpn)) h2, ?_⟩
      refine reps_iff.mpr ⟨by simp, fun i d v e1 e2 => ?_⟩
      rw [List.getElem?_map] at e1 e2
      cases e : (k z)[i]? with
      | none => rw [e] at e1; cases e1
      | some n =>
        rw [e] at e1 e2
        cases e1
        cases e2
        simp [Rep]
    · rw [if_neg hne] at po
      exact po.elim
theorem e_sortT {X : Cx} {N : List Str} {sc : Scope} {k : Nat} {cl : Bool} {ma : Mode} {ra : Env → R D} {a : Expr} {p pos : Pos} (hx : XOk C cl k N sc W X) (hm : BiOk C .sortT) (hg : sc.names.lookup (biName .sortT) = some .globalImplicit) (hna : notSt a = true) (ha : PE X a (TEv C F W own ma ra)) :
    PE X (.Call (.Name (biName .sortT) p) [a] [] pos) (TEv C F W own (biM .sortT) fun ρ => ((ra ρ).bind fun y => .ok [y]).bind fun xs => biD .sortT xs) :=
  b_1 hna (callB1 hx cr_sortR hg hm (by decide +kernel) (by decide) (by decide) rfl hna) ha (by rw [hx.K]; exact v_sortT)
end
end Vm

set_option maxRecDepth 100000
set_option maxHeartbeats 4000000
/-! VmZ: list.count, list.index; isinstance of the exception at hand. -/
namespace Vm
open PySem PySem.Spec PyProof.Rows L2

def rCntD (K : PySem.W.Frag) : V → List V → Hp → VK → Prop := fun x xs H Q => ∃ (a : Addr) (y : V) (d : PyData) (ds : List PyData), x = V.ref a ∧ xs = [y] ∧ Dp K H (V.ref a) (.list ds) ∧ Dp K H y d ∧
  SeqAt.shaped (.list ds) = true ∧ SeqAt.shaped d = true ∧ Q (.int ((ds.countP fun z => PyData.eqv z d : Nat) : Int)) H
section
variable {X : Cx}
theorem mt_cntD (hu : X.A.units + 65 < cLine) : MtR X "list.count" (rCntD X.K) := by
  intro pins s σ H x xs v us Q I rx rxs h
  obtain ⟨a, y, d, ds, rfl, rfl, hl, hy, sl, sd, q⟩ := h
  cases rx
  obtain ⟨uy, rfl, ry⟩ := rxs.one
  obtain ⟨bs, r1⟩ := Dp.reads I d y uy hy ry
  have hxs : PyData.canLayAll0 ds = true := SeqAt.canLay_of_shaped sl
  have hroom : X.A.units + 1 + min (PyData.depthAll ds) d.depth < cLine := room_in_shaped sd hu
  cases hl with
  | lst hs ha =>
    obtain ⟨its, rv, ⟨⟨cls, dd, data, sls⟩, n, ho, hc, hdn, hdt⟩, hlen⟩ := I.list hs
    simp only at hc hdt
    subst hc hdt
    obtain ⟨as, h4⟩ := Dp.readsAll I ds _ its ha rv
    have hmap : its.map (SeqAt.readOf s.heap) = ds := SeqAt.readsAll_map ds its as hxs h4
    have e : (its.toArray.toList.countP fun u => PyData.eqv (SeqAt.readOf s.heap u) d) = ds.countP fun z => PyData.eqv z d := by
      rw [← hmap, List.countP_map]
      rfl
    refine call_meets PySem.F.slot_list_count ⟨_, ho, rfl⟩ PySem.F.entry_list_count (PySem.F.args_list_count_2 _ _)
      (SeqAt.list_countAt a its.toArray n dd sls uy (fun u => PyData.eqv (SeqAt.readOf s.heap u) d)) ⟨ho, SeqAt.items_eqAt (vs := its.toArray) (show ReadsAll s.heap its.toArray.toList ds as from h4) r1 hxs (SeqAt.canLay_of_shaped sd) hroom, ?_⟩
    rw [e]
    exact ⟨.int _, H, I.tok _, ⟨_, rfl⟩, q⟩
end

section
variable {C : Pc} {F : Fr0} {W : WX} {own : List Nat} {m ma mb : Mode} {ρ : Env} {σ : L2.St} {H H' H1 : Hp} {X : Cx} {N : List Str} {sc : Scope} {k j : Nat} {cl : Bool} {Φ : Sm}
variable {ra rb : Env → R D} {a b o : Expr} {p pos apos cpos : Pos} {x : Str}
theorem toPy_lst {d : D} {ps : List PyData} (h : toPy d = some (.list ps)) : ∃ ds, d = .lst ds ∧ toPys ds = some ps := by
  cases d <;> simp only [toPy, Option.map_eq_some_iff, reduceCtorEq, Option.some.injEq, and_false, exists_false] at h
  rename_i ds
  obtain ⟨qs, h1, h2⟩ := h
  cases h2
  exact ⟨ds, rfl, h1⟩
theorem fewA {e : Expr} {env : PySem.Env} (h : notSt e = true) : ((backTo cpos (starEach [e] env)).all (fun x => !x.1) && (backToKw cpos (keywordEach [] env)).all (fun x => x.1.isSome)
      && decide (([e] : List Expr).length + ([] : List Keyword).length + (if ([] : List Keyword).isEmpty then 0 else 1) < 30)) = true := by
  rw [star_cons h]
  rfl
/-- a list's method with one argument, by data -/
theorem meth1 {name : Str} {id : String} {r : V → List V → Hp → VK → Prop} {op : D → D → R D} (hx : XOk C cl k N sc W X) (slot : Slot "list" name id) (hty : typeOf (.builtin id) = pure (.type "method_descriptor")) (hm : MtR X id r) (hmb : mb ≠ .b) (hns : notSt b = true) (hl : (apos.endLine == cpos.line) = true) (hab : attributeBase a name X.env (eval a X.env) = eval a X.env)
    (ha : PE X a (TEv C F W own ma ra)) (hb : PE X b (TEv C F W own mb rb))
    (hv : ∀ ρ σ H ds y v u Q, Sr C F own ρ σ H → RepO C (AvO F own ρ σ) H (.lst ds) v → RepO C (AvO F own ρ σ) H y u → PostE C F W own .s ρ σ H (op (.lst ds) y) Q → r v [u] H Q) :
    PE X (.Call (.Attribute a name apos) [b] [] cpos) (TEv C F W own .s fun ρ => (ra ρ).bind fun x => match x with
      | .lst ds => (rb ρ).bind fun y => op (.lst ds) y
      | _ => .bad) := by
  refine PE.imp (pe_bm PySem.F.plainAttrs_list slot hty hm ha (pa_cons hb pa_nil (star_cons hns)) hab (fewA hns) hl (star_cons hns) rfl) ?_
  rintro σ H Q ⟨ρ, S, po⟩
  refine tev_bind S po fun d v H1 _ e1 S1 q1 po1 => ?_
  obtain ⟨ds, rfl⟩ : ∃ ds, d = .lst ds := by cases d <;> first | exact ⟨_, rfl⟩ | exact po1.elim
  have q2 := q1.o
  obtain ⟨l, xs, rfl, hl, hr⟩ := repO_lst q2
  refine ⟨.inl ⟨rfl, xs, SqL.of hl⟩, ?_⟩
  have po1 : PostE C F W own .s ρ σ H1 ((rb ρ).bind fun y => op (.lst ds) y) Q := po1
  refine tev_bind S1 po1 fun y u H2 _ e2 S2 q3 po2 => ?_
  exact hv ρ σ H2 ds y _ u Q S2 (q2.ext e2) q3.o po2
theorem e_lcnt (hx : XOk C cl k N sc W X) (hmb : mb ≠ .b) (hns : notSt b = true) (hl : (apos.endLine == cpos.line) = true) (hab : abC a = true) (ha : PE X a (TEv C F W own ma ra)) (hb : PE X b (TEv C F W own mb rb)) :
    PE X (.Call (.Attribute a "count" apos) [b] [] cpos) (TEv C F W own .s fun ρ => (ra ρ).bind fun x => match x with
      | .lst ds => (rb ρ).bind fun y => lcntD (.lst ds) y
      | _ => .bad) := by
  refine meth1 hx PySem.F.slot_list_count rfl (mt_cntD (by have := hx.room.un; omega)) hmb hns hl (ab_no hab) ha hb fun ρ σ H ds y v u Q S r1 r2 po => ?_
  unfold lcntD at po
  split at po
  · rename_i ps q e1 e2
    unfold R.guard at po
    by_cases hg : SeqAt.shaped (.list ps) = true ∧ SeqAt.shaped q = true
    · rw [if_pos hg] at po
      obtain ⟨l, xs, rfl, h1, h2⟩ := repO_lst r1
      exact ⟨l, u, q, ps, rfl, rfl, by rw [hx.K]; exact r1.dp e1, by rw [hx.K]; exact r2.dp e2, hg.1, hg.2, po _ H (Ext.refl H) S.g (by simp [RepM, Rep])⟩
    · rw [if_neg hg] at po
      exact po.elim
  · exact po.elim
theorem e_lidx (hx : XOk C cl k N sc W X) (hmb : mb ≠ .b) (hns : notSt b = true) (hl : (apos.endLine == cpos.line) = true) (hab : abC a = true) (ha : PE X a (TEv C F W own ma ra)) (hb : PE X b (TEv C F W own mb rb)) :
    PE X (.Call (.Attribute a "index" apos) [b] [] cpos) (TEv C F W own .s fun ρ => (ra ρ).bind fun x => match x with
      | .lst ds => (rb ρ).bind fun y => lidxD (.lst ds) y
      | _ => .bad) := by
  refine meth1 hx PySem.F.slot_list_index rfl (mt_indexD (by have := hx.room.un; omega)) hmb hns hl (ab_no hab) ha hb fun ρ σ H ds y v u Q S r1 r2 po => ?_
  unfold lidxD at po
  split at po
  · rename_i ps q e1 e2
    by_cases hg : SeqAt.shaped (.list ps) = true ∧ SeqAt.shaped q = true
    · rw [if_pos hg] at po
      obtain ⟨l, xs, rfl, h1, h2⟩ := repO_lst r1
      cases ej : ps.findIdx? (fun z => PyData.eqv z q) with
      | none => rw [ej] at po; exact po.elim
      | some jj =>
        rw [ej] at po
        obtain ⟨k1, k2, k3⟩ := List.findIdx?_eq_some_iff_getElem.mp ej
        refine ⟨l, u, q, ps, jj, ps[jj], rfl, rfl, by rw [hx.K]; exact r1.dp e1, by rw [hx.K]; exact r2.dp e2, hg.1, hg.2, List.getElem?_eq_getElem k1, k2, fun n z hn hz => ?_, po _ H (Ext.refl H) S.g (by simp [RepM, Rep])⟩
        obtain ⟨hn', e⟩ := List.getElem?_eq_some_iff.mp hz
        have := k3 n hn
        rw [e] at this
        simpa using this
    · rw [if_neg hg] at po
      exact po.elim
  · exact po.elim

/-! ### isinstance of the exception at hand -/
/-- what the exceptions' classes answer -/
structure IsOk (C : Pc) (Φ : Sm) (xisn : Nat → Option (Str × Bool)) : Prop where
  cls : ∀ k, k ∈ Φ.xs → ExcC C.K (C.xA k)
  own : ∀ c x, xisn c = some (x, true) → C.mg x = some (.ref (C.xA c)) ∧ (x == ("__debug__" : Str)) = false ∧ ∀ k, k ∈ Φ.xs → PySem.W.kitOne C.K (.ref (C.xA k)) (.ref (C.xA c)) = some (Φ.sub k c)
  blt : ∀ c x, xisn c = some (x, false) → ∃ id, Free C x ∧ bootBuiltins x = some (.type id) ∧ x ≠ "__name__" ∧ (x == ("__debug__" : Str)) = false ∧ ∀ k, k ∈ Φ.xs → PySem.W.kitOne C.K (.ref (C.xA k)) (.type id) = some (Φ.sub k c)
def rIsX (C : Pc) : List V → Hp → VK → Prop := fun xs H Q => ∃ (Av : Addr → Prop) (k : Nat) (y : Option D) (v c : V) (cv : Value) (b : Bool), xs = [v, c] ∧ Rep C Av H (.exn k y) v ∧ (∀ u, RelV c u → u = cv) ∧ ExcC C.K (C.xA k) ∧ PySem.W.kitOne C.K (.ref (C.xA k)) cv = some b ∧ Q (.bl b) H
theorem call_isX (hx : XOk C cl k N sc W X) : CallR X (.builtin "isinstance") (rIsX C) := by
  intro pins s σ H xs us Q I r h
  obtain ⟨Av, kk, y, v, c, cv, bb, rfl, hr, hcv, ec, e, q⟩ := h
  obtain ⟨u1, u2, rfl, rv, rc⟩ := r.two
  obtain ⟨p, vs, dd, e1, h1, h2, h3, h4⟩ := exn_at hx I hr
  subst e1
  cases rv
  have e2 := hcv _ rc
  subst e2
  obtain ⟨hc1, hd1⟩ := h2
  have J : ∃ od, PySem.W.InstAt s.heap p.1 p.2 (C.xA kk) od := by
    have nc : PySem.W.notCls p.2 = true := by
      unfold PySem.W.notCls
      rw [h3]
    cases y with
    | none =>
      have h4 : dd = none := h4
      subst h4
      exact ⟨none, h1, hc1, nc, by rw [hd1]; trivial⟩
    | some d =>
      obtain ⟨q', yy, rfl, hq', _⟩ := h4
      obtain ⟨mA, ⟨o, es, ep, eo, _⟩, _⟩ := I.hok q' _ hq'
      exact ⟨some o, h1, hc1, nc, by rw [hd1]; exact eo⟩
  obtain ⟨od, J⟩ := J
  have hcl : (PySem.W.clsIn C.K (C.xA kk)).isSome = true := by
    obtain ⟨cdD, hcD, _⟩ := PySem.W.any_some ec.hd
    rw [hcD]
    rfl
  exact PySem.W.kia_one (PySem.W.kitx_exc hcl ec.hg ec.hk ec.hs ec.ha ec.hn ec.ht ec.hm) (by rw [← hx.K]; exact I.kIn) J e (fun z => nomatch z) fun tk => ⟨.bl bb, H, I.kept (t' := tk) fun _ _ z => z, rfl, q⟩
theorem e_isx {xisn : Nat → Option (Str × Bool)} {c : Nat} {ow : Bool} {p2 : Pos} (hx : XOk C cl k N sc W X) (io : IsOk C Φ xisn) (hc : xisn c = some (x, ow)) (hg : sc.names.lookup ("isinstance" : Str) = some .globalImplicit) (hm : Free C "isinstance") (hgx : sc.names.lookup x = some .globalImplicit) (hmb : ma ≠ .b) (hn : notSt a = true) (ha : PE X a (TEv C F W own ma ra)) :
    PE X (.Call (.Name "isinstance" p) [a, .Name x p2] [] pos) (TEv C F W own .s fun ρ => (ra ρ).bind fun y => isxD Φ c y) := by
  have key : ∃ (vc : V) (cv : Value), PE X (.Name x p2) (tC vc) ∧ (∀ u, RelV vc u → u = cv) ∧ ∀ kk, kk ∈ Φ.xs → PySem.W.kitOne C.K (.ref (C.xA kk)) cv = some (Φ.sub kk c) := by
    cases ow with
    | true =>
      obtain ⟨h1, h2, h3⟩ := io.own c x hc
      exact ⟨.ref (C.xA c), .ref (C.xA c), pe_glob (gl_of hx hgx) (mg_of' hx h1) rfl h2, fun u r => r, h3⟩
    | false =>
      obtain ⟨id, h1, h2, h3, h4, h5⟩ := io.blt c x hc
      exact ⟨.ty id, .type id, pe_bltn (gl_of hx hgx) (mg_of' hx h1) h2 rfl h3 h4, fun u r => r, h5⟩
  obtain ⟨vc, cv, hpe, hcv, hk⟩ := key
  refine PE.imp (callB1 (r := rIsX C) hx (call_isX hx) hg hm (by decide +kernel) (by decide) (by decide) rfl hn _ (pa_cons ha (pa_cons hpe pa_nil (star_cons rfl)) (star_cons hn))) ?_
  rintro σ H Q ⟨ρ, S, po⟩
  refine tev_bind S po fun d v H1 _ e1 S1 q1 po1 => ?_
  have qr := q1.s hmb (avTr S ⟨trivial⟩)
  obtain ⟨kk, y, rfl⟩ : ∃ kk y, d = .exn kk y := by cases d <;> first | exact ⟨_, _, rfl⟩ | exact po1.elim
  simp only [isxD, R.guard] at po1
  by_cases hin : kk ∈ Φ.xs
  · rw [if_pos hin] at po1
    refine ⟨_, kk, y, v, vc, cv, Φ.sub kk c, rfl, qr, hcv, io.cls kk hin, hk kk hin, ?_⟩
    exact po1 _ H1 (Ext.refl H1) S1.g (by simp [RepM, Rep])
  · rw [if_neg hin] at po1
    exact po1.elim
end
end Vm

set_option maxRecDepth 100000
set_option maxHeartbeats 4000000
/-! VmZA: a lambda handed to a def that tells its refusal. -/
namespace Vm
open PySem PySem.Spec PyProof.Rows L2

/-- as C, the exception p at hand -/
abbrev Pc.at_ (C : Pc) (p : Addr × Obj) : Pc := { C with hot := some p }
section
variable {C : Pc} {Av : Addr → Prop} {H : Hp} {p : Addr × Obj}
mutual
theorem Rep.unhot : ∀ (d : D) (v : V), noExn d = true → Rep (C.at_ p) Av H d v → Rep C Av H d v
  | .non, _, _, h => by simpa only [Rep] using h
  | .bl _, _, _, h => by simpa only [Rep] using h
  | .int _, _, _, h => by simpa only [Rep] using h
  | .str _, _, _, h => by simpa only [Rep] using h
  | .scr _, _, _, h => by simpa only [Rep] using h
  | .exn _ _, _, n, _ => by simp [noExn] at n
  | .tup ds, v, n, h => by
    simp only [noExn] at n
    simp only [Rep] at h ⊢
    obtain ⟨a, xs, e, q, r⟩ := h
    exact ⟨a, xs, e, q, Reps.unhot ds xs n r⟩
  | .lst ds, v, n, h => by
    simp only [noExn] at n
    simp only [Rep] at h ⊢
    obtain ⟨a, xs, e, k, q, r⟩ := h
    exact ⟨a, xs, e, k, q, Reps.unhot ds xs n r⟩
  | .ins c fs, v, n, h => by
    simp only [noExn] at n
    simp only [Rep] at h ⊢
    obtain ⟨a, dx, ys, e, k, q, r⟩ := h
    exact ⟨a, dx, ys, e, k, q, RepF.unhot fs ys n r⟩
theorem Reps.unhot : ∀ (ds : List D) (vs : List V), noExns ds = true → Reps (C.at_ p) Av H ds vs → Reps C Av H ds vs
  | [], [], _, _ => by simp only [Reps]
  | [], _ :: _, _, h => by simp only [Reps] at h
  | _ :: _, [], _, h => by simp only [Reps] at h
  | d :: ds, v :: vs, n, h => by
    simp only [noExns, Bool.and_eq_true] at n
    simp only [Reps] at h ⊢
    exact ⟨Rep.unhot d v n.1 h.1, Reps.unhot ds vs n.2 h.2⟩
theorem RepF.unhot : ∀ (fs : List (Nat × D)) (ys : List (Str × V)), noExnF fs = true → RepF (C.at_ p) Av H fs ys → RepF C Av H fs ys
  | [], [], _, _ => by simp only [RepF]
  | [], _ :: _, _, h => by simp only [RepF] at h
  | _ :: _, [], _, h => by simp only [RepF] at h
  | (f, d) :: fs, (s, v) :: ys, n, h => by
    simp only [noExnF, Bool.and_eq_true] at n
    simp only [RepF] at h ⊢
    exact ⟨h.1, h.2.1, Rep.unhot d v n.1 h.2.2.1, RepF.unhot fs ys n.2 h.2.2.2⟩
end
end

def nodbg2 (x : Str) : Bool := !(x == "__debug__") && !(x == "__classdict__")
/-- the body of such a def -/
def refBody (a e n w : Str) (j : Nat) (p1 p2 p3 p4 p5 p6 p7 p8 p9 p10 p11 p12 : Pos) : List Stmt :=
  [.Try [.Expr (.Call (.Name a p1) [] [] p2) p3] [.ExceptHandler (some (.Name e p4)) (some n) [.Return (some (.Call (.Name w p5) [.Name n p6] [] p7)) p8] p9] [] [] p10, .Return (some (.Constant .none j p11)) p12]
/-- what the def x, its word for a refusal and the classes are -/
structure RefOk (C : Pc) (Φ : Sm) (f : Nat) (x : Str) (j : Nat) : Prop where
  ex : ∃ (a e n w : Str) (g CS : Addr) (jj : Nat) (p1 p2 p3 p4 p5 p6 p7 p8 p9 p10 p11 p12 : Pos) (pg : Arguments) (sg : Scope) (dV kV doc pm cdv ct oc : Value) (an od : Option Addr) (osl : Array (Option Value)),
    C.mg x = some (.ref g) ∧ PySem.W.keepIn C.K (.ref g) = true ∧ C.K.lookup g = some ⟨oc, od, .func (PySem.W.fnOf x x pg (refBody a e n w jj p1 p2 p3 p4 p5 p6 p7 p8 p9 p10 p11 p12) sg dV kV doc pm an cdv ct), osl⟩ ∧ PySem.W.codeIn C.K cdv x = true ∧
    L2.Binds C.K (PySem.W.fnOf x x pg (refBody a e n w jj p1 p2 p3 p4 p5 p6 p7 p8 p9 p10 p11 p12) sg dV kV doc pm an cdv ct) [a] [] ∧ FnScope [a, n] [a] sg ∧ Vis sg a ∧ sg.names.lookup n = some .local ∧ sg.names.lookup e = some .globalImplicit ∧ sg.names.lookup w = some .globalImplicit ∧
    C.mg e = some (.ref CS) ∧ C.mg w = some (.ref (C.fA (Φ.word f).2)) ∧ PySem.W.keepIn C.K (.ref (C.fA (Φ.word f).2)) = true ∧ nodbg2 x = true ∧ nodbg2 a = true ∧ nodbg2 e = true ∧ nodbg2 n = true ∧ nodbg2 w = true ∧
    (∀ c, c ∈ Φ.xs → Φ.sub c (Φ.word f).1 = true → PySem.W.exmOne C.K (.ref (C.xA c)) (.ref CS) = some true) ∧ C.lam sg = false
  plain : PlainOk C (Φ.word f).2
  fn : ∀ p, FOk (C.at_ p) false j (Φ.word f).2 (SpF (C.at_ p) .s 1 (Φ.hcall (Φ.word f).2))
  len : ∀ ds, Φ.hcall (Φ.word f).2 ds ≠ .bad → ds.length = 1

section
variable {C : Pc} {F : Fr0} {W : WX} {own : List Nat} {m me : Mode} {ρ : Env} {σ : L2.St} {H H' H1 : Hp} {X : Cx} {N : List Str} {sc scope : Scope} {k j f : Nat} {cl : Bool} {Φ : Sm}
variable {re : Env → R D} {p pos lpos : Pos} {x : Str} {params : Arguments} {body : Expr}

/-- what is told behind a refusal -/
def ToldX (C : Pc) (Φ : Sm) (f : Nat) (A0 : Addr → Prop) (Q : VK) : XK := fun cls dd H' => ∃ c y d, cls = .ref (C.xA c) ∧ c ∈ Φ.xs ∧ Φ.sub c (Φ.word f).1 = true ∧ ExFld C H' c dd y ∧ Φ.hcall (Φ.word f).2 [.exn c y] = .ok d ∧ noExn d = true ∧ C.G H' ∧
  (∀ b, A0 b → ∃ o, H' b = some o ∧ NoTbl o) ∧ ∀ v H'', Ext H' H'' → C.G H'' → Rep C A0 H'' d v → Q v H''
def TTref (C : Pc) (Φ : Sm) (f : Nat) (A0 : Addr → Prop) : (XK → Hp → VK → Prop) → Hp → VK → Prop := fun tl H Q => tl (ToldX C Φ f A0 Q) H (fun _ H' => Q .non H')
theorem exT_of {c : Nat} {y : Option D} {cls : Value} {dd : Option Addr} (h : ExR C c y cls dd H) : cls = .ref (C.xA c) ∧ ExFld C H c dd y := by
  refine ⟨h.1, ?_⟩
  cases y <;> exact h.2
theorem ref_gives (hx : XOk C cl k N sc W X) (hcl : cl = true) (hj : j + 1 ≤ k) {A0 : Addr → Prop} {a e n w : Str} {g CS : Addr} {jj : Nat} {p1 p2 p3 p4 p5 p6 p7 p8 p9 p10 p11 p12 : Pos} {sg : Scope} {cdv : Value} {q : Str}
    (hS : FnScope [a, n] [a] sg) (hva : Vis sg a) (hn : sg.names.lookup n = some .local) (he : sg.names.lookup e = some .globalImplicit) (hw : sg.names.lookup w = some .globalImplicit) (me : C.mg e = some (.ref CS)) (mw : C.mg w = some (.ref (C.fA (Φ.word f).2)))
    (kw : PySem.W.keepIn C.K (.ref (C.fA (Φ.word f).2)) = true) (de : (e == ("__debug__" : Str)) = false) (dn : (n == ("__debug__" : Str)) = false) (dn2 : (n == ("__classdict__" : Str)) = false) (dw : (w == ("__debug__" : Str)) = false)
    (hex : ∀ c, c ∈ Φ.xs → Φ.sub c (Φ.word f).1 = true → PySem.W.exmOne C.K (.ref (C.xA c)) (.ref CS) = some true) (hp : PlainOk C (Φ.word f).2) (hfn : ∀ p, FOk (C.at_ p) false j (Φ.word f).2 (SpF (C.at_ p) .s 1 (Φ.hcall (Φ.word f).2)))
    (hlen : ∀ ds, Φ.hcall (Φ.word f).2 ds ≠ .bad → ds.length = 1) (hls : C.lam sg = false) :
    LamX.GivesTo X [a, n] x sg g cdv (refBody a e n w jj p1 p2 p3 p4 p5 p6 p7 p8 p9 p10 p11 p12) a q (TTref C Φ f A0) := by
  intro fl c' s H Q tl act hc h
  have nd : ([a, n] : List Str).Nodup := hS.nd
  have hgl : Gl (cxOf C8.CX0 X.prog X.w X.K X.mg X.base [a, n] x sg g cdv X.A X.stack s H C8.E0).nox e := he
  refine ⟨_, pss_cons (L2H.ps_try_asH (X := (cxOf C8.CX0 X.prog X.w X.K X.mg X.base [a, n] x sg g cdv X.A X.stack s H C8.E0).nox) (i := 1) (c := .ref CS) (Wout := fun _ _ _ _ => False)
      (tb := fun W D σ H => ∃ Ech : XK, (∀ cls d σ' H', Ech cls d H' → W cls d σ' H') ∧ σ[0]? = some (some (.ref fl)) ∧ H c' = some (LamX.CodeO c' q) ∧ tl Ech H fun _ H1 => D.nx σ H1)
      (ts := fun b cls dd D σ H' => (∃ σ0 : L2.St, σ = σ0.set 1 (some (.ref b))) ∧ ToldX C Φ f A0 D.rt cls dd H')
      rfl rfl nd rfl hn ⟨hgl, de, .inl (mg_of' hx me)⟩ LamX.takes0 (fun W pn xe _ tk _ => ?_) (fun b oe cls d pn hz hf => ?_)) (pss_one (ps_ret pe_non)), ?_⟩
  · refine ⟨fun pins s' σ H' D I h' => ?_⟩
    obtain ⟨Ech, hW, h1, h2, h3⟩ := h'
    have hpe := act W pn xe Ech p1 p2 tk hW
    exact (pss_one (ps_expr (pos := p3) hpe (swaps_no rfl))).run pins s' σ H' D I ⟨h1, h2, h3⟩
  · have rm0 : L2H.RoomH j (X.A.deeper (envOfC x sg s.heap.objs.size g cdv)) := (hx.room.mono hj).deeper _
    have rm : L2H.RoomH j ((X.A.deeper (envOfC x sg s.heap.objs.size g cdv)).mark (some (.ref b))) := ⟨rm0.dp, rm0.un⟩
    have hxs : XOk (C.at_ (b, oe)) false j [a, n] sg (fun _ _ _ _ => False) ((cxOf C8.CX0 X.prog X.w X.K X.mg X.base [a, n] x sg g cdv X.A X.stack s H C8.E0).nox.suite b ((b, oe) :: pn)) :=
      ⟨hx.prog, hx.w, hx.K, hx.mg, hx.base, nd, hS.kind, rfl, rfl, LamX.takes0, PassesOwn.never, rm, fun z => (nomatch z), fun z => (nomatch z), fun _ => ⟨(b, oe), rfl, List.mem_cons_self⟩, fun z => (by rw [show C.lam sg = true from z] at hls; cases hls)⟩
    have hv : ∀ (F' : Fr0), PE ((cxOf C8.CX0 X.prog X.w X.K X.mg X.base [a, n] x sg g cdv X.A X.stack s H C8.E0).nox.suite b ((b, oe) :: pn)) (.Name n p6) (TEv (C.at_ (b, oe)) F' (fun _ _ _ _ => False) [] .s fun ρ => match ρ[1]? with | some (some d) => .ok d | _ => .bad) := fun F' =>
      e_var (own := []) hxs rfl (.inl hn) dn dn2
    have hc2 : ∀ (F' : Fr0), PE ((cxOf C8.CX0 X.prog X.w X.K X.mg X.base [a, n] x sg g cdv X.A X.stack s H C8.E0).nox.suite b ((b, oe) :: pn)) (.Call (.Name w p5) [.Name n p6] [] p7) (TEv (C.at_ (b, oe)) F' (fun _ _ _ _ => False) [] .s fun ρ => ((match ρ[1]? with | some (some d) => R.ok d | _ => .bad).bind fun x => R.bind (.ok []) fun xs => .ok (x :: xs)).bind fun xs => Φ.hcall (Φ.word f).2 xs) := fun F' =>
      e_call hxs ⟨trivial⟩ (hfn (b, oe)) (Nat.le_refl _) hlen hp hw mw kw dw (PAx.cons' ⟨trivial⟩ (by decide) (hv F') rfl PAx.nil')
    refine ⟨fun pins s' σ H' D I h' => ?_⟩
    obtain ⟨⟨σ0, h1⟩, c, y, dv, hcls, hcx, hsub, hfl, hcall, hno, hG, hA, hQ⟩ := h'
    refine (pss_one (ps_ret (pos := p8) (hc2 ⟨H', A0, none⟩))).run pins s' σ H' D I ?_
    obtain ⟨u0, rfl⟩ : ∃ u0, σ = [u0, some (.ref b)] := by
      have hl : σ.length = 2 := I.len
      rw [h1, List.length_set] at hl
      rw [h1]
      match σ0, hl with
      | [v0, v1], _ => exact ⟨v0, rfl⟩
    have hrep : ∀ Av, Rep (C.at_ (b, oe)) Av H' (.exn c y) (.ref b) := fun Av => by
      obtain ⟨vs, hvs⟩ := hf
      simp only [Rep]
      rw [hcls] at hz
      refine ⟨(b, oe), vs, d, rfl, rfl, hz, hvs, ?_⟩
      cases y <;> exact hfl
    refine ⟨[none, some (.exn c y)], ⟨hG, rfl, fun b o e _ _ => e, fun b e => e, hA, fun i d' e => ?_, fun i _ _ hi => (nomatch hi), fun i _ _ _ _ hi => (nomatch hi), fun x e => (nomatch e)⟩, ?_⟩
    · match i, e with
      | 0, e => cases e
      | 1, e =>
        cases e
        exact ⟨.ref b, rfl, fun _ => hrep _, (hrep _).toO⟩
      | i + 2, e => cases e
    · show PostE (C.at_ (b, oe)) ⟨H', A0, none⟩ (fun _ _ _ _ => False) [] .s [none, some (.exn c y)] [u0, some (.ref b)] H' (Φ.hcall (Φ.word f).2 [.exn c y]) D.rt
      rw [hcall]
      intro v H'' e'' g'' q''
      exact hQ v H'' e'' g'' ((Rep.unhot dv v hno q'').anti fun b z => .inl z)
  · refine ⟨ToldX C Φ f A0 Q, fun cls d σ' H' hE => ?_, rfl, hc, h⟩
    have hE' := hE
    obtain ⟨c, y, dv, hcls, hcx, hsub, _⟩ := hE'
    refine ⟨true, ?_, fun _ b hb => ⟨⟨σ', rfl⟩, hE⟩, fun z => nomatch z⟩
    rw [hcls]
    show PySem.W.exmOne X.K _ _ = _
    rw [hx.K]
    exact hex c hcx hsub
/-- x(lambda: e) -/
theorem e_refused (hx : XOk C cl k N sc W X) (hcl : cl = true) (hj : j + 3 ≤ k) (ro : RefOk C Φ f x j) (hl : C.lam sc = true) (hg : sc.names.lookup x = some .globalImplicit) (hL : LamX.lamSB sc scope = true) (hls : C.lam scope = false)
    (hdef : ∀ env, defaultsOf params env = ([], [])) (hbind : ∀ (q : Str) (cl : List (Str × Addr)) (pm cv ctv : Value), bindArgs (PySem.W.kla_fn "<lambda>" q params body scope cl pm cv ctv) ⟨[], []⟩ = pure [])
    (he : ∀ X' W', XOk C cl (k - 2) N scope W' X' → PE X' body (TEv C F W' own me re)) :
    PE X (.Call (.Name x p) [.Lambda params body scope lpos] [] pos) (TEv C F W own .s fun ρ => match re ρ with
      | .ok _ => .ok .non
      | .exc c a => if Φ.sub c (Φ.word f).1 = true ∧ c ∈ Φ.xs then (match Φ.hcall (Φ.word f).2 [.exn c a] with
        | .ok d => .guard (noExn d = true) d
        | _ => .bad) else .bad
      | .bad => .bad) := by
  obtain ⟨a, e, n, w, g, CS, jj, p1, p2, p3, p4, p5, p6, p7, p8, p9, p10, p11, p12, pg, sg, dV, kV, doc, pm, cdv, ct, oc, an, od, osl, f1, f2, f3, f4, f5, f6, f7, f8, f9, f10, f11, f12, f13, f14, f15, f16, f17, f18, f19, f20⟩ := ro.ex
  obtain ⟨c, P, tb, hc, hT, hu⟩ := hx.tb hl
  have dbg : ∀ {z : Str}, nodbg2 z = true → (z == ("__debug__" : Str)) = false ∧ (z == ("__classdict__" : Str)) = false := fun h => by
    unfold nodbg2 at h
    simpa only [Bool.and_eq_true, Bool.not_eq_true'] using h
  have calm := hx.calm hcl
  have hr : Room (k - 2 + 2) X.A := ⟨calm.2, by have := hx.room.dp; omega, by have := hx.room.un; omega⟩
  refine ⟨fun pins s σ H Q I ⟨ρ, S, po⟩ => ?_⟩
  refine (LamX.pe_lamcall (T := C.T) (TT := TTref C Φ f (AvO F own ρ σ)) (t := fun E => TEv C F (fun cls dd _ H' => E cls dd H') own me re) (gl_of hx hg) (mg_of' hx f1) (by rw [hx.K]; exact f2) (by rw [hx.K]; exact f3) (by rw [hx.K]; exact f4) (by rw [hx.K]; exact f5) f6 rfl f7
    (ref_gives hx hcl (by omega) f6 f7 f8 f9 f10 f11 f12 f13 (dbg f16).1 (dbg f17).1 (dbg f17).2 (dbg f18).1 f19 ro.plain ro.fn ro.len f20) (by rw [hx.base, hx.mg]; exact tb) hc hT hu hr (by rw [hx.eS]; exact LamX.lamS_by hL) (hdef _) hbind (fun A outer s H E fl c' hr' => he _ _ ?_) (dbg f14).1 (dbg f15).1 (dbg f15).2).run pins s σ H Q I ?_
  · have hLS := LamX.lamS_by hL
    exact ⟨hx.prog, hx.w, hx.K, hx.mg, hx.base, hx.nd, hLS.kind, hx.eN, rfl, takes_of (E := E) rfl rfl rfl rfl, passes_of (K := fun e s'' => L2.CX X.prog X.w outer H s E e s'') rfl, L2H.roomH_of hr', fun _ => ⟨rfl, hr'.hd⟩, hx.cold, fun z => (by rw [hcl] at z; cases z), fun z => (by rw [z] at hls; cases hls)⟩
  · refine ⟨S.g, fun H1 eN T1 => ?_⟩
    have e1 : Ext H H1 := .of fun b o h t => eN b o h t
    have S1 : Sr C F own ρ σ H1 := S.ext e1 T1
    refine ⟨ρ, S1, ?_⟩
    have po : PostE C F W own .s ρ σ H (match re ρ with
      | .ok _ => .ok .non
      | .exc c a => if Φ.sub c (Φ.word f).1 = true ∧ c ∈ Φ.xs then (match Φ.hcall (Φ.word f).2 [.exn c a] with
        | .ok d => .guard (noExn d = true) d
        | _ => .bad) else .bad
      | .bad => .bad) Q := po
    cases er : re ρ with
    | bad => rw [er] at po; exact po
    | ok d =>
      rw [er] at po
      intro v H2 e2 g2 _
      exact po .non H2 (e1.trans e2) g2 (by simp [RepM, Rep])
    | exc c y =>
      rw [er] at po
      simp only at po
      by_cases hs : Φ.sub c (Φ.word f).1 = true ∧ c ∈ Φ.xs
      · rw [if_pos hs] at po
        cases eh : Φ.hcall (Φ.word f).2 [.exn c y] with
        | bad => rw [eh] at po; exact po.elim
        | exc c2 y2 => rw [eh] at po; exact po.elim
        | ok d =>
          rw [eh] at po
          simp only [R.guard] at po
          by_cases hn : noExn d = true
          · rw [if_pos hn] at po
            intro cls dd H2 e2 g2 hex
            obtain ⟨x1, x2⟩ := exT_of hex
            refine ⟨c, y, d, x1, hs.2, hs.1, x2, eh, hn, g2, fun b hb => ?_, fun v H3 e3 g3 q3 => po v H3 ((e1.trans e2).trans e3) g3 q3⟩
            obtain ⟨o, o1, o2⟩ := S1.av ⟨trivial⟩ hb
            exact ⟨o, e2.keep b o o1 o2, o2⟩
          · rw [if_neg hn] at po
            exact po.elim
      · rw [if_neg hs] at po
        exact po.elim
/-- no parameters -/
def noPar : Arguments → Bool
  | ⟨[], [], none, [], [], none, []⟩ => true
  | _ => false
theorem noPar_out {ps : Arguments} (h : noPar ps = true) : ps = ⟨[], [], none, [], [], none, []⟩ := by
  unfold noPar at h
  split at h
  · rfl
  · cases h
theorem noPar_def {ps : Arguments} (h : noPar ps = true) : ∀ env, defaultsOf ps env = ([], []) := fun env => by
  rw [noPar_out h]
  rfl
theorem noPar_bind {ps : Arguments} (h : noPar ps = true) : ∀ (q : Str) (cl : List (Str × Addr)) (pm cv ctv : Value), bindArgs (PySem.W.kla_fn "<lambda>" q ps body scope cl pm cv ctv) ⟨[], []⟩ = pure [] := fun q cl pm cv ctv => by
  rw [noPar_out h]
  rfl
/-- where an expression stands, its depth -/
structure Xd (C : Pc) (cl : Bool) (j k : Nat) (N : List Str) (sc : Scope) (W : WX) (X : Cx) : Prop where
  o : XOk C cl k N sc W X
  hj : j + 1 ≤ k
  hl : C.lam sc = true → j + 3 ≤ k
end
end Vm

set_option maxRecDepth 100000
set_option maxHeartbeats 4000000
/-! VmS: the check of an expression against the program's text, and what it is worth. -/
namespace Vm
open PySem PySem.Spec PyProof.Rows L2

/-- as value, as test -/
abbrev Ck := Option Mode × Bool
/-- a plain value may be a test -/
def ckStd (m : Option Mode) : Ck := (m, m.isSome)
def ckNo : Ck := (none, false)
def visB (sc : Scope) (x : Str) : Bool := sc.names.lookup x == some .local || sc.names.lookup x == some .cell || sc.names.lookup x == some .free
def glo (sc : Scope) (x : Str) : Bool := sc.names.lookup x == some .globalImplicit
def nodbg (x : Str) : Bool := !(x == "__debug__") && !(x == "__classdict__")
def boOf (N : List Str) (ow : List Nat) : List (Str × Nat) := ow.map fun i => (N.getD i "", i)
def op2 (o : BoolOp) : Bool := o == .And
def plIx (e : Expr) : Bool := notSlc e && notTup e
def notSet : Expr → Bool
  | .Set .. => false
  | _ => true
def okIf (b : Bool) (m : Mode) : Option Mode := if b = true then some m else none

mutual
def ckE (G : Gi) (N : List Str) (cl : Bool) (sc : Scope) (own : List Nat) : IE → Expr → Ck
  | .var i, x => match xName x with
    | some (y, _) => ckStd (okIf (decide (N[i]? = some y) && visB sc y && nodbg y) (mdVar own i))
    | none => ckNo
  | .lit d, x => ckStd (okIf (litC d x) .f)
  | .glb g, x => match xName x with
    | some (y, _) => ckStd (okIf (decide (G.gname g = some y) && glo sc y) .f)
    | none => ckNo
  | .tup es, x => match xTuple x with
    | some (xs, _, _) => ckStd (okIf (ckEs G N cl sc own es xs) .s)
    | none => ckNo
  | .lst es, x => match xList x with
    | some (xs, _) => ckStd (okIf (ckEs G N cl sc own es xs) .f)
    | none => ckNo
  | .bin o a b, x => match xBin x with
    | some (a', o', b', _) => ckStd (okIf (decide (o' = opOf o) && (ckE G N cl sc own a a').1.isSome && (ckE G N cl sc own b b').1.isSome) .f)
    | none => ckNo
  | .neg a, x => match xUn x with
    | some (o, a', _) => ckStd (okIf (decide (o = .USub) && (ckE G N cl sc own a a').1.isSome) .s)
    | none => ckNo
  | .not a, x => match xUn x with
    | some (o, a', _) => (okIf (decide (o = .Not) && (ckE G N cl sc own a a').1.isSome) .s, decide (o = .Not) && (ckE G N cl sc own a a').2)
    | none => ckNo
  | .cmp o a b, x => match xCmp x with
    | some (a', [o'], [b'], _) => ckStd (okIf (decide (o' = copOf o) && (ckE G N cl sc own a a').1.isSome && (ckE G N cl sc own b b').1.isSome && !behindInMarks (copOf o) b') .s)
    | _ => ckNo
  | .chn o p a b c, x => match xCmp x with
    | some (a', [o', p'], [b', c'], _) => ckStd (okIf (decide (o' = copOf o) && decide (p' = copOf p) && (ckE G N cl sc own a a').1.isSome && (ckE G N cl sc own b b').1.isSome && (ckE G N cl sc own c c').1.isSome && !lastMarks [copOf o, copOf p] [b', c']) .s)
    | _ => ckNo
  | .boo k es, x => match xBool x with
    | some (o, xs, _) => if decide (o = (if k = true then .And else .Or)) = true then ckB G N cl sc own k es xs else ckNo
    | none => ckNo
  | .ite t a b, x => match xIf x with
    | some (t', a', b', _) => (okIf ((ckE G N cl sc own t t').2 && decide ((ckE G N cl sc own a a').1.any (· != .b)) && decide ((ckE G N cl sc own b b').1.any (· != .b))) .s, false)
    | none => ckNo
  | .ix a b, x => match xSub x with
    | some (a', b', _) => ckStd (okIf ((ckE G N cl sc own a a').1.isSome && (ckE G N cl sc own b b').1.isSome && plIx b') .s)
    | none => ckNo
  | .slc a lo hi, x => match xSub x with
    | some (a', s', _) => match xSlice s' with
      | some (l', h', _) => ckStd (okIf ((ckE G N cl sc own a a').1.isSome && ckO G N cl sc own lo l' && ckO G N cl sc own hi h') .f)
      | none => ckNo
    | none => ckNo
  | .fld f a, x => match xAttr x with
    | some (a', y, _) => ckStd (okIf ((ckE G N cl sc own a a').1.isSome && decide (y = G.nm f) && abC a' && (!G.isP f || (cl && (ckE G N cl sc own a a').1.any (· != .b)))) .s)
    | none => ckNo
  | .call f es, x => match xCall x with
    | some (g, xs, [], _) => match xName g with
      | some (y, _) => ckStd (okIf (decide (G.fname f = some y) && glo sc y && G.plain f && ckEs G N cl sc own es xs) (G.fm f))
      | none => ckNo
    | _ => ckNo
  | .callK f s es ks, x => match xCall x with
    | some (g, xs, kws, _) => match xName g with
      | some (y, _) => ckStd (okIf (decide (G.fname f = some y) && glo sc y && G.shp f s && ckEs G N cl sc own es xs && ckKs G N cl sc own (G.sh s).ks ks kws) (G.fm f))
      | none => ckNo
    | _ => ckNo
  | .callV a es, x => match xCall x with
    | some (g, xs, [], _) => match xName g with
      | some _ => ckStd (okIf ((ckE G N cl sc own a g).1.any (· != .b) && ckEs G N cl sc own es xs && !xs.isEmpty) .s)
      | none => ckNo
    | _ => ckNo
  | .makeK c s es ks, x => match xCall x with
    | some (g, xs, kws, _) => match xName g with
      | some (y, _) => ckStd (okIf (cl && decide (G.cname c = some y) && glo sc y && G.shpI c s && ckEs G N cl sc own es xs && ckKs G N cl sc own (G.sh s).ks ks kws) .f)
      | none => ckNo
    | _ => ckNo
  | .meth m a es, x => match xCall x with
    | some (g, xs, [], p) => match xAttr g with
      | some (a', y, ap) => ckStd (okIf ((ckE G N cl sc own a a').1.any (· != .b) && decide (y = G.nm m) && decide (m ≠ callName) && decide (xs.length < 30) && (ap.endLine == p.line) && abC a' && ckEs G N cl sc own es xs) .s)
      | none => ckNo
    | _ => ckNo
  | .bi b es, x => match xCall x with
    | some (g, xs, [], _) => match xName g with
      | some (y, _) => ckStd (okIf (decide (y = biName b) && G.bi b && glo sc y && (!biCalm b || cl) && ckBi G N cl sc own (biTwo b) es xs) (biM b))
      | none => ckNo
    | _ => ckNo
  | .isi T a, x => match xCall x with
    | some (g, [a', t'], [], _) => match xName g, xName t' with
      | some (y, _), some (z, _) => ckStd (okIf (decide (y = "isinstance") && decide (z = Str.ofString (tyName T)) && glo sc y && glo sc z && notSt a' && (ckE G N cl sc own a a').1.isSome) .s)
      | _, _ => ckNo
    | _ => ckNo
  | .comp t ow it cs e, x => match xComp x with
    | some (elt, tg, iter, ifs, scope, _) => ckStd (okIf (cl && (!G.lam (relS scope sc) || G.lam sc) && ckBlk N sc scope (boOf N ow) own ow t tg && ckI G N cl sc own true it tg iter && ckC G N cl (relS scope sc) own cs ifs && (ckE G N cl (relS scope sc) own e elt).1.any (· != .b) && notSet iter) .f)
    | none => ckNo
  | .isx c a, x => match xCall x with
    | some (g, [a', t'], [], _) => match xName g, xName t' with
      | some (y, _), some (z, _) => ckStd (okIf (decide (y = "isinstance") && ((G.xisn c).any fun q => decide (q.1 = z)) && glo sc y && glo sc z && notSt a' && (ckE G N cl sc own a a').1.any (· != .b)) .s)
      | _, _ => ckNo
    | _ => ckNo
  | .lcnt a e, x => match xCall x with
    | some (g, [e'], [], p) => match xAttr g with
      | some (a', y, ap) => ckStd (okIf (decide (y = "count") && (ap.endLine == p.line) && abC a' && notSt e' && (ckE G N cl sc own a a').1.isSome && (ckE G N cl sc own e e').1.any (· != .b)) .s)
      | none => ckNo
    | _ => ckNo
  | .lidx a e, x => match xCall x with
    | some (g, [e'], [], p) => match xAttr g with
      | some (a', y, ap) => ckStd (okIf (decide (y = "index") && (ap.endLine == p.line) && abC a' && notSt e' && (ckE G N cl sc own a a').1.isSome && (ckE G N cl sc own e e').1.any (· != .b)) .s)
      | none => ckNo
    | _ => ckNo
  | .refused f e, x => match xCall x with
    | some (g, [l], [], _) => match xName g, xLam l with
      | some (y, _), some (ps, b, scope, _) => ckStd (okIf (cl && G.lam sc && !G.lam scope && decide (G.rname f = some y) && glo sc y && LamX.lamSB sc scope && noPar ps && (ckE G N cl scope own e b).1.isSome) .s)
      | _, _ => ckNo
    | _ => ckNo
/-- arguments: none borrowed, none starred -/
def ckEs (G : Gi) (N : List Str) (cl : Bool) (sc : Scope) (own : List Nat) : IEs → List Expr → Bool
  | .nil, xs => xs.isEmpty
  | .cons e es, xs => match xs with
    | x :: xs => (ckE G N cl sc own e x).1.any (· != .b) && notSt x && ckEs G N cl sc own es xs
    | [] => false
def ckKs (G : Gi) (N : List Str) (cl : Bool) (sc : Scope) (own : List Nat) : List Str → IEs → List Keyword → Bool
  | ns, .nil, ks => ns.isEmpty && ks.isEmpty
  | ns, .cons e es, ks => match ns, ks with
    | n :: ns, ⟨some y, x, _⟩ :: ks => decide (y = n) && (ckE G N cl sc own e x).1.any (· != .b) && ckKs G N cl sc own ns es ks
    | _, _ => false
def ckB (G : Gi) (N : List Str) (cl : Bool) (sc : Scope) (own : List Nat) (k : Bool) : IEs → List Expr → Ck
  | .nil, _ => ckNo
  | .cons e es, xs => match xs with
    | [] => ckNo
    | x :: xs => match es, xs with
      | .nil, [] => ckE G N cl sc own e x
      | .cons e2 es2, y :: ys => (okIf ((ckE G N cl sc own e x).1.isSome && (ckB G N cl sc own k (.cons e2 es2) (y :: ys)).1.any (· != .b)) .s, (ckE G N cl sc own e x).2 && (ckB G N cl sc own k (.cons e2 es2) (y :: ys)).2)
      | _, _ => ckNo
def ckO (G : Gi) (N : List Str) (cl : Bool) (sc : Scope) (own : List Nat) : IEs → Option Expr → Bool
  | .nil, x => x.isNone
  | .cons e es, x => match es, x with
    | .nil, some x => (ckE G N cl sc own e x).1.isSome
    | _, _ => false
def ckC (G : Gi) (N : List Str) (cl : Bool) (sc : Scope) (own : List Nat) : IEs → List Expr → Bool
  | .nil, xs => xs.isEmpty
  | .cons e es, xs => match es, xs with
    | .nil, [x] => (ckE G N cl sc own e x).2
    | _, _ => false
def ckBi (G : Gi) (N : List Str) (cl : Bool) (sc : Scope) (own : List Nat) (two : Bool) : IEs → List Expr → Bool
  | .nil, _ => false
  | .cons e es, xs => match es, xs with
    | .nil, [x] => !two && (ckE G N cl sc own e x).1.isSome && notSt x
    | .cons e2 .nil, [x, y] => two && (ckE G N cl sc own e x).1.isSome && (ckE G N cl sc own e2 y).1.isSome && notSt x && notSt y
    | _, _ => false
def ckI (G : Gi) (N : List Str) (cl : Bool) (sc : Scope) (own : List Nat) (fx : Bool) : II → Expr → Expr → Bool
  | .seq a, _, x => (ckE G N cl sc own a x).1.any fun m => fx || m != .b
  | .rng1 a, _, x => match xCall x with
    | some (g, [a'], [], _) => match xName g with
      | some (y, _) => decide (y = "range") && glo sc y && notSt a' && (ckE G N cl sc own a a').1.isSome
      | none => false
    | _ => false
  | .rng2 a b, _, x => match xCall x with
    | some (g, [a', b'], [], _) => match xName g with
      | some (y, _) => decide (y = "range") && glo sc y && notSt a' && notSt b' && (ckE G N cl sc own a a').1.isSome && (ckE G N cl sc own b b').1.isSome
      | none => false
    | _ => false
  | .enum a, tg, x => match xCall x with
    | some (g, [a'], [], _) => match xName g with
      | some (y, _) => decide (y = "enumerate") && glo sc y && notSt a' && ((ckE G N cl sc own a a').1.any fun m => fx || m != .b) && (xTuple tg).isSome
      | none => false
    | _ => false
  | .zip _ _, _, _ => false
  | .rev a, _, x => match xCall x with
    | some (g, [a'], [], _) => match xName g with
      | some (y, _) => decide (y = "reversed") && glo sc y && notSt a' && ((ckE G N cl sc own a a').1.any fun m => fx || m != .b)
      | none => false
    | _ => false
end
def notSet_ : Unit := ()
end Vm

set_option maxRecDepth 100000
set_option maxHeartbeats 4000000
/-! VmT: a checked expression evaluates as the evaluator says. -/
namespace Vm
open PySem PySem.Spec PyProof.Rows L2

/-- what the names stand for -/
structure Fx (C : Pc) (Φ : Sm) (G : Gi) (cl : Bool) (j : Nat) (np : Nat → Nat) : Prop where
  nm : ∀ f, C.nm f = G.nm f
  lam : ∀ sc, C.lam sc = G.lam sc
  co : COk C Φ cl j G.fm np
  eo : EOk C Φ
  sh : ∀ s, Φ.sh s = G.sh s
  call : ∀ f x, G.fname f = some x → C.mg x = some (.ref (C.fA f)) ∧ PySem.W.keepIn C.K (.ref (C.fA f)) = true ∧ (x == ("__debug__" : Str)) = false
  plain : ∀ f, G.plain f = true → PlainOk C f
  shp : ∀ f s, G.shp f s = true → ShpOk C f (G.sh s)
  glb : ∀ g x, G.gname g = some x → ∃ v u, C.mg x = some u ∧ RelV v u ∧ (∀ Av H, Rep C Av H (Φ.glb g) v) ∧ isMut (Φ.glb g) = false ∧ (x == ("__debug__" : Str)) = false
  made : ∀ c x, G.cname c = some x → cl = true → ∃ f n, FOk C cl j f (SpI C c n (Φ.made c)) ∧ (∀ ds, Φ.made c ds ≠ .bad → ds.length + 1 = n) ∧ Mk C.K (C.cA c) (C.fA f) ∧ C.mg x = some (.ref (C.cA c)) ∧ (x == ("__debug__" : Str)) = false ∧ ∀ s, G.shpI c s = true → ShpI C f (G.sh s)
  prop : ∀ f, G.isP f = false → ∀ c, Φ.prop c f = none
  bi : ∀ b, G.bi b = true → BiOk C b
  free : Free C "range" ∧ Free C "enumerate" ∧ Free C "isinstance" ∧ Free C "zip" ∧ ∀ T, Free C (Str.ofString (tyName T))
  isx : IsOk C Φ G.xisn
  ref : cl = true → ∀ f x, G.rname f = some x → RefOk C Φ f x j
  freeR : Free C "reversed"
  rz : ∀ c x, G.xname c = some x → RaiseOk C c x ∧ (x == ("__debug__" : Str)) = false

section
variable {C : Pc} {F : Fr0} {W : WX} {own oL : List Nat} {m ma mb fm : Mode} {ρ ρ' : Env} {σ σ' : L2.St} {H H' H1 : Hp} {X : Cx} {N : List Str} {sc scope : Scope} {k j f i : Nat} {cl fx : Bool} {sp : Sp} {Φ : Sm} {G : Gi} {np : Nat → Nat}
variable {ra rb rk : Env → R D} {ras rks : Env → R (List D)} {a b o tg : Expr} {es : List Expr} {p p' pos apos cpos : Pos} {Q : VK} {x : Str}

theorem okIf_some {b : Bool} {m m' : Mode} (h : okIf b m = some m') : b = true ∧ m = m' := by
  unfold okIf at h
  split at h
  · rename_i hb
    cases h
    exact ⟨hb, rfl⟩
  · cases h
theorem okIf_iS {b : Bool} {m : Mode} (h : (okIf b m).isSome = true) : b = true := by
  cases b
  · simp [okIf] at h
  · rfl
theorem Fx.lam_ok (hf : Fx C Φ G cl j np) {s1 s2 : Scope} (h : (!G.lam s1 || G.lam s2) = true) : C.lam s1 = true → C.lam s2 = true := fun z => by
  rw [hf.lam] at z ⊢
  rw [z] at h
  simpa using h
/-- an expression's worth -/
def Ev (C : Pc) (F : Fr0) (W : WX) (own : List Nat) (X : Cx) (c : Ck) (x : Expr) (r : Env → R D) : Prop :=
  (∀ m, c.1 = some m → PE X x (TEv C F W own m r)) ∧ (c.2 = true → PT X x (TTv C F W own (tRb r)))
theorem Ev.no {e : Expr} {r : Env → R D} : Ev C F W own X ckNo e r := ⟨fun _ h => (nomatch h), fun h => (nomatch h)⟩
theorem Ev.std {e : Expr} {r : Env → R D} {b : Bool} {m : Mode} (hx : XOk C cl k N sc W X) (h : b = true → PE X e (TEv C F W own m r)) (he : ∀ whole, isTrue e X.env whole = (do let v ← whole; standAt e.pos; holding [v] (truthy v))) : Ev C F W own X (ckStd (okIf b m)) e r := by
  refine ⟨fun m' h' => ?_, fun h' => ?_⟩
  · obtain ⟨h1, h2⟩ := okIf_some h'
    subst h2
    exact h h1
  · exact t_of hx (h (okIf_iS h')) he
theorem Ev.some_ {e : Expr} {r : Env → R D} {c : Ck} (h : Ev C F W own X c e r) (hs : c.1.isSome = true) : ∃ m, PE X e (TEv C F W own m r) := by
  cases e1 : c.1 with
  | none => rw [e1] at hs; cases hs
  | some m => exact ⟨m, h.1 m e1⟩
theorem Ev.any_ {e : Expr} {r : Env → R D} {c : Ck} (h : Ev C F W own X c e r) (hs : c.1.any (· != .b) = true) : ∃ m, m ≠ .b ∧ PE X e (TEv C F W own m r) := by
  cases e1 : c.1 with
  | none => rw [e1] at hs; cases hs
  | some m =>
    rw [e1] at hs
    exact ⟨m, by simpa using hs, h.1 m e1⟩
theorem vis_out (h : visB sc x = true) : Vis sc x := by
  unfold visB at h
  simp only [Bool.or_eq_true, beq_iff_eq, or_assoc] at h
  exact h
theorem nodbg_out (h : nodbg x = true) : (x == ("__debug__" : Str)) = false ∧ (x == ("__classdict__" : Str)) = false := by
  unfold nodbg at h
  simpa only [Bool.and_eq_true, Bool.not_eq_true'] using h
theorem glo_out (h : glo sc x = true) : sc.names.lookup x = some .globalImplicit := by
  unfold glo at h
  simpa using h
theorem plIx_out {e : Expr} (h : plIx e = true) : PlainIx e := by
  unfold plIx at h
  cases e <;> first | (intro o i; rfl) | simp [notSlc, notTup] at h
theorem foldset {e : Expr} {env : PySem.Env} (h : notSet e = true) : ∀ x, foldedSetIterable e env x = pure x := by
  intro x
  cases e <;> first | rfl | cases h

theorem boOf_map {ow : List Nat} : (boOf N ow).map (·.2) = ow := by
  unfold boOf
  rw [List.map_map]
  exact List.map_id _

theorem slc_assoc (A : R D) (L T : R (List D)) : (A.bind fun x => (L.bind partD).bind fun l => (T.bind partD).bind fun h => slcD x l h) = A.bind fun x => L.bind fun l => (partD l).bind fun l' => T.bind fun h => (partD h).bind fun h' => slcD x l' h' := by
  cases A <;> try rfl
  cases L <;> try rfl
  rename_i x l
  show ((partD l).bind fun l => (T.bind partD).bind fun h => slcD x l h) = (partD l).bind fun l' => T.bind fun h => (partD h).bind fun h' => slcD x l' h'
  cases partD l <;> try rfl
  cases T <;> rfl
mutual
theorem sndE (hf : Fx C Φ G cl j np) : ∀ (e : IE) (x : Expr) (F : Fr0) (W : WX) (own : List Nat) (sc : Scope) (X : Cx) (k : Nat), Xd C cl j k N sc W X → Ev C F W own X (ckE G N cl sc own e x) x (evE Φ e)
  | .var i, x, F, W, own, sc, X, k, hx => by
    unfold ckE
    cases e1 : xName x with
    | none => exact Ev.no
    | some y =>
      obtain ⟨y, q⟩ := y
      obtain rfl := xName_eq e1
      refine Ev.std hx.o (fun h => ?_) fun _ => rfl
      simp only [Bool.and_eq_true, decide_eq_true_eq] at h
      obtain ⟨⟨h1, h2⟩, h3⟩ := h
      exact e_var hx.o h1 (vis_out h2) (nodbg_out h3).1 (nodbg_out h3).2
  | .lit d, x, F, W, own, sc, X, k, hx => by
    unfold ckE
    by_cases hl : litC d x = true
    · refine Ev.std hx.o (fun h => e_lit h) fun _ => ?_
      cases x <;> first | rfl | (cases d <;> simp [litC] at hl)
    · exact ⟨fun m h => absurd (okIf_some h).1 hl, fun h => absurd (okIf_iS h) hl⟩
  | .glb g, x, F, W, own, sc, X, k, hx => by
    unfold ckE
    cases e1 : xName x with
    | none => exact Ev.no
    | some y =>
      obtain ⟨y, q⟩ := y
      obtain rfl := xName_eq e1
      refine Ev.std hx.o (fun h => ?_) fun _ => rfl
      simp only [Bool.and_eq_true, decide_eq_true_eq] at h
      obtain ⟨v, u, h1, h2, h3, h4, h5⟩ := hf.glb g y h.1
      exact e_c (pe_glob (gl_of hx.o (glo_out h.2)) (mg_of' hx.o h1) h2 h5) h3 h4
  | .tup es, x, F, W, own, sc, X, k, hx => by
    unfold ckE
    cases e1 : xTuple x with
    | none => exact Ev.no
    | some y =>
      obtain ⟨y, q, q2⟩ := y
      obtain rfl := xTuple_eq e1
      refine Ev.std hx.o (fun h => ?_) fun _ => rfl
      exact e_tup (sndEs hf es y F W own sc X k hx h).pa
  | .lst es, x, F, W, own, sc, X, k, hx => by
    unfold ckE
    cases e1 : xList x with
    | none => exact Ev.no
    | some y =>
      obtain ⟨y, q⟩ := y
      obtain rfl := xList_eq e1
      refine Ev.std hx.o (fun h => ?_) fun _ => rfl
      exact e_lst (sndEs hf es y F W own sc X k hx h).pa
  | .bin o a b, x, F, W, own, sc, X, k, hx => by
    unfold ckE
    cases e1 : xBin x with
    | none => exact Ev.no
    | some y =>
      obtain ⟨a', o', b', q⟩ := y
      obtain rfl := xBin_eq e1
      refine Ev.std hx.o (fun h => ?_) fun _ => rfl
      simp only [Bool.and_eq_true, decide_eq_true_eq] at h
      obtain ⟨⟨rfl, h2⟩, h3⟩ := h
      obtain ⟨m1, p1⟩ := (sndE hf a a' F W own sc X k hx).some_ h2
      obtain ⟨m2, p2⟩ := (sndE hf b b' F W own sc X k hx).some_ h3
      exact e_bin hx.o o p1 p2
  | .neg a, x, F, W, own, sc, X, k, hx => by
    unfold ckE
    cases e1 : xUn x with
    | none => exact Ev.no
    | some y =>
      obtain ⟨o', a', q⟩ := y
      obtain rfl := xUn_eq e1
      by_cases ho : o' = .USub
      · subst ho
        refine Ev.std hx.o (fun h => ?_) fun _ => rfl
        simp only [Bool.and_eq_true, decide_eq_true_eq] at h
        obtain ⟨m1, p1⟩ := (sndE hf a a' F W own sc X k hx).some_ h.2
        exact e_neg p1
      · exact ⟨fun m h => by have := (okIf_some h).1; simp [ho] at this, fun h => by have := okIf_iS h; simp [ho] at this⟩
  | .not a, x, F, W, own, sc, X, k, hx => by
    unfold ckE
    cases e1 : xUn x with
    | none => exact Ev.no
    | some y =>
      obtain ⟨o', a', q⟩ := y
      obtain rfl := xUn_eq e1
      have ih := sndE hf a a' F W own sc X k hx
      refine ⟨fun m h => ?_, fun h => ?_⟩
      · obtain ⟨h1, rfl⟩ := okIf_some h
        simp only [Bool.and_eq_true, decide_eq_true_eq] at h1
        obtain ⟨rfl, h2⟩ := h1
        obtain ⟨m1, p1⟩ := ih.some_ h2
        exact e_not hx.o p1
      · simp only [Bool.and_eq_true, decide_eq_true_eq] at h
        obtain ⟨rfl, h2⟩ := h
        exact t_not (ih.2 h2)
  | .cmp o a b, x, F, W, own, sc, X, k, hx => by
    unfold ckE
    split
    · rename_i a' o' b' q e1
      obtain rfl := xCmp_eq e1
      have iha := sndE hf a a' F W own sc X k hx
      have ihb := sndE hf b b' F W own sc X k hx
      have key : ∀ h : (decide (o' = copOf o) && (ckE G N cl sc own a a').1.isSome && (ckE G N cl sc own b b').1.isSome && !behindInMarks (copOf o) b') = true, o' = copOf o ∧ (∃ m, PE X a' (TEv C F W own m (evE Φ a))) ∧ (∃ m, PE X b' (TEv C F W own m (evE Φ b))) ∧ behindInMarks (copOf o) b' = false := fun h => by
        simp only [Bool.and_eq_true, decide_eq_true_eq, Bool.not_eq_true'] at h
        exact ⟨h.1.1.1, iha.some_ h.1.1.2, ihb.some_ h.1.2, h.2⟩
      refine ⟨fun m h => ?_, fun h => ?_⟩
      · obtain ⟨h1, rfl⟩ := okIf_some h
        obtain ⟨rfl, ⟨m1, p1⟩, ⟨m2, p2⟩, h4⟩ := key h1
        exact e_cmp hx.o o p1 p2 h4
      · obtain ⟨rfl, ⟨m1, p1⟩, ⟨m2, p2⟩, h4⟩ := key (okIf_iS h)
        exact t_cmp hx.o o p1 p2 h4
    · exact Ev.no
  | .chn o p a b c, x, F, W, own, sc, X, k, hx => by
    unfold ckE
    split
    · rename_i a' o' p' b' c' q e1
      obtain rfl := xCmp_eq e1
      have iha := sndE hf a a' F W own sc X k hx
      have ihb := sndE hf b b' F W own sc X k hx
      have ihc := sndE hf c c' F W own sc X k hx
      have key : ∀ h : (decide (o' = copOf o) && decide (p' = copOf p) && (ckE G N cl sc own a a').1.isSome && (ckE G N cl sc own b b').1.isSome && (ckE G N cl sc own c c').1.isSome && !lastMarks [copOf o, copOf p] [b', c']) = true,
          o' = copOf o ∧ p' = copOf p ∧ (∃ m, PE X a' (TEv C F W own m (evE Φ a))) ∧ (∃ m, PE X b' (TEv C F W own m (evE Φ b))) ∧ (∃ m, PE X c' (TEv C F W own m (evE Φ c))) ∧ lastMarks [copOf o, copOf p] [b', c'] = false := fun h => by
        simp only [Bool.and_eq_true, decide_eq_true_eq, Bool.not_eq_true'] at h
        exact ⟨h.1.1.1.1.1, h.1.1.1.1.2, iha.some_ h.1.1.1.2, ihb.some_ h.1.1.2, ihc.some_ h.1.2, h.2⟩
      refine ⟨fun m h => ?_, fun h => ?_⟩
      · obtain ⟨h1, rfl⟩ := okIf_some h
        obtain ⟨rfl, rfl, ⟨m1, p1⟩, ⟨m2, p2⟩, ⟨m3, p3⟩, h4⟩ := key h1
        exact e_chn hx.o o p p1 p2 p3 h4
      · obtain ⟨rfl, rfl, ⟨m1, p1⟩, ⟨m2, p2⟩, ⟨m3, p3⟩, h4⟩ := key (okIf_iS h)
        exact t_chn hx.o o p p1 p2 p3 h4
    · exact Ev.no
  | .boo k' es, x, F, W, own, sc, X, k, hx => by
    unfold ckE
    cases e1 : xBool x with
    | none => exact Ev.no
    | some y =>
      obtain ⟨o', xs, q⟩ := y
      obtain rfl := xBool_eq e1
      simp only
      by_cases ho : o' = (if k' = true then BoolOp.And else .Or)
      · rw [if_pos (decide_eq_true ho)]
        subst ho
        obtain ⟨h1, h2⟩ := sndB hf k' es xs q F W own sc X k hx
        exact ⟨h1, fun h => (h2 h).pt⟩
      · rw [if_neg (by simpa using ho)]
        exact Ev.no
  | .ite t a b, x, F, W, own, sc, X, k, hx => by
    unfold ckE
    cases e1 : xIf x with
    | none => exact Ev.no
    | some y =>
      obtain ⟨t', a', b', q⟩ := y
      obtain rfl := xIf_eq e1
      refine ⟨fun m h => ?_, fun h => nomatch h⟩
      obtain ⟨h1, rfl⟩ := okIf_some h
      simp only [Bool.and_eq_true, decide_eq_true_eq] at h1
      obtain ⟨m1, n1, p1⟩ := (sndE hf a a' F W own sc X k hx).any_ h1.1.2
      obtain ⟨m2, n2, p2⟩ := (sndE hf b b' F W own sc X k hx).any_ h1.2
      have := e_ite (pos := q) ⟨trivial⟩ n1 n2 ((sndE hf t t' F W own sc X k hx).2 h1.1.1) p1 p2
      refine PE.imp this ?_
      rintro σ H Q ⟨ρ, S, po⟩
      refine ⟨ρ, S, ?_⟩
      have po : PostE C F W own .s ρ σ H ((evE Φ t ρ).bind fun x => (truth x).bind fun c => if c then evE Φ a ρ else evE Φ b ρ) Q := po
      show PostE C F W own .s ρ σ H (((evE Φ t ρ).bind truth).bind fun c => if c then evE Φ a ρ else evE Φ b ρ) Q
      cases et : evE Φ t ρ with
      | bad => rw [et] at po; exact po
      | exc c y => rw [et] at po; exact po
      | ok d => rw [et] at po; exact po
  | .ix a b, x, F, W, own, sc, X, k, hx => by
    unfold ckE
    cases e1 : xSub x with
    | none => exact Ev.no
    | some y =>
      obtain ⟨a', b', q⟩ := y
      obtain rfl := xSub_eq e1
      refine Ev.std hx.o (fun h => ?_) fun _ => rfl
      simp only [Bool.and_eq_true] at h
      obtain ⟨m1, p1⟩ := (sndE hf a a' F W own sc X k hx).some_ h.1.1
      obtain ⟨m2, p2⟩ := (sndE hf b b' F W own sc X k hx).some_ h.1.2
      exact e_ix hx.o p1 p2 (plIx_out h.2)
  | .slc a lo hi, x, F, W, own, sc, X, k, hx => by
    unfold ckE
    cases e1 : xSub x with
    | none => exact Ev.no
    | some y =>
      obtain ⟨a', s', q⟩ := y
      obtain rfl := xSub_eq e1
      simp only
      cases e2 : xSlice s' with
      | none => exact Ev.no
      | some y =>
        obtain ⟨l', h', q'⟩ := y
        obtain rfl := xSlice_eq e2
        refine Ev.std hx.o (fun h => ?_) fun _ => rfl
        simp only [Bool.and_eq_true] at h
        obtain ⟨m1, p1⟩ := (sndE hf a a' F W own sc X k hx).some_ h.1.1
        have pl := sndO hf lo l' F W own sc X k hx h.1.2
        have ph := sndO hf hi h' F W own sc X k hx h.2
        refine PE.imp (e_slc hx.o p1 pl ph) ?_
        rintro σ H Q ⟨ρ, S, po⟩
        refine ⟨ρ, S, ?_⟩
        have po : PostE C F W own .f ρ σ H ((evE Φ a ρ).bind fun x => (evEs Φ lo ρ).bind fun l => (partD l).bind fun l' => (evEs Φ hi ρ).bind fun h => (partD h).bind fun h' => slcD x l' h') Q := po
        show PostE C F W own .f ρ σ H ((evE Φ a ρ).bind fun x => ((evEs Φ lo ρ).bind partD).bind fun l => ((evEs Φ hi ρ).bind partD).bind fun h => slcD x l h) Q
        rw [slc_assoc]
        exact po
  | .fld f a, x, F, W, own, sc, X, k, hx => by
    unfold ckE
    cases e1 : xAttr x with
    | none => exact Ev.no
    | some y =>
      obtain ⟨a', y, q⟩ := y
      obtain rfl := xAttr_eq e1
      refine Ev.std hx.o (fun h => ?_) fun _ => rfl
      simp only [Bool.and_eq_true, decide_eq_true_eq, Bool.or_eq_true, Bool.not_eq_true'] at h
      obtain ⟨⟨⟨h1, rfl⟩, h3⟩, h4⟩ := h
      have ih := sndE hf a a' F W own sc X k hx
      rw [← hf.nm f]
      rcases h4 with h4 | ⟨h4, h5⟩
      · obtain ⟨m1, p1⟩ := ih.some_ h1
        exact e_fld hx.o ⟨trivial⟩ hf.co hf.eo hx.hj (fun _ => hf.prop f h4) (fun _ _ _ => Gi.fm_ne) (fun _ => hf.prop f h4) (ab_no h3) p1
      · obtain ⟨m1, n1, p1⟩ := ih.any_ h5
        exact e_fld hx.o ⟨trivial⟩ hf.co hf.eo hx.hj (fun z => by rw [h4] at z; cases z) (fun _ _ _ => Gi.fm_ne) (fun z => absurd z n1) (ab_no h3) p1
  | .call f es, x, F, W, own, sc, X, k, hx => by
    unfold ckE
    split
    · rename_i g xs q e1
      obtain rfl := xCall_eq e1
      cases e2 : xName g with
      | none => exact Ev.no
      | some y =>
        obtain ⟨y, q'⟩ := y
        obtain rfl := xName_eq e2
        refine Ev.std hx.o (fun h => ?_) fun _ => rfl
        simp only [Bool.and_eq_true, decide_eq_true_eq] at h
        obtain ⟨⟨⟨h1, h2⟩, h3⟩, h4⟩ := h
        obtain ⟨c1, c2, c3⟩ := hf.call f y h1
        exact e_call hx.o ⟨trivial⟩ (hf.co.fn f) (by have := hx.hj; omega) (hf.co.len f) (hf.plain f h3) (glo_out h2) c1 c2 c3 (sndEs hf es xs F W own sc X k hx h4)
    · exact Ev.no
  | .callK f s es ks, x, F, W, own, sc, X, k, hx => by
    unfold ckE
    split
    · rename_i g xs kws q e1
      obtain rfl := xCall_eq e1
      cases e2 : xName g with
      | none => exact Ev.no
      | some y =>
        obtain ⟨y, q'⟩ := y
        obtain rfl := xName_eq e2
        refine Ev.std hx.o (fun h => ?_) fun _ => rfl
        simp only [Bool.and_eq_true, decide_eq_true_eq] at h
        obtain ⟨⟨⟨⟨h1, h2⟩, h3⟩, h4⟩, h5⟩ := h
        obtain ⟨c1, c2, c3⟩ := hf.call f y h1
        have := e_callK (p := q') (pos := q) hx.o ⟨trivial⟩ (hf.co.fn f) (by have := hx.hj; omega) (hf.co.len f) (hf.shp f s h3) (glo_out h2) c1 c2 c3 (sndEs hf es xs F W own sc X k hx h4) (sndKs hf (G.sh s).ks ks kws F W own sc X k hx h5)
        rw [← hf.sh s] at this
        exact this
    · exact Ev.no
  | .callV a es, x, F, W, own, sc, X, k, hx => by
    unfold ckE
    split
    · rename_i g xs q e1
      obtain rfl := xCall_eq e1
      cases e2 : xName g with
      | none => exact Ev.no
      | some y =>
        obtain ⟨y, q'⟩ := y
        obtain rfl := xName_eq e2
        refine Ev.std hx.o (fun h => ?_) fun _ => rfl
        simp only [Bool.and_eq_true, Bool.not_eq_true', List.isEmpty_eq_false_iff] at h
        obtain ⟨m1, n1, p1⟩ := (sndE hf a _ F W own sc X k hx).any_ h.1.1
        exact e_callV hx.o ⟨trivial⟩ hf.co (by have := hx.hj; omega) n1 (fun _ _ _ => Gi.fm_ne) h.2 rfl p1 (sndEs hf es xs F W own sc X k hx h.1.2)
    · exact Ev.no
  | .makeK c s es ks, x, F, W, own, sc, X, k, hx => by
    unfold ckE
    split
    · rename_i g xs kws q e1
      obtain rfl := xCall_eq e1
      cases e2 : xName g with
      | none => exact Ev.no
      | some y =>
        obtain ⟨y, q'⟩ := y
        obtain rfl := xName_eq e2
        refine Ev.std hx.o (fun h => ?_) fun _ => rfl
        simp only [Bool.and_eq_true, decide_eq_true_eq] at h
        obtain ⟨⟨⟨⟨⟨h0, h1⟩, h2⟩, h3⟩, h4⟩, h5⟩ := h
        obtain ⟨f, n, c1, c2, c3, c4, c5, c6⟩ := hf.made c y h1 h0
        have := e_make (p := q') (pos := q) hx.o ⟨trivial⟩ h0 c1 (by have := hx.hj; omega) c2 c3 (c6 s h3) (glo_out h2) c4 c5 (sndEs hf es xs F W own sc X k hx h4) (sndKs hf (G.sh s).ks ks kws F W own sc X k hx h5)
        rw [← hf.sh s] at this
        exact this
    · exact Ev.no
  | .meth mm a es, x, F, W, own, sc, X, k, hx => by
    unfold ckE
    split
    · rename_i g xs q e1
      obtain rfl := xCall_eq e1
      cases e2 : xAttr g with
      | none => exact Ev.no
      | some y =>
        obtain ⟨a', y, ap⟩ := y
        obtain rfl := xAttr_eq e2
        refine Ev.std hx.o (fun h => ?_) fun _ => rfl
        simp only [Bool.and_eq_true, decide_eq_true_eq] at h
        obtain ⟨⟨⟨⟨⟨⟨h0, rfl⟩, h2⟩, h3⟩, h4⟩, h5⟩, h6⟩ := h
        obtain ⟨m1, n1, p1⟩ := (sndE hf a a' F W own sc X k hx).any_ h0
        rw [← hf.nm mm]
        exact e_meth hx.o ⟨trivial⟩ hf.co (by have := hx.hj; omega) h2 n1 (fun _ _ _ => Gi.fm_ne) h3 h4 (ab_no h5) p1 (sndEs hf es xs F W own sc X k hx h6)
    · exact Ev.no
  | .bi q es, x, F, W, own, sc, X, k, hx => by
    unfold ckE
    split
    · rename_i g xs q1 e1
      obtain rfl := xCall_eq e1
      cases e2 : xName g with
      | none => exact Ev.no
      | some y =>
        obtain ⟨y, q'⟩ := y
        obtain rfl := xName_eq e2
        refine Ev.std hx.o (fun h => ?_) fun _ => rfl
        simp only [Bool.and_eq_true, decide_eq_true_eq, Bool.or_eq_true, Bool.not_eq_true'] at h
        obtain ⟨⟨⟨⟨rfl, hbi⟩, h2⟩, h3⟩, h4⟩ := h
        have hc : biCalm q = true → cl = true := fun z => h3.elim (fun y => by rw [z] at y; cases y) id
        exact sndBi hf q es xs q' q1 F W own sc X k hx hbi hc (glo_out h2) h4
    · exact Ev.no
  | .isi T a, x, F, W, own, sc, X, k, hx => by
    unfold ckE
    split
    · rename_i g a' t' q e1
      obtain rfl := xCall_eq e1
      split
      · rename_i y q1 z q2 e2 e3
        obtain rfl := xName_eq e2
        obtain rfl := xName_eq e3
        refine Ev.std hx.o (fun h => ?_) fun _ => rfl
        simp only [Bool.and_eq_true, decide_eq_true_eq] at h
        obtain ⟨⟨⟨⟨⟨h1, h2⟩, h3⟩, h4⟩, h5⟩, h6⟩ := h
        subst h1 h2
        obtain ⟨m1, p1⟩ := (sndE hf a a' F W own sc X k hx).some_ h6
        exact e_isi hx.o T (glo_out h3) hf.free.2.2.1 (glo_out h4) (hf.free.2.2.2.2 T) h5 p1
      · exact Ev.no
    · exact Ev.no
  | .comp t ow it cs e, x, F, W, own, sc, X, k, hx => by
    unfold ckE
    cases e1 : xComp x with
    | none => exact Ev.no
    | some y =>
      obtain ⟨elt, tg, iter, ifs, scope, q⟩ := y
      obtain rfl := xComp_eq e1
      refine Ev.std hx.o (fun h => ?_) fun _ => rfl
      simp only [Bool.and_eq_true] at h
      obtain ⟨⟨⟨⟨⟨⟨hc, hl⟩, h1⟩, h2⟩, h3⟩, h4⟩, h5⟩ := h
      cases e4 : (ckE G N cl (relS scope sc) own e elt).1 with
      | none => rw [e4] at h4; cases h4
      | some me =>
        have n4 : me ≠ .b := by rw [e4] at h4; simpa using h4
        exact e_comp hx.o hc (hf.lam_ok hl) n4 (sndI hf true it tg iter F W own sc X k hx h2) h1 (fun D X' hx' => sndC hf cs ifs (F.and D) W0 own _ X' k ⟨by rw [hc]; exact hx', hx.hj, fun z => hx.hl (hf.lam_ok hl z)⟩ h3) (fun D X' hx' => (sndE hf e elt (F.and D) W0 own _ X' k ⟨by rw [hc]; exact hx', hx.hj, fun z => hx.hl (hf.lam_ok hl z)⟩).1 me e4) (foldset h5)
  | .isx c a, x, F, W, own, sc, X, k, hx => by
    unfold ckE
    split
    · rename_i g a' t' q e1
      obtain rfl := xCall_eq e1
      split
      · rename_i y q1 z q2 e2 e3
        obtain rfl := xName_eq e2
        obtain rfl := xName_eq e3
        refine Ev.std hx.o (fun h => ?_) fun _ => rfl
        simp only [Bool.and_eq_true, decide_eq_true_eq] at h
        obtain ⟨⟨⟨⟨⟨h1, h2⟩, h3⟩, h4⟩, h5⟩, h6⟩ := h
        subst h1
        obtain ⟨m1, n1, p1⟩ := (sndE hf a a' F W own sc X k hx).any_ h6
        cases e4 : G.xisn c with
        | none => rw [e4] at h2; cases h2
        | some qq =>
          obtain ⟨z', ow⟩ := qq
          rw [e4] at h2
          have h2 : z' = z := of_decide_eq_true h2
          subst h2
          exact e_isx hx.o hf.isx e4 (glo_out h3) hf.free.2.2.1 (glo_out h4) n1 h5 p1
      · exact Ev.no
    · exact Ev.no
  | .lcnt a e, x, F, W, own, sc, X, k, hx => by
    unfold ckE
    split
    · rename_i g e' p e1
      obtain rfl := xCall_eq e1
      split
      · rename_i a' y ap e2
        obtain rfl := xAttr_eq e2
        refine Ev.std hx.o (fun h => ?_) fun _ => rfl
        simp only [Bool.and_eq_true, decide_eq_true_eq] at h
        obtain ⟨⟨⟨⟨⟨h1, h2⟩, h3⟩, h4⟩, h5⟩, h6⟩ := h
        subst h1
        obtain ⟨m1, p1⟩ := (sndE hf a a' F W own sc X k hx).some_ h5
        obtain ⟨m2, n2, p2⟩ := (sndE hf e e' F W own sc X k hx).any_ h6
        exact e_lcnt hx.o n2 h4 h2 h3 p1 p2
      · exact Ev.no
    · exact Ev.no
  | .lidx a e, x, F, W, own, sc, X, k, hx => by
    unfold ckE
    split
    · rename_i g e' p e1
      obtain rfl := xCall_eq e1
      split
      · rename_i a' y ap e2
        obtain rfl := xAttr_eq e2
        refine Ev.std hx.o (fun h => ?_) fun _ => rfl
        simp only [Bool.and_eq_true, decide_eq_true_eq] at h
        obtain ⟨⟨⟨⟨⟨h1, h2⟩, h3⟩, h4⟩, h5⟩, h6⟩ := h
        subst h1
        obtain ⟨m1, p1⟩ := (sndE hf a a' F W own sc X k hx).some_ h5
        obtain ⟨m2, n2, p2⟩ := (sndE hf e e' F W own sc X k hx).any_ h6
        exact e_lidx hx.o n2 h4 h2 h3 p1 p2
      · exact Ev.no
    · exact Ev.no
  | .refused f e, x, F, W, own, sc, X, k, hx => by
    unfold ckE
    split
    · rename_i g l q e1
      obtain rfl := xCall_eq e1
      split
      · rename_i y q1 ps b scope q2 e2 e3
        obtain rfl := xName_eq e2
        obtain rfl := xLam_eq e3
        refine Ev.std hx.o (fun h => ?_) fun _ => rfl
        simp only [Bool.and_eq_true, decide_eq_true_eq, Bool.not_eq_true'] at h
        obtain ⟨⟨⟨⟨⟨⟨⟨hc, h1⟩, h2⟩, h3⟩, h4⟩, h5⟩, h6⟩, h7⟩ := h
        have hlam : C.lam sc = true := by rw [hf.lam]; exact h1
        have hls : C.lam scope = false := by rw [hf.lam]; exact h2
        cases e4 : (ckE G N cl scope own e b).1 with
        | none => rw [e4] at h7; cases h7
        | some me =>
          exact e_refused hx.o hc (hx.hl hlam) (hf.ref hc f y h3) hlam (glo_out h4) h5 hls (noPar_def h6) (noPar_bind h6) fun X' W' hx' => (sndE hf e b F W' own scope X' _ ⟨hx', by have := hx.hl hlam; omega, fun z => by rw [z] at hls; cases hls⟩).1 me e4
      · exact Ev.no
    · exact Ev.no
termination_by structural e => e
theorem sndEs (hf : Fx C Φ G cl j np) : ∀ (es : IEs) (xs : List Expr) (F : Fr0) (W : WX) (own : List Nat) (sc : Scope) (X : Cx) (k : Nat), Xd C cl j k N sc W X → ckEs G N cl sc own es xs = true → PAx C F W own X xs (evEs Φ es)
  | .nil, xs, F, W, own, sc, X, k, hx, h => by
    unfold ckEs at h
    rw [List.isEmpty_iff] at h
    subst h
    exact PAx.nil'
  | .cons e es, xs, F, W, own, sc, X, k, hx, h => by
    unfold ckEs at h
    cases xs with
    | nil => cases h
    | cons x xs =>
      simp only [Bool.and_eq_true] at h
      obtain ⟨m1, n1, p1⟩ := (sndE hf e x F W own sc X k hx).any_ h.1.1
      exact PAx.cons' ⟨trivial⟩ n1 p1 h.1.2 (sndEs hf es xs F W own sc X k hx h.2)
termination_by structural es => es
theorem sndKs (hf : Fx C Φ G cl j np) : ∀ (ns : List Str) (es : IEs) (ks : List Keyword) (F : Fr0) (W : WX) (own : List Nat) (sc : Scope) (X : Cx) (k : Nat), Xd C cl j k N sc W X → ckKs G N cl sc own ns es ks = true → PKx C F W own X ks ns (evEs Φ es)
  | ns, .nil, ks, F, W, own, sc, X, k, hx, h => by
    unfold ckKs at h
    simp only [Bool.and_eq_true, List.isEmpty_iff] at h
    obtain ⟨rfl, rfl⟩ := h
    exact PKx.nil'
  | ns, .cons e es, ks, F, W, own, sc, X, k, hx, h => by
    unfold ckKs at h
    split at h
    · rename_i n ns y x p ks
      simp only [Bool.and_eq_true, decide_eq_true_eq] at h
      obtain ⟨⟨rfl, h1⟩, h2⟩ := h
      obtain ⟨m1, n1, p1⟩ := (sndE hf e x F W own sc X k hx).any_ h1
      exact PKx.cons' ⟨trivial⟩ n1 p1 (sndKs hf ns es ks F W own sc X k hx h2)
    · cases h
termination_by structural ns es => es
theorem sndB (hf : Fx C Φ G cl j np) (kk : Bool) : ∀ (es : IEs) (xs : List Expr) (pos : Pos) (F : Fr0) (W : WX) (own : List Nat) (sc : Scope) (X : Cx) (k : Nat), Xd C cl j k N sc W X →
    (∀ m, (ckB G N cl sc own kk es xs).1 = some m → PE X (.BoolOp (if kk = true then .And else .Or) xs pos) (TEv C F W own m (evB Φ kk es))) ∧ ((ckB G N cl sc own kk es xs).2 = true → PW X (.BoolOp (if kk = true then .And else .Or) xs pos) (TTv C F W own (tRb (evB Φ kk es))))
  | .nil, xs, pos, F, W, own, sc, X, k, hx => by
    unfold ckB
    exact ⟨fun _ h => (nomatch h), fun h => (nomatch h)⟩
  | .cons e es, xs, pos, F, W, own, sc, X, k, hx => by
    unfold ckB
    cases xs with
    | nil => exact ⟨fun _ h => (nomatch h), fun h => (nomatch h)⟩
    | cons x xs =>
      have ih := sndE hf e x F W own sc X k hx
      cases es with
      | nil =>
        cases xs with
        | nil => exact ⟨fun m h => e_one (ih.1 m h), fun h => w_one (ih.2 h)⟩
        | cons y ys => exact ⟨fun _ h => (nomatch h), fun h => (nomatch h)⟩
      | cons e2 es2 =>
        cases xs with
        | nil => exact ⟨fun _ h => (nomatch h), fun h => (nomatch h)⟩
        | cons y ys =>
          have ih2 := sndB hf kk (.cons e2 es2) (y :: ys) pos F W own sc X k hx
          refine ⟨fun m h => ?_, fun h => ?_⟩
          · obtain ⟨h1, rfl⟩ := okIf_some h
            simp only [Bool.and_eq_true] at h1
            obtain ⟨m1, p1⟩ := ih.some_ h1.1
            cases e3 : (ckB G N cl sc own kk (.cons e2 es2) (y :: ys)).1 with
            | none => have := h1.2; rw [e3] at this; cases this
            | some m2 =>
              have n2 : m2 ≠ .b := by have := h1.2; rw [e3] at this; simpa using this
              have p2 := ih2.1 m2 e3
              cases kk with
              | true => exact e_and n2 ⟨trivial⟩ p1 p2
              | false => exact e_or n2 ⟨trivial⟩ p1 p2
          · simp only [Bool.and_eq_true] at h
            have q1 := ih.2 h.1
            have q2 := ih2.2 h.2
            cases kk with
            | true => exact w_and q1 q2
            | false => exact w_or q1 q2
termination_by structural es => es
theorem sndO (hf : Fx C Φ G cl j np) : ∀ (es : IEs) (x : Option Expr) (F : Fr0) (W : WX) (own : List Nat) (sc : Scope) (X : Cx) (k : Nat), Xd C cl j k N sc W X → ckO G N cl sc own es x = true → PO X x (TOv C F W own fun ρ => (evEs Φ es ρ).bind partD)
  | .nil, x, F, W, own, sc, X, k, hx, h => by
    unfold ckO at h
    cases x with
    | none => exact o_none
    | some x => cases h
  | .cons e es, x, F, W, own, sc, X, k, hx, h => by
    unfold ckO at h
    split at h
    · rename_i x
      obtain ⟨m1, p1⟩ := (sndE hf e x F W own sc X k hx).some_ h
      have := o_some p1
      have e : (fun ρ => (evEs Φ (.cons e .nil) ρ).bind partD) = fun ρ => (evE Φ e ρ).bind fun x => partD [x] := by
        funext ρ
        show (((evE Φ e ρ).bind fun x => .ok [x])).bind partD = _
        cases evE Φ e ρ <;> rfl
      rw [e]
      exact this
    · cases h
termination_by structural es => es
theorem sndC (hf : Fx C Φ G cl j np) : ∀ (es : IEs) (xs : List Expr) (F : Fr0) (W : WX) (own : List Nat) (sc : Scope) (X : Cx) (k : Nat), Xd C cl j k N sc W X → ckC G N cl sc own es xs = true → PTx C F W own X xs (evT Φ es)
  | .nil, xs, F, W, own, sc, X, k, hx, h => by
    unfold ckC at h
    rw [List.isEmpty_iff] at h
    subst h
    exact ptx_nil
  | .cons e es, xs, F, W, own, sc, X, k, hx, h => by
    unfold ckC at h
    split at h
    · rename_i x
      exact ptx_one ((sndE hf e x F W own sc X k hx).2 h)
    · cases h
termination_by structural es => es
theorem sndBi (hf : Fx C Φ G cl j np) (q : BI) : ∀ (es : IEs) (xs : List Expr) (p pos : Pos) (F : Fr0) (W : WX) (own : List Nat) (sc : Scope) (X : Cx) (k : Nat), Xd C cl j k N sc W X → G.bi q = true → (biCalm q = true → cl = true) → sc.names.lookup (biName q) = some .globalImplicit → ckBi G N cl sc own (biTwo q) es xs = true → PE X (.Call (.Name (biName q) p) xs [] pos) (TEv C F W own (biM q) fun ρ => (evEs Φ es ρ).bind fun xs => biD q xs)
  | .nil, xs, p, pos, F, W, own, sc, X, k, hx, hbi, hc, hg, h => by
    unfold ckBi at h
    cases h
  | .cons e es, xs, p, pos, F, W, own, sc, X, k, hx, hbi, hc, hg, h => by
    cases es with
    | nil =>
      unfold ckBi at h
      cases xs with
      | nil => cases h
      | cons x xs =>
        cases xs with
        | cons y ys => cases h
        | nil =>
          simp only [Bool.and_eq_true, Bool.not_eq_true'] at h
          obtain ⟨⟨h1, h2⟩, h3⟩ := h
          obtain ⟨m1, p1⟩ := (sndE hf e x F W own sc X k hx).some_ h2
          by_cases hso : q = .sortT
          · subst hso
            exact e_sortT hx.o (hf.bi _ hbi) hg h3 p1
          · exact e_bi1 hx.o q h1 hso hc (hf.bi q hbi) hg h3 p1
    | cons e2 es2 =>
      cases es2 with
      | cons e3 es3 =>
        unfold ckBi at h
        cases h
      | nil =>
        unfold ckBi at h
        cases xs with
        | nil => cases h
        | cons x xs =>
          cases xs with
          | nil => cases h
          | cons y ys =>
            cases ys with
            | cons z zs => cases h
            | nil =>
              simp only [Bool.and_eq_true] at h
              obtain ⟨⟨⟨⟨h1, h2⟩, h3⟩, h4⟩, h5⟩ := h
              obtain ⟨m1, p1⟩ := (sndE hf e x F W own sc X k hx).some_ h2
              obtain ⟨m2, p2⟩ := (sndE hf e2 y F W own sc X k hx).some_ h3
              exact e_bi2 hx.o q h1 hc (hf.bi q hbi) hg h4 h5 p1 p2
termination_by structural es => es
theorem sndI (hf : Fx C Φ G cl j np) (fx : Bool) : ∀ (it : II) (tg x : Expr) (F : Fr0) (W : WX) (own : List Nat) (sc : Scope) (X : Cx) (k : Nat), Xd C cl j k N sc W X → ckI G N cl sc own fx it tg x = true → PI X tg x (TIv C F W own fx (evI Φ it))
  | .seq a, tg, x, F, W, own, sc, X, k, hx, h => by
    unfold ckI at h
    have ih := sndE hf a x F W own sc X k hx
    cases e1 : (ckE G N cl sc own a x).1 with
    | none => rw [e1] at h; cases h
    | some m1 =>
      rw [e1] at h
      have h : (fx || m1 != .b) = true := h
      exact i_seq hx.o ⟨trivial⟩ (fun z => by rw [z] at h; simpa using h) (ih.1 m1 e1)
  | .rng1 a, tg, x, F, W, own, sc, X, k, hx, h => by
    unfold ckI at h
    split at h
    · rename_i g a' q e1
      obtain rfl := xCall_eq e1
      split at h
      · rename_i y q' e2
        obtain rfl := xName_eq e2
        simp only [Bool.and_eq_true, decide_eq_true_eq] at h
        obtain ⟨⟨⟨h0, h1⟩, h2⟩, h3⟩ := h
        subst h0
        obtain ⟨m1, p1⟩ := (sndE hf a a' F W own sc X k hx).some_ h3
        exact i_rng1 hx.o (glo_out h1) hf.free.1 h2 p1
      · cases h
    · cases h
  | .rng2 a b, tg, x, F, W, own, sc, X, k, hx, h => by
    unfold ckI at h
    split at h
    · rename_i g a' b' q e1
      obtain rfl := xCall_eq e1
      split at h
      · rename_i y q' e2
        obtain rfl := xName_eq e2
        simp only [Bool.and_eq_true, decide_eq_true_eq] at h
        obtain ⟨⟨⟨⟨⟨h0, h1⟩, h2⟩, h3⟩, h4⟩, h5⟩ := h
        subst h0
        obtain ⟨m1, p1⟩ := (sndE hf a a' F W own sc X k hx).some_ h4
        obtain ⟨m2, p2⟩ := (sndE hf b b' F W own sc X k hx).some_ h5
        exact i_rng2 hx.o (glo_out h1) hf.free.1 h2 h3 p1 p2
      · cases h
    · cases h
  | .enum a, tg, x, F, W, own, sc, X, k, hx, h => by
    unfold ckI at h
    split at h
    · rename_i g a' q e1
      obtain rfl := xCall_eq e1
      split at h
      · rename_i y q' e2
        obtain rfl := xName_eq e2
        simp only [Bool.and_eq_true, decide_eq_true_eq] at h
        obtain ⟨⟨⟨⟨h0, h1⟩, h2⟩, h3⟩, h4⟩ := h
        subst h0
        cases e3 : xTuple tg with
        | none => rw [e3] at h4; cases h4
        | some tt =>
          obtain ⟨elts, kk, tp⟩ := tt
          obtain rfl := xTuple_eq e3
          have ih := sndE hf a a' F W own sc X k hx
          cases e4 : (ckE G N cl sc own a a').1 with
          | none => rw [e4] at h3; cases h3
          | some m1 =>
            rw [e4] at h3
            have h3 : (fx || m1 != .b) = true := h3
            exact i_enum hx.o ⟨trivial⟩ (fun z => by rw [z] at h3; simpa using h3) (glo_out h1) hf.free.2.1 h2 (ih.1 m1 e4)
      · cases h
    · cases h
  | .rev a, tg, x, F, W, own, sc, X, k, hx, h => by
    unfold ckI at h
    split at h
    · rename_i g a' q e1
      obtain rfl := xCall_eq e1
      split at h
      · rename_i y q' e2
        obtain rfl := xName_eq e2
        simp only [Bool.and_eq_true, decide_eq_true_eq] at h
        obtain ⟨⟨⟨h0, h1⟩, h2⟩, h3⟩ := h
        subst h0
        have ih := sndE hf a a' F W own sc X k hx
        cases e4 : (ckE G N cl sc own a a').1 with
        | none => rw [e4] at h3; cases h3
        | some m1 =>
          rw [e4] at h3
          have h3 : (fx || m1 != .b) = true := h3
          exact i_rev hx.o ⟨trivial⟩ (fun z => by rw [z] at h3; simpa using h3) (glo_out h1) hf.freeR h2 (ih.1 m1 e4)
      · cases h
    · cases h
  | .zip a b, tg, x, F, W, own, sc, X, k, hx, h => by
    unfold ckI at h
    cases h
termination_by structural it => it
end
end
end Vm

set_option maxRecDepth 100000
set_option maxHeartbeats 4000000
/-! VmU: the check of statements, and what it is worth. -/
namespace Vm
open PySem PySem.Spec PyProof.Rows L2

def sAsg : Stmt → Option (Expr × Expr × Pos)
  | .Assign [t] a p => some (t, a, p)
  | _ => none
def sExpr : Stmt → Option (Expr × Pos)
  | .Expr a p => some (a, p)
  | _ => none
def sRet : Stmt → Option (Option Expr × Pos)
  | .Return a p => some (a, p)
  | _ => none
def sIf : Stmt → Option (Expr × List Stmt × List Stmt × Pos)
  | .If t a b p => some (t, a, b, p)
  | _ => none
def sFor : Stmt → Option (Expr × Expr × List Stmt × Pos)
  | .For t i b [] p => some (t, i, b, p)
  | _ => none
def sWhile : Stmt → Option (Expr × List Stmt × Pos)
  | .While t b [] p => some (t, b, p)
  | _ => none
def sRaise : Stmt → Option (Expr × Pos)
  | .Raise (some e) none p => some (e, p)
  | _ => none
def sMatch : Stmt → Option (Expr × List MatchCase × Pos)
  | .Match e cs p => some (e, cs, p)
  | _ => none
def mCase : MatchCase → Option (Option Str × List Stmt)
  | ⟨.MatchValue (.Constant (.str y) _ _) _, none, b⟩ => some (some y, b)
  | ⟨.MatchAs none none _, none, b⟩ => some (none, b)
  | _ => none
def xStr : Expr → Option (Str × Nat × Pos)
  | .Constant (.str s) j p => some (s, j, p)
  | _ => none
section
variable {s : Stmt}
theorem sAsg_eq {a} (h : sAsg s = some a) : s = .Assign [a.1] a.2.1 a.2.2 := by
  unfold sAsg at h
  split at h <;> simp at h
  subst h
  rfl
theorem sExpr_eq {a} (h : sExpr s = some a) : s = .Expr a.1 a.2 := by cases s <;> simp [sExpr] at h; subst h; rfl
theorem sRet_eq {a} (h : sRet s = some a) : s = .Return a.1 a.2 := by cases s <;> simp [sRet] at h; subst h; rfl
theorem sIf_eq {a} (h : sIf s = some a) : s = .If a.1 a.2.1 a.2.2.1 a.2.2.2 := by cases s <;> simp [sIf] at h; subst h; rfl
theorem sFor_eq {a} (h : sFor s = some a) : s = .For a.1 a.2.1 a.2.2.1 [] a.2.2.2 := by
  unfold sFor at h
  split at h <;> simp at h
  subst h
  rfl
theorem sWhile_eq {a} (h : sWhile s = some a) : s = .While a.1 a.2.1 [] a.2.2 := by
  unfold sWhile at h
  split at h <;> simp at h
  subst h
  rfl
theorem sRaise_eq {a} (h : sRaise s = some a) : s = .Raise (some a.1) none a.2 := by
  unfold sRaise at h
  split at h <;> simp at h
  subst h
  rfl
theorem sMatch_eq {a} (h : sMatch s = some a) : s = .Match a.1 a.2.1 a.2.2 := by cases s <;> simp [sMatch] at h; subst h; rfl
theorem mCase_str {c : MatchCase} {y : Str} {b : List Stmt} (h : mCase c = some (some y, b)) : ∃ j p p2, c = ⟨.MatchValue (.Constant (.str y) j p2) p, none, b⟩ := by
  unfold mCase at h
  split at h
  · simp only [Option.some.injEq, Prod.mk.injEq] at h
    obtain ⟨h1, h2⟩ := h
    subst h1 h2
    exact ⟨_, _, _, rfl⟩
  · simp at h
  · cases h
theorem mCase_any {c : MatchCase} {b : List Stmt} (h : mCase c = some (none, b)) : ∃ p, c = ⟨.MatchAs none none p, none, b⟩ := by
  unfold mCase at h
  split at h
  · simp at h
  · simp only [Option.some.injEq, Prod.mk.injEq] at h
    obtain ⟨h1, h2⟩ := h
    subst h2
    exact ⟨_, rfl⟩
  · cases h
theorem xStr_eq {x : Expr} {a} (h : xStr x = some a) : x = .Constant (.str a.1) a.2.1 a.2.2 := by
  unfold xStr at h
  split at h <;> simp at h
  subst h
  rfl
end

/-- behind a statement: some none: never there -/
abbrev Cs := Option (Option (List Nat))
def okS (b : Bool) (o : Option (List Nat)) : Cs := if b = true then some o else none
def joinO : Option (List Nat) → Option (List Nat) → Cs
  | none, b => some b
  | a, none => some a
  | some a, some b => if a = b then some (some a) else none
def bodyO (own : List Nat) : Cs → Bool
  | some none => true
  | some (some o) => decide (o = own)
  | none => false
section
variable (G : Gi) (N : List Str) (cl ini : Bool) (sc : Scope) (fm : Mode)
/-- a name = value, the value's mode -/
def ckN (own : List Nat) (e : IE) (x : Str) (px : Pos) (a : Expr) : Option Mode :=
  if notLc a = true then (ckE G N cl sc own e a).1 else match e, xComp a with
    | .comp t ow it cs e', some (elt, tg, iter, ifs, scope, pos) => okIf (swC sc scope x px pos && (sc.names.lookup x == some .local) && cl && (!G.lam (relS scope sc) || G.lam sc) && ckBlk N sc scope (boOf N ow) own ow t tg && ckI G N cl sc own true it tg iter && ckC G N cl (relS scope sc) own cs ifs && (ckE G N cl (relS scope sc) own e' elt).1.any (· != .b) && notSet iter) .f
    | _, _ => none
/-- an own slot's name -/
def ckOwn (own : List Nat) (i : Nat) (e : Expr) : Bool := match xName e with
  | some (x, _) => decide (N[i]? = some x) && visB sc x && nodbg x && decide (i ∈ own)
  | none => false
def ckMeth (own : List Nat) (i : Nat) (m : Str) (e : Expr) (p : Pos) : Bool := match xAttr e with
  | some (o, y, ap) => decide (y = m) && (ap.endLine == p.line) && ckOwn N sc own i o
  | none => false
def retOk (m : Mode) : Bool := match m, fm with
  | .f, _ => true
  | .s, .s => true
  | _, _ => false
mutual
def ckS (own oL : List Nat) : IS → Stmt → Cs
  | .share _, _ => none
  | .asg t e, s => match sAsg s with
    | some (tg, a, _) => match t with
      | .nm i => match xName tg with
        | some (x, px) => okS (nmOk N sc i x && !own.contains i && (ckN G N cl sc own e x px a).any (· != .b)) (some own)
        | none => none
      | .tp ts => okS (cl && ckT N sc (fun _ => true) own (.tp ts) tg && (ckE G N cl sc own e a).1.any (· != .b) && notLc a && notTup a) (some own)
    | none => none
  | .asgF i e, s => match sAsg s with
    | some (tg, a, _) => match xName tg with
      | some (x, px) => okS (nmOk N sc i x && (!ini || i != 0) && decide (ckN G N cl sc own e x px a = some .f)) (some (addO i own))
      | none => none
    | none => none
  | .setF i f e, s => match sAsg s with
    | some (tg, a, _) => match xAttr tg with
      | some (o, y, _) => okS (ckOwn N sc own i o && decide (y = G.nm f) && (ckE G N cl sc own e a).1.any (· != .b) && notLc a) (some own)
      | none => none
    | none => none
  | .setI i k e, s => match sAsg s with
    | some (tg, a, _) => match xSub tg with
      | some (o, b, _) => okS (ckOwn N sc own i o && (ckE G N cl sc own k b).1.isSome && (ckE G N cl sc own e a).1.any (· != .b) && notLc a && notTup a && notSlc b) (some own)
      | none => none
    | none => none
  | .app i e, s => match sExpr s with
    | some (x, _) => match xCall x with
      | some (g, [a], [], p) => okS (ckMeth N sc own i "append" g p && (ckE G N cl sc own e a).1.any (· != .b) && notSt a) (some own)
      | _ => none
    | none => none
  | .pop i, s => match sExpr s with
    | some (x, _) => match xCall x with
      | some (g, [], [], p) => okS (ckMeth N sc own i "pop" g p) (some own)
      | _ => none
    | none => none
  | .expr e, s => match sExpr s with
    | some (x, _) => okS ((ckE G N cl sc own e x).1.isSome && notLc x) (some own)
    | none => none
  | .ret e, s => match sRet s with
    | some (some x, _) => match e with
      | .var i => if ckOwn N sc own i x = true then okS (!ini) none else okS (!ini && (ckE G N cl sc own (.var i) x).1.any (retOk fm)) none
      | e => okS (!ini && (ckE G N cl sc own e x).1.any (retOk fm)) none
    | _ => none
  | .retN, s => match sRet s with
    | some (none, _) => okS (!ini) none
    | _ => none
  | .ifS t a b, s => match sIf s with
    | some (t', a', b', _) => if (ckE G N cl sc own t t').2 = true then (match ckSs own oL a a', ckSs own oL b b' with
      | some o1, some o2 => joinO o1 o2
      | _, _ => none) else none
    | none => none
  | .forS _ t it b, s => match sFor s with
    | some (tg, iter, b', _) => okS (cl && ckT N sc (fun _ => true) own t tg && ckI G N cl sc own false it tg iter && notSet iter && bodyO own (ckSs own own b b')) (some own)
    | none => none
  | .whileS _ t b, s => match sWhile s with
    | some (t', b', _) => okS ((ckE G N cl sc own t t').2 && bodyO own (ckSs own own b b')) (some own)
    | none => none
  | .brk, s => match s with
    | .Break _ => okS (decide (oL = own)) none
    | _ => none
  | .cont, s => match s with
    | .Continue _ => okS (decide (oL = own)) none
    | _ => none
  | .pass, s => match s with
    | .Pass _ => some (some own)
    | _ => none
  | .raise c es, s => match sRaise s with
    | some (e, _) => match xCall e with
      | some (g, [a], [], _) => match xName g, xStr a, es with
        | some (x, _), some (z, _, _), .cons (.lit (.str _)) .nil => okS (cl && decide (G.xname c = some x) && glo sc x) none
        | _, _, _ => none
      | _ => none
    | none => none
  | .never, _ => some none
  | .matchS e cs, s => match sMatch s with
    | some (x, cs', _) => if (ckE G N cl sc own e x).1.isSome = true then ckCs own oL cs cs' else none
    | none => none
def ckCs (own oL : List Nat) : ICs → List MatchCase → Cs
  | .nil, cs => if cs.isEmpty = true then some (some own) else none
  | .cons k b r, cs => match cs with
    | [] => none
    | c :: cs => match mCase c with
      | none => none
      | some (y, body) => match k, y with
        | none, none => (match r, cs with
          | .nil, [] => ckSs own oL b body
          | _, _ => none)
        | some z, some y => if z = y then (match ckSs own oL b body, ckCs own oL r cs with
          | some o1, some o2 => joinO o1 o2
          | _, _ => none) else none
        | _, _ => none
def ckSs (own oL : List Nat) : ISs → List Stmt → Cs
  | .nil, ss => if ss.isEmpty = true then some (some own) else none
  | .cons s r, ss => match s with
    | .share i => if (!ini || i != 0) = true then ckSs (remO i own) oL r ss else none
    | s => match ss with
      | [] => none
      | x :: xs => match ckS own oL s x with
        | none => none
        | some none => match r, xs with
          | .nil, [] => some none
          | _, _ => none
        | some (some o) => ckSs o oL r xs
end
end
end Vm

set_option maxRecDepth 100000
set_option maxHeartbeats 4000000
/-! VmV: checked statements run as the evaluator says. -/
namespace Vm
open PySem PySem.Spec PyProof.Rows L2

section
variable {C : Pc} {F : Fr0} {W : WX} {own oL : List Nat} {o' o1 o2 : Option (List Nat)} {m ma mb fm : Mode} {ρ ρ' : Env} {σ σ' : L2.St} {H H' H1 : Hp} {X : Cx} {N : List Str} {sc scope : Scope} {k j f i : Nat} {cl fx ini : Bool} {sp : Sp} {Φ : Sm} {G : Gi} {np : Nat → Nat} {E : Ends}
variable {ra rb rk : Env → R D} {ras rks : Env → R (List D)} {r r1 r2 : Env → SR} {a b o tg : Expr} {es : List Expr} {p p' pos apos cpos : Pos} {Q : VK} {x : Str} {st : Stmt} {sts : List Stmt}

theorem okS_some {b : Bool} {o o' : Option (List Nat)} (h : okS b o = some o') : b = true ∧ o = o' := by
  unfold okS at h
  split at h
  · rename_i hb
    cases h
    exact ⟨hb, rfl⟩
  · cases h
theorem set_S (hi : i ∉ own) (hma : ma ≠ .b) (hp : PS X st (tAsg (TEv C F W own ma ra) (gName i))) : PS X st (TSv C F W own (some own) oL fm fun ρ => .ofR (ra ρ) fun d => .ofR (bindT (.nm i) d ρ) fun ρ' => .nx ρ') := by
  refine PS.imp hp ?_
  rintro E σ H ⟨ρ, S, po⟩
  exact sv_bind S po fun d v H1 _ e1 S1 q1 po => post_set S1 e1 hi (q1.s hma (avTr S ⟨trivial⟩)) po
theorem set_F (h0 : F.M0 = none ∨ i ≠ 0) (hp : PS X st (tAsg (TEv C F W own .f ra) (gName i))) : PS X st (TSv C F W own (some (addO i own)) oL fm fun ρ => .ofR (ra ρ) fun d => if i < ρ.length then .nx (ρ.set i (some d)) else .bad) := by
  refine PS.imp hp ?_
  rintro E σ H ⟨ρ, S, po⟩
  refine ⟨ρ, S, ?_⟩
  have po : PostS C F W (AvO F own ρ σ) H (some (addO i own)) oL fm E (.ofR (ra ρ) fun d => if i < ρ.length then .nx (ρ.set i (some d)) else .bad) := po
  cases e : ra ρ with
  | bad => rw [e] at po; exact po
  | exc c y => rw [e] at po; exact psx_x po S
  | ok d =>
    rw [e] at po
    intro v H1 e1 g1 q1
    have po : PostS C F W (AvO F own ρ σ) H (some (addO i own)) oL fm E (if i < ρ.length then .nx (ρ.set i (some d)) else .bad) := po
    by_cases hl : i < ρ.length
    · rw [if_pos hl] at po
      obtain ⟨S1, k1⟩ := S.setO e1 g1 hl h0 q1
      exact po _ _ S1 k1
    · rw [if_neg hl] at po
      exact po.elim
/-- name = value -/
theorem ckN_out (hf : Fx C Φ G cl j np) (hx : Xd C cl j k N sc W X) (hfn : ∀ y, X.fn y = true) {e : IE} {px : Pos} (hn : nmOk N sc i x = true) (h : ckN G N cl sc own e x px a = some m) : PS X (.Assign [.Name x px] a pos) (tAsg (TEv C F W own m (evE Φ e)) (gName i)) := by
  unfold ckN at h
  obtain ⟨n1, n2⟩ := nmOk_out hn
  by_cases hl : notLc a = true
  · rw [if_pos hl] at h
    exact ps_set (i := i) (by rw [hx.o.eN]; exact hx.o.nd) (by rw [hx.o.eN]; exact n1) (by rw [hx.o.eS]; exact n2) ((sndE hf e a F W own sc X k hx).1 m h) (swaps_no hl) (.inl (hfn x))
  · rw [if_neg hl] at h
    split at h
    · rename_i t ow it cs e' elt tg iter ifs scope q e1
      obtain rfl := xComp_eq e1
      obtain ⟨hb, ho⟩ := okIf_some h; clear h; subst ho; have h := hb
      simp only [Bool.and_eq_true, beq_iff_eq] at h
      obtain ⟨⟨⟨⟨⟨⟨⟨⟨h1, h2⟩, hc⟩, hl⟩, h3⟩, h4⟩, h5⟩, h6⟩, h7⟩ := h
      cases e4 : (ckE G N cl (relS scope sc) own e' elt).1 with
      | none => rw [e4] at h6; cases h6
      | some me =>
        have n4 : me ≠ .b := by rw [e4] at h6; simpa using h6
        exact s_setLc hx.o hc (hf.lam_ok hl) n4 n1 h2 h1 (sndI hf true it tg iter F W own sc X k hx h4) h3 (fun D X' hx' => sndC hf cs ifs (F.and D) W0 own _ X' k ⟨by rw [hc]; exact hx', hx.hj, fun z => hx.hl (hf.lam_ok hl z)⟩ h5) (fun D X' hx' => (sndE hf e' elt (F.and D) W0 own _ X' k ⟨by rw [hc]; exact hx', hx.hj, fun z => hx.hl (hf.lam_ok hl z)⟩).1 me e4) (foldset h7)
    · cases h
theorem any_out {q : Option Mode} (h : q.any (· != .b) = true) : ∃ m, q = some m ∧ m ≠ .b := by
  cases q with
  | none => cases h
  | some m => exact ⟨m, rfl, by simpa using h⟩
theorem ckOwn_out (h : ckOwn N sc own i a = true) : ∃ x p, a = .Name x p ∧ N[i]? = some x ∧ Vis sc x ∧ (x == ("__debug__" : Str)) = false ∧ (x == ("__classdict__" : Str)) = false ∧ i ∈ own := by
  unfold ckOwn at h
  split at h
  · rename_i x p e1
    simp only [Bool.and_eq_true, decide_eq_true_eq] at h
    obtain ⟨⟨⟨h1, h2⟩, h3⟩, h4⟩ := h
    exact ⟨x, p, xName_eq e1, h1, vis_out h2, (nodbg_out h3).1, (nodbg_out h3).2, h4⟩
  · cases h
theorem ckMeth_out {mm : Str} (h : ckMeth N sc own i mm a p = true) : ∃ x px ap, a = .Attribute (.Name x px) mm ap ∧ (ap.endLine == p.line) = true ∧ N[i]? = some x ∧ Vis sc x ∧ (x == ("__debug__" : Str)) = false ∧ (x == ("__classdict__" : Str)) = false ∧ i ∈ own := by
  unfold ckMeth at h
  split at h
  · rename_i o y ap e1
    simp only [Bool.and_eq_true, decide_eq_true_eq] at h
    obtain ⟨⟨rfl, h2⟩, h3⟩ := h
    obtain ⟨x, px, rfl, q⟩ := ckOwn_out h3
    exact ⟨x, px, ap, xAttr_eq e1, h2, q⟩
  · cases h
theorem retOk_out (h : retOk fm m = true) : m = .f ∨ (m = .s ∧ fm = .s) := by
  cases m <;> cases fm <;> first | exact .inl rfl | exact .inr ⟨rfl, rfl⟩ | cases h
theorem joinO_out {o : Option (List Nat)} (h : joinO o1 o2 = some o) : (o1 = none ∨ o1 = o) ∧ (o2 = none ∨ o2 = o) := by
  cases o1 with
  | none => cases h; exact ⟨.inl rfl, .inr rfl⟩
  | some a =>
    cases o2 with
    | none => cases h; exact ⟨.inr rfl, .inl rfl⟩
    | some b =>
      simp only [joinO] at h
      split at h
      · rename_i e
        cases h
        subst e
        exact ⟨.inr rfl, .inr rfl⟩
      · cases h
theorem bodyO_out {c : Cs} (h : bodyO own c = true) : ∃ o, c = some o ∧ (o = none ∨ o = some own) := by
  unfold bodyO at h
  split at h
  · exact ⟨none, rfl, .inl rfl⟩
  · rename_i o
    exact ⟨some o, rfl, .inr (by rw [of_decide_eq_true h])⟩
  · cases h

/-- what a def's body stands on -/
structure Bd (C : Pc) (F : Fr0) (X : Cx) (ini : Bool) : Prop where
  fn : ∀ y, X.fn y = true
  ok2 : F.Ok2
  ini : ini = false → F.M0 = none
theorem Bd.m0 (h : Bd C F X ini) (q : (!ini || i != 0) = true) : F.M0 = none ∨ i ≠ 0 := by
  rw [Bool.or_eq_true] at q
  rcases q with q | q
  · exact .inl (h.ini (by simpa using q))
  · exact .inr (by simpa using q)

theorem getO_var (ρ : Env) (i : Nat) : (match ρ[i]? with | some (some d) => R.ok d | _ => .bad) = getO ρ i := rfl

mutual
theorem sndS (hf : Fx C Φ G cl j np) (hx : Xd C cl j k N sc W X) (bd : Bd C F X ini) : ∀ (s : IS) (st : Stmt) (own oL : List Nat) (o' : Option (List Nat)), ckS G N cl ini sc fm own oL s st = some o' → PS X st (TSv C F W own o' oL fm (evS Φ s))
  | .share _, st, own, oL, o', h => by
    unfold ckS at h
    cases h
  | .asg t e, st, own, oL, o', h => by
    unfold ckS at h
    split at h
    · rename_i tg a q e1
      obtain rfl := sAsg_eq e1
      split at h
      · rename_i i
        split at h
        · rename_i x px e2
          obtain rfl := xName_eq e2
          obtain ⟨hb, ho⟩ := okS_some h; clear h; subst ho; have h := hb
          simp only [Bool.and_eq_true, Bool.not_eq_true', List.contains_eq_mem, decide_eq_false_iff_not] at h
          obtain ⟨⟨h1, h2⟩, h3⟩ := h
          obtain ⟨m, e3, n3⟩ := any_out h3
          exact set_S h2 n3 (ckN_out hf hx bd.fn h1 e3)
        · cases h
      · rename_i ts
        obtain ⟨hb, ho⟩ := okS_some h; clear h; subst ho; have h := hb
        simp only [Bool.and_eq_true] at h
        obtain ⟨⟨⟨⟨hc, h1⟩, h2⟩, h3⟩, h4⟩ := h
        obtain ⟨m, n, p⟩ := (sndE hf e a F W own sc X k hx).any_ h2
        exact s_tup hx.o hc (fun x _ => .inl (bd.fn x)) h1 n p h3 h4
    · cases h
  | .asgF i e, st, own, oL, o', h => by
    unfold ckS at h
    split at h
    · rename_i tg a q e1
      obtain rfl := sAsg_eq e1
      split at h
      · rename_i x px e2
        obtain rfl := xName_eq e2
        obtain ⟨hb, ho⟩ := okS_some h; clear h; subst ho; have h := hb
        simp only [Bool.and_eq_true, decide_eq_true_eq] at h
        obtain ⟨⟨h1, h2⟩, h3⟩ := h
        exact set_F (bd.m0 h2) (ckN_out hf hx bd.fn h1 h3)
      · cases h
    · cases h
  | .setF i f e, st, own, oL, o', h => by
    unfold ckS at h
    split at h
    · rename_i tg a q e1
      obtain rfl := sAsg_eq e1
      split at h
      · rename_i o y px e2
        obtain rfl := xAttr_eq e2
        obtain ⟨hb, ho⟩ := okS_some h; clear h; subst ho; have h := hb
        simp only [Bool.and_eq_true, decide_eq_true_eq] at h
        obtain ⟨⟨⟨h1, rfl⟩, h3⟩, h4⟩ := h
        obtain ⟨x, p, rfl, hN, hv, hd, hcd, hi⟩ := ckOwn_out h1
        obtain ⟨m, n, p⟩ := (sndE hf e a F W own sc X k hx).any_ h3
        rw [← hf.nm f]
        exact s_setFld hx.o hf.co hN hv hd hcd hi n p h4
      · cases h
    · cases h
  | .setI i kk e, st, own, oL, o', h => by
    unfold ckS at h
    split at h
    · rename_i tg a q e1
      obtain rfl := sAsg_eq e1
      split at h
      · rename_i o b px e2
        obtain rfl := xSub_eq e2
        obtain ⟨hb, ho⟩ := okS_some h; clear h; subst ho; have h := hb
        simp only [Bool.and_eq_true] at h
        obtain ⟨⟨⟨⟨⟨h1, h2⟩, h3⟩, h4⟩, h5⟩, h6⟩ := h
        obtain ⟨x, p, rfl, hN, hv, hd, hcd, hi⟩ := ckOwn_out h1
        obtain ⟨m2, p2⟩ := (sndE hf kk b F W own sc X k hx).some_ h2
        obtain ⟨m, n, p⟩ := (sndE hf e a F W own sc X k hx).any_ h3
        exact s_setI hx.o hN hv hd hcd hi n p p2 h4 h5 h6
      · cases h
    · cases h
  | .app i e, st, own, oL, o', h => by
    unfold ckS at h
    split at h
    · rename_i x q e1
      obtain rfl := sExpr_eq e1
      split at h
      · rename_i g a p e2
        obtain rfl := xCall_eq e2
        obtain ⟨hb, ho⟩ := okS_some h; clear h; subst ho; have h := hb
        simp only [Bool.and_eq_true] at h
        obtain ⟨⟨h1, h2⟩, h3⟩ := h
        obtain ⟨x, px, ap, rfl, hl, hN, hv, hd, hcd, hi⟩ := ckMeth_out h1
        obtain ⟨m, n, p⟩ := (sndE hf e a F W own sc X k hx).any_ h2
        exact s_app hx.o hN hv hd hcd hi n p h3 hl
      · cases h
    · cases h
  | .pop i, st, own, oL, o', h => by
    unfold ckS at h
    split at h
    · rename_i x q e1
      obtain rfl := sExpr_eq e1
      split at h
      · rename_i g p e2
        obtain rfl := xCall_eq e2
        obtain ⟨hb, ho⟩ := okS_some h; clear h; subst ho; have h := hb
        obtain ⟨x, px, ap, rfl, hl, hN, hv, hd, hcd, hi⟩ := ckMeth_out h
        exact s_pop hx.o hN hv hd hcd hi hl
      · cases h
    · cases h
  | .expr e, st, own, oL, o', h => by
    unfold ckS at h
    split at h
    · rename_i x q e1
      obtain rfl := sExpr_eq e1
      obtain ⟨hb, ho⟩ := okS_some h; clear h; subst ho; have h := hb
      simp only [Bool.and_eq_true] at h
      obtain ⟨m, p⟩ := (sndE hf e x F W own sc X k hx).some_ h.1
      exact s_expr p h.2
    · cases h
  | .ret e, st, own, oL, o', h => by
    have std : ∀ {e : IE} {x : Expr} {q : Pos}, (!ini && (ckE G N cl sc own e x).1.any (retOk fm)) = true → PS X (.Return (some x) q) (TSv C F W own none oL fm fun ρ => .ofR (evE Φ e ρ) fun d => .rt d ρ) := fun {e x q} h => by
      simp only [Bool.and_eq_true, Bool.not_eq_true'] at h
      cases e3 : (ckE G N cl sc own e x).1 with
      | none => have := h.2; rw [e3] at this; cases this
      | some m =>
        have h2 := h.2
        rw [e3] at h2
        exact s_ret bd.ok2 (bd.ini h.1) (retOk_out h2) ((sndE hf e x F W own sc X k hx).1 m e3)
    unfold ckS at h
    split at h
    · rename_i x q e1
      obtain rfl := sRet_eq e1
      split at h
      · rename_i i
        split at h
        · rename_i h1
          obtain ⟨hb, ho⟩ := okS_some h; clear h; subst ho; have h := hb
          obtain ⟨x, px, rfl, hN, hv, hd, hcd, hi⟩ := ckOwn_out h1
          exact s_retO hx.o bd.ok2 (bd.ini (by simpa using h)) hi hN hv hd hcd
        · obtain ⟨hb, ho⟩ := okS_some h; clear h; subst ho; have h := hb
          exact std h
      · obtain ⟨hb, ho⟩ := okS_some h; clear h; subst ho; have h := hb
        exact std h
    · cases h
  | .retN, st, own, oL, o', h => by
    unfold ckS at h
    split at h
    · rename_i q e1
      obtain rfl := sRet_eq e1
      obtain ⟨hb, ho⟩ := okS_some h; clear h; subst ho; have h := hb
      exact s_retN (bd.ini (by simpa using h))
    · cases h
  | .ifS t a b, st, own, oL, o', h => by
    unfold ckS at h
    split at h
    · rename_i t' a' b' q e1
      obtain rfl := sIf_eq e1
      split at h
      · rename_i ht
        split at h
        · rename_i o1 o2 e2 e3
          obtain ⟨j1, j2⟩ := joinO_out h
          refine PS.imp (s_if ((sndE hf t t' F W own sc X k hx).2 ht) (sndSs hf hx bd a a' own oL o1 e2) (sndSs hf hx bd b b' own oL o2 e3) j1 j2) ?_
          rintro E σ H ⟨ρ, S, po⟩
          refine ⟨ρ, S, ?_⟩
          have po : PostS C F W (AvO F own ρ σ) H o' oL fm E (.ofR (evE Φ t ρ) fun x => .ofR (truth x) fun c => if c then evSs Φ a ρ else evSs Φ b ρ) := po
          show PostS C F W (AvO F own ρ σ) H o' oL fm E (.ofR ((evE Φ t ρ).bind truth) fun c => if c then evSs Φ a ρ else evSs Φ b ρ)
          cases et : evE Φ t ρ <;> rw [et] at po <;> exact po
        · cases h
      · cases h
    · cases h
  | .forS _ t it b, st, own, oL, o', h => by
    unfold ckS at h
    split at h
    · rename_i tg iter b' q e1
      obtain rfl := sFor_eq e1
      obtain ⟨hb, ho⟩ := okS_some h; clear h; subst ho; have h := hb
      simp only [Bool.and_eq_true] at h
      obtain ⟨⟨⟨⟨hc, h1⟩, h2⟩, h3⟩, h4⟩ := h
      obtain ⟨o, e2, h5⟩ := bodyO_out h4
      exact s_for hx.o hc (fun x _ => .inl (bd.fn x)) h1 (sndI hf false it tg iter F W own sc X k hx h2) (sndSs hf hx bd b b' own own o e2) h5 (foldset h3)
    · cases h
  | .whileS _ t b, st, own, oL, o', h => by
    unfold ckS at h
    split at h
    · rename_i t' b' q e1
      obtain rfl := sWhile_eq e1
      obtain ⟨hb, ho⟩ := okS_some h; clear h; subst ho; have h := hb
      simp only [Bool.and_eq_true] at h
      obtain ⟨o, e2, h5⟩ := bodyO_out h.2
      exact s_while (n := Φ.fuel) hx.o ((sndE hf t t' F W own sc X k hx).2 h.1) (sndSs hf hx bd b b' own own o e2) h5
    · cases h
  | .brk, st, own, oL, o', h => by
    unfold ckS at h
    split at h
    · obtain ⟨hb, ho⟩ := okS_some h; clear h; subst ho; have h := hb
      obtain rfl := of_decide_eq_true h
      exact s_brk
    · cases h
  | .cont, st, own, oL, o', h => by
    unfold ckS at h
    split at h
    · obtain ⟨hb, ho⟩ := okS_some h; clear h; subst ho; have h := hb
      obtain rfl := of_decide_eq_true h
      exact s_cont
    · cases h
  | .pass, st, own, oL, o', h => by
    unfold ckS at h
    split at h
    · cases h
      exact s_pass
    · cases h
  | .raise c es, st, own, oL, o', h => by
    unfold ckS at h
    split at h
    · rename_i e q e1
      obtain rfl := sRaise_eq e1
      split at h
      · rename_i g a q2 e2
        obtain rfl := xCall_eq e2
        split at h
        · rename_i x q3 z q4 q5 s4 e4 e5
          obtain rfl := xName_eq e4
          obtain rfl := xStr_eq e5
          obtain ⟨hb, ho⟩ := okS_some h; clear h; subst ho; have h := hb
          simp only [Bool.and_eq_true, decide_eq_true_eq] at h
          obtain ⟨⟨hc, h1⟩, h2⟩ := h
          obtain ⟨r1, r2⟩ := hf.rz c x h1
          exact s_raise hx.o hc r1 (glo_out h2) r2
        · cases h
      · cases h
    · cases h
  | .never, st, own, oL, o', h => by
    unfold ckS at h
    cases h
    exact s_never
  | .matchS e cs, st, own, oL, o', h => by
    unfold ckS at h
    split at h
    · rename_i x cs' q e1
      obtain rfl := sMatch_eq e1
      split at h
      · rename_i ht
        obtain ⟨m, em⟩ := Option.isSome_iff_exists.mp ht
        exact s_match ((sndE hf e x F W own sc X k hx).1 m em) (fun z => sndCs hf hx bd cs cs' own oL o' h z)
      · cases h
    · cases h
termination_by structural s => s
theorem sndCs (hf : Fx C Φ G cl j np) (hx : Xd C cl j k N sc W X) (bd : Bd C F X ini) : ∀ (cs : ICs) (cas : List MatchCase) (own oL : List Nat) (o' : Option (List Nat)), ckCs G N cl ini sc fm own oL cs cas = some o' → ∀ z, PCs X cas z (TSv C F W own o' oL fm (evCs Φ cs z))
  | .nil, cas, own, oL, o', h, z => by
    unfold ckCs at h
    split at h
    · rename_i e
      rw [List.isEmpty_iff] at e
      subst e
      cases h
      exact pcs_nil
    · cases h
  | .cons key b r, cas, own, oL, o', h, z => by
    unfold ckCs at h
    cases cas with
    | nil => cases h
    | cons c cas =>
      simp only at h
      cases e1 : mCase c with
      | none => rw [e1] at h; cases h
      | some yb =>
        obtain ⟨y, body⟩ := yb
        rw [e1] at h
        simp only at h
        cases key with
        | none =>
          cases y with
          | none =>
            simp only at h
            obtain ⟨p, rfl⟩ := mCase_any e1
            split at h
            · exact pcs_any (sndSs hf hx bd b body own oL o' h)
            · cases h
          | some y => cases h
        | some key =>
          cases y with
          | none => cases h
          | some y =>
            simp only at h
            obtain ⟨jj, p, p2, rfl⟩ := mCase_str e1
            split at h
            · rename_i ez
              subst ez
              split at h
              · rename_i o1 o2 e2 e3
                obtain ⟨j1, j2⟩ := joinO_out h
                exact pcs_lit (sndSs hf hx bd b body own oL o1 e2) (sndCs hf hx bd r cas own oL o2 e3 z) j1 j2
              · cases h
            · cases h
termination_by structural cs => cs
theorem sndSs (hf : Fx C Φ G cl j np) (hx : Xd C cl j k N sc W X) (bd : Bd C F X ini) : ∀ (ss : ISs) (sts : List Stmt) (own oL : List Nat) (o' : Option (List Nat)), ckSs G N cl ini sc fm own oL ss sts = some o' → PSs X sts (TSv C F W own o' oL fm (evSs Φ ss))
  | .nil, sts, own, oL, o', h => by
    unfold ckSs at h
    split at h
    · rename_i e
      rw [List.isEmpty_iff] at e
      subst e
      cases h
      exact ss_nil
    · cases h
  | .cons s r, sts, own, oL, o', h => by
    have gen : ∀ (h : (match (generalizing := false) sts with
      | [] => none
      | x :: xs => match (generalizing := false) ckS G N cl ini sc fm own oL s x with
        | none => none
        | some none => match (generalizing := false) r, xs with
          | .nil, [] => some none
          | _, _ => none
        | some (some o) => ckSs G N cl ini sc fm o oL r xs) = some o'), PSs X sts (TSv C F W own o' oL fm (evSs Φ (.cons s r))) := fun h => by
      cases sts with
      | nil => cases h
      | cons x xs =>
        simp only at h
        cases e1 : ckS G N cl ini sc fm own oL s x with
        | none => rw [e1] at h; cases h
        | some o =>
          rw [e1] at h
          have p1 := sndS hf hx bd s x own oL o e1
          cases o with
          | some o => exact ss_cons p1 (sndSs hf hx bd r xs o oL o' h)
          | none =>
            simp only at h
            split at h
            · cases h
              exact ss_last p1
            · cases h
    cases s with
    | share i =>
      unfold ckSs at h
      simp only at h
      split at h
      · rename_i h1
        exact s_share bd.ok2 (bd.m0 h1) (sndSs hf hx bd r sts _ oL o' h)
      · cases h
    | _ => 
      unfold ckSs at h
      exact gen h
termination_by structural ss => ss
end
end
end Vm

set_option maxRecDepth 100000
set_option maxHeartbeats 4000000
/-! VmW: defs: each keeps the promise of the evaluator. -/
namespace Vm
open PySem PySem.Spec PyProof.Rows L2

section
variable {C : Pc} {Φ : Sm} {G : Gi} {cl : Bool} {j k np : Nat} {npf : Nat → Nat} {N : List Str} {sc : Scope} {X : Cx} {m fm : Mode} {body : ISs} {st : List Stmt} {o' : Option (List Nat)}

theorem start_slot {N : List Str} {ds : List D} {vs : List V} {A : Addr → Prop} {H : Hp} (h : Reps C A H ds vs) {i : Nat} {d : D} (e : (startE N.length ds)[i]? = some (some d)) : ∃ v, (L2.start N vs)[i]? = some (some v) ∧ Rep C A H d v ∧ i < ds.length := by
  unfold startE at e
  by_cases hi : i < ds.length
  · rw [List.getElem?_append_left (by simpa using hi), List.getElem?_map] at e
    cases e1 : ds[i]? with
    | none => rw [e1] at e; cases e
    | some d' =>
      rw [e1] at e
      cases e
      obtain ⟨v, hv, q⟩ := h.get e1
      refine ⟨v, ?_, q, hi⟩
      unfold L2.start
      rw [List.getElem?_append_left (by rw [List.length_map, ← h.length]; exact hi), List.getElem?_map, hv]
      rfl
  · rw [List.getElem?_append_right (by simpa using hi), List.getElem?_replicate] at e
    split at e <;> cases e
theorem start_len {N : List Str} {ds : List D} {vs : List V} {A : Addr → Prop} {H : Hp} (h : Reps C A H ds vs) : (startE N.length ds).length = (L2.start N vs).length := by
  unfold startE L2.start
  simp only [List.length_append, List.length_map, List.length_replicate, h.length]

theorem ext_of {H H' : Hp} {A0 : Addr → Prop} (e : EntK ⟨H, A0, none⟩ H') : Ext H H' := ⟨fun b o h n => e.ent b o h n (by intro z; cases z), e.dom⟩
/-- a def's body, entered -/
theorem run_body {E : XK} {Q : VK} {H : Hp} {vs : List V} (hf : Fx C Φ G cl j npf) (hx : Xd C cl j k N sc (fun cls dd _ H' => E cls dd H') X) (hfn : ∀ y, X.fn y = true) (hck : ckSs G N cl false sc m [] [] body st = some o') {call : List D → R D}
    (hc : ∀ ds, ds.length = np → call ds = endR (evSs Φ body (startE N.length ds))) (h : SpF C m np call vs H Q E) : ∃ t, PSs X st t ∧ t { nx := fun _ H' => Q .non H', rt := Q } (L2.start N vs) H := by
  obtain ⟨ds, A0, hA, g, hr, hl, po⟩ := h
  have bd : Bd C ⟨H, A0, none⟩ X false := ⟨hfn, ⟨fun b hb => let ⟨o, h1, h2⟩ := hA b hb; ⟨o, h1, h2, fun z => nomatch z⟩⟩, fun _ => rfl⟩
  refine ⟨_, sndSs hf hx bd body st [] [] o' hck, startE N.length ds, ?_, ?_⟩
  · refine ⟨g, start_len hr, fun b o e _ _ => e, fun b e => e, hA, fun i d e => ?_, fun i d a hi => (nomatch hi), fun i _ _ _ _ hi => (nomatch hi), fun x e => (nomatch e)⟩
    obtain ⟨v, h1, h2, _⟩ := start_slot hr e
    have h2 : Rep C (AvO ⟨H, A0, none⟩ [] (startE N.length ds) (L2.start N vs)) H d v := h2.anti fun b z => z.elim id fun ⟨i, _, hi, _⟩ => nomatch hi
    exact ⟨v, h1, fun _ => h2, h2.toO⟩
  · rw [hc ds hl] at po
    cases e : evSs Φ body (startE N.length ds) with
    | nx ρ' =>
      rw [e] at po
      cases o' with
      | none => exact trivial
      | some o => exact fun σ' H' S _ => po .non H' (ext_of S.entK) S.g (RepM.flat (by simp [Rep]) rfl)
    | rt d ρ' =>
      rw [e] at po
      exact ⟨rfl, fun v H' ek g' q => po v H' (ext_of ek) g' q⟩
    | bk ρ' => rw [e] at po; exact po.elim
    | ct ρ' => rw [e] at po; exact po.elim
    | exc c x =>
      rw [e] at po
      exact fun cls dd σ H' ek g' q => po cls dd H' (ext_of ek) g' q
    | bad => rw [e] at po; exact po.elim
theorem run_init {c : Nat} {E : XK} {Q : VK} {H : Hp} {vs : List V} (hf : Fx C Φ G cl j npf) (hx : Xd C cl j k N sc (fun cls dd _ H' => E cls dd H') X) (hfn : ∀ y, X.fn y = true) (hck : ckSs G N cl true sc m [0] [0] body st = some o') {made : List D → R D}
    (hc : ∀ ds, ds.length + 1 = np → made ds = endI c (evSs Φ body (startE N.length (.ins c [] :: ds)))) (hN : 0 < N.length) (h : SpI C c np made vs H Q E) : ∃ t, PSs X st t ∧ t { nx := fun _ H' => Q .non H', rt := Q } (L2.start N vs) H := by
  obtain ⟨x, dx, ws, ds, A0, rfl, hx0, hA, g, hr, hl, po⟩ := h
  have bd : Bd C ⟨H, A0, some x⟩ X true := ⟨hfn, ⟨fun b hb => let ⟨o, h1, h2, h3⟩ := hA b hb; ⟨o, h1, h2, fun z => h3 (by cases z; rfl)⟩⟩, fun z => nomatch z⟩
  have hr' : RepO C (fun b => A0 b ∨ b = x) H (.ins c []) (.ref x) := ⟨x, dx, [], rfl, hx0, by simp [RepF]⟩
  have s0 : (L2.start N (.ref x :: ws))[0]? = some (some (.ref x)) := rfl
  have r0 : (startE N.length (.ins c [] :: ds))[0]? = some (some (.ins c [])) := rfl
  have hsl : ∀ i d, (startE N.length (.ins c [] :: ds))[i + 1]? = some (some d) → ∃ v, (L2.start N (.ref x :: ws))[i + 1]? = some (some v) ∧ Rep C (fun b => A0 b ∨ b = x) H d v := fun i d e => by
    unfold startE at e
    rw [List.map_cons, List.cons_append, List.getElem?_cons_succ] at e
    have hi : i < ds.length := by
      by_cases hi : i < ds.length
      · exact hi
      · rw [List.getElem?_append_right (by simpa using hi), List.getElem?_replicate] at e
        split at e <;> cases e
    rw [List.getElem?_append_left (by simpa using hi), List.getElem?_map] at e
    cases e1 : ds[i]? with
    | none => rw [e1] at e; cases e
    | some d' =>
      rw [e1] at e
      cases e
      obtain ⟨v, hv, q⟩ := hr.get e1
      refine ⟨v, ?_, q⟩
      unfold L2.start
      rw [List.map_cons, List.cons_append, List.getElem?_cons_succ, List.getElem?_append_left (by rw [List.length_map, ← hr.length]; exact hi), List.getElem?_map, hv]
      rfl
  have av : ∀ b, AvO ⟨H, A0, some x⟩ [0] (startE N.length (.ins c [] :: ds)) (L2.start N (.ref x :: ws)) b → A0 b ∨ b = x := by
    rintro b (z | ⟨i, d, hi, _, _, z⟩)
    · exact .inl z
    · have : i = 0 := by simpa using hi
      subst this
      rw [s0] at z
      cases z
      exact .inr rfl
  refine ⟨_, sndSs hf hx bd body st [0] [0] o' hck, startE N.length (.ins c [] :: ds), ?_, ?_⟩
  · refine ⟨g, ?_, fun b o e _ _ => e, fun b e => e, fun b hb => let ⟨o, h1, h2, _⟩ := hA b hb; ⟨o, h1, h2⟩, fun i d e => ?_, fun i d a hi h1 h2 h3 => ?_, fun i1 i2 _ _ _ hi hi2 _ _ _ _ _ _ => ?_, fun y e => ?_⟩
    · unfold startE L2.start
      simp only [List.length_append, List.length_map, List.length_replicate, List.length_cons, hr.length]
    · cases i with
      | zero =>
        rw [r0] at e
        cases e
        exact ⟨_, s0, fun n => absurd (by simp) n, hr'.keep (.anti av) fun _ _ _ _ z _ => z⟩
      | succ i =>
        obtain ⟨v, h1, h2⟩ := hsl i d e
        exact ⟨v, h1, fun _ => h2.anti av, (h2.anti av).toO⟩
    · have : i = 0 := by simpa using hi
      subst this
      rw [s0] at h3
      cases h3
      exact .inr rfl
    · have z1 : i1 = 0 := by simpa using hi
      have z2 : i2 = 0 := by simpa using hi2
      rw [z1, z2]
    · cases e
      exact ⟨by simp, s0, _, dx, [], [], hx0, hx0⟩
  · rw [hc ds hl] at po
    have ek1 : ∀ {H' : Hp}, EntK ⟨H, A0, some x⟩ H' → (∀ b o, H b = some o → NoTbl o → b ≠ x → H' b = some o) ∧ (∀ b, Nw H' b → Nw H b) := fun ek => ⟨fun b o h1 h2 h3 => ek.ent b o h1 h2 fun z => h3 (by cases z; rfl), ek.dom⟩
    cases e : evSs Φ body (startE N.length (.ins c [] :: ds)) with
    | nx ρ' =>
      rw [e] at po
      cases o' with
      | none => exact trivial
      | some o =>
        intro σ' H' S _
        obtain ⟨m1, m2, A, dx', ys, zs, m3, m4⟩ := S.m0 x rfl
        have m3 : H x = some (.ins A dx' ys) := m3
        rw [hx0] at m3
        cases m3
        have po : (match (match getO ρ' 0 with
          | .ok (.ins k fs) => if k = c then R.ok (.ins c fs) else .bad
          | _ => .bad : R D) with
        | .ok d => ∀ H', (∀ b o, H b = some o → NoTbl o → b ≠ x → H' b = some o) → (∀ b, Nw H' b → Nw H b) → C.G H' →
            (∃ fs ys, d = .ins c fs ∧ H' x = some (.ins (C.cA c) dx ys) ∧ RepF C (fun b => A0 b ∨ b = x) H' fs ys) → Q .non H'
        | .exc k y => ∀ cls dd H', (∀ b o, H b = some o → NoTbl o → b ≠ x → H' b = some o) → (∀ b, Nw H' b → Nw H b) → C.G H' → ExR C k y cls dd H' → E cls dd H'
        | .bad => False) := po
        cases eg : getO ρ' 0 with
        | bad => rw [eg] at po; exact po.elim
        | exc k y => rw [eg] at po; exact po.elim
        | ok d =>
          rw [eg] at po
          have hρ := getO_ok eg
          obtain ⟨v, h1, h3⟩ := own_at S hρ
          rw [m2] at h1
          cases h1
          cases d with
          | ins k fs =>
            simp only at po
            by_cases hk : k = c
            · subst hk
              simp only [if_true] at po
              obtain ⟨a, dx2, ys2, e2, q2, q3⟩ := h3
              cases e2
              rw [m4] at q2
              cases q2
              exact po H' (ek1 S.entK).1 (ek1 S.entK).2 S.g ⟨fs, _, rfl, m4, q3.anti fun b z => z.elim .inl fun z => .inr ⟨0, _, m1, hρ, rfl, by rw [m2, z]⟩⟩
            · simp only [if_neg hk] at po
          | _ => exact po.elim
    | rt d ρ' => rw [e] at po; exact po.elim
    | bk ρ' => rw [e] at po; exact po.elim
    | ct ρ' => rw [e] at po; exact po.elim
    | exc k y =>
      rw [e] at po
      exact fun cls dd σ H' ek g' q => po cls dd H' (ek1 ek).1 (ek1 ek).2 g' q
    | bad => rw [e] at po; exact po.elim
end

/-- a def of the text -/
structure FdOk (C : Pc) (f : Nat) (N ps : List Str) (sc : Scope) (st : List Stmt) : Prop where
  lk : ∃ (oc : Value) (od : Option Addr) (name qual : Str) (params : Arguments) (dV kV doc pm : Value) (an : Option Addr) (cdv ct : Value) (osl : Array (Option Value)),
    C.K.lookup (C.fA f) = some ⟨oc, od, .func (PySem.W.fnOf name qual params st sc dV kV doc pm an cdv ct), osl⟩ ∧ PySem.W.codeIn C.K cdv qual = true ∧ C.fD f = PySem.W.fnOf name qual params st sc dV kV doc pm an cdv ct ∧
    (C.lam sc = true → ∃ c P, LamX.TabB C.base C.mg c P ∧ cdv = .ref c ∧ (P, (qual ++ ".<locals>.") ++ "<lambda>") ∈ C.T ∧ ∀ p ∈ C.T, p.1 = P → p.2 = (qual ++ ".<locals>.") ++ "<lambda>")
  psE : C.fP f = ps
  sc : FnScope N ps sc
section
variable {C : Pc} {Φ : Sm} {G : Gi} {cl : Bool} {j k f : Nat} {npf : Nat → Nat} {N ps : List Str} {sc : Scope} {X : Cx} {m fm : Mode} {body : ISs} {st : List Stmt} {o' : Option (List Nat)} {sp : Sp}
/-- a def keeps a promise that its body keeps -/
theorem fok_of (d : FdOk C f N ps sc st) (hcl : cl = true → C.hot = none) (hhot : cl = false → C.hot ≠ none) (len : ∀ vs H Q E, sp vs H Q E → vs.length = ps.length)
    (hb : ∀ (X : Cx) (vs : List V) (H : Hp) (Q : VK) (E : XK), XOk C cl k N sc (fun cls dd _ H' => E cls dd H') X → (∀ y, X.fn y = true) → sp vs H Q E → ∃ t, PSs X st t ∧ t { nx := fun _ H' => Q .non H', rt := Q } (L2.start N vs) H) : FOk C cl (k + 1) f sp := by
  obtain ⟨oc, od, name, qual, params, dV, kV, doc, pm, an, cdv, ct, osl, lk, hcd, hfd, hlam⟩ := d.lk
  have len' : ∀ vs H Q E, sp vs H Q E → vs.length = (C.fP f).length := fun vs H Q E h => by rw [d.psE]; exact len vs H Q E h
  unfold FOk
  split
  · rename_i hc
    rw [hfd, d.psE]
    refine fn_of lk hcd d.sc len fun A outer s H vs Q E hr hsp => hb _ vs H Q E ?_ (fun _ => rfl) hsp
    exact ⟨rfl, rfl, rfl, rfl, rfl, d.sc.nd, d.sc.kind, rfl, rfl, takes_of (E := E) rfl rfl rfl rfl, passes_of (K := fun e s'' => L2.CX C.prog C.w outer H s E e s'') rfl, L2H.roomH_of hr, fun _ => ⟨rfl, hr.hd⟩, hcl, fun z => (by rw [hc] at z; cases z), hlam⟩
  · rename_i hc
    have hc : cl = false := by simpa using hc
    refine ⟨len', fun A outer s H args us vs Q E p hp room pin e0 bind vals hsp => ?_⟩
    have nvs := len vs H Q E hsp
    have inK : C.K.In s.heap := e0.mod.kin.keeps fun b o e => (e0.bs b o e).1
    have nolim : s.heap.NoLimit := e0.mod.nolimit.keeps fun b o e => (e0.bs b o e).1
    rw [hfd, d.psE] at bind
    have kinds : ∀ y ∈ ps.zip us, sc.names.lookup y.1 = some .local ∨ (sc.names.lookup y.1 = some .cell ∧ ((cellsFrom (s.heap.objs.size + 1) sc.names []).lookup y.1).isSome = true) := by
      rintro ⟨n, v⟩ hy
      exact (d.sc.par n (List.of_mem_zip hy).1).imp id fun q => ⟨q, PySem.W.cellsFrom_some _ _ _ (.inl q)⟩
    refine codeAny_call_function room.depth (inK _ _ lk) rfl d.sc.co d.sc.gen rfl (PySem.W.codeRec_of inK hcd) (bind _ _ _ _ (wpAny_newFunctionEnv_cells d.sc.kind kinds fun env henv s1 inC => ?_))
    subst henv
    refine ⟨nolim.keeps inC.toInCall.keep, codeAny_func ?_⟩
    have hxo : XOk C cl k N sc (fun cls dd _ H' => E cls dd H') (L2H.cxH (L2.CX C.prog C.w) C.prog C.w C.K C.mg C.base N qual sc (C.fA f) cdv A outer s H E p) :=
      ⟨rfl, rfl, rfl, rfl, rfl, d.sc.nd, d.sc.kind, rfl, rfl, takes_of (E := E) rfl rfl rfl rfl, passes_of (K := fun e s'' => L2.CX C.prog C.w outer H s E e s'') rfl, room.deeper _, fun z => (by rw [hc] at z; cases z), hcl, fun _ => ⟨p, hp, by show p ∈ [p]; simp⟩, hlam⟩
    obtain ⟨t, pt, ht⟩ := hb _ vs H Q E hxo (fun _ => rfl) hsp
    have I := L2H.inv_startH (CX := L2.CX C.prog C.w) (E := E) (qual := qual) (f := C.fA f) (cd := cdv) d.sc pin e0 nvs vals inC
    have done : ∀ {σ' : L2.St} {H' : Hp} {v : V} {u : Value} {s' : Shared}, Inv (L2H.cxH (L2.CX C.prog C.w) C.prog C.w C.K C.mg C.base N qual sc (C.fA f) cdv A outer s H E p) [] σ' H' s' → RelV v u → Q v H' → CE outer C.prog C.w H s Q u s' :=
      fun {σ' H' v u s'} J rv q => ⟨v, H', J.os, J.bare, J.base, J.hok, rv, q⟩
    refine wpAny_mono (pt.run [] s1 _ H _ I ht) (fun fl s' hs => ?_) fun e s' hs => hs
    cases fl with
    | brk => obtain ⟨_, _, _, q⟩ := hs; exact q.elim
    | cont => obtain ⟨_, _, _, q⟩ := hs; exact q.elim
    | next =>
      obtain ⟨σ', H', J, q⟩ := hs
      exact done (v := V.non) (u := Value.none) J rfl q
    | ret u =>
      obtain ⟨v, σ', H', J, rv, q⟩ := hs
      exact done J rv q
theorem fok_bad {np : Nat} {call : List D → R D} (h : ∀ ds, call ds = .bad) : FOk C cl k f (SpF C m np call) := by
  have no : ∀ vs H Q E, ¬ SpF C m np call vs H Q E := by
    rintro vs H Q E ⟨ds, A0, _, _, _, _, po⟩
    rw [h ds] at po
    exact po
  unfold FOk
  split
  · exact ⟨fun vs H Q E z => absurd z (no _ _ _ _), fun _ _ _ _ _ _ vs Q E _ _ _ _ z => absurd z (no _ _ _ _)⟩
  · exact ⟨fun vs H Q E z => absurd z (no _ _ _ _), fun _ _ _ _ _ _ vs Q E _ _ _ _ _ _ _ z => absurd z (no _ _ _ _)⟩
end
end Vm

set_option maxRecDepth 100000
set_option maxHeartbeats 4000000
/-! VmX: the program's defs, all of them. -/
namespace Vm
open PySem PySem.Spec PyProof.Rows L2

/-- a def's text passes the check -/
structure DefOk (C : Pc) (G : Gi) (cl : Bool) (np : Nat → Nat) (f : Nat) (F : Fn) : Prop where
  ex : ∃ (N ps : List Str) (sc : Scope) (st : List Stmt) (o' : Option (List Nat)), FdOk C f N ps sc st ∧ F.np = ps.length ∧ np f = F.np ∧ F.ns = N.length ∧
    (F.init = false → ckSs G N cl false sc (G.fm f) [] [] F.body st = some o') ∧ (F.init = true → 0 < N.length ∧ ckSs G N cl true sc .s [0] [0] F.body st = some o')
structure Sx (C : Pc) (P : Prog) (G : Gi) (cl : Bool) (np : Nat → Nat) : Prop where
  fx : ∀ j call made hc, (∀ f, FOk C cl j f (SpF C (G.fm f) (np f) (call f))) → (∀ f ds, call f ds ≠ .bad → ds.length = np f) →
    (∀ c f, P.inits c = some f → FOk C cl j f (SpI C c (np f) (made c)) ∧ ∀ ds, made c ds ≠ .bad → ds.length + 1 = np f) →
    (cl = true → ∀ p f, FOk (C.at_ p) false j f (SpF (C.at_ p) (G.fm f) (np f) (hc f)) ∧ ∀ ds, hc f ds ≠ .bad → ds.length = np f) → Fx C (smOf P call made hc) G cl j np
  defs : ∀ f F, P.fns f = some F → DefOk C G cl np f F
  cold : cl = true → C.hot = none
  warm : cl = false → C.hot ≠ none
theorem spF_len {C : Pc} {m : Mode} {np : Nat} {call : List D → R D} : ∀ vs H Q E, SpF C m np call vs H Q E → vs.length = np := by
  rintro vs H Q E ⟨ds, A0, _, _, r, hl, _⟩
  rw [← r.length]
  exact hl
theorem spI_len {C : Pc} {c np : Nat} {call : List D → R D} : ∀ vs H Q E, SpI C c np call vs H Q E → vs.length = np := by
  rintro vs H Q E ⟨x, dx, ws, ds, A0, rfl, _, _, _, r, hl, _⟩
  rw [List.length_cons, ← r.length]
  exact hl
theorem fok_badI {C : Pc} {cl : Bool} {k f c np : Nat} {call : List D → R D} (h : ∀ ds, call ds = .bad) : FOk C cl k f (SpI C c np call) := by
  have no : ∀ vs H Q E, ¬ SpI C c np call vs H Q E := by
    rintro vs H Q E ⟨x, dx, ws, ds, A0, _, _, _, _, _, _, po⟩
    rw [h ds] at po
    exact po
  unfold FOk
  split
  · exact ⟨fun vs H Q E z => absurd z (no _ _ _ _), fun _ _ _ _ _ _ vs Q E _ _ _ _ z => absurd z (no _ _ _ _)⟩
  · exact ⟨fun vs H Q E z => absurd z (no _ _ _ _), fun _ _ _ _ _ _ vs Q E _ _ _ _ _ _ _ z => absurd z (no _ _ _ _)⟩
theorem fns_ok {C : Pc} {P : Prog} {G : Gi} {cl : Bool} {np : Nat → Nat} (S : Sx C P G cl np)
    (hH : cl = true → ∀ n p f, FOk (C.at_ p) false (4 * n) f (SpF (C.at_ p) (G.fm f) (np f) (callN (hotP P) n f)) ∧ ∀ ds, callN (hotP P) n f ds ≠ .bad → ds.length = np f) : ∀ n,
    (∀ f, FOk C cl (4 * n) f (SpF C (G.fm f) (np f) (callN P n f)) ∧ ∀ ds, callN P n f ds ≠ .bad → ds.length = np f) ∧
    (∀ c f, P.inits c = some f → FOk C cl (4 * n) f (SpI C c (np f) (mkN P n c)) ∧ ∀ ds, mkN P n c ds ≠ .bad → ds.length + 1 = np f)
  | 0 => ⟨fun f => ⟨fok_bad fun ds => by unfold callN; rfl, fun ds h => absurd (by unfold callN; rfl) h⟩, fun c f _ => ⟨fok_badI fun ds => by unfold mkN; rfl, fun ds h => absurd (by unfold mkN; rfl) h⟩⟩
  | n + 1 => by
    obtain ⟨ihF, ihI⟩ := fns_ok S hH n
    have fx := S.fx (4 * n) (callN P n) (mkN P n) (callN (hotP P) n) (fun f => (ihF f).1) (fun f => (ihF f).2) ihI fun z p f => hH z n p f
    refine ⟨fun f => ?_, fun c f hi => ?_⟩
    · cases hF : P.fns f with
      | none =>
        have hb : ∀ ds, callN P (n + 1) f ds = .bad := fun ds => by unfold callN; simp only [hF]
        exact ⟨fok_bad hb, fun ds h => absurd (hb ds) h⟩
      | some F =>
        obtain ⟨N, ps, sc, st, o', fd, h1, h2, h3, h4, _⟩ := (S.defs f F hF).ex
        have hc : ∀ ds, callN P (n + 1) f ds = if F.init = false ∧ ds.length = F.np then endR (evSs (smOf P (callN P n) (mkN P n) (callN (hotP P) n)) F.body (startE F.ns ds)) else .bad := fun ds => by
          conv => lhs; unfold callN
          simp only [hF]
        refine ⟨?_, fun ds h => ?_⟩
        · by_cases hini : F.init = false
          · refine fok_of (k := 4 * n + 3) fd S.cold S.warm (fun vs H Q E h => by rw [spF_len vs H Q E h, h2, h1]) fun X vs H Q E hx hfn h => run_body fx ⟨hx, by omega, fun _ => by omega⟩ hfn (h4 hini) (fun ds hl => ?_) h
            rw [hc, if_pos ⟨hini, by rw [hl, h2]⟩, h3]
          · exact fok_bad fun ds => by rw [hc, if_neg fun z => hini z.1]
        · rw [hc] at h
          by_cases z : F.init = false ∧ ds.length = F.np
          · rw [z.2, h2]
          · rw [if_neg z] at h
            exact absurd rfl h
    · cases hF : P.fns f with
      | none =>
        have hb : ∀ ds, mkN P (n + 1) c ds = .bad := fun ds => by unfold mkN; simp only [hi, hF]
        exact ⟨fok_badI hb, fun ds h => absurd (hb ds) h⟩
      | some F =>
        obtain ⟨N, ps, sc, st, o', fd, h1, h2, h3, _, h4⟩ := (S.defs f F hF).ex
        have hc : ∀ ds, mkN P (n + 1) c ds = if F.init = true ∧ ds.length + 1 = F.np then endI c (evSs (smOf P (callN P n) (mkN P n) (callN (hotP P) n)) F.body (startE F.ns (.ins c [] :: ds))) else .bad := fun ds => by
          conv => lhs; unfold mkN
          simp only [hi, hF]
        refine ⟨?_, fun ds h => ?_⟩
        · by_cases hini : F.init = true
          · refine fok_of (k := 4 * n + 3) fd S.cold S.warm (fun vs H Q E h => by rw [spI_len vs H Q E h, h2, h1]) fun X vs H Q E hx hfn h => run_init fx ⟨hx, by omega, fun _ => by omega⟩ hfn (h4 hini).2 (fun ds hl => ?_) (h4 hini).1 h
            rw [hc, if_pos ⟨hini, by rw [hl, h2]⟩, h3]
          · exact fok_badI fun ds => by rw [hc, if_neg fun z => hini z.1]
        · rw [hc] at h
          by_cases z : F.init = true ∧ ds.length + 1 = F.np
          · rw [z.2, h2]
          · rw [if_neg z] at h
            exact absurd rfl h
end Vm

set_option maxRecDepth 100000
set_option maxHeartbeats 4000000
/-! VmXA: a law's rows and their check. -/
namespace Vm
open PySem PySem.Spec PyProof.Rows L2

def ies : List IE → IEs
  | [] => .nil
  | e :: r => .cons e (ies r)
def iss : List IS → ISs
  | [] => .nil
  | e :: r => .cons e (iss r)
/-- a def: where it stands, its names, its parameters, its IR -/
structure Row where
  d : He5.DefA
  pl : Str × Option Str
  N : List Str
  ps : List Str
  F : Fn
def ckScope (N ps : List Str) (sc : Scope) : Bool :=
  (match sc.kind with | .function => true | _ => false) && !sc.isCoroutine && !sc.isGenerator && decide N.Nodup && decide (N.take ps.length = ps) && (ps.all fun x => sc.names.lookup x == some .local || sc.names.lookup x == some .cell) && sc.names.all fun y => !(y.2 == .free)
theorem ckScope_out {N ps : List Str} {sc : Scope} (h : ckScope N ps sc = true) : FnScope N ps sc := by
  unfold ckScope at h
  simp only [Bool.and_eq_true, decide_eq_true_eq, List.all_eq_true, Bool.not_eq_true', Bool.or_eq_true, beq_iff_eq] at h
  obtain ⟨⟨⟨⟨⟨⟨h1, h2⟩, h3⟩, h4⟩, h5⟩, h6⟩, h7⟩ := h
  refine ⟨?_, h2, h3, h4, h5, fun x hx => h6 x hx, fun y hy => ?_⟩
  · split at h1
    · assumption
    · cases h1
  · have := h7 y hy
    simpa using this
def ckRow (G : Gi) (cl : Bool) (f : Nat) (r : Row) : Bool :=
  ckScope r.N r.ps r.d.scope && decide (r.F.np = r.ps.length) && decide (r.F.ns = r.N.length) && (if r.F.init = true then decide (0 < r.N.length) && (ckSs G r.N cl true r.d.scope .s [0] [0] r.F.body r.d.body).isSome else (ckSs G r.N cl false r.d.scope (G.fm f) [] [] r.F.body r.d.body).isSome)
def ckRows (G : Gi) (cl : Bool) : Nat → List Row → Bool
  | _, [] => true
  | f, r :: rs => ckRow G cl f r && ckRows G cl (f + 1) rs
end Vm

set_option maxRecDepth 100000
set_option maxHeartbeats 4000000
/-! VmXB: a law's data, its program in the model, the facts by one Bool. -/
namespace Vm
open PySem PySem.Spec PyProof.Rows L2

/-- a law's data -/
structure Law where
  G : Gi
  rows : List Row
  hotL : List Nat
  inits : List (Option Nat)
  clL : List Str
  xcL : List Str
  glL : List (Str × D)
  meL : List (Nat × Nat × Nat)
  prL : List (Nat × Nat × Nat)
  atL : List (List Nat)
  xfL : List Nat
  suL : List (List Nat)
  woL : List (Nat × Nat × Nat)
  fuel : Nat
namespace Law
variable (L : Law)
def look3 (l : List (Nat × Nat × Nat)) (c m : Nat) : Option Nat := (l.find? fun t => decide (t.1 = c) && decide (t.2.1 = m)).map (·.2.2)
def wordOf (f : Nat) : Nat × Nat := ((L.woL.find? fun t => decide (t.1 = f)).map (·.2)).getD (0, 0)
def sm : Sm where
  call _ _ := .bad
  sh := L.G.sh
  made _ _ := .bad
  glb g := ((L.glL[g]?).map (·.2)).getD .non
  meth c m := look3 L.meL c m
  prop c f := look3 L.prL c f
  attrs c := L.atL.getD c []
  xfld c := L.xfL.getD c 0
  sub k c := (L.suL.getD k []).contains c
  xs := List.range L.xcL.length
  word := L.wordOf
  hcall _ _ := .bad
  fuel := L.fuel
/-- the program -/
def P : Prog := ⟨fun f => (L.rows[f]?).map (·.F), fun c => L.inits.getD c none, fun f => if L.hotL.contains f = true then (L.rows[f]?).map (·.F) else none, L.sm⟩
end Law

theorem look3_mem {l : List (Nat × Nat × Nat)} {c m g : Nat} (h : Law.look3 l c m = some g) : (c, m, g) ∈ l := by
  unfold Law.look3 at h
  cases e : l.find? fun t => decide (t.1 = c) && decide (t.2.1 = m) with
  | none => rw [e] at h; cases h
  | some t =>
    rw [e] at h
    have h1 := List.find?_some e
    have h2 := List.mem_of_find?_eq_some e
    simp only [Bool.and_eq_true, decide_eq_true_eq] at h1
    obtain ⟨rfl, rfl⟩ := h1
    cases h
    exact h2

/-- an address by a function's place -/
def fdOf (K : PySem.W.Frag) (a : Addr) : Option FuncData := match K.lookup a with
  | some ⟨_, _, .func fd, _⟩ => some fd
  | _ => none
def atOf (rows : List Row) (f : Nat) (K : PySem.W.Frag) : Addr := ((rows[f]?).map (·.d.at_ K)).getD 0
/-- a property's getter -/
def propAd (K : PySem.W.Frag) (p : Str × Option Str) : Addr := match PySem.W.recIn K (He.fAd K p) "property" with
  | some (.ref h :: _) => h
  | _ => 0
def fd0 : FuncData := PySem.W.fnOf "" "" ⟨[], [], none, [], [], none, []⟩ [] ⟨.function, [], false, false, []⟩ .none .none .none .none none .none .none
/-- the program in the model -/
def Law.C (L : Law) (inj : ∀ f g, f < L.G.nn → g < L.G.nn → L.G.nm f = L.G.nm g → f = g) (prog : Program) (w : World) (K : PySem.W.Frag) (mg : Str → Option Value) (base : Heap) (T : List (Addr × Str)) (hot : Option (Addr × Obj)) : Pc where
  prog := prog
  w := w
  K := K
  mg := mg
  base := base
  T := T
  lam := L.G.lam
  cA c := He.ga K (L.clL.getD c "")
  xA c := He.ga K (L.xcL.getD c "")
  nm := L.G.nm
  nn := L.G.nn
  inj := inj
  xf c := L.G.nm (L.xfL.getD c 0)
  fA f := atOf L.rows f K
  fD f := (fdOf K (atOf L.rows f K)).getD fd0
  fP f := ((L.rows[f]?).map (·.ps)).getD []
  hot := hot

/-! ### constants of the module -/
mutual
def kB (K : PySem.W.Frag) : D → Value → Bool
  | .int i, v => match v with
    | .int j _ => i == j
    | _ => false
  | .bl b, v => match v with
    | .bool c => b == c
    | _ => false
  | .str s, v => match v with
    | .str t _ => s == t
    | _ => false
  | .non, v => match v with
    | .none => true
    | _ => false
  | .tup ds, v => match v with
    | .ref a => match K.lookup a with
      | some ⟨.type c, _, .seq its _, _⟩ => decide (c = "tuple") && decide (its.size ≤ sizeLine) && kBs K ds its.toList
      | _ => false
    | _ => false
  | _, _ => false
def kBs (K : PySem.W.Frag) : List D → List Value → Bool
  | [], vs => vs.isEmpty
  | d :: ds, vs => match vs with
    | v :: vs => kB K d v && kBs K ds vs
    | [] => false
end
section
variable {C : Pc}
mutual
theorem kB_ok : ∀ (d : D) (u : Value), kB C.K d u = true → isMut d = false ∧ ∃ v, RelV v u ∧ ∀ Av H, Rep C Av H d v
  | .int i, u, h => by
    cases u <;> simp [kB] at h
    subst h
    exact ⟨rfl, .int i, ⟨_, rfl⟩, fun _ _ => by simp [Rep]⟩
  | .bl i, u, h => by
    cases u <;> simp [kB] at h
    subst h
    exact ⟨rfl, .bl i, rfl, fun _ _ => by simp [Rep]⟩
  | .str i, u, h => by
    cases u <;> simp [kB] at h
    subst h
    exact ⟨rfl, .str i, ⟨_, rfl⟩, fun _ _ => by simp [Rep]⟩
  | .non, u, h => by
    cases u <;> simp [kB] at h
    exact ⟨rfl, .non, rfl, fun _ _ => by simp [Rep]⟩
  | .tup ds, u, h => by
    cases u <;> simp only [kB] at h <;> try cases h
    rename_i a
    split at h
    · rename_i c od its n sl e
      simp only [Bool.and_eq_true, decide_eq_true_eq] at h
      obtain ⟨⟨rfl, h2⟩, h3⟩ := h
      obtain ⟨vs, h4, h5⟩ := kBs_ok ds _ h3
      refine ⟨rfl, .ref a, rfl, fun Av H => ?_⟩
      simp only [Rep]
      exact ⟨a, vs, rfl, .inr ⟨_, its, n, e, rfl, rfl, h2, h4⟩, h5 Av H⟩
    · cases h
  | .lst _, u, h => by simp [kB] at h
  | .ins _ _, u, h => by simp [kB] at h
  | .scr _, u, h => by simp [kB] at h
  | .exn _ _, u, h => by simp [kB] at h
theorem kBs_ok : ∀ (ds : List D) (us : List Value), kBs C.K ds us = true → ∃ vs, Vals vs us ∧ ∀ Av H, Reps C Av H ds vs
  | [], us, h => by
    simp only [kBs, List.isEmpty_iff] at h
    subst h
    exact ⟨[], .nil, fun _ _ => Reps.nil⟩
  | d :: ds, us, h => by
    cases us with
    | nil => simp [kBs] at h
    | cons u us =>
      simp only [kBs, Bool.and_eq_true] at h
      obtain ⟨_, v, h1, h2⟩ := kB_ok d u h.1
      obtain ⟨vs, h3, h4⟩ := kBs_ok ds us h.2
      exact ⟨v :: vs, .cons h1 h3, fun Av H => Reps.cons (h2 Av H) (h4 Av H)⟩
end
end

/-! ### the facts, by one Bool -/
def mgB (K : PySem.W.Frag) (x : Str) (v : Option Value) : Bool := decide (PySem.W.nsIn K mainGlobals x = some v)
def clsB (K : PySem.W.Frag) (x : Str) : Bool := (He.Fa.cls x).ok K
def propB (K : PySem.W.Frag) (C : Addr) (f : Str) (g : Addr) : Bool :=
  decide (PySem.W.findIn K (.ref C) f = some (some (.ref (He.ma K C f)))) && decide (PySem.W.specialIn K (.ref (He.ma K C f)) "__get__" = some (some (.builtin "property.__get__"))) && decide (PySem.W.takesIn K (.ref (He.ma K C f)) = some true) &&
    (match PySem.W.recIn K (He.ma K C f) "property" with | some (.ref h :: _) => decide (h = g) | _ => false)
def callB (K : PySem.W.Frag) (C g : Addr) : Bool := decide (PySem.W.findIn K (.ref C) "__call__" = some (some (.ref g))) && PySem.W.isFn K (.ref g) && PySem.W.fnIn K g
def methB (K : PySem.W.Frag) (C : Addr) (m : Str) (g : Addr) : Bool := decide (PySem.W.findIn K (.ref C) m = some (some (.ref g))) && PySem.W.isFn K (.ref g) && PySem.W.keepIn K (.ref g)
def mkB (K : PySem.W.Frag) (C g : Addr) : Bool := PySem.W.makesIn K C && decide (PySem.W.findIn K (.ref C) "__init__" = some (some (.ref g))) && PySem.W.isFn K (.ref g) && PySem.W.keepIn K (.ref C)
def excCB (K : PySem.W.Frag) (D : Addr) : Bool := decide (PySem.W.findIn K (.ref D) "__getattribute__" = some (some (.builtin "BaseException.__getattribute__"))) && decide (PySem.W.findIn K (.ref D) "__getattr__" = some none) && decide (PySem.W.subIn K (.ref D) (.type "BaseException") = some true) &&
  PySem.W.hasDictIn K D && decide (PySem.W.findIn K (.ref D) "__class__" = some (some (.builtin "object.__class__"))) && decide (PySem.W.specialIn K (.builtin "object.__class__") "__get__" = some (some (.builtin "getset_descriptor.__get__"))) && decide (PySem.W.takesIn K (.builtin "object.__class__") = some true) && decide (PySem.W.mroIn K D (.type "object") = some true)
def nodbg1 (x : Str) : Bool := !(x == "__debug__")
section
variable {K : PySem.W.Frag}
theorem propB_ok {C g : Addr} {f : Str} (h : propB K C f g = true) : ∃ p, PropOf K C f p g := by
  unfold propB at h
  simp only [Bool.and_eq_true, decide_eq_true_eq] at h
  obtain ⟨⟨⟨h1, h2⟩, h3⟩, h4⟩ := h
  refine ⟨_, h1, h2, h3, ?_⟩
  split at h4
  · rename_i g' rest e
    have := of_decide_eq_true h4
    subst this
    exact ⟨rest, e⟩
  · cases h4
theorem callB_ok {C g : Addr} (h : callB K C g = true) : StX.CallO K C g := by
  unfold callB at h
  simp only [Bool.and_eq_true, decide_eq_true_eq] at h
  exact ⟨h.1.1, h.1.2, h.2⟩
theorem methB_ok {C g : Addr} {m : Str} (h : methB K C m g = true) : Meth K C m g := by
  unfold methB at h
  simp only [Bool.and_eq_true, decide_eq_true_eq] at h
  exact ⟨h.1.1, h.1.2, h.2⟩
theorem mkB_ok {C g : Addr} (h : mkB K C g = true) : Mk K C g := by
  unfold mkB at h
  simp only [Bool.and_eq_true, decide_eq_true_eq] at h
  exact ⟨h.1.1.1, h.1.1.2, h.1.2, h.2⟩
theorem excCB_ok {D : Addr} (h : excCB K D = true) : ExcC K D := by
  unfold excCB at h
  simp only [Bool.and_eq_true, decide_eq_true_eq] at h
  obtain ⟨⟨⟨⟨⟨⟨⟨h1, h2⟩, h3⟩, h4⟩, h5⟩, h6⟩, h7⟩, h8⟩ := h
  exact ⟨h1, h2, h3, h4, h5, h6, h7, h8⟩
end
/-- all of the law's facts of K -/
def Law.ex (L : Law) (K : PySem.W.Frag) : Bool :=
  (L.rows.all fun r => (r.pl.2.isSome || (mgB K r.pl.1 (some (.ref (r.d.at_ K))) && nodbg1 r.pl.1)) && PySem.W.keepIn K (.ref (r.d.at_ K))) &&
  (L.clL.all fun x => mgB K x (some (.ref (He.ga K x))) && clsB K x && nodbg1 x) &&
  (L.inits.zipIdx.all fun p => match p.1 with | some f => mkB K (He.ga K (L.clL.getD p.2 "")) (atOf L.rows f K) | none => true) &&
  (L.meL.all fun t => decide (t.1 < L.clL.length) && L.G.plain t.2.2 && (if t.2.1 = callName then callB K (He.ga K (L.clL.getD t.1 "")) (atOf L.rows t.2.2 K) else decide (t.2.1 < L.G.nn) && methB K (He.ga K (L.clL.getD t.1 "")) (L.G.nm t.2.1) (atOf L.rows t.2.2 K))) &&
  (L.prL.all fun t => decide (t.1 < L.clL.length) && L.G.plain t.2.2 && L.G.isP t.2.1 && propB K (He.ga K (L.clL.getD t.1 "")) (L.G.nm t.2.1) (atOf L.rows t.2.2 K)) &&
  (L.atL.zipIdx.all fun p => p.1.all fun f => (Law.look3 L.prL p.2 f).isSome || (decide (p.2 < L.clL.length) && decide (f < L.G.nn) && decide (PySem.W.findIn K (.ref (He.ga K (L.clL.getD p.2 ""))) (L.G.nm f) = some none))) &&
  (L.glL.all fun p => match PySem.W.nsIn K mainGlobals p.1 with | some (some u) => kB K p.2 u && nodbg1 p.1 | _ => false) &&
  (L.xcL.zipIdx.all fun p => ((L.G.xname p.2).isNone || (He.Fa.exc p.1).ok K) && mgB K p.1 (some (.ref (He.ga K p.1))) && nodbg1 p.1 && excCB K (He.ga K p.1) && xfB K (He.ga K p.1) && decide (PySem.W.findIn K (.ref (He.ga K p.1)) (L.G.nm (L.xfL.getD p.2 0)) = some none)) &&
  (L.xcL.zipIdx.all fun p => (L.xcL.zipIdx.all fun q => decide (PySem.W.kitOne K (.ref (He.ga K p.1)) (.ref (He.ga K q.1)) = some ((L.suL.getD p.2 []).contains q.2))) && decide (PySem.W.kitOne K (.ref (He.ga K p.1)) (.type "ValueError") = some ((L.suL.getD p.2 []).contains L.xcL.length))) &&
  ((["range", "enumerate", "isinstance", "zip", "tuple", "int", "bool", "list", "str", "ValueError", "reversed"] : List Str).all fun x => mgB K x none) &&
  ([BI.len, .int1, .abs, .max2, .min2, .list1, .tuple1, .sortT, .gcd, .lcm, .sum, .str1, .all1, .any1, .maxL, .minL].all fun b => !L.G.bi b || (match b with | .gcd => mgB K "gcd" (some (.builtin "math.gcd")) | .lcm => mgB K "lcm" (some (.builtin "math.lcm")) | b => mgB K (biName b) none))
end Vm

set_option maxRecDepth 100000
set_option maxHeartbeats 4000000
/-! VmXC: the facts of a law's program. -/
namespace Vm
open PySem PySem.Spec PyProof.Rows L2

/-- the names lie as the data say -/
structure Law.Wf (L : Law) : Prop where
  fname : ∀ f x, L.G.fname f = some x → ∃ r, L.rows[f]? = some r ∧ r.pl = (x, none)
  gname : ∀ g, L.G.gname g = (L.glL[g]?).map (·.1)
  cname : ∀ c, L.G.cname c = L.clL[c]?
  xname : ∀ c x, L.G.xname c = some x → L.xcL[c]? = some x
  lamAt : ∀ r ∈ L.rows, L.G.lam r.d.scope = true → ∀ K, r.d.at_ K = He.fAd K r.pl
  xisn : ∀ c, L.G.xisn c = if c < L.xcL.length then (L.xcL[c]?).map (·, true) else if c = L.xcL.length then some ("ValueError", false) else none
  inj : ∀ f g, f < L.G.nn → g < L.G.nn → L.G.nm f = L.G.nm g → f = g
  prop : ∀ f, L.G.isP f = false → ∀ c, Law.look3 L.prL c f = none
  made : ∀ c x, L.G.cname c = some x → ∃ f, L.inits.getD c none = some f
def Law.np (L : Law) (f : Nat) : Nat := ((L.rows[f]?).map (·.F.np)).getD 0
abbrev Law.C' (L : Law) (wf : L.Wf) := L.C wf.inj

section
variable {L : Law} {K : PySem.W.Frag} {w : World} {mg : Str → Option Value} {base : Heap} {T : List (Addr × Str)} {hot : Option (Addr × Obj)} {prog : Program}
theorem mem_zipIdx {α : Type} {l : List α} {i : Nat} {a : α} (h : l[i]? = some a) : (a, i) ∈ l.zipIdx := by
  rw [List.mem_zipIdx_iff_getElem?]
  exact h
theorem getD_at {α : Type} {l : List α} {i : Nat} {a d : α} (h : l[i]? = some a) : l.getD i d = a := by
  rw [List.getD_eq_getElem?_getD, h]
  rfl
/-- all that ex tells, one by one -/
structure Law.Ex (L : Law) (K : PySem.W.Frag) : Prop where
  row : ∀ r ∈ L.rows, (r.pl.2.isSome || (mgB K r.pl.1 (some (.ref (r.d.at_ K))) && nodbg1 r.pl.1)) = true ∧ PySem.W.keepIn K (.ref (r.d.at_ K)) = true
  cl : ∀ x ∈ L.clL, (mgB K x (some (.ref (He.ga K x))) && clsB K x && nodbg1 x) = true
  ini : ∀ p ∈ L.inits.zipIdx, (match p.1 with | some f => mkB K (He.ga K (L.clL.getD p.2 "")) (atOf L.rows f K) | none => true) = true
  me : ∀ t ∈ L.meL, (decide (t.1 < L.clL.length) && L.G.plain t.2.2 && (if t.2.1 = callName then callB K (He.ga K (L.clL.getD t.1 "")) (atOf L.rows t.2.2 K) else decide (t.2.1 < L.G.nn) && methB K (He.ga K (L.clL.getD t.1 "")) (L.G.nm t.2.1) (atOf L.rows t.2.2 K))) = true
  pr : ∀ t ∈ L.prL, (decide (t.1 < L.clL.length) && L.G.plain t.2.2 && L.G.isP t.2.1 && propB K (He.ga K (L.clL.getD t.1 "")) (L.G.nm t.2.1) (atOf L.rows t.2.2 K)) = true
  at_ : ∀ p ∈ L.atL.zipIdx, ∀ f ∈ p.1, ((Law.look3 L.prL p.2 f).isSome || (decide (p.2 < L.clL.length) && decide (f < L.G.nn) && decide (PySem.W.findIn K (.ref (He.ga K (L.clL.getD p.2 ""))) (L.G.nm f) = some none))) = true
  gl : ∀ p ∈ L.glL, (match PySem.W.nsIn K mainGlobals p.1 with | some (some u) => kB K p.2 u && nodbg1 p.1 | _ => false) = true
  xc : ∀ p ∈ L.xcL.zipIdx, (((L.G.xname p.2).isNone || (He.Fa.exc p.1).ok K) && mgB K p.1 (some (.ref (He.ga K p.1))) && nodbg1 p.1 && excCB K (He.ga K p.1) && xfB K (He.ga K p.1) && decide (PySem.W.findIn K (.ref (He.ga K p.1)) (L.G.nm (L.xfL.getD p.2 0)) = some none)) = true
  su : ∀ p ∈ L.xcL.zipIdx, (∀ q ∈ L.xcL.zipIdx, PySem.W.kitOne K (.ref (He.ga K p.1)) (.ref (He.ga K q.1)) = some ((L.suL.getD p.2 []).contains q.2)) ∧ PySem.W.kitOne K (.ref (He.ga K p.1)) (.type "ValueError") = some ((L.suL.getD p.2 []).contains L.xcL.length)
  fr : ∀ x ∈ (["range", "enumerate", "isinstance", "zip", "tuple", "int", "bool", "list", "str", "ValueError", "reversed"] : List Str), mgB K x none = true
  bi : ∀ b : BI, L.G.bi b = true → (match b with | .gcd => mgB K "gcd" (some (.builtin "math.gcd")) | .lcm => mgB K "lcm" (some (.builtin "math.lcm")) | b => mgB K (biName b) none) = true
theorem Law.ex_out (h : L.ex K = true) : L.Ex K := by
  unfold Law.ex at h
  rw [Bool.and_eq_true, Bool.and_eq_true, Bool.and_eq_true, Bool.and_eq_true, Bool.and_eq_true, Bool.and_eq_true, Bool.and_eq_true, Bool.and_eq_true, Bool.and_eq_true, Bool.and_eq_true] at h
  obtain ⟨⟨⟨⟨⟨⟨⟨⟨⟨⟨h1, h2⟩, h3⟩, h4⟩, h5⟩, h6⟩, h7⟩, h8⟩, h9⟩, h10⟩, h11⟩ := h
  rw [List.all_eq_true] at h1 h2 h3 h4 h5 h6 h7 h8 h9 h10 h11
  refine ⟨fun r hr => by simpa only [Bool.and_eq_true] using h1 r hr, h2, h3, h4, h5, fun p hp => List.all_eq_true.mp (h6 p hp), h7, h8, fun p hp => ?_, h10, fun b hb => ?_⟩
  · have := h9 p hp
    rw [Bool.and_eq_true, List.all_eq_true] at this
    exact ⟨fun q hq => of_decide_eq_true (this.1 q hq), of_decide_eq_true this.2⟩
  · have hm : b ∈ [BI.len, .int1, .abs, .max2, .min2, .list1, .tuple1, .sortT, .gcd, .lcm, .sum, .str1, .all1, .any1, .maxL, .minL] := by cases b <;> simp
    have := h11 b hm
    rw [Bool.or_eq_true] at this
    rcases this with z | z
    · rw [hb] at z; cases z
    · exact z
theorem mgB_some (X : K.In base) (N : base.Ns mainGlobals mg) {x : Str} {v : Value} (h : mgB K x (some v) = true) : mg x = some v := PySem.W.mg_of X N (of_decide_eq_true h)
theorem mgB_none (X : K.In base) (N : base.Ns mainGlobals mg) {x : Str} (h : mgB K x none = true) : mg x = none := PySem.W.mg_none_of X N (of_decide_eq_true h)
theorem nodbg1_out {x : Str} (h : nodbg1 x = true) : (x == ("__debug__" : Str)) = false := by
  unfold nodbg1 at h
  simpa using h
/-- the facts -/
theorem Law.fx (wf : L.Wf) (ex : L.Ex K) (X : K.In base) (N : base.Ns mainGlobals mg) {cl : Bool} {j : Nat} {P : Prog} (hP : P.base = L.sm) {call made hc : Nat → List D → R D}
    (hpl : ∀ f, L.G.plain f = true → PlainOk (L.C' wf prog w K mg base T hot) f) (hsh : ∀ f s, L.G.shp f s = true → ShpOk (L.C' wf prog w K mg base T hot) f (L.G.sh s))
    (hsI : ∀ c f s, L.inits.getD c none = some f → L.G.shpI c s = true → ShpI (L.C' wf prog w K mg base T hot) f (L.G.sh s))
    (hfn : ∀ f, FOk (L.C' wf prog w K mg base T hot) cl j f (SpF (L.C' wf prog w K mg base T hot) (L.G.fm f) (L.np f) (call f))) (hlen : ∀ f ds, call f ds ≠ .bad → ds.length = L.np f)
    (hmk : cl = true → ∀ c f, L.inits.getD c none = some f → FOk (L.C' wf prog w K mg base T hot) cl j f (SpI (L.C' wf prog w K mg base T hot) c (L.np f) (made c)) ∧ ∀ ds, made c ds ≠ .bad → ds.length + 1 = L.np f)
    (href : cl = true → ∀ f x, L.G.rname f = some x → RefOk (L.C' wf prog w K mg base T hot) (smOf P call made hc) f x j) :
    Fx (L.C' wf prog w K mg base T hot) (smOf P call made hc) L.G cl j L.np := by
  obtain ⟨p1, p2, p3, p4⟩ := P
  have hP : p4 = L.sm := hP
  subst hP
  have clA : ∀ c, c < L.clL.length → ∃ x, L.clL[c]? = some x ∧ L.clL.getD c "" = x ∧ x ∈ L.clL := fun c h => ⟨_, List.getElem?_eq_getElem h, getD_at (List.getElem?_eq_getElem h), List.getElem_mem h⟩
  have clC : ∀ c, c < L.clL.length → Cls K (He.ga K (L.clL.getD c "")) := fun c h => by
    obtain ⟨x, h1, h2, h3⟩ := clA c h
    have := ex.cl x h3
    simp only [Bool.and_eq_true] at this
    rw [h2]
    exact He.cls_ok this.1.2
  have xcA : ∀ c, c ∈ List.range L.xcL.length → ∃ x, L.xcL[c]? = some x ∧ L.xcL.getD c "" = x ∧ (x, c) ∈ L.xcL.zipIdx := fun c h => by
    have h := List.mem_range.mp h
    exact ⟨_, List.getElem?_eq_getElem h, getD_at (List.getElem?_eq_getElem h), mem_zipIdx (List.getElem?_eq_getElem h)⟩
  refine ⟨fun _ => rfl, fun _ => rfl, ⟨fun c f hf hp => ?_, fun c f g hg => ?_, fun c m g hm hg => ?_, fun c g hg => ?_, fun c m g hg => ?_, hfn, hlen⟩, ⟨fun c hc => ?_, fun c hc => rfl⟩, fun _ => rfl, fun f x hf => ?_, hpl, hsh, fun g x hg => ?_, fun c x hc hcl => ?_, wf.prop, fun b hb => ?_, ?_, ⟨fun k hk => ?_, fun c x hc => ?_, fun c x hc => ?_⟩, href, mgB_none X N (ex.fr _ (by simp)), fun c x hc => ?_⟩
  · have hp : Law.look3 L.prL c f = none := hp
    have hf : f ∈ L.atL.getD c [] := hf
    cases e : L.atL[c]? with
    | none =>
      rw [List.getD_eq_getElem?_getD, e] at hf
      exact absurd hf (by simp)
    | some as =>
      rw [getD_at e] at hf
      have := ex.at_ _ (mem_zipIdx e) f hf
      rw [Bool.or_eq_true] at this
      rcases this with z | z
      · rw [hp] at z; cases z
      · simp only [Bool.and_eq_true, decide_eq_true_eq] at z
        exact ⟨z.1.2, clC c z.1.1, z.2⟩
  · have := ex.pr _ (look3_mem hg)
    simp only [Bool.and_eq_true, decide_eq_true_eq] at this
    exact ⟨clC c this.1.1.1, propB_ok this.2⟩
  · have := ex.me _ (look3_mem hg)
    simp only [Bool.and_eq_true, decide_eq_true_eq] at this
    rw [if_neg hm] at this
    obtain ⟨⟨h1, _⟩, h2⟩ := this
    simp only [Bool.and_eq_true, decide_eq_true_eq] at h2
    exact ⟨h2.1, clC c h1, methB_ok h2.2⟩
  · have := ex.me _ (look3_mem hg)
    simp only [Bool.and_eq_true, decide_eq_true_eq] at this
    rw [if_pos trivial] at this
    exact callB_ok this.2
  · refine hpl g ?_
    rcases hg with hg | hg
    · have := ex.me _ (look3_mem hg)
      simp only [Bool.and_eq_true] at this
      exact this.1.2
    · have := ex.pr _ (look3_mem hg)
      simp only [Bool.and_eq_true] at this
      exact this.1.1.2
  · obtain ⟨x, h1, h2, h3⟩ := xcA c hc
    have := ex.xc _ h3
    simp only [Bool.and_eq_true, decide_eq_true_eq] at this
    refine ⟨?_, ?_⟩
    · show XfC K (He.ga K (L.xcL.getD c ""))
      rw [h2]
      exact xfB_ok this.1.2
    · show PySem.W.findIn K (.ref (He.ga K (L.xcL.getD c ""))) (L.G.nm (L.xfL.getD c 0)) = some none
      rw [h2]
      exact this.2
  · obtain ⟨r, hr, ha⟩ := wf.fname f x hf
    have := ex.row r (List.mem_of_getElem? hr)
    have e : atOf L.rows f K = r.d.at_ K := by unfold atOf; rw [hr]; rfl
    obtain ⟨h1, h2⟩ := this
    rw [ha] at h1
    simp only [Option.isSome_none, Bool.false_or, Bool.and_eq_true] at h1
    refine ⟨?_, ?_, nodbg1_out h1.2⟩
    · show mg x = some (.ref (atOf L.rows f K))
      rw [e]
      exact mgB_some X N h1.1
    · show PySem.W.keepIn K (.ref (atOf L.rows f K)) = true
      rw [e]
      exact h2
  · rw [wf.gname] at hg
    cases e : L.glL[g]? with
    | none => rw [e] at hg; cases hg
    | some p =>
      rw [e] at hg
      cases hg
      have := ex.gl p (List.mem_of_getElem? e)
      split at this
      · rename_i u hu
        simp only [Bool.and_eq_true] at this
        obtain ⟨m, v, r, h⟩ := kB_ok (C := L.C' wf prog w K mg base T hot) p.2 u this.1
        have eg : (smOf ⟨p1, p2, p3, L.sm⟩ call made hc).glb g = p.2 := by
          show ((L.glL[g]?).map (·.2)).getD .non = p.2
          rw [e]
          rfl
        rw [eg]
        exact ⟨v, u, PySem.W.mg_of X N hu, r, h, m, nodbg1_out this.2⟩
      · cases this
  · obtain ⟨f, hf⟩ := wf.made c x hc
    obtain ⟨h1, h2⟩ := hmk hcl c f hf
    rw [wf.cname] at hc
    have h3 := ex.cl x (List.mem_of_getElem? hc)
    simp only [Bool.and_eq_true] at h3
    have hi : L.inits[c]? = some (some f) := by
      rw [List.getD_eq_getElem?_getD] at hf
      cases e : L.inits[c]? with
      | none => rw [e] at hf; cases hf
      | some o => rw [e] at hf; rw [show o = some f from hf]
    have h4 := ex.ini _ (mem_zipIdx hi)
    refine ⟨f, L.np f, h1, h2, mkB_ok h4, ?_, nodbg1_out h3.2, fun s hs => hsI c f s hf hs⟩
    show mg x = some (.ref (He.ga K (L.clL.getD c "")))
    rw [getD_at hc]
    exact mgB_some X N h3.1.1
  · have := ex.bi b hb
    cases b <;> first | exact mgB_none X N this | exact mgB_some X N this
  · have fr := fun x hx => mgB_none X N (ex.fr x hx)
    refine ⟨fr _ (by simp), fr _ (by simp), fr _ (by simp), fr _ (by simp), fun Ty => ?_⟩
    cases Ty <;> exact fr _ (by simp [tyName])
  · obtain ⟨x, h1, h2, h3⟩ := xcA k hk
    have := ex.xc _ h3
    simp only [Bool.and_eq_true] at this
    show ExcC K (He.ga K (L.xcL.getD k ""))
    rw [h2]
    exact excCB_ok this.1.1.2
  · rw [wf.xisn] at hc
    split at hc
    · rename_i hlt
      have e := List.getElem?_eq_getElem hlt
      rw [e] at hc
      cases hc
      have hx := ex.xc _ (mem_zipIdx e)
      simp only [Bool.and_eq_true] at hx
      refine ⟨?_, nodbg1_out hx.1.1.1.2, fun k hk => ?_⟩
      · show mg _ = some (.ref (He.ga K (L.xcL.getD c "")))
        rw [getD_at e]
        exact mgB_some X N hx.1.1.1.1.2
      · obtain ⟨y, h1, h2, h3⟩ := xcA k hk
        show PySem.W.kitOne K (.ref (He.ga K (L.xcL.getD k ""))) (.ref (He.ga K (L.xcL.getD c ""))) = some ((L.suL.getD k []).contains c)
        rw [h2, getD_at e]
        exact (ex.su _ h3).1 _ (mem_zipIdx e)
    · split at hc <;> cases hc
  · rw [wf.xisn] at hc
    split at hc
    · rename_i hlt
      rw [List.getElem?_eq_getElem hlt] at hc
      cases hc
    · split at hc
      · rename_i he
        cases hc
        refine ⟨"ValueError", mgB_none X N (ex.fr _ (by simp)), by decide +kernel, by decide, by decide, fun k hk => ?_⟩
        obtain ⟨y, h1, h2, h3⟩ := xcA k hk
        show PySem.W.kitOne K (.ref (He.ga K (L.xcL.getD k ""))) (.type "ValueError") = some ((L.suL.getD k []).contains c)
        rw [h2, he]
        exact (ex.su _ h3).2
      · cases hc
  · have hc0 := hc
    have hc := wf.xname c x hc
    have hx := ex.xc _ (mem_zipIdx hc)
    simp only [Bool.and_eq_true] at hx
    have hex := hx.1.1.1.1.1
    rw [hc0] at hex
    obtain ⟨e1, e2, e3, e4⟩ := He.exc_ok (by simpa using hex)
    have ec : L.xcL.getD c "" = x := getD_at hc
    refine ⟨⟨⟨_, _, _, _, PySem.F.excBase_ValueError, ?_⟩, ?_, ?_, ?_, ?_⟩, nodbg1_out hx.1.1.1.2⟩
    · show PySem.W.excIn K (He.ga K (L.xcL.getD c "")) _ _ = true
      rw [ec]
      exact e1
    · show mg x = some (.ref (He.ga K (L.xcL.getD c "")))
      rw [ec]
      exact mgB_some X N hx.1.1.1.1.2
    · show PySem.W.keepIn K (.ref (He.ga K (L.xcL.getD c ""))) = true
      rw [ec]; exact e2
    · show PySem.W.subIn K (.ref (He.ga K (L.xcL.getD c ""))) (.type "BaseException") = some true
      rw [ec]; exact e3
    · show PySem.W.typeIn K (.ref (He.ga K (L.xcL.getD c ""))) = some (.type "type")
      rw [ec]; exact e4
end
end Vm

set_option maxRecDepth 100000
set_option maxHeartbeats 4000000
/-! VmXD: a law's program keeps the evaluator's promise; the law's end. -/
namespace Vm
open PySem PySem.Spec PyProof.Rows L2

/-- the def's function object, by the head -/
abbrev FunR (K : PySem.W.Frag) (d : He5.DefA) : Prop := ∃ fd, FunD K d.name d.qual d.params d.body d.scope (d.dvs K) (d.kws K) (d.at_ K) fd
def Law.lrows (L : Law) : List Row := L.rows.filter fun r => L.G.lam r.d.scope
def Law.T (L : Law) (K : PySem.W.Frag) : List (Addr × Str) := L.lrows.map fun r => ((He.cT K r.pl).2, (r.d.qual ++ ".<locals>.") ++ "<lambda>")
def Law.tf (L : Law) : List He.Defn := L.lrows.map (·.pl)
def Law.tabNd (L : Law) (K : PySem.W.Frag) : Bool := decide ((L.lrows.map fun r => (He.cT K r.pl).2).Nodup)

section
variable {L : Law} {K : PySem.W.Frag} {w : World} {mg : Str → Option Value} {base : Heap} {hot : Option (Addr × Obj)} {prog : Program}
theorem nodup_at {α β : Type} {l : List α} {g : α → β} (h : (l.map g).Nodup) : ∀ a ∈ l, ∀ b ∈ l, g a = g b → a = b := by
  induction l with
  | nil => intro a ha; cases ha
  | cons x l ih =>
    rw [List.map_cons, List.nodup_cons] at h
    intro a ha b hb e
    rcases List.mem_cons.mp ha with ea | ha
    · rcases List.mem_cons.mp hb with eb | hb
      · rw [ea, eb]
      · exact absurd (List.mem_map.mpr ⟨b, hb, by rw [← e, ea]⟩) h.1
    · rcases List.mem_cons.mp hb with eb | hb
      · exact absurd (List.mem_map.mpr ⟨a, ha, by rw [e, eb]⟩) h.1
      · exact ih h.2 a ha b hb e
theorem at_row {f : Nat} {r : Row} (h : L.rows[f]? = some r) : atOf L.rows f K = r.d.at_ K := by
  unfold atOf
  rw [h]
  rfl
theorem fd_ok (wf : L.Wf) {f : Nat} {r : Row} (h : L.rows[f]? = some r) (F : FunR K r.d) (ck : ckScope r.N r.ps r.d.scope = true) (nd : L.tabNd K = true) (tb : ∀ p ∈ L.tf, LamX.TabB base mg (He.cT K p).1 (He.cT K p).2) :
    FdOk (L.C' wf prog w K mg base (L.T K) hot) f r.N r.ps r.d.scope r.d.body := by
  obtain ⟨fd, F⟩ := F
  obtain ⟨oc, od, dV, kV, doc, pm, an, cdv, ct, osl, hfd, lk, hcd, _, _⟩ := F.ex
  have ea := at_row (K := K) h
  have efd : fdOf K (atOf L.rows f K) = some fd := by
    unfold fdOf
    rw [ea, lk]
  refine ⟨⟨oc, od, r.d.name, r.d.qual, r.d.params, dV, kV, doc, pm, an, cdv, ct, osl, ?_, hcd, ?_, fun hl => ?_⟩, ?_, ckScope_out ck⟩
  · show K.lookup (atOf L.rows f K) = _
    rw [ea, lk, hfd]
  · show (fdOf K (atOf L.rows f K)).getD fd0 = _
    rw [efd, hfd]
    rfl
  · have hr : r ∈ L.lrows := List.mem_filter.mpr ⟨List.mem_of_getElem? h, hl⟩
    obtain ⟨c, ec⟩ := He.codeIn_ref hcd
    have hco : He.codeOf K r.pl = c := He.codeOf_eq (by rw [← wf.lamAt r (List.mem_of_getElem? h) hl K]; exact lk) (by rw [hfd]; exact ec)
    refine ⟨c, (He.cT K r.pl).2, ?_, ec, List.mem_map.mpr ⟨r, hr, rfl⟩, fun p hp e => ?_⟩
    · have := tb r.pl (List.mem_map.mpr ⟨r, hr, rfl⟩)
      rw [show (He.cT K r.pl).1 = c from hco] at this
      exact this
    · obtain ⟨r', hr', e'⟩ := List.mem_map.mp hp
      subst e'
      have := nodup_at (of_decide_eq_true nd) r' hr' r hr e
      rw [this]
  · show ((L.rows[f]?).map (·.ps)).getD [] = r.ps
    rw [h]
    rfl
theorem ckRows_at {G : Gi} {cl : Bool} : ∀ {rs : List Row} {k f : Nat} {r : Row}, ckRows G cl k rs = true → rs[f]? = some r → ckRow G cl (k + f) r = true
  | [], _, _, _, _, h => by simp at h
  | r0 :: rs, k, f, r, hc, h => by
    simp only [ckRows, Bool.and_eq_true] at hc
    cases f with
    | zero => cases h; exact hc.1
    | succ f =>
      have := ckRows_at (k := k + 1) (f := f) hc.2 (by simpa using h)
      rw [show k + (f + 1) = k + 1 + f by omega]
      exact this
theorem def_ok (wf : L.Wf) {cl : Bool} {f : Nat} {r : Row} (h : L.rows[f]? = some r) (F : FunR K r.d) (ck : ckRow L.G cl f r = true) (nd : L.tabNd K = true) (tb : ∀ p ∈ L.tf, LamX.TabB base mg (He.cT K p).1 (He.cT K p).2) :
    DefOk (L.C' wf prog w K mg base (L.T K) hot) L.G cl L.np f r.F := by
  unfold ckRow at ck
  simp only [Bool.and_eq_true, decide_eq_true_eq] at ck
  obtain ⟨⟨⟨c1, c2⟩, c3⟩, c4⟩ := ck
  have hnp : L.np f = r.F.np := by
    unfold Law.np
    rw [h]
    rfl
  by_cases hi : r.F.init = true
  · rw [if_pos hi] at c4
    simp only [Bool.and_eq_true, decide_eq_true_eq] at c4
    obtain ⟨o', ho⟩ := Option.isSome_iff_exists.mp c4.2
    exact ⟨r.N, r.ps, r.d.scope, r.d.body, o', fd_ok wf h F c1 nd tb, c2, hnp, c3, fun z => (by rw [hi] at z; cases z), fun _ => ⟨c4.1, ho⟩⟩
  · rw [if_neg hi] at c4
    obtain ⟨o', ho⟩ := Option.isSome_iff_exists.mp c4
    exact ⟨r.N, r.ps, r.d.scope, r.d.body, o', fd_ok wf h F c1 nd tb, c2, hnp, c3, fun _ => ho, fun z => absurd z hi⟩

/-- what is still to be told of the defs' parameters -/
structure Law.Bind (L : Law) (wf : L.Wf) (prog : Program) (w : World) (K : PySem.W.Frag) (mg : Str → Option Value) (base : Heap) : Prop where
  plain : ∀ hot f, L.G.plain f = true → PlainOk (L.C' wf prog w K mg base (L.T K) hot) f
  shp : ∀ hot f s, L.G.shp f s = true → ShpOk (L.C' wf prog w K mg base (L.T K) hot) f (L.G.sh s)
  shI : ∀ hot c f s, L.inits.getD c none = some f → L.G.shpI c s = true → ShpI (L.C' wf prog w K mg base (L.T K) hot) f (L.G.sh s)
  ref : ∀ (call made hc : Nat → List D → R D) (j : Nat), (∀ p f, FOk ((L.C' wf prog w K mg base (L.T K) none).at_ p) false j f (SpF ((L.C' wf prog w K mg base (L.T K) none).at_ p) (L.G.fm f) (L.np f) (hc f)) ∧ ∀ ds, hc f ds ≠ .bad → ds.length = L.np f) →
    ∀ f x, L.G.rname f = some x → RefOk (L.C' wf prog w K mg base (L.T K) none) (smOf L.P call made hc) f x j

theorem law_hot (wf : L.Wf) (ex : L.Ex K) (X : K.In base) (N : base.Ns mainGlobals mg) (F : ∀ r ∈ L.rows, FunR K r.d) (nd : L.tabNd K = true) (tb : ∀ p ∈ L.tf, LamX.TabB base mg (He.cT K p).1 (He.cT K p).2)
    (hck : ∀ f r, L.hotL.contains f = true → L.rows[f]? = some r → ckRow L.G false f r = true) (B : L.Bind wf prog w K mg base) (p : Addr × Obj) : Sx ((L.C' wf prog w K mg base (L.T K) none).at_ p) (hotP L.P) L.G false L.np := by
  refine ⟨fun j call made hc h1 h2 h3 h4 => Law.fx (hot := some p) (P := hotP L.P) wf ex X N rfl (B.plain _) (B.shp _) (B.shI _) h1 h2 (fun z => (nomatch z)) (fun z => (nomatch z)), fun f F' hF => ?_, fun z => (nomatch z), fun _ z => (nomatch z)⟩
  have hF : (if L.hotL.contains f = true then (L.rows[f]?).map (·.F) else none) = some F' := hF
  split at hF
  · rename_i hh
    cases e : L.rows[f]? with
    | none => rw [e] at hF; cases hF
    | some r =>
      rw [e] at hF
      cases hF
      exact def_ok (hot := some p) wf e (F r (List.mem_of_getElem? e)) (hck f r hh e) nd tb
  · cases hF
theorem law_cold (wf : L.Wf) (ex : L.Ex K) (X : K.In base) (N : base.Ns mainGlobals mg) (F : ∀ r ∈ L.rows, FunR K r.d) (nd : L.tabNd K = true) (tb : ∀ p ∈ L.tf, LamX.TabB base mg (He.cT K p).1 (He.cT K p).2)
    (hck : ckRows L.G true 0 L.rows = true) (B : L.Bind wf prog w K mg base) : Sx (L.C' wf prog w K mg base (L.T K) none) L.P L.G true L.np := by
  refine ⟨fun j call made hc h1 h2 h3 h4 => Law.fx (hot := none) (P := L.P) wf ex X N rfl (B.plain _) (B.shp _) (B.shI _) h1 h2 (fun _ => h3) (fun _ => B.ref call made hc j (h4 rfl)), fun f F' hF => ?_, fun _ => rfl, fun z => (nomatch z)⟩
  have hF : (L.rows[f]?).map (·.F) = some F' := hF
  cases e : L.rows[f]? with
  | none => rw [e] at hF; cases hF
  | some r =>
    rw [e] at hF
    cases hF
    have := ckRows_at hck e
    rw [Nat.zero_add] at this
    exact def_ok (hot := none) wf e (F r (List.mem_of_getElem? e)) this nd tb
/-- every def of the law, at each depth -/
theorem law_fns (wf : L.Wf) (ex : L.Ex K) (X : K.In base) (N : base.Ns mainGlobals mg) (F : ∀ r ∈ L.rows, FunR K r.d) (nd : L.tabNd K = true) (tb : ∀ p ∈ L.tf, LamX.TabB base mg (He.cT K p).1 (He.cT K p).2)
    (hck : ckRows L.G true 0 L.rows = true) (hckH : ∀ f r, L.hotL.contains f = true → L.rows[f]? = some r → ckRow L.G false f r = true) (B : L.Bind wf prog w K mg base) (n f : Nat) :
    FnOk prog w K mg base (L2.CX prog w) (4 * n) (atOf L.rows f K) ((fdOf K (atOf L.rows f K)).getD fd0) (((L.rows[f]?).map (·.ps)).getD []) (SpF (L.C' wf prog w K mg base (L.T K) none) (L.G.fm f) (L.np f) (callN L.P n f)) := by
  have h := ((fns_ok (law_cold wf ex X N F nd tb hck B) (fun _ n p => (fns_ok (law_hot wf ex X N F nd tb hckH B p) (fun z => nomatch z) n).1) n).1 f).1
  unfold FOk at h
  rw [if_pos rfl] at h
  exact h
/-- the law's promise -/
def spLawV (L : Law) (K : PySem.W.Frag) (n : Nat) : Sp := fun vs H Q _ => ∃ (a : Addr) (ns : List Int), vs = [.ref a] ∧ ns.length ≤ n ∧ (∀ z ∈ ns, Builtin.Int.intBits z ≤ 1048576) ∧ (∀ p ∈ L.tf, H (He.cT K p).2 = some (.tbl #[])) ∧ SqL K H a (ns.map V.int) ∧ ∀ H', Q (.bl true) H'
theorem law_at {l : PySem.W.OpenLaw} {n dep f : Nat} {x : Str} {fa : Addr} {h : Heap} {r : Row} (wf : L.Wf) (ex : L.Ex K) (X : K.In h) (F : ∀ r ∈ L.rows, FunR K r.d) (nd : L.tabNd K = true)
    (hT : ∀ p ∈ L.tf, h.get? (He.cT K p).2 = some { cls := .none, data := .fields #[] }) (nT : ∀ p ∈ L.tf, K.lookup (He.cT K p).2 = none) (hC : ∀ p ∈ L.tf, PySem.W.CodeHd h (He.cT K p).1 (He.cT K p).2)
    (hck : ckRows L.G true 0 L.rows = true) (hckH : ∀ f r, L.hotL.contains f = true → L.rows[f]? = some r → ckRow L.G false f r = true) (B : ∀ base : Heap, K.In base → base.Ns mainGlobals mg → L.Bind wf l.prog w K mg base)
    (hr : L.rows[f]? = some r) (hps : r.ps = [x]) (hnp : r.F.np = 1) (hfa : fa = r.d.at_ K) (hbind : ∀ (s : Shared) (u : Value), BindsTo s ((fdOf K (atOf L.rows f K)).getD fd0) ⟨[u], []⟩ [(x, u)])
    (math : ∀ ns : List Int, ns.length ≤ n → (∀ z ∈ ns, Builtin.Int.intBits z ≤ 1048576) → callN L.P dep f [.scr ns] = .ok (.bl true)) : LamX.LawAtS l w K (L2.CX l.prog w) (4 * dep) n x mg fa h := by
  refine ⟨(fdOf K (atOf L.rows f K)).getD fd0, L.tf.map fun p => He.cT K p, spLawV L K n, fun p hp => ?_, fun p hp => ?_, fun p hp => ?_, hbind, fun H a ns hl hb hH hS => ?_, fun base hK hN hTB => ?_⟩
  · obtain ⟨q, hq, rfl⟩ := List.mem_map.mp hp
    exact hT q hq
  · obtain ⟨q, hq, rfl⟩ := List.mem_map.mp hp
    exact nT q hq
  · obtain ⟨q, hq, rfl⟩ := List.mem_map.mp hp
    exact hC q hq
  · exact ⟨a, ns, rfl, hl, hb, fun p hp => hH _ (List.mem_map.mpr ⟨p, hp, rfl⟩), hS, fun _ => rfl⟩
  · have base_ok := law_fns (n := dep) (f := f) wf ex hK hN F nd (fun p hp => hTB _ (List.mem_map.mpr ⟨p, hp, rfl⟩)) hck hckH (B base hK hN)
    have e1 : atOf L.rows f K = fa := by rw [at_row hr, hfa]
    have e2 : ((L.rows[f]?).map (·.ps)).getD [] = [x] := by rw [hr, ← hps]; rfl
    rw [e1, e2] at base_ok
    rw [e1]
    refine base_ok.imp fun vs H Q E ⟨a, ns, hvs, hl, hb, hH, hS, hq⟩ => ?_
    subst hvs
    refine ⟨[.scr ns], fun _ => False, fun b hb => hb.elim, ?_, ?_, ?_, ?_⟩
    · intro p hp
      obtain ⟨r', hr', e⟩ := List.mem_map.mp hp
      subst e
      exact LamX.TabS.nil (hH r'.pl (List.mem_map.mpr ⟨r', hr', rfl⟩))
    · simp only [Reps, Rep, and_true]
      refine ⟨a, rfl, ?_⟩
      rcases hS with (z | ⟨o, z⟩) | z
      · exact .inl ⟨z, fun z => z⟩
      · exact .inr (.inl ⟨o, z⟩)
      · exact .inr (.inr (.inr z))
    · show 1 = L.np f
      unfold Law.np
      rw [hr]
      exact hnp.symm
    · rw [math ns hl hb]
      intro v H' _ _ q
      have q := q.o
      simp only [RepO, Rep] at q
      rw [q]
      exact hq H'
end
end Vm

set_option maxRecDepth 100000
set_option maxHeartbeats 4000000
/-! VmXE: how the defs' parameters are bound. -/
namespace Vm
open PySem PySem.Spec PyProof.Rows L2

section
variable {L : Law} {K : PySem.W.Frag} {w : World} {mg : Str → Option Value} {base : Heap} {hot : Option (Addr × Obj)} {prog : Program} {T : List (Addr × Str)}
/-- a row's function object -/
abbrev FunAt (K : PySem.W.Frag) (d : He5.DefA) (fd : FuncData) : Prop := FunD K d.name d.qual d.params d.body d.scope (d.dvs K) (d.kws K) (d.at_ K) fd
theorem fd_at {f : Nat} {r : Row} {fd : FuncData} (h : L.rows[f]? = some r) (F : FunAt K r.d fd) : (fdOf K (atOf L.rows f K)).getD fd0 = fd := by
  obtain ⟨oc, od, dV, kV, doc, pm, an, cdv, ct, osl, hfd, lk, _⟩ := F.ex
  unfold fdOf
  rw [at_row h, lk]
  rfl
theorem ps_at {f : Nat} {r : Row} (h : L.rows[f]? = some r) : ((L.rows[f]?).map (·.ps)).getD [] = r.ps := by
  rw [h]
  rfl
theorem plain_of (wf : L.Wf) {f : Nat} {r : Row} (h : L.rows[f]? = some r) (F : FunR K r.d) (hb : ∀ fd, FunAt K r.d fd → L2.Binds K fd r.ps []) : PlainOk (L.C' wf prog w K mg base T hot) f := by
  obtain ⟨fd, F⟩ := F
  intro s us hK hl
  have hl : us.length = (((L.rows[f]?).map (·.ps)).getD []).length := hl
  rw [ps_at h] at hl
  show BindsTo s ((fdOf K (atOf L.rows f K)).getD fd0) ⟨us, []⟩ ((((L.rows[f]?).map (·.ps)).getD []).zip us)
  rw [fd_at h F, ps_at h]
  have := hb fd F s us hK (by rw [List.append_nil]; exact hl)
  rwa [List.append_nil] at this
theorem binds_full {fd : FuncData} {ps : List Str} {xs : List V} (h : ∃ ds, Vals xs ds ∧ L2.Binds K fd ps ds) (hx : xs = []) : L2.Binds K fd ps [] := by
  obtain ⟨ds, h1, h2⟩ := h
  rw [hx] at h1
  cases h1
  exact h2
/-- a constant's place -/
theorem glo_rep (wf : L.Wf) (ex : L.Ex K) {x : Str} {ds : List D} (h : (x, .tup ds) ∈ L.glL) : ∀ Av H, Rep (L.C' wf prog w K mg base T hot) Av H (.tup ds) (.ref (He.ga K x)) := by
  have := ex.gl _ h
  split at this
  · rename_i u hu
    simp only [Bool.and_eq_true] at this
    obtain ⟨_, v, r, hr⟩ := kB_ok (C := L.C' wf prog w K mg base T hot) (.tup ds) u this.1
    cases u with
    | ref a =>
      have e : He.ga K x = a := by
        unfold He.ga
        rw [show PySem.W.nsIn K mainGlobals x = some (some (.ref a)) from hu]
      rw [e]
      have ev : V.ref a = v := Option.some.inj r.abs
      subst ev
      exact hr
    | _ => simp [kB] at this
  · cases this
/-- a call's shape, by the kit's binding rule -/
theorem shp_of (wf : L.Wf) {f : Nat} {r : Row} {S : Shp} {dv : Nat → V} {gV : List V → List V → List V} (h : L.rows[f]? = some r) (F : FunR K r.d)
    (hdv : ∀ n d, S.src[n]? = some (.dfl d) → ∀ Av H, Rep (L.C' wf prog w K mg base T hot) Av H d (dv n)) (hb : ∀ fd, FunAt K r.d fd → ∃ g, KBn K fd r.ps S.np S.ks g gV)
    (he : ∀ vs zs : List V, vs.length = S.np → zs.length = S.ks.length → gV vs zs = fillV dv 0 vs zs S.src) : ShpOk (L.C' wf prog w K mg base T hot) f S := by
  obtain ⟨fd, F⟩ := F
  obtain ⟨g, kb⟩ := hb fd F
  refine ⟨dv, hdv, fun s vs zs us ws hK r1 r2 l1 l2 => ⟨g us ws, ?_, ?_⟩⟩
  · rw [← he vs zs l1 l2]
    exact kb.rel r1 r2
  · show BindsTo s ((fdOf K (atOf L.rows f K)).getD fd0) ⟨us, S.ks.zip ws⟩ ((((L.rows[f]?).map (·.ps)).getD []).zip (g us ws))
    rw [fd_at h F, ps_at h]
    exact kb.to s us ws hK (by rw [← r1.length]; exact l1) (by rw [← r2.length]; exact l2)
theorem shI_of (wf : L.Wf) {f : Nat} {r : Row} {S : Shp} {dv : Nat → V} {gV : List V → List V → List V} (h : L.rows[f]? = some r) (F : FunR K r.d)
    (hdv : ∀ n d, S.src[n]? = some (.dfl d) → ∀ Av H, Rep (L.C' wf prog w K mg base T hot) Av H d (dv n)) (hb : ∀ fd, FunAt K r.d fd → ∃ g, KBn K fd r.ps (S.np + 1) S.ks g gV)
    (he : ∀ (v0 : V) (vs zs : List V), vs.length = S.np → zs.length = S.ks.length → gV (v0 :: vs) zs = v0 :: fillV dv 0 vs zs S.src) : ShpI (L.C' wf prog w K mg base T hot) f S := by
  obtain ⟨fd, F⟩ := F
  obtain ⟨g, kb⟩ := hb fd F
  refine ⟨dv, hdv, fun s u0 v0 vs zs us ws hK r0 r1 r2 l1 l2 => ⟨g (u0 :: us) ws, ?_, ?_⟩⟩
  · rw [← he v0 vs zs l1 l2]
    exact kb.rel (.cons r0 r1) r2
  · show BindsTo s ((fdOf K (atOf L.rows f K)).getD fd0) ⟨u0 :: us, S.ks.zip ws⟩ ((((L.rows[f]?).map (·.ps)).getD []).zip (g (u0 :: us) ws))
    rw [fd_at h F, ps_at h]
    exact kb.to s (u0 :: us) ws hK (by rw [List.length_cons, ← r1.length, l1]) (by rw [← r2.length]; exact l2)
/-- positional ones alone fill the parameters -/
theorem kbn_plain {fd : FuncData} {ps : List Str} (h : L2.Binds K fd ps []) : ∃ g, KBn K fd ps ps.length [] g (fun vs _ => vs) := by
  refine ⟨fun us _ => us, ⟨fun s us ws hK l1 l2 => ?_, fun r1 _ => r1⟩⟩
  have := h s us hK (by rw [List.append_nil]; exact l1)
  rwa [List.append_nil] at this
end
end Vm

set_option maxRecDepth 100000
set_option maxHeartbeats 4000000
/-! VmXF: small helps for a law's text. -/
namespace Vm
open PySem PySem.Spec PyProof.Rows L2

/-- more turns than any loop here makes -/
def fuel0 : Nat := 2 ^ 10000
theorem fname_of (l : List (Option Str)) (rows : List Row) (h : (l.zipIdx.all fun p => match p.1 with | none => true | some x => (match rows[p.2]? with | some r => decide (r.pl = (x, none)) | none => false)) = true) :
    ∀ f x, l.getD f none = some x → ∃ r, rows[f]? = some r ∧ r.pl = (x, none) := fun f x e => by
  rw [List.getD_eq_getElem?_getD] at e
  cases e1 : l[f]? with
  | none => rw [e1] at e; cases e
  | some o =>
    rw [e1] at e
    have e : o = some x := e
    subst e
    have := List.all_eq_true.mp h _ (mem_zipIdx e1)
    simp only at this
    cases e2 : rows[f]? with
    | none => rw [e2] at this; cases this
    | some r =>
      rw [e2] at this
      exact ⟨r, rfl, of_decide_eq_true this⟩
theorem xname_of (xo : List Nat) (xc : List Str) : ∀ c x, (if xo.contains c = true then xc[c]? else none) = some x → xc[c]? = some x := fun c x h => by
  split at h
  · exact h
  · cases h
theorem lam_at {L : Law} (h : ∀ r ∈ L.rows, L.G.lam r.d.scope = true → ∀ K, r.d.at_ K = He.fAd K r.pl) : ∀ r ∈ L.rows, L.G.lam r.d.scope = true → ∀ K, r.d.at_ K = He.fAd K r.pl := h
theorem nm_inj (l : List Str) (h : decide l.Nodup = true) : ∀ f g, f < l.length → g < l.length → l.getD f "" = l.getD g "" → f = g := fun f g hf hg e => by
  have h := of_decide_eq_true h
  rw [getD_at (List.getElem?_eq_getElem hf), getD_at (List.getElem?_eq_getElem hg)] at e
  exact (List.getElem_inj h).mp e
theorem prop_of {L : Law} (h : (L.prL.all fun t => L.G.isP t.2.1) = true) : ∀ f, L.G.isP f = false → ∀ c, Law.look3 L.prL c f = none := fun f hf c => by
  cases e : Law.look3 L.prL c f with
  | none => rfl
  | some g =>
    have := List.all_eq_true.mp h _ (look3_mem e)
    simp only at this
    rw [hf] at this
    cases this
theorem made_of {L : Law} (hc : ∀ c, L.G.cname c = L.clL[c]?) (h : ((List.range L.clL.length).all fun c => (L.inits.getD c none).isSome) = true) : ∀ c x, L.G.cname c = some x → ∃ f, L.inits.getD c none = some f := fun c x e => by
  rw [hc] at e
  obtain ⟨hl, _⟩ := List.getElem?_eq_some_iff.mp e
  exact Option.isSome_iff_exists.mp (List.all_eq_true.mp h c (List.mem_range.mpr hl))
end Vm

set_option maxRecDepth 100000
set_option maxHeartbeats 4000000
/-! VmXG: the head's hook for a law of this kind; the heap's part that is looked at is written by its places. -/
namespace Vm
open PySem PySem.Spec PyProof.Rows L2

abbrev AlV : Type := He.AlD × Bool
def KV (as : List Addr) (g : Addr → Option Obj) : PySem.W.Frag := He.frT g as
def obsV (as : List Addr) (fn : List He5.DefA) (tf : List He.Defn) (ex : PySem.W.Frag → Bool) (g : Addr → Option Obj) : AlV :=
  ((fn.all fun d => d.ok (KV as g), fn.map fun d => He5.fnA (KV as g) (d.at_ (KV as g))), ex (KV as g) && He.tabsB g tf (KV as g))
def valV (fn : List He5.DefA) : AlV := ((true, fn.map He5.DefA.val), true)
structure SaysV (fn : List He5.DefA) (tf : List He.Defn) (ex : PySem.W.Frag → Bool) (h : Heap) (K : PySem.W.Frag) : Prop where
  more : ex K = true
  hd : ∀ p ∈ tf, PySem.W.codeHdIn K (He.cT K p).1 (He.cT K p).2 = true
  out : ∀ p ∈ tf, K.lookup (He.cT K p).2 = none
  empty : ∀ p ∈ tf, h.get? (He.cT K p).2 = some { cls := .none, data := .fields #[] }
  d : ∀ d ∈ fn, FunR K d
theorem saysV_of {as : List Addr} {fn : List He5.DefA} {tf : List He.Defn} {ex : PySem.W.Frag → Bool} {h : Heap} (e : obsV as fn tf ex h.get? = valV fn) : SaysV fn tf ex h (KV as h.get?) := by
  have e1 : (fn.all fun d => d.ok (KV as h.get?)) = true := congrArg (fun z : AlV => z.1.1) e
  have e2 : (fn.map fun d => He5.fnA (KV as h.get?) (d.at_ (KV as h.get?))) = fn.map He5.DefA.val := congrArg (fun z : AlV => z.1.2) e
  have e3 : (ex (KV as h.get?) && He.tabsB h.get? tf (KV as h.get?)) = true := congrArg (fun z : AlV => z.2) e
  rw [Bool.and_eq_true] at e3
  obtain ⟨h1, h2⟩ := e3
  have key : ∀ p ∈ tf, PySem.W.codeHdIn (KV as h.get?) (He.cT (KV as h.get?) p).1 (He.cT (KV as h.get?) p).2 = true ∧ ∃ o, h.get? (He.cT (KV as h.get?) p).2 = some o ∧ He.emptyTab o = true := fun p hp => by
    have := List.all_eq_true.mp h2 p hp
    rw [Bool.and_eq_true] at this
    obtain ⟨h3, h4⟩ := this
    refine ⟨h3, ?_⟩
    cases q : h.get? (He.cT (KV as h.get?) p).2 with
    | none => rw [q] at h4; cases h4
    | some o => rw [q] at h4; exact ⟨o, rfl, h4⟩
  refine ⟨h1, fun p hp => (key p hp).1, fun p hp => ?_, fun p hp => ?_, fun d hd => ?_⟩
  · obtain ⟨_, o, q, z⟩ := key p hp
    exact He.frT_none q z
  · obtain ⟨_, o, q, z⟩ := key p hp
    rw [q, He.emptyTab_eq z]
  · obtain ⟨i, hi, ed⟩ := List.mem_iff_getElem.mp hd
    have h1 := List.all_eq_true.mp e1 d hd
    have h2 : (fn.map fun d => He5.fnA (KV as h.get?) (d.at_ (KV as h.get?)))[i]? = (fn.map He5.DefA.val)[i]? := by rw [e2]
    rw [List.getElem?_map, List.getElem?_map, List.getElem?_eq_getElem hi, ed] at h2
    exact He5.DefA.funD (Option.some.inj h2) h1
def hookV (as : List Addr) (fn : List He5.DefA) (tf : List He.Defn) (ex : PySem.W.Frag → Bool) : PySem.W.Hook where
  α := AlV
  obs := fun s => obsV as fn tf ex s.heap.get?
  val := fun _ => valV fn
  says := fun _ h => ∃ K : PySem.W.Frag, K.In h ∧ SaysV fn tf ex h K
  of := fun _ _ e => ⟨_, He.frT_in, saysV_of e⟩
  keeps := fun _ _ _ ⟨K, hK, c⟩ k => ⟨K, PySem.W.Frag.In.keeps hK k, ⟨c.more, c.hd, c.out, fun p hp => k _ _ (c.empty p hp), c.d⟩⟩
theorem obsV_eq {as : List Addr} {fn : List He5.DefA} {tf : List He.Defn} {ex : PySem.W.Frag → Bool} {g : Addr → Option Obj} {s : Shared} (h : ∀ a, g a = s.heap.get? a) : obsV as fn tf ex g = (hookV as fn tf ex).obs s := by
  obtain rfl : g = s.heap.get? := funext h
  rfl
end Vm

set_option maxRecDepth 100000
set_option maxHeartbeats 4000000
/-! VmXH: the def that calls a lambda and tells what it raises. -/
namespace Vm
open PySem PySem.Spec PyProof.Rows L2

/-- what the head must tell of it: where it stands, that its class catches -/
def refEx (L : Law) (K : PySem.W.Frag) (d : He5.DefA) (x : Str) (s : Nat) : Bool :=
  mgB K x (some (.ref (d.at_ K))) && (List.range L.xcL.length).all fun c => !((L.suL.getD c []).contains s) || decide (PySem.W.exmOne K (.ref (He.ga K (L.xcL.getD c ""))) (.ref (He.ga K (L.xcL.getD s ""))) = some true)
section
variable {L : Law} {K : PySem.W.Frag} {w : World} {mg : Str → Option Value} {base : Heap} {prog : Program} {T : List (Addr × Str)}
theorem ref_of (wf : L.Wf) (ex : L.Ex K) (X : K.In base) (N : base.Ns mainGlobals mg) {call made hc : Nat → List D → R D} {j : Nat} {d : He5.DefA} (F : FunR K d) {x a n e wn : Str} {f s wF jj : Nat} {r : Row} {p1 p2 p3 p4 p5 p6 p7 p8 p9 p10 p11 p12 : Pos}
    (hx : d.name = x) (hq : d.qual = x) (hb : d.body = refBody a e n wn jj p1 p2 p3 p4 p5 p6 p7 p8 p9 p10 p11 p12) (hbind : ∀ fd, FunAt K d fd → L2.Binds K fd [a] [])
    (hS : FnScope [a, n] [a] d.scope) (hva : Vis d.scope a) (hn : d.scope.names.lookup n = some .local) (he : d.scope.names.lookup e = some .globalImplicit) (hw : d.scope.names.lookup wn = some .globalImplicit)
    (hrx : refEx L K d x s = true) (hxc : L.xcL[s]? = some e) (hrow : L.rows[wF]? = some r) (hrl : r.pl = (wn, none)) (hword : L.wordOf f = (s, wF)) (dbg : (nodbg2 x && nodbg2 a && nodbg2 e && nodbg2 n && nodbg2 wn) = true) (hlam : L.G.lam d.scope = false)
    (hpl : L.G.plain wF = true) (hfr : L.G.fr wF = false) (hnp : L.np wF = 1) (B : ∀ f, L.G.plain f = true → PlainOk (L.C' wf prog w K mg base T none) f)
    (h4 : ∀ p f, FOk ((L.C' wf prog w K mg base T none).at_ p) false j f (SpF ((L.C' wf prog w K mg base T none).at_ p) (L.G.fm f) (L.np f) (hc f)) ∧ ∀ ds, hc f ds ≠ .bad → ds.length = L.np f) :
    RefOk (L.C' wf prog w K mg base T none) (smOf L.P call made hc) f x j := by
  have hwd : (smOf L.P call made hc).word f = (s, wF) := hword
  have hfm : L.G.fm wF = .s := by unfold Gi.fm; rw [hfr]; rfl
  unfold refEx at hrx
  rw [Bool.and_eq_true, List.all_eq_true] at hrx
  obtain ⟨hr1, hr2⟩ := hrx
  obtain ⟨fd, F⟩ := F
  have hbd := hbind fd F
  obtain ⟨oc, od, dV, kV, doc, pm, an, cdv, ct, osl, hfd, lk, hcd, _, _⟩ := F.ex
  have hke := F.kp
  rw [hx, hq, hb] at hfd
  rw [hq] at hcd
  subst hfd
  simp only [Bool.and_eq_true] at dbg
  have hmr := ex.row r (List.mem_of_getElem? hrow)
  rw [hrl] at hmr
  have hmw := hmr.1
  simp only [Option.isSome_none, Bool.false_or, Bool.and_eq_true] at hmw
  have hxe := ex.xc (e, s) (mem_zipIdx hxc)
  simp only [Bool.and_eq_true] at hxe
  have hfA : (L.C' wf prog w K mg base T none).fA wF = r.d.at_ K := at_row hrow
  have hge : He.ga K (L.xcL.getD s "") = He.ga K e := by rw [List.getD_eq_getElem?_getD, hxc]; rfl
  refine ⟨⟨a, e, n, wn, d.at_ K, He.ga K e, jj, p1, p2, p3, p4, p5, p6, p7, p8, p9, p10, p11, p12, d.params, d.scope, dV, kV, doc, pm, cdv, ct, oc, an, od, osl, mgB_some X N hr1, hke, lk, hcd, hbd, hS, hva, hn, he, hw, mgB_some X N hxe.1.1.1.1.2, ?_, ?_, dbg.1.1.1.1, dbg.1.1.1.2, dbg.1.1.2, dbg.1.2, dbg.2, ?_, hlam⟩, ?_, ?_, ?_⟩
  · rw [hwd, hfA]; exact mgB_some X N hmw.1
  · rw [hwd, hfA]; exact hmr.2
  · intro c hc' hsub
    rw [hwd] at hsub
    have hc' : c ∈ List.range L.xcL.length := hc'
    have hs : (L.suL.getD c []).contains s = true := hsub
    have := hr2 c hc'
    rw [hs] at this
    simp only [Bool.not_true, Bool.false_or, decide_eq_true_eq] at this
    rw [hge] at this
    exact this
  · rw [hwd]; exact B wF hpl
  · intro p
    rw [hwd]
    have := (h4 p wF).1
    rw [hfm, hnp] at this
    exact this
  · intro ds h
    rw [hwd] at h
    have := (h4 default wF).2 ds h
    rw [hnp] at this
    exact this
end
end Vm
/-! ### the head's run in parts -/
namespace Vm
open PySem PySem.W PyProof.Rows HandSHeadRun
/-- the run, seen through f -/
def SeenBy {β : Type} (r : PySem.W.OpenRow) (M : Nat) (w : World) (f : PySem.W.SharedT → β) (v : β) : Prop :=
  (wholeF (fun p => stepQ (denQ tabQ) p w) fenceQ M r.prog).map (fun x => f x.2) = some v
/-- the run and its looks, seen through f -/
def SeenAll {β : Type} (r : PySem.W.OpenRow) (q : Program) (M : Nat) (loose : List PySem.Str) (w : World) (f : PySem.W.SharedT → β) (v : β) : Prop :=
  (wholeF (fun p => stepQ (denQ tabQ) p w) fenceQ M r.prog).map (fun x => (looksF r.prog x.1.heap x.2.abs, HandSHeadRun.seenQ q loose (importedModules r.prog.main.body) (fun s => xlAt q [] s && recOk r.toRowW.records s) x.2.abs, f x.2)) = some (true, openGood q loose, v)
theorem run_join {r : PySem.W.OpenRow} {q : Program} {M : Nat} {n : List Addr} {loose : List PySem.Str} {w : World} {fn : List He5.DefA} {tf : List He.Defn} {ex : PySem.W.Frag → Bool}
    (h0 : SeenAll r q M loose w (fun _ => ()) ()) (h1 : SeenBy r M w (fun s => (obsV n fn tf (fun _ => true) (getT s)).1) (true, fn.map He5.DefA.val)) (h2 : SeenBy r M w (fun s => (obsV n [] tf ex (getT s)).2) true) :
    RunEqI r q (hookV n fn tf ex) (fun s => obsV n fn tf ex (getT s)) M loose w := by
  unfold SeenAll at h0
  unfold SeenBy at h1 h2
  unfold RunEqI
  cases e : wholeF (fun p => stepQ (denQ tabQ) p w) fenceQ M r.prog with
  | none => rw [e] at h0; cases h0
  | some x =>
    rw [e] at h0 h1 h2
    rw [Option.map_some] at h0 h1 h2 ⊢
    have h0 := Option.some.inj h0
    have h1 := Option.some.inj h1
    have h2 := Option.some.inj h2
    refine congrArg some ?_
    have a := congrArg Prod.fst h0
    have b := congrArg (fun z => z.2.1) h0
    exact Prod.ext a (Prod.ext b (Prod.ext h1 h2))
/-- the defs' function objects, told list by list -/
theorem seen_app {r : PySem.W.OpenRow} {M : Nat} {n : List Addr} {w : World} {f1 f2 : List He5.DefA} {tf : List He.Defn}
    (h1 : SeenBy r M w (fun s => (obsV n f1 tf (fun _ => true) (getT s)).1) (true, f1.map He5.DefA.val)) (h2 : SeenBy r M w (fun s => (obsV n f2 tf (fun _ => true) (getT s)).1) (true, f2.map He5.DefA.val)) :
    SeenBy r M w (fun s => (obsV n (f1 ++ f2) tf (fun _ => true) (getT s)).1) (true, (f1 ++ f2).map He5.DefA.val) := by
  unfold SeenBy at *
  cases e : wholeF (fun p => stepQ (denQ tabQ) p w) fenceQ M r.prog with
  | none => rw [e] at h1; cases h1
  | some x =>
    rw [e] at h1 h2
    rw [Option.map_some] at h1 h2 ⊢
    have h1 := Option.some.inj h1
    have h2 := Option.some.inj h2
    refine congrArg some ?_
    have a1 := congrArg Prod.fst h1
    have b1 := congrArg Prod.snd h1
    have a2 := congrArg Prod.fst h2
    have b2 := congrArg Prod.snd h2
    have a1 : (f1.all fun d => d.ok (KV n (getT x.2))) = true := a1
    have a2 : (f2.all fun d => d.ok (KV n (getT x.2))) = true := a2
    have b1 : (f1.map fun d => He5.fnA (KV n (getT x.2)) (d.at_ (KV n (getT x.2)))) = f1.map He5.DefA.val := b1
    have b2 : (f2.map fun d => He5.fnA (KV n (getT x.2)) (d.at_ (KV n (getT x.2)))) = f2.map He5.DefA.val := b2
    refine Prod.ext ?_ ?_
    · show ((f1 ++ f2).all fun d => d.ok (KV n (getT x.2))) = true
      rw [List.all_append, a1, a2]; rfl
    · show ((f1 ++ f2).map fun d => He5.fnA (KV n (getT x.2)) (d.at_ (KV n (getT x.2)))) = (f1 ++ f2).map He5.DefA.val
      rw [List.map_append, b1, b2, List.map_append]
theorem seen_and {r : PySem.W.OpenRow} {M : Nat} {n : List Addr} {w : World} {tf : List He.Defn} {e1 e2 : PySem.W.Frag → Bool}
    (h1 : SeenBy r M w (fun s => (obsV n [] tf e1 (getT s)).2) true) (h2 : SeenBy r M w (fun s => e2 (KV n (getT s))) true) : SeenBy r M w (fun s => (obsV n [] tf (fun K => e1 K && e2 K) (getT s)).2) true := by
  unfold SeenBy at *
  cases e : wholeF (fun p => stepQ (denQ tabQ) p w) fenceQ M r.prog with
  | none => rw [e] at h1; cases h1
  | some x =>
    rw [e] at h1 h2
    rw [Option.map_some] at h1 h2 ⊢
    have h1 := Option.some.inj h1
    have h2 := Option.some.inj h2
    refine congrArg some ?_
    have h1 : (e1 (KV n (getT x.2)) && He.tabsB (getT x.2) tf (KV n (getT x.2))) = true := h1
    show ((e1 (KV n (getT x.2)) && e2 (KV n (getT x.2))) && He.tabsB (getT x.2) tf (KV n (getT x.2))) = true
    rw [Bool.and_eq_true] at h1
    have h2 : e2 (KV n (getT x.2)) = true := h2
    rw [h1.1, h1.2, h2]
    rfl
end Vm

set_option maxHeartbeats 200000
/-! MaA: fractions as Rat: their normal form, their sizes. No program in sight. -/
namespace Ma

/-! ### normal form -/
def gcdS (n d : Int) : Int := if d < 0 then -((Nat.gcd n.natAbs d.natAbs : Nat) : Int) else ((Nat.gcd n.natAbs d.natAbs : Nat) : Int)
theorem gcdS_ne {n d : Int} (h : d ≠ 0) : gcdS n d ≠ 0 := by
  have : 0 < Nat.gcd n.natAbs d.natAbs := Nat.gcd_pos_of_pos_right _ (by omega)
  unfold gcdS; split <;> omega
theorem gcdS_dvd_l (n d : Int) : gcdS n d ∣ n := by
  have : ((Nat.gcd n.natAbs d.natAbs : Nat) : Int) ∣ n := Int.ofNat_dvd_left.mpr (Nat.gcd_dvd_left _ _)
  unfold gcdS; split
  · exact Int.neg_dvd.mpr this
  · exact this
theorem gcdS_dvd_r (n d : Int) : gcdS n d ∣ d := by
  have : ((Nat.gcd n.natAbs d.natAbs : Nat) : Int) ∣ d := Int.ofNat_dvd_left.mpr (Nat.gcd_dvd_right _ _)
  unfold gcdS; split
  · exact Int.neg_dvd.mpr this
  · exact this
theorem fdiv_of_dvd {a b : Int} (h : b ∣ a) : a.fdiv b = a / b := by
  rw [Int.fdiv_eq_ediv]
  simp [h]
theorem eq_of_mul {n d : Int} (hd : d ≠ 0) {q : Rat} : (q = Rat.divInt n d) ↔ q.num * d = n * q.den := by
  have := Rat.divInt_eq_divInt_iff (n₁ := q.num) (n₂ := n) (d₁ := (q.den : Int)) (d₂ := d) (by have := q.den_nz; omega) hd
  rw [Rat.num_divInt_den] at this
  exact this
/-- a pair in lowest terms with the due quotient is the normal form -/
theorem norm_uniq {n d a b : Int} (hd : d ≠ 0) (hb : 0 < b) (hc : Nat.gcd a.natAbs b.natAbs = 1) (h : a * d = n * b) : (Rat.divInt n d).num = a ∧ ((Rat.divInt n d).den : Int) = b := by
  have e : Rat.divInt n d = ⟨a, b.toNat, by omega, by rw [show b.toNat = b.natAbs by omega]; exact hc⟩ := by
    apply Eq.symm
    rw [eq_of_mul hd]
    show a * d = n * (b.toNat : Int)
    rw [show ((b.toNat : Nat) : Int) = b by omega]
    exact h
  rw [e]
  exact ⟨rfl, by show ((b.toNat : Nat) : Int) = b; omega⟩
theorem frac_norm {n d : Int} (hd : d ≠ 0) : (Rat.divInt n d).num = n.fdiv (gcdS n d) ∧ ((Rat.divInt n d).den : Int) = d.fdiv (gcdS n d) := by
  have h0 := gcdS_ne (n := n) hd
  obtain ⟨a, ha⟩ := gcdS_dvd_l n d
  obtain ⟨b, hb⟩ := gcdS_dvd_r n d
  have ea : n.fdiv (gcdS n d) = a := by
    rw [fdiv_of_dvd (gcdS_dvd_l n d)]; conv => lhs; arg 1; rw [ha]
    exact Int.mul_ediv_cancel_left _ h0
  have eb : d.fdiv (gcdS n d) = b := by
    rw [fdiv_of_dvd (gcdS_dvd_r n d)]; conv => lhs; arg 1; rw [hb]
    exact Int.mul_ediv_cancel_left _ h0
  have gpos : 0 < Nat.gcd n.natAbs d.natAbs := Nat.gcd_pos_of_pos_right _ (by omega)
  have gabs : (gcdS n d).natAbs = Nat.gcd n.natAbs d.natAbs := by unfold gcdS; split <;> omega
  rw [ea, eb]
  refine norm_uniq hd ?_ ?_ ?_
  · by_cases hn : d < 0
    · have : gcdS n d < 0 := by unfold gcdS; rw [if_pos hn]; omega
      rcases Int.lt_or_le 0 b with h | h
      · exact h
      · exfalso
        have := Int.mul_nonneg_of_nonpos_of_nonpos (Int.le_of_lt this) h
        omega
    · have hg : 0 < gcdS n d := by unfold gcdS; rw [if_neg hn]; omega
      rcases Int.lt_or_le 0 b with h | h
      · exact h
      · exfalso
        have := Int.mul_nonpos_of_nonneg_of_nonpos (Int.le_of_lt hg) h
        omega
  · have e1 : n.natAbs = Nat.gcd n.natAbs d.natAbs * a.natAbs := by
      conv => lhs; rw [ha]
      rw [Int.natAbs_mul, gabs]
    have e2 : d.natAbs = Nat.gcd n.natAbs d.natAbs * b.natAbs := by
      conv => lhs; rw [hb]
      rw [Int.natAbs_mul, gabs]
    have h3 : Nat.gcd n.natAbs d.natAbs * Nat.gcd a.natAbs b.natAbs = Nat.gcd n.natAbs d.natAbs := by
      rw [← Nat.gcd_mul_left, ← e1, ← e2]
    exact Nat.eq_of_mul_eq_mul_left gpos (by rw [h3, Nat.mul_one])
  · rw [show a * d = a * (gcdS n d * b) from congrArg _ hb, show n * b = gcdS n d * a * b from congrArg (· * b) ha]
    simp only [Int.mul_comm, Int.mul_left_comm]
/-- Euclid's loop, as the laws write it -/
theorem low_norm {n d : Int} (hd : 0 < d) {g : Int} (hg : g = ((Nat.gcd n.natAbs d.natAbs : Nat) : Int)) : (Rat.divInt n d).num = n.fdiv g ∧ ((Rat.divInt n d).den : Int) = d.fdiv g := by
  have := frac_norm (n := n) (d := d) (by omega)
  have e : gcdS n d = g := by unfold gcdS; rw [if_neg (by omega), hg]
  rw [e] at this
  exact this

/-! ### the operations -/
theorem add_eq (a b : Rat) : a + b = Rat.divInt (a.num * b.den + b.num * a.den) (a.den * b.den) := by
  rw [Rat.add_def']; exact (Rat.divInt_ofNat _ _).symm
theorem sub_eq (a b : Rat) : a - b = Rat.divInt (a.num * b.den - b.num * a.den) (a.den * b.den) := by
  rw [Rat.sub_def']; exact (Rat.divInt_ofNat _ _).symm
theorem mul_eq (a b : Rat) : a * b = Rat.divInt (a.num * b.num) (a.den * b.den) := by
  rw [Rat.mul_def']; exact (Rat.divInt_ofNat _ _).symm
theorem div_eq (a b : Rat) : a / b = Rat.divInt (a.num * b.den) (a.den * b.num) := by
  rw [Rat.div_def, Rat.inv_def]
  conv => lhs; rw [← Rat.num_divInt_den a, Rat.divInt_mul_divInt]
theorem div_eq' (a b : Rat) : a / b = Rat.divInt (-a.num * b.den) (-a.den * b.num) := by
  rw [div_eq, ← Rat.neg_divInt_neg, Int.neg_mul, Int.neg_mul]
theorem den_pos' (a : Rat) : (0 : Int) < a.den := by have := a.den_pos; omega
theorem den_ne (a : Rat) : (a.den : Int) ≠ 0 := by have := a.den_pos; omega
theorem dd_pos (a b : Rat) : (0 : Int) < a.den * b.den := Int.mul_pos (den_pos' a) (den_pos' b)
theorem lt_iff' (a b : Rat) : (a.num * b.den < b.num * a.den) ↔ a < b := (Rat.lt_iff a b).symm
theorem le_iff' (a b : Rat) : (a.num * b.den ≤ b.num * a.den) ↔ a ≤ b := (Rat.le_iff a b).symm
theorem ext_iff' {a b : Rat} : (a.num = b.num ∧ a.den = b.den) ↔ a = b := ⟨fun h => Rat.ext h.1 h.2, fun h => h ▸ ⟨rfl, rfl⟩⟩

/-! ### sizes -/
def Sz (k : Nat) (q : Rat) : Prop := q.num.natAbs < 2 ^ k ∧ q.den < 2 ^ k
theorem Sz.mono {k l : Nat} {q : Rat} (h : Sz k q) (hl : k ≤ l) : Sz l q :=
  ⟨Nat.lt_of_lt_of_le h.1 (Nat.pow_le_pow_right (by decide) hl), Nat.lt_of_lt_of_le h.2 (Nat.pow_le_pow_right (by decide) hl)⟩
theorem natAbs_divInt_le (n d : Int) (hd : d ≠ 0) : (Rat.divInt n d).num.natAbs ≤ n.natAbs ∧ (Rat.divInt n d).den ≤ d.natAbs := by
  obtain ⟨h1, h2⟩ := frac_norm (n := n) hd
  rw [fdiv_of_dvd (gcdS_dvd_l n d)] at h1
  rw [fdiv_of_dvd (gcdS_dvd_r n d)] at h2
  constructor
  · rw [h1]; exact Int.natAbs_ediv_le_natAbs _ _
  · have := Int.natAbs_ediv_le_natAbs d (gcdS n d)
    omega
theorem sz_divInt {n d : Int} {k : Nat} (hd : d ≠ 0) (h1 : n.natAbs < 2 ^ k) (h2 : d.natAbs < 2 ^ k) : Sz k (Rat.divInt n d) := by
  obtain ⟨a, b⟩ := natAbs_divInt_le n d hd
  exact ⟨Nat.lt_of_le_of_lt a h1, Nat.lt_of_le_of_lt b h2⟩
theorem two_pow_add (k l : Nat) : 2 ^ (k + l) = 2 ^ k * 2 ^ l := Nat.pow_add 2 k l
theorem mul_lt_pow {a b k l : Nat} (ha : a < 2 ^ k) (hb : b < 2 ^ l) : a * b < 2 ^ (k + l) := by
  rw [two_pow_add]
  exact Nat.mul_lt_mul'' ha hb
theorem Sz.mul {k l : Nat} {a b : Rat} (ha : Sz k a) (hb : Sz l b) : Sz (k + l) (a * b) := by
  rw [mul_eq]
  refine sz_divInt (Int.ne_of_gt (dd_pos a b)) ?_ ?_
  · rw [Int.natAbs_mul]; exact mul_lt_pow ha.1 hb.1
  · rw [Int.natAbs_mul, Int.natAbs_natCast, Int.natAbs_natCast]; exact mul_lt_pow ha.2 hb.2
theorem natAbs_add_lt {x y : Int} {k : Nat} (h1 : x.natAbs < 2 ^ k) (h2 : y.natAbs < 2 ^ k) : (x + y).natAbs < 2 ^ (k + 1) := by
  rw [Nat.pow_succ]; omega
theorem natAbs_sub_lt {x y : Int} {k : Nat} (h1 : x.natAbs < 2 ^ k) (h2 : y.natAbs < 2 ^ k) : (x - y).natAbs < 2 ^ (k + 1) := by
  rw [Nat.pow_succ]; omega
theorem cross_lt {k l : Nat} {a b : Rat} (ha : Sz k a) (hb : Sz l b) : (a.num * (b.den : Int)).natAbs < 2 ^ (k + l) := by
  rw [Int.natAbs_mul, Int.natAbs_natCast]; exact mul_lt_pow ha.1 hb.2
theorem cross_lt' {k l : Nat} {a b : Rat} (ha : Sz k a) (hb : Sz l b) : (b.num * (a.den : Int)).natAbs < 2 ^ (k + l) := by
  rw [Nat.add_comm]; exact cross_lt hb ha
theorem dd_lt {k l : Nat} {a b : Rat} (ha : Sz k a) (hb : Sz l b) : ((a.den : Int) * (b.den : Int)).natAbs < 2 ^ (k + l) := by
  rw [Int.natAbs_mul, Int.natAbs_natCast, Int.natAbs_natCast]; exact mul_lt_pow ha.2 hb.2
theorem Sz.add {k l : Nat} {a b : Rat} (ha : Sz k a) (hb : Sz l b) : Sz (k + l + 1) (a + b) := by
  rw [add_eq]
  exact sz_divInt (Int.ne_of_gt (dd_pos a b)) (natAbs_add_lt (cross_lt ha hb) (cross_lt' ha hb)) (Nat.lt_of_lt_of_le (dd_lt ha hb) (Nat.pow_le_pow_right (by decide) (by omega)))
theorem Sz.sub {k l : Nat} {a b : Rat} (ha : Sz k a) (hb : Sz l b) : Sz (k + l + 1) (a - b) := by
  rw [sub_eq]
  exact sz_divInt (Int.ne_of_gt (dd_pos a b)) (natAbs_sub_lt (cross_lt ha hb) (cross_lt' ha hb)) (Nat.lt_of_lt_of_le (dd_lt ha hb) (Nat.pow_le_pow_right (by decide) (by omega)))
theorem Sz.pos {k : Nat} {a : Rat} (h : Sz k a) : 0 < k := by
  have := h.2; have := a.den_pos
  rcases Nat.eq_zero_or_pos k with e | e
  · subst e; omega
  · exact e
theorem Sz.div {k l : Nat} {a b : Rat} (ha : Sz k a) (hb : Sz l b) : Sz (k + l) (a / b) := by
  by_cases h : b = 0
  · subst h
    rw [show a / 0 = 0 by grind]
    have : 2 ≤ 2 ^ (k + l) := by
      have := ha.pos
      calc 2 = 2 ^ 1 := rfl
        _ ≤ _ := Nat.pow_le_pow_right (by decide) (by omega)
    exact ⟨by show 0 < _; omega, by show 1 < _; omega⟩
  · rw [div_eq]
    have hn : b.num ≠ 0 := fun z => h (Rat.num_eq_zero.mp z)
    refine sz_divInt (Int.mul_ne_zero (den_ne a) hn) ?_ ?_
    · exact cross_lt ha hb
    · rw [Int.natAbs_mul, Int.natAbs_natCast]; exact mul_lt_pow ha.2 hb.1
theorem log2_lt {n k : Nat} (h : n < 2 ^ k) (hk : 0 < k) : n.log2 < k := by
  rcases Nat.eq_zero_or_pos n with e | e
  · subst e; simpa using hk
  · exact (Nat.log2_lt (by omega)).mpr h
end Ma

/-! MaB: falling concave chains of points; what lies under them. No program in sight. -/
namespace Ma
abbrev Pt := Rat × Rat
def turn (a b c : Pt) : Rat := (b.1 - a.1) * (c.2 - a.2) - (b.2 - a.2) * (c.1 - a.1)
/-- q lies to the right of p and below it -/
def Falls (p q : Pt) : Prop := p.1 < q.1 ∧ q.2 < p.2
def Conc : List Pt → Prop
  | [] => True
  | p :: r => r.Pairwise (fun q s => turn p q s < 0) ∧ Conc r
def edges : List Pt → List (Pt × Pt)
  | p :: q :: r => (p, q) :: edges (q :: r)
  | _ => []
def yAt (p q : Pt) (x : Rat) : Rat := p.2 + (q.2 - p.2) * ((x - p.1) / (q.1 - p.1))
def xAt (p q : Pt) (y : Rat) : Rat := p.1 + (q.1 - p.1) * ((y - p.2) / (q.2 - p.2))
def high : List Pt → Rat → Rat
  | [], _ => 0
  | [p], _ => p.2
  | p :: q :: r, x => if x ≤ p.1 then p.2 else if x ≤ q.1 then yAt p q x else high (q :: r) x
def lastP : List Pt → Pt
  | [] => (0, 0)
  | [p] => p
  | _ :: q :: r => lastP (q :: r)
def headP : List Pt → Pt
  | [] => (0, 0)
  | p :: _ => p
def topP (c : List Pt) : Pt := ((lastP c).1, (headP c).2)
/-- a falling concave chain -/
structure Ch (c : List Pt) : Prop where
  ne : c ≠ []
  fall : c.Pairwise Falls
  conc : Conc c
/-- below the line through an edge -/
def Under (e : Pt × Pt) (p : Pt) : Prop := (e.1.2 - e.2.2) * (p.1 - e.1.1) + (e.2.1 - e.1.1) * (p.2 - e.1.2) ≤ 0
def OnLine (e : Pt × Pt) (p : Pt) : Prop := (e.1.2 - e.2.2) * (p.1 - e.1.1) + (e.2.1 - e.1.1) * (p.2 - e.1.2) = 0
/-- in the lot -/
structure InS (c : List Pt) (p : Pt) : Prop where
  x : p.1 ≤ (lastP c).1
  y : p.2 ≤ (headP c).2
  u : ∀ e ∈ edges c, Under e p

theorem mul_le_mul_left' {a b c : Rat} (h : a ≤ b) (hc : 0 ≤ c) : c * a ≤ c * b := Rat.mul_le_mul_of_nonneg_left h hc
theorem mul_nn {a b : Rat} (ha : 0 ≤ a) (hb : 0 ≤ b) : 0 ≤ a * b := Rat.mul_nonneg ha hb
theorem mul_pp {a b : Rat} (ha : 0 < a) (hb : 0 < b) : 0 < a * b := Rat.mul_pos ha hb
theorem pos_of_mul {a b : Rat} (ha : 0 < a) (h : 0 < a * b) : 0 < b := (Rat.mul_pos_iff_of_pos_left ha).mp h
theorem nn_of_mul {a b : Rat} (ha : 0 < a) (h : 0 ≤ a * b) : 0 ≤ b := by
  apply Rat.not_lt.mp
  intro hb
  have := (Rat.mul_neg_iff_of_pos_left ha).mpr hb
  grind

theorem Ch.tail {p q : Pt} {r : List Pt} (h : Ch (p :: q :: r)) : Ch (q :: r) :=
  ⟨List.cons_ne_nil _ _, (List.pairwise_cons.mp h.fall).2, h.conc.2⟩
theorem Ch.falls {p q : Pt} {r : List Pt} (h : Ch (p :: q :: r)) : Falls p q := (List.pairwise_cons.mp h.fall).1 q (List.mem_cons_self ..)
theorem edges_mem {c : List Pt} : ∀ {e}, e ∈ edges c → e.1 ∈ c ∧ e.2 ∈ c := by
  induction c with
  | nil => intro e h; cases h
  | cons p c ih =>
    intro e h
    cases c with
    | nil => cases h
    | cons q r =>
      rcases List.mem_cons.mp h with h | h
      · subst h; exact ⟨List.mem_cons_self .., List.mem_cons_of_mem _ (List.mem_cons_self ..)⟩
      · exact ⟨List.mem_cons_of_mem _ (ih h).1, List.mem_cons_of_mem _ (ih h).2⟩
/-- what holds of each two holds of an edge's ends -/
theorem edges_pair {R : Pt → Pt → Prop} {c : List Pt} (h : c.Pairwise R) : ∀ {e}, e ∈ edges c → R e.1 e.2 := by
  induction c with
  | nil => intro e h; cases h
  | cons p c ih =>
    intro e he
    cases c with
    | nil => cases he
    | cons q r =>
      rw [List.pairwise_cons] at h
      rcases List.mem_cons.mp he with he | he
      · subst he; exact h.1 q (List.mem_cons_self ..)
      · exact ih h.2 he
theorem Ch.edge_falls {c : List Pt} (h : Ch c) {e} (he : e ∈ edges c) : Falls e.1 e.2 := edges_pair h.fall he
theorem lastP_mem {c : List Pt} (h : c ≠ []) : lastP c ∈ c := by
  induction c with
  | nil => exact absurd rfl h
  | cons p c ih =>
    cases c with
    | nil => exact List.mem_cons_self ..
    | cons q r => exact List.mem_cons_of_mem _ (ih (List.cons_ne_nil _ _))
theorem headP_mem {c : List Pt} (h : c ≠ []) : headP c ∈ c := by
  cases c with
  | nil => exact absurd rfl h
  | cons p c => exact List.mem_cons_self ..
theorem Ch.le_last {c : List Pt} (h : Ch c) : ∀ p ∈ c, p.1 ≤ (lastP c).1 ∧ (lastP c).2 ≤ p.2 := by
  induction c with
  | nil => intro p hp; cases hp
  | cons p c ih =>
    cases c with
    | nil => intro q hq; simp only [List.mem_singleton] at hq; subst hq; exact ⟨Rat.le_refl, Rat.le_refl⟩
    | cons q r =>
      have h1 := ih h.tail
      have h2 := h.falls
      have h3 := h1 q (List.mem_cons_self ..)
      intro s hs
      rcases List.mem_cons.mp hs with hs | hs
      · subst hs; show s.1 ≤ (lastP (q :: r)).1 ∧ _; unfold Falls at h2; constructor
        · grind
        · show (lastP (q :: r)).2 ≤ s.2; grind
      · exact h1 s hs
theorem Ch.le_head {c : List Pt} (h : Ch c) : ∀ p ∈ c, (headP c).1 ≤ p.1 ∧ p.2 ≤ (headP c).2 := by
  cases c with
  | nil => intro p hp; cases hp
  | cons p c =>
    intro s hs
    rcases List.mem_cons.mp hs with hs | hs
    · subst hs; exact ⟨Rat.le_refl, Rat.le_refl⟩
    · have := (List.pairwise_cons.mp h.fall).1 s hs
      exact ⟨Rat.le_of_lt this.1, Rat.le_of_lt this.2⟩
/-- each corner lies under each edge -/
theorem Ch.under {c : List Pt} (h : Ch c) : ∀ e ∈ edges c, ∀ p ∈ c, Under e p := by
  induction c with
  | nil => intro e he; cases he
  | cons p c ih =>
    cases c with
    | nil => intro e he; cases he
    | cons q r =>
      have hf := h.falls
      intro e he s hs
      rcases List.mem_cons.mp he with he' | he'
      · subst he'
        rcases List.mem_cons.mp hs with hs | hs
        · subst hs; unfold Under; grind
        · rcases List.mem_cons.mp hs with hs | hs
          · subst hs; unfold Under; grind
          · have := (List.pairwise_cons.mp h.conc.1).1 s hs
            unfold turn at this
            unfold Under
            grind
      · rcases List.mem_cons.mp hs with hs | hs
        · subst hs
          have := edges_pair h.conc.1 he'
          unfold turn at this
          unfold Under
          grind
        · exact ih h.tail e he' s hs

theorem yAt_iff {p q : Pt} (h : p.1 < q.1) (x y : Rat) : y ≤ yAt p q x ↔ Under (p, q) (x, y) := by
  have h1 : 0 < q.1 - p.1 := by grind
  have h2 : (q.1 - p.1) * ((x - p.1) / (q.1 - p.1)) = x - p.1 := by grind
  have h3 : (q.1 - p.1) * yAt p q x = (q.1 - p.1) * p.2 + (q.2 - p.2) * (x - p.1) := by
    unfold yAt; grind
  unfold Under
  constructor
  · intro h4
    have := mul_le_mul_left' h4 (Rat.le_of_lt h1)
    simp only []
    grind
  · intro h4
    simp only [] at h4
    have : (q.1 - p.1) * y ≤ (q.1 - p.1) * yAt p q x := by grind
    exact Rat.le_of_mul_le_mul_left this h1
theorem yAt_on {p q : Pt} (h : p.1 < q.1) (x : Rat) : OnLine (p, q) (x, yAt p q x) := by
  have h2 : (q.1 - p.1) * ((x - p.1) / (q.1 - p.1)) = x - p.1 := by grind
  have h3 : (q.1 - p.1) * yAt p q x = (q.1 - p.1) * p.2 + (q.2 - p.2) * (x - p.1) := by
    unfold yAt; grind
  unfold OnLine
  simp only []
  grind
/-- between two points of a half plane -/
theorem under_mix {e : Pt × Pt} (he : Falls e.1 e.2) {p q s : Pt} (hp : Under e p) (hq : Under e q) (hf : p.1 < q.1) (h1 : p.1 ≤ s.1) (h2 : s.1 ≤ q.1) (hs : Under (p, q) s) : Under e s := by
  have hb : 0 < e.2.1 - e.1.1 := by unfold Falls at he; grind
  have hd : 0 < q.1 - p.1 := by grind
  have k1 := mul_nn (a := q.1 - s.1) (b := -((e.1.2 - e.2.2) * (p.1 - e.1.1) + (e.2.1 - e.1.1) * (p.2 - e.1.2))) (by grind) (by unfold Under at hp; grind)
  have k2 := mul_nn (a := s.1 - p.1) (b := -((e.1.2 - e.2.2) * (q.1 - e.1.1) + (e.2.1 - e.1.1) * (q.2 - e.1.2))) (by grind) (by unfold Under at hq; grind)
  have k3 := mul_nn (a := e.2.1 - e.1.1) (b := -((p.2 - q.2) * (s.1 - p.1) + (q.1 - p.1) * (s.2 - p.2))) (Rat.le_of_lt hb) (by unfold Under at hs; simp only [] at hs; grind)
  unfold Under
  have : 0 ≤ (q.1 - p.1) * -((e.1.2 - e.2.2) * (s.1 - e.1.1) + (e.2.1 - e.1.1) * (s.2 - e.1.2)) := by grind
  have := nn_of_mul hd this
  grind
theorem under_mono {e : Pt × Pt} (he : Falls e.1 e.2) {p s : Pt} (hp : Under e p) (h1 : s.1 ≤ p.1) (h2 : s.2 ≤ p.2) : Under e s := by
  unfold Falls at he
  have k1 := mul_nn (a := e.1.2 - e.2.2) (b := p.1 - s.1) (by grind) (by grind)
  have k2 := mul_nn (a := e.2.1 - e.1.1) (b := p.2 - s.2) (by grind) (by grind)
  unfold Under at *
  grind
/-- the lot by its height is the lot by its edges -/
theorem Ch.in_iff {c : List Pt} (h : Ch c) (s : Pt) : (s.1 ≤ (lastP c).1 ∧ s.2 ≤ high c s.1) ↔ InS c s := by
  induction c with
  | nil => exact absurd rfl h.ne
  | cons p c ih =>
    cases c with
    | nil => exact ⟨fun hh => ⟨hh.1, hh.2, fun e he => nomatch he⟩, fun hh => ⟨hh.x, hh.y⟩⟩
    | cons q r =>
      have hf := h.falls
      have ih := ih h.tail
      have hun := h.under
      have hlast := (h.tail.le_last q (List.mem_cons_self ..))
      show (s.1 ≤ (lastP (q :: r)).1 ∧ s.2 ≤ (if s.1 ≤ p.1 then p.2 else if s.1 ≤ q.1 then yAt p q s.1 else high (q :: r) s.1)) ↔ _
      by_cases h1 : s.1 ≤ p.1
      · rw [if_pos h1]
        constructor
        · intro ⟨a, b⟩
          refine ⟨a, b, fun e he => under_mono (h.edge_falls he) (hun e he p (List.mem_cons_self ..)) h1 b⟩
        · intro hh; exact ⟨hh.x, hh.y⟩
      · rw [if_neg h1]
        by_cases h2 : s.1 ≤ q.1
        · rw [if_pos h2]
          constructor
          · intro ⟨a, b⟩
            have hu : Under (p, q) s := (yAt_iff hf.1 s.1 s.2).mp b
            refine ⟨a, ?_, fun e he => ?_⟩
            · show s.2 ≤ p.2
              unfold Under Falls at *
              have k1 := mul_nn (a := p.2 - q.2) (b := s.1 - p.1) (by grind) (by grind)
              have : 0 ≤ (q.1 - p.1) * (p.2 - s.2) := by simp only [] at hu; grind
              have := nn_of_mul (by grind) this
              grind
            · exact under_mix (h.edge_falls he) (hun e he p (List.mem_cons_self ..)) (hun e he q (List.mem_cons_of_mem _ (List.mem_cons_self ..))) hf.1 (by grind) h2 hu
          · intro hh
            exact ⟨hh.x, (yAt_iff hf.1 s.1 s.2).mpr (hh.u _ (List.mem_cons_self ..))⟩
        · rw [if_neg h2, ih]
          constructor
          · intro hh
            refine ⟨hh.x, ?_, fun e he => ?_⟩
            · have := hh.y; show s.2 ≤ p.2; have hq : s.2 ≤ q.2 := this; unfold Falls at hf; grind
            · rcases List.mem_cons.mp he with he | he
              · subst he
                cases r with
                | nil => have hx : s.1 ≤ q.1 := hh.x; exact absurd hx h2
                | cons t r =>
                  have hu := hh.u (q, t) (List.mem_cons_self ..)
                  have ht := (List.pairwise_cons.mp h.conc.1).1 t (List.mem_cons_self ..)
                  have hqt := h.tail.falls
                  unfold turn at ht
                  unfold Under Falls at *
                  simp only [] at hu ⊢
                  have k1 := mul_nn (a := s.1 - q.1) (b := -((q.1 - p.1) * (t.2 - p.2) - (q.2 - p.2) * (t.1 - p.1))) (by grind) (by grind)
                  have k2 := mul_nn (a := q.1 - p.1) (b := -((q.2 - t.2) * (s.1 - q.1) + (t.1 - q.1) * (s.2 - q.2))) (by grind) (by grind)
                  have : 0 ≤ (t.1 - q.1) * -((p.2 - q.2) * (s.1 - p.1) + (q.1 - p.1) * (s.2 - p.2)) := by grind
                  have := nn_of_mul (by grind) this
                  grind
              · exact hh.u e he
          · intro hh
            refine ⟨hh.x, ?_, fun e he => hh.u e (List.mem_cons_of_mem _ he)⟩
            have hu := hh.u (p, q) (List.mem_cons_self ..)
            show s.2 ≤ q.2
            unfold Under Falls at *
            simp only [] at hu
            have k1 := mul_nn (a := p.2 - q.2) (b := s.1 - q.1) (by grind) (by grind)
            have : 0 ≤ (q.1 - p.1) * (q.2 - s.2) := by grind
            have := nn_of_mul (by grind) this
            grind
/-- on the rim: in the lot and on an edge's line, or as far right as can be -/
theorem Ch.rim_line {c : List Pt} (h : Ch c) {s : Pt} (hs : InS c s) {e} (he : e ∈ edges c) (ho : OnLine e s) : s.2 = high c s.1 := by
  have h1 := (h.in_iff s).mpr hs
  have h2 := (h.in_iff (s.1, high c s.1)).mp ⟨h1.1, Rat.le_refl⟩
  have h3 := h2.u e he
  have hf := h.edge_falls he
  unfold Under OnLine Falls at *
  simp only [] at h3
  have : 0 ≤ (e.2.1 - e.1.1) * (s.2 - high c s.1) := by grind
  have := nn_of_mul (by grind) this
  grind

/-! ### the losses -/
def ratio (c : List Pt) (w : Rat) (e : Pt × Pt) : Rat :=
  ((e.1.2 - e.2.2) * ((topP c).1 - e.1.1) + (e.2.1 - e.1.1) * ((topP c).2 - e.1.2)) / ((e.1.2 - e.2.2) * w + (e.2.1 - e.1.1) * (1 - w))
def maxR (a b : Rat) : Rat := if a < b then b else a
def far (c : List Pt) (w : Rat) : Rat := ((edges c).map (ratio c w)).foldl maxR 0
def lossPt (c : List Pt) (w : Rat) : Pt := ((topP c).1 - far c w * w, (topP c).2 - far c w * (1 - w))
theorem foldl_maxR (l : List Rat) : ∀ a, a ≤ l.foldl maxR a ∧ (∀ x ∈ l, x ≤ l.foldl maxR a) ∧ (l.foldl maxR a = a ∨ l.foldl maxR a ∈ l) := by
  induction l with
  | nil => intro a; exact ⟨Rat.le_refl, (fun x hx => by cases hx), Or.inl rfl⟩
  | cons b l ih =>
    intro a
    obtain ⟨h1, h2, h3⟩ := ih (maxR a b)
    have ha : a ≤ maxR a b ∧ b ≤ maxR a b ∧ (maxR a b = a ∨ maxR a b = b) := by unfold maxR; grind
    refine ⟨Rat.le_trans ha.1 h1, fun x hx => ?_, ?_⟩
    · rcases List.mem_cons.mp hx with e | hx
      · subst e; exact Rat.le_trans ha.2.1 h1
      · exact h2 x hx
    · rcases h3 with h3 | h3
      · rcases ha.2.2 with e | e
        · left; show l.foldl maxR (maxR a b) = a; rw [h3, e]
        · right; show l.foldl maxR (maxR a b) ∈ b :: l; rw [h3, e]; exact List.mem_cons_self ..
      · right; exact List.mem_cons_of_mem _ h3
theorem mono_alg1 {A B v w rv rw' : Rat} (h : rv * (A * v + B * (1 - v)) = rw' * (A * w + B * (1 - w))) : (A * v + B * (1 - v)) * (rw' * w - rv * v) = (rw' * B) * (w - v) := by grind
theorem mono_alg2 {A B v w rv rw' : Rat} (h : rv * (A * v + B * (1 - v)) = rw' * (A * w + B * (1 - w))) : (A * w + B * (1 - w)) * (rv * (1 - v) - rw' * (1 - w)) = (rv * A) * (w - v) := by grind
structure Wt (w : Rat) : Prop where
  lo : 0 < w
  hi : w < 1
theorem den_pos_w {e : Pt × Pt} (hf : Falls e.1 e.2) {w : Rat} (hw : Wt w) : 0 < (e.1.2 - e.2.2) * w + (e.2.1 - e.1.1) * (1 - w) := by
  unfold Falls at hf
  have k1 := mul_pp (a := e.1.2 - e.2.2) (b := w) (by grind) hw.lo
  have k2 := mul_pp (a := e.2.1 - e.1.1) (b := 1 - w) (by grind) (by have := hw.hi; grind)
  grind
theorem ratio_mul {c : List Pt} {e : Pt × Pt} (hf : Falls e.1 e.2) {w : Rat} (hw : Wt w) :
    ratio c w e * ((e.1.2 - e.2.2) * w + (e.2.1 - e.1.1) * (1 - w)) = (e.1.2 - e.2.2) * ((topP c).1 - e.1.1) + (e.2.1 - e.1.1) * ((topP c).2 - e.1.2) := by
  have := den_pos_w hf hw
  unfold ratio
  exact Rat.div_mul_cancel (by grind)
theorem Ch.above {c : List Pt} (h : Ch c) {e} (he : e ∈ edges c) : 0 < (e.1.2 - e.2.2) * ((topP c).1 - e.1.1) + (e.2.1 - e.1.1) * ((topP c).2 - e.1.2) := by
  have hf := h.edge_falls he
  have h1 := h.le_last _ (edges_mem he).2
  have h2 := h.le_head _ (edges_mem he).1
  unfold Falls at hf
  unfold topP
  simp only []
  have k1 := mul_pp (a := e.1.2 - e.2.2) (b := (lastP c).1 - e.1.1) (by grind) (by grind)
  have k2 := mul_nn (a := e.2.1 - e.1.1) (b := (headP c).2 - e.1.2) (by grind) (by grind)
  grind
theorem Ch.ratio_pos {c : List Pt} (h : Ch c) {e} (he : e ∈ edges c) {w : Rat} (hw : Wt w) : 0 < ratio c w e := by
  have h1 := ratio_mul (c := c) (h.edge_falls he) hw
  have h2 := h.above he
  have h3 := den_pos_w (h.edge_falls he) hw
  exact pos_of_mul h3 (by rw [Rat.mul_comm, h1]; exact h2)
theorem far_nn (c : List Pt) (w : Rat) : 0 ≤ far c w := (foldl_maxR _ _).1
theorem ratio_le_far (c : List Pt) (w : Rat) {e} (he : e ∈ edges c) : ratio c w e ≤ far c w := (foldl_maxR _ _).2.1 _ (List.mem_map.mpr ⟨e, he, rfl⟩)
theorem far_cases {c : List Pt} (h : Ch c) {w : Rat} (hw : Wt w) : (edges c = [] ∧ far c w = 0) ∨ ∃ e ∈ edges c, far c w = ratio c w e := by
  cases hc : edges c with
  | nil => left; refine ⟨rfl, ?_⟩; unfold far; rw [hc]; rfl
  | cons e l =>
    right
    rw [← hc]
    rcases (foldl_maxR ((edges c).map (ratio c w)) 0).2.2 with h1 | h1
    · exfalso
      have he : e ∈ edges c := by rw [hc]; exact List.mem_cons_self ..
      have := ratio_le_far c w he
      have h2 := h.ratio_pos he hw
      have : far c w = 0 := h1
      grind
    · obtain ⟨e, he, h2⟩ := List.mem_map.mp h1
      exact ⟨e, he, h2.symm⟩
theorem Ch.loss_in {c : List Pt} (h : Ch c) {w : Rat} (hw : Wt w) : InS c (lossPt c w) := by
  have hn := far_nn c w
  refine ⟨?_, ?_, fun e he => ?_⟩
  · show (lastP c).1 - far c w * w ≤ (lastP c).1
    have := mul_nn hn (Rat.le_of_lt hw.lo); grind
  · show (headP c).2 - far c w * (1 - w) ≤ (headP c).2
    have := mul_nn hn (b := 1 - w) (by have := hw.hi; grind); grind
  · have h1 := ratio_mul (c := c) (h.edge_falls he) hw
    have h2 := ratio_le_far c w he
    have h3 := den_pos_w (h.edge_falls he) hw
    have k := mul_nn (a := far c w - ratio c w e) (b := (e.1.2 - e.2.2) * w + (e.2.1 - e.1.1) * (1 - w)) (by grind) (Rat.le_of_lt h3)
    unfold Under lossPt
    simp only []
    grind
theorem Ch.loss_rim {c : List Pt} (h : Ch c) {w : Rat} (hw : Wt w) : (lossPt c w).1 = (lastP c).1 ∨ (lossPt c w).2 = high c (lossPt c w).1 := by
  rcases far_cases h hw with ⟨_, h2⟩ | ⟨e, he, h2⟩
  · left; show (lastP c).1 - far c w * w = _; rw [h2]; grind
  · right
    refine h.rim_line (h.loss_in hw) he ?_
    have h1 := ratio_mul (c := c) (h.edge_falls he) hw
    unfold OnLine lossPt
    simp only []
    rw [h2]
    grind
/-- a greater weight: no less loss for the first person, no more for the second -/
theorem Ch.loss_mono {c : List Pt} (h : Ch c) {v w : Rat} (hv : Wt v) (hw : Wt w) (hle : v ≤ w) : (lossPt c w).1 ≤ (lossPt c v).1 ∧ (lossPt c v).2 ≤ (lossPt c w).2 := by
  have e1 : far c v * v ≤ far c w * w := by
    rcases far_cases h hv with ⟨_, h2⟩ | ⟨e, he, h2⟩
    · rw [h2]; have := mul_nn (far_nn c w) (Rat.le_of_lt hw.lo); grind
    · have a1 := ratio_mul (c := c) (h.edge_falls he) hv
      have a2 := ratio_mul (c := c) (h.edge_falls he) hw
      have a3 := den_pos_w (h.edge_falls he) hv
      have a4 := den_pos_w (h.edge_falls he) hw
      have a5 := ratio_le_far c w he
      have a6 := h.ratio_pos he hw
      have hf := h.edge_falls he
      unfold Falls at hf
      rw [h2]
      have b1 : ratio c v e * v ≤ ratio c w e * w := by
        generalize hA : e.1.2 - e.2.2 = A at *
        generalize hB : e.2.1 - e.1.1 = B at *
        generalize hN : A * ((topP c).1 - e.1.1) + B * ((topP c).2 - e.1.2) = N at *
        generalize ratio c v e = rv at *
        generalize ratio c w e = rw' at *
        have hB' : 0 < B := by grind
        have c1 : 0 ≤ (rw' * B) * (w - v) := mul_nn (mul_nn (Rat.le_of_lt a6) (Rat.le_of_lt hB')) (by grind)
        have c2 : 0 ≤ (A * v + B * (1 - v)) * (rw' * w - rv * v) := by
          rw [mono_alg1 (a1.trans a2.symm)]; exact c1
        have := nn_of_mul a3 c2
        grind
      have b2 := mul_nn (a := far c w - ratio c w e) (b := w) (by grind) (Rat.le_of_lt hw.lo)
      grind
  have e2 : far c w * (1 - w) ≤ far c v * (1 - v) := by
    have hw1 : 0 < 1 - w := by have := hw.hi; grind
    have hv1 : 0 < 1 - v := by have := hv.hi; grind
    rcases far_cases h hw with ⟨_, h2⟩ | ⟨e, he, h2⟩
    · rw [h2]; have := mul_nn (far_nn c v) (Rat.le_of_lt hv1); grind
    · have a1 := ratio_mul (c := c) (h.edge_falls he) hv
      have a2 := ratio_mul (c := c) (h.edge_falls he) hw
      have a3 := den_pos_w (h.edge_falls he) hv
      have a4 := den_pos_w (h.edge_falls he) hw
      have a5 := ratio_le_far c v he
      have a6 := h.ratio_pos he hv
      have hf := h.edge_falls he
      unfold Falls at hf
      rw [h2]
      have b1 : ratio c w e * (1 - w) ≤ ratio c v e * (1 - v) := by
        generalize hA : e.1.2 - e.2.2 = A at *
        generalize hB : e.2.1 - e.1.1 = B at *
        generalize hN : A * ((topP c).1 - e.1.1) + B * ((topP c).2 - e.1.2) = N at *
        generalize ratio c v e = rv at *
        generalize ratio c w e = rw' at *
        have hA' : 0 < A := by grind
        have c1 : 0 ≤ (rv * A) * (w - v) := mul_nn (mul_nn (Rat.le_of_lt a6) (Rat.le_of_lt hA')) (by grind)
        have c2 : 0 ≤ (A * w + B * (1 - w)) * (rv * (1 - v) - rw' * (1 - w)) := by
          rw [mono_alg2 (a1.trans a2.symm)]; exact c1
        have := nn_of_mul a4 c2
        grind
      have b2 := mul_nn (a := far c v - ratio c v e) (b := 1 - v) (by grind) (Rat.le_of_lt hv1)
      grind
  constructor
  · show (topP c).1 - far c w * w ≤ (topP c).1 - far c v * v; grind
  · show (topP c).2 - far c v * (1 - v) ≤ (topP c).2 - far c w * (1 - w); grind
end Ma

/-! MaC: chains made of steps; led over by factors and a shift. -/
namespace Ma
def walk : Pt → List Pt → List Pt
  | p, [] => [p]
  | p, s :: r => p :: walk (p.1 + s.1, p.2 - s.2) r
/-- s is a flatter step than t -/
def Flat (s t : Pt) : Prop := s.2 * t.1 < t.2 * s.1
structure Steps (r : List Pt) : Prop where
  pos : ∀ s ∈ r, 0 < s.1 ∧ 0 < s.2
  flat : r.Pairwise Flat
theorem Steps.tail {s : Pt} {r : List Pt} (h : Steps (s :: r)) : Steps r := ⟨fun t ht => h.pos t (List.mem_cons_of_mem _ ht), (List.pairwise_cons.mp h.flat).2⟩
theorem walk_fall {r : List Pt} : ∀ {p : Pt}, (∀ s ∈ r, 0 < s.1 ∧ 0 < s.2) → (walk p r).Pairwise Falls ∧ ∀ q ∈ walk p r, p.1 ≤ q.1 ∧ q.2 ≤ p.2 := by
  induction r with
  | nil => intro p _; exact ⟨List.pairwise_singleton .., fun q hq => by simp only [walk, List.mem_singleton] at hq; subst hq; exact ⟨Rat.le_refl, Rat.le_refl⟩⟩
  | cons s r ih =>
    intro p h
    obtain ⟨h1, h2⟩ := ih (p := (p.1 + s.1, p.2 - s.2)) fun t ht => h t (List.mem_cons_of_mem _ ht)
    have hs := h s (List.mem_cons_self ..)
    simp only [] at h2
    refine ⟨List.pairwise_cons.mpr ⟨fun q hq => ?_, h1⟩, fun q hq => ?_⟩
    · have := h2 q hq; unfold Falls; grind
    · rcases List.mem_cons.mp hq with e | hq
      · subst e; exact ⟨Rat.le_refl, Rat.le_refl⟩
      · have := h2 q hq; grind
theorem walk_cross {r : List Pt} : ∀ {q v : Pt}, (∀ t ∈ r, Flat v t) → ∀ b ∈ walk q r, v.2 * (b.1 - q.1) + v.1 * (b.2 - q.2) ≤ 0 := by
  induction r with
  | nil => intro q v _ b hb; simp only [walk, List.mem_singleton] at hb; subst hb; grind
  | cons t r ih =>
    intro q v h b hb
    rcases List.mem_cons.mp hb with e | hb
    · subst e; grind
    · have h1 := ih (q := (q.1 + t.1, q.2 - t.2)) (fun u hu => h u (List.mem_cons_of_mem _ hu)) b hb
      have h2 := h t (List.mem_cons_self ..)
      unfold Flat at h2
      simp only [] at h1
      grind
theorem walk_turn {r : List Pt} (hr : ∀ s ∈ r, 0 < s.1 ∧ 0 < s.2) (hf : r.Pairwise Flat) : ∀ {p q : Pt}, (∀ t ∈ r, Flat (q.1 - p.1, p.2 - q.2) t) → (walk q r).Pairwise (fun a b => turn p a b < 0) := by
  induction r with
  | nil => intro p q _; exact List.pairwise_singleton ..
  | cons t r ih =>
    intro p q h
    have hp := List.pairwise_cons.mp hf
    have ht := h t (List.mem_cons_self ..)
    refine List.pairwise_cons.mpr ⟨fun b hb => ?_, ?_⟩
    · have h1 := walk_cross (v := (q.1 - p.1, p.2 - q.2)) (fun u hu => h u (List.mem_cons_of_mem _ hu)) b hb
      unfold Flat at ht
      unfold turn
      simp only [] at h1 ht
      grind
    · refine ih (fun s hs => hr s (List.mem_cons_of_mem _ hs)) hp.2 fun u hu => ?_
      have h1 := h u (List.mem_cons_of_mem _ hu)
      have h2 := hp.1 u hu
      unfold Flat at *
      simp only [] at *
      grind
theorem walk_ne (p : Pt) (r : List Pt) : walk p r ≠ [] := by cases r <;> exact List.cons_ne_nil _ _
theorem walk_conc {r : List Pt} : ∀ {p : Pt}, Steps r → Conc (walk p r) := by
  induction r with
  | nil => intro p _; exact ⟨List.Pairwise.nil, trivial⟩
  | cons s r ih =>
    intro p h
    refine ⟨walk_turn (fun t ht => h.pos t (List.mem_cons_of_mem _ ht)) h.tail.flat fun t ht => ?_, ih h.tail⟩
    have := (List.pairwise_cons.mp h.flat).1 t ht
    unfold Flat at *
    simp only []
    grind
theorem walk_ch {r : List Pt} (p : Pt) (h : Steps r) : Ch (walk p r) := ⟨walk_ne p r, (walk_fall h.pos).1, walk_conc h⟩
theorem walk_head (p : Pt) (r : List Pt) : headP (walk p r) = p := by cases r <;> rfl
/-- led over -/
def aff (u v l m : Rat) (p : Pt) : Pt := (l + u * p.1, m + v * p.2)
theorem aff_turn {u v l m : Rat} (a b c : Pt) : turn (aff u v l m a) (aff u v l m b) (aff u v l m c) = u * v * turn a b c := by
  unfold turn aff; simp only []; grind
theorem aff_conc {u v l m : Rat} (hu : 0 < u) (hv : 0 < v) {c : List Pt} (h : Conc c) : Conc (c.map (aff u v l m)) := by
  induction c with
  | nil => exact trivial
  | cons p c ih =>
    refine ⟨?_, ih h.2⟩
    rw [List.pairwise_map]
    refine h.1.imp fun {a b} hab => ?_
    rw [aff_turn]
    have := Rat.mul_pos (mul_pp hu hv) (show 0 < -turn p a b by grind)
    grind
theorem Ch.aff {u v l m : Rat} (hu : 0 < u) (hv : 0 < v) {c : List Pt} (h : Ch c) : Ch (c.map (aff u v l m)) := by
  refine ⟨fun e => h.ne (List.map_eq_nil_iff.mp e), ?_, aff_conc hu hv h.conc⟩
  rw [List.pairwise_map]
  refine h.fall.imp fun {a b} hab => ?_
  have h1 := mul_pp hu (show 0 < b.1 - a.1 by unfold Falls at hab; grind)
  have h2 := mul_pp hv (show 0 < a.2 - b.2 by unfold Falls at hab; grind)
  unfold Falls Ma.aff at *
  simp only []
  grind
end Ma

/-! MaD: sizes of what is reckoned of a chain; the law's form of the same numbers. -/
namespace Ma
def SzP (k : Nat) (p : Pt) : Prop := Sz k p.1 ∧ Sz k p.2
theorem SzP.mono {k l : Nat} {p : Pt} (h : SzP k p) (hl : k ≤ l) : SzP l p := ⟨h.1.mono hl, h.2.mono hl⟩
/-- all points of a list within a size -/
def SzC (k : Nat) (c : List Pt) : Prop := ∀ p ∈ c, SzP k p
theorem SzC.mono {k l : Nat} {c : List Pt} (h : SzC k c) (hl : k ≤ l) : SzC l c := fun p hp => (h p hp).mono hl
theorem SzC.last {k : Nat} {c : List Pt} (h : SzC k c) (hc : c ≠ []) : SzP k (lastP c) := h _ (lastP_mem hc)
theorem SzC.head {k : Nat} {c : List Pt} (h : SzC k c) (hc : c ≠ []) : SzP k (headP c) := h _ (headP_mem hc)
theorem SzC.topP {k : Nat} {c : List Pt} (h : SzC k c) (hc : c ≠ []) : SzP k (topP c) := ⟨(h.last hc).1, (h.head hc).2⟩
theorem SzC.edge {k : Nat} {c : List Pt} (h : SzC k c) {e} (he : e ∈ edges c) : SzP k e.1 ∧ SzP k e.2 := ⟨h _ (edges_mem he).1, h _ (edges_mem he).2⟩
theorem one_sz : Sz 1 (1 : Rat) := ⟨by decide, by decide⟩
theorem zero_sz : Sz 1 (0 : Rat) := ⟨by decide, by decide⟩
theorem maxR_sz {k : Nat} {a b : Rat} (ha : Sz k a) (hb : Sz k b) : Sz k (maxR a b) := by
  unfold maxR; split
  · exact hb
  · exact ha
theorem foldl_maxR_sz {k : Nat} (l : List Rat) (hl : ∀ x ∈ l, Sz k x) : ∀ a, Sz k a → Sz k (l.foldl maxR a) := by
  induction l with
  | nil => intro a h; exact h
  | cons b l ih =>
    intro a h
    exact ih (fun x hx => hl x (List.mem_cons_of_mem _ hx)) _ (maxR_sz h (hl b (List.mem_cons_self ..)))
theorem nrm_sz {k : Nat} {c : List Pt} (h : SzC k c) {e} (he : e ∈ edges c) : Sz (k + k + 1) (e.1.2 - e.2.2) ∧ Sz (k + k + 1) (e.2.1 - e.1.1) :=
  ⟨(h.edge he).1.2.sub (h.edge he).2.2, (h.edge he).2.1.sub (h.edge he).1.1⟩
theorem way_sz {k : Nat} {w : Rat} (h : Sz k w) : Sz (1 + k + 1) (1 - w) := one_sz.sub h
theorem ratio_sz {c : List Pt} (hc : c ≠ []) (h : SzC 100 c) {w : Rat} (hw : Sz 100 w) {e} (he : e ∈ edges c) : Sz 1410 (ratio c w e) := by
  obtain ⟨h1, h2⟩ := nrm_sz h he
  have ht := h.topP hc
  have hl := (h.edge he).1
  exact (((h1.mul (ht.1.sub hl.1)).add (h2.mul (ht.2.sub hl.2))).div ((h1.mul hw).add (h2.mul (way_sz hw)))).mono (by decide)
theorem far_sz {c : List Pt} (hc : c ≠ []) (h : SzC 100 c) {w : Rat} (hw : Sz 100 w) : Sz 1410 (far c w) := by
  refine foldl_maxR_sz _ (fun x hx => ?_) _ (zero_sz.mono (by decide))
  obtain ⟨e, he, rfl⟩ := List.mem_map.mp hx
  exact ratio_sz hc h hw he
theorem loss_sz {c : List Pt} (hc : c ≠ []) (h : SzC 100 c) {w : Rat} (hw : Sz 100 w) : SzP 1613 (lossPt c w) :=
  ⟨((h.topP hc).1.sub ((far_sz hc h hw).mul hw)).mono (by decide), ((h.topP hc).2.sub ((far_sz hc h hw).mul (way_sz hw))).mono (by decide)⟩
/-- the law's form: the right end stands for the left one -/
theorem ratio_right (c : List Pt) (w : Rat) (e : Pt × Pt) : ((e.1.2 - e.2.2) * ((topP c).1 - e.2.1) + (e.2.1 - e.1.1) * ((topP c).2 - e.2.2)) / ((e.1.2 - e.2.2) * w + (e.2.1 - e.1.1) * (1 - w)) = ratio c w e := by
  unfold ratio
  rw [show (e.1.2 - e.2.2) * ((topP c).1 - e.2.1) + (e.2.1 - e.1.1) * ((topP c).2 - e.2.2) = (e.1.2 - e.2.2) * ((topP c).1 - e.1.1) + (e.2.1 - e.1.1) * ((topP c).2 - e.1.2) by grind]
theorem yAt_sz {k : Nat} {p q : Pt} {x : Rat} (hp : SzP 100 p) (hq : SzP 100 q) (hx : Sz k x) : Sz (k + 604) (yAt p q x) :=
  (hp.2.add ((hq.2.sub hp.2).mul ((hx.sub hp.1).div (hq.1.sub hp.1)))).mono (by omega)
theorem high_sz {k : Nat} {x : Rat} (hx : Sz k x) : ∀ {c : List Pt}, c ≠ [] → SzC 100 c → Sz (k + 604) (high c x)
  | [], h, _ => absurd rfl h
  | [p], _, h => (h p (List.mem_cons_self ..)).2.mono (by omega)
  | p :: q :: r, _, h => by
    have ih := high_sz hx (c := q :: r) (List.cons_ne_nil _ _) (fun s hs => h s (List.mem_cons_of_mem _ hs))
    have hp := h p (List.mem_cons_self ..)
    have hq := h q (List.mem_cons_of_mem _ (List.mem_cons_self ..))
    show Sz _ (if x ≤ p.1 then p.2 else if x ≤ q.1 then yAt p q x else high (q :: r) x)
    split
    · exact hp.2.mono (by omega)
    · split
      · exact yAt_sz hp hq hx
      · exact ih
/-- the height as a search among the edges -/
def highG (x : Rat) (e : Pt × Pt) : Option Rat := if e.2.1 < x then none else some (yAt e.1 e.2 x)
theorem high_find {x : Rat} : ∀ {c : List Pt}, c ≠ [] → (headP c).1 < x → high c x = ((edges c).findSome? (highG x)).getD (lastP c).2
  | [], h, _ => absurd rfl h
  | [p], _, _ => rfl
  | p :: q :: r, _, hx => by
    have hx : p.1 < x := hx
    show (if x ≤ p.1 then p.2 else if x ≤ q.1 then yAt p q x else high (q :: r) x) = (((p, q) :: edges (q :: r)).findSome? (highG x)).getD _
    rw [if_neg (by grind), List.findSome?_cons]
    by_cases h : q.1 < x
    · rw [if_neg (by grind)]
      have : highG x (p, q) = none := if_pos h
      rw [this]
      exact high_find (c := q :: r) (List.cons_ne_nil _ _) h
    · rw [if_pos (by grind)]
      have : highG x (p, q) = some (yAt p q x) := if_neg h
      rw [this]
      rfl
def half : Rat := ⟨1, 2, by decide, by decide⟩
end Ma

set_option maxHeartbeats 2000000
/-! MaE: the border of the hull of points, as the program finds it, is the chain that has these corners and holds the rest. -/
namespace Ma
/-- a linear goal with parts above zero -/
def goal (a b : Rat) (p : Pt) : Rat := a * p.1 + b * p.2
/-- p is the only point of the lot with the greatest goal -/
def Ext (c : List Pt) (p : Pt) : Prop := ∃ a b, 0 < a ∧ 0 < b ∧ ∀ q, InS c q → goal a b q ≤ goal a b p ∧ (goal a b q = goal a b p → q = p)
theorem under_goal {e : Pt × Pt} {q : Pt} : Under e q ↔ goal (e.1.2 - e.2.2) (e.2.1 - e.1.1) q ≤ goal (e.1.2 - e.2.2) (e.2.1 - e.1.1) e.1 := by
  unfold Under goal; constructor <;> intro h <;> grind
theorem under_goal2 {e : Pt × Pt} {q : Pt} : Under e q ↔ goal (e.1.2 - e.2.2) (e.2.1 - e.1.1) q ≤ goal (e.1.2 - e.2.2) (e.2.1 - e.1.1) e.2 := by
  unfold Under goal; constructor <;> intro h <;> grind
theorem ext_of {A B A' B' : Rat} {c : List Pt} {p : Pt} (h1 : 0 ≤ A) (h2 : 0 ≤ B) (h3 : 0 ≤ A') (h4 : 0 ≤ B') (h5 : 0 < A + A') (h6 : 0 < B + B') (hd : A * B' - A' * B ≠ 0)
    (g1 : ∀ q, InS c q → goal A B q ≤ goal A B p) (g2 : ∀ q, InS c q → goal A' B' q ≤ goal A' B' p) : Ext c p := by
  refine ⟨A + A', B + B', h5, h6, fun q hq => ?_⟩
  have k1 := g1 q hq
  have k2 := g2 q hq
  unfold goal at *
  refine ⟨by grind, fun e => ?_⟩
  have e1 : A * (q.1 - p.1) + B * (q.2 - p.2) = 0 := by grind
  have e2 : A' * (q.1 - p.1) + B' * (q.2 - p.2) = 0 := by grind
  have e3 : (A * B' - A' * B) * (q.1 - p.1) = 0 := by grind
  have e4 : (A * B' - A' * B) * (q.2 - p.2) = 0 := by grind
  have e5 : q.1 - p.1 = 0 := (Rat.mul_eq_zero.mp e3).resolve_left hd
  have e6 : q.2 - p.2 = 0 := (Rat.mul_eq_zero.mp e4).resolve_left hd
  apply Prod.ext <;> grind
theorem left_edge {c : List Pt} : ∀ {p : Pt}, p ∈ c → p = headP c ∨ ∃ l, (l, p) ∈ edges c := by
  induction c with
  | nil => intro p h; cases h
  | cons a c ih =>
    intro p h
    rcases List.mem_cons.mp h with e | h
    · left; exact e
    · cases c with
      | nil => cases h
      | cons b r =>
        rcases ih h with e | ⟨l, hl⟩
        · right; exact ⟨a, by rw [e]; exact List.mem_cons_self ..⟩
        · right; exact ⟨l, List.mem_cons_of_mem _ hl⟩
theorem right_edge {c : List Pt} : ∀ {p : Pt}, p ∈ c → p = lastP c ∨ ∃ r, (p, r) ∈ edges c := by
  induction c with
  | nil => intro p h; cases h
  | cons a c ih =>
    intro p h
    cases c with
    | nil => left; rcases List.mem_cons.mp h with e | h
             · exact e
             · cases h
    | cons b r =>
      rcases List.mem_cons.mp h with e | h
      · right; exact ⟨b, by rw [e]; exact List.mem_cons_self ..⟩
      · rcases ih h with e | ⟨s, hs⟩
        · left; exact e
        · right; exact ⟨s, List.mem_cons_of_mem _ hs⟩
/-- neighbouring edges are not parallel -/
theorem Ch.turn_at {c : List Pt} (h : Ch c) {l p r : Pt} (h1 : (l, p) ∈ edges c) (h2 : (p, r) ∈ edges c) : turn l p r < 0 := by
  induction c with
  | nil => cases h1
  | cons a c ih =>
    cases c with
    | nil => cases h1
    | cons b c =>
      rcases List.mem_cons.mp h1 with e1 | h1'
      · rcases List.mem_cons.mp h2 with e2 | h2'
        · exfalso
          have hf := h.falls
          have e3 : p = b := congrArg Prod.snd e1
          have e4 : p = a := congrArg Prod.fst e2
          unfold Falls at hf
          rw [← e3, ← e4] at hf
          exact Rat.lt_irrefl hf.1
        · have e3 : p = b := congrArg Prod.snd e1
          have e4 : l = a := congrArg Prod.fst e1
          subst e3 e4
          exact edges_pair h.conc.1 h2'
      · rcases List.mem_cons.mp h2 with e2 | h2'
        · exfalso
          have e4 : p = a := congrArg Prod.fst e2
          have hm := (edges_mem h1').2
          have hf := (List.pairwise_cons.mp h.fall).1 p hm
          unfold Falls at hf
          rw [← e4] at hf
          exact Rat.lt_irrefl hf.1
        · exact ih h.tail h1' h2'
theorem Ch.ext {c : List Pt} (h : Ch c) {p : Pt} (hp : p ∈ c) : Ext c p := by
  rcases left_edge hp with e1 | ⟨l, hl⟩
  · rcases right_edge hp with e2 | ⟨r, hr⟩
    · refine ext_of (A := 1) (B := 0) (A' := 0) (B' := 1) (by decide) (by decide) (by decide) (by decide) (by grind) (by grind) (by grind) (fun q hq => ?_) (fun q hq => ?_)
      · have := hq.x; rw [← e2] at this; unfold goal; grind
      · have := hq.y; rw [← e1] at this; unfold goal; grind
    · have hf := h.edge_falls hr
      unfold Falls at hf
      refine ext_of (A := p.2 - r.2) (B := r.1 - p.1) (A' := 0) (B' := 1) (by grind) (by grind) (by decide) (by decide) (by grind) (by grind) (by grind) (fun q hq => ?_) (fun q hq => ?_)
      · exact under_goal.mp (hq.u _ hr)
      · have := hq.y; rw [← e1] at this; unfold goal; grind
  · have hfl := h.edge_falls hl
    unfold Falls at hfl
    rcases right_edge hp with e2 | ⟨r, hr⟩
    · refine ext_of (A := l.2 - p.2) (B := p.1 - l.1) (A' := 1) (B' := 0) (by grind) (by grind) (by decide) (by decide) (by grind) (by grind) (by grind) (fun q hq => ?_) (fun q hq => ?_)
      · exact under_goal2.mp (hq.u _ hl)
      · have := hq.x; rw [← e2] at this; unfold goal; grind
    · have hf := h.edge_falls hr
      unfold Falls at hf
      have ht := h.turn_at hl hr
      unfold turn at ht
      refine ext_of (A := l.2 - p.2) (B := p.1 - l.1) (A' := p.2 - r.2) (B' := r.1 - p.1) (by grind) (by grind) (by grind) (by grind) (by grind) (by grind) (by grind) (fun q hq => ?_) (fun q hq => ?_)
      · exact under_goal2.mp (hq.u _ hl)
      · exact under_goal.mp (hq.u _ hr)
/-- the corners are in the lot -/
theorem Ch.mem_in {c : List Pt} (h : Ch c) {p : Pt} (hp : p ∈ c) : InS c p := ⟨(h.le_last p hp).1, (h.le_head p hp).2, fun e he => h.under e he p hp⟩
/-- a goal is greatest at a corner -/
theorem goal_corner {a b : Rat} (ha : 0 < a) (hb : 0 < b) : ∀ {c : List Pt}, Ch c → ∀ {q : Pt}, q.1 ≤ (lastP c).1 → q.2 ≤ high c q.1 → ∃ p ∈ c, goal a b q ≤ goal a b p := by
  intro c
  induction c with
  | nil => intro h; exact absurd rfl h.ne
  | cons p c ih =>
    intro h q hx hy
    by_cases h1 : q.1 ≤ p.1
    · refine ⟨p, List.mem_cons_self .., ?_⟩
      have hy : q.2 ≤ p.2 := by
        cases c with
        | nil => exact hy
        | cons s r => have hy : q.2 ≤ (if q.1 ≤ p.1 then p.2 else _) := hy
                      rw [if_pos h1] at hy; exact hy
      have k1 := mul_nn (Rat.le_of_lt ha) (show 0 ≤ p.1 - q.1 by grind)
      have k2 := mul_nn (Rat.le_of_lt hb) (show 0 ≤ p.2 - q.2 by grind)
      unfold goal; grind
    · cases c with
      | nil => exact absurd hx h1
      | cons s r =>
        have hf := h.falls
        have hy : q.2 ≤ (if q.1 ≤ p.1 then p.2 else if q.1 ≤ s.1 then yAt p s q.1 else high (s :: r) q.1) := hy
        rw [if_neg h1] at hy
        by_cases h2 : q.1 ≤ s.1
        · rw [if_pos h2] at hy
          have hu := (yAt_iff hf.1 q.1 q.2).mp hy
          unfold Under Falls at *
          simp only [] at hu
          by_cases hg : goal a b p ≤ goal a b s
          · refine ⟨s, List.mem_cons_of_mem _ (List.mem_cons_self ..), ?_⟩
            unfold goal at *
            have k1 := mul_nn (show 0 ≤ s.1 - q.1 by grind) (show 0 ≤ (a * s.1 + b * s.2) - (a * p.1 + b * p.2) by grind)
            have k2 := mul_nn (Rat.le_of_lt hb) (show 0 ≤ -((p.2 - s.2) * (q.1 - p.1) + (s.1 - p.1) * (q.2 - p.2)) by grind)
            have k3 : 0 ≤ (s.1 - p.1) * ((a * s.1 + b * s.2) - (a * q.1 + b * q.2)) := by grind
            have := nn_of_mul (by grind) k3
            grind
          · refine ⟨p, List.mem_cons_self .., ?_⟩
            unfold goal at *
            have k1 := mul_nn (show 0 ≤ q.1 - p.1 by grind) (show 0 ≤ (a * p.1 + b * p.2) - (a * s.1 + b * s.2) by grind)
            have k2 := mul_nn (Rat.le_of_lt hb) (show 0 ≤ -((p.2 - s.2) * (q.1 - p.1) + (s.1 - p.1) * (q.2 - p.2)) by grind)
            have k3 : 0 ≤ (s.1 - p.1) * ((a * p.1 + b * p.2) - (a * q.1 + b * q.2)) := by grind
            have := nn_of_mul (by grind) k3
            grind
        · rw [if_neg h2] at hy
          obtain ⟨t, ht, hg⟩ := ih h.tail hx hy
          exact ⟨t, List.mem_cons_of_mem _ ht, hg⟩
/-- falling lists with the same members are the same -/
theorem falls_asymm {p q : Pt} (h : Falls p q) (h2 : Falls q p) : False := by unfold Falls at *; grind
theorem falls_ext : ∀ {l m : List Pt}, l.Pairwise Falls → m.Pairwise Falls → (∀ p, p ∈ l ↔ p ∈ m) → l = m
  | [], [], _, _, _ => rfl
  | [], b :: m, _, _, h => by have := (h b).mpr (List.mem_cons_self ..); cases this
  | a :: l, [], _, _, h => by have := (h a).mp (List.mem_cons_self ..); cases this
  | a :: l, b :: m, h1, h2, h => by
    rw [List.pairwise_cons] at h1 h2
    have e : a = b := by
      rcases List.mem_cons.mp ((h a).mp (List.mem_cons_self ..)) with e | ha
      · exact e
      · rcases List.mem_cons.mp ((h b).mpr (List.mem_cons_self ..)) with e | hb
        · exact e.symm
        · exact (falls_asymm (h1.1 b hb) (h2.1 a ha)).elim
    subst e
    congr 1
    refine falls_ext h1.2 h2.2 fun p => ⟨fun hp => ?_, fun hp => ?_⟩
    · rcases List.mem_cons.mp ((h p).mp (List.mem_cons_of_mem _ hp)) with e | hm
      · subst e; exact (falls_asymm (h1.1 p hp) (h1.1 p hp)).elim
      · exact hm
    · rcases List.mem_cons.mp ((h p).mpr (List.mem_cons_of_mem _ hp)) with e | hm
      · subst e; exact (falls_asymm (h2.1 p hp) (h2.1 p hp)).elim
      · exact hm
/-- two chains, one with corners of the other and holding it -/
theorem Ch.same {c d : List Pt} (hc : Ch c) (hd : Ch d) (h1 : ∀ p ∈ c, p ∈ d) (h2 : ∀ p ∈ d, InS c p) : d = c := by
  refine falls_ext hd.fall hc.fall fun p => ⟨fun hp => ?_, h1 p⟩
  obtain ⟨a, b, ha, hb, he⟩ := hd.ext hp
  have hi := (hc.in_iff p).mpr (h2 p hp)
  obtain ⟨q, hq, hg⟩ := goal_corner ha hb hc hi.1 hi.2
  obtain ⟨k1, k2⟩ := he q (hd.mem_in (h1 q hq))
  rw [← k2 (Rat.le_antisymm k1 hg)]
  exact hq

/-! ### the program's way -/
abbrev IP := Pt × Nat
def ltIP (a b : IP) : Bool := if a.1.1 = b.1.1 then (if a.1.2 = b.1.2 then decide (a.2 < b.2) else decide (a.1.2 < b.1.2)) else decide (a.1.1 < b.1.1)
def insIP (x : IP) : List IP → List IP
  | [] => [x]
  | y :: r => if ltIP x y then x :: y :: r else y :: insIP x r
def sortIP : List IP → List IP
  | [] => []
  | x :: r => insIP x (sortIP r)
/-- the stack, its top first -/
def shrink (s : IP) : List IP → List IP
  | b :: a :: r => if 0 ≤ turn a.1 b.1 s.1 then shrink s (a :: r) else b :: a :: r
  | st => st
def push (st : List IP) (s : IP) : List IP := s :: shrink s st
def dropRise : List IP → List IP
  | a :: b :: r => if a.1.2 ≤ b.1.2 then dropRise (b :: r) else a :: b :: r
  | l => l
def upper (ps : List Pt) : List Pt := (dropRise ((sortIP ps.zipIdx).foldl push []).reverse).map (·.1)

/-- not behind -/
def Le2 (a b : Pt) : Prop := a.1 < b.1 ∨ (a.1 = b.1 ∧ a.2 ≤ b.2)
theorem le2_trans {a b c : Pt} (h1 : Le2 a b) (h2 : Le2 b c) : Le2 a c := by unfold Le2 at *; grind
theorem ltIP_t {a b : IP} (h : ltIP a b = true) : Le2 a.1 b.1 := by
  unfold ltIP at h; unfold Le2
  split at h
  · split at h
    · right; grind
    · have := of_decide_eq_true h; right; grind
  · have := of_decide_eq_true h; left; exact this
theorem ltIP_f {a b : IP} (h : ¬ ltIP a b = true) : Le2 b.1 a.1 := by
  unfold ltIP at h; unfold Le2
  split at h
  · split at h
    · right; grind
    · have : ¬ a.1.2 < b.1.2 := fun z => h (decide_eq_true z)
      right; grind
  · have : ¬ a.1.1 < b.1.1 := fun z => h (decide_eq_true z)
    left; grind
theorem insIP_perm (x : IP) : ∀ l, (insIP x l).Perm (x :: l)
  | [] => .refl _
  | y :: r => by
    show (if ltIP x y then x :: y :: r else y :: insIP x r).Perm _
    split
    · exact .refl _
    · exact ((insIP_perm x r).cons y).trans (.swap x y r)
theorem sortIP_perm : ∀ l, (sortIP l).Perm l
  | [] => .refl _
  | x :: r => (insIP_perm x (sortIP r)).trans ((sortIP_perm r).cons x)
theorem insIP_sorted (x : IP) : ∀ {l}, l.Pairwise (fun a b : IP => Le2 a.1 b.1) → (insIP x l).Pairwise (fun a b : IP => Le2 a.1 b.1)
  | [], _ => List.pairwise_singleton ..
  | y :: r, h => by
    show (if ltIP x y then x :: y :: r else y :: insIP x r).Pairwise _
    have hp := List.pairwise_cons.mp h
    split
    · rename_i hl
      have := ltIP_t hl
      refine List.pairwise_cons.mpr ⟨fun z hz => ?_, h⟩
      rcases List.mem_cons.mp hz with e | hz
      · subst e; exact this
      · exact le2_trans this (hp.1 z hz)
    · rename_i hl
      have := ltIP_f hl
      refine List.pairwise_cons.mpr ⟨fun z hz => ?_, insIP_sorted x hp.2⟩
      rcases List.mem_cons.mp ((insIP_perm x r).mem_iff.mp hz) with e | hz
      · subst e; exact this
      · exact hp.1 z hz
theorem sortIP_sorted : ∀ l, (sortIP l).Pairwise (fun a b : IP => Le2 a.1 b.1)
  | [] => .nil
  | x :: r => insIP_sorted x (sortIP_sorted r)

/-- the stack: sorted, bent to the right -/
def Bent : List IP → Prop
  | z :: y :: x :: r => turn x.1 y.1 z.1 < 0 ∧ Bent (y :: x :: r)
  | _ => True
theorem bent_tail {a : IP} : ∀ {l : List IP}, Bent (a :: l) → Bent l
  | [], _ => trivial
  | [_], _ => trivial
  | _ :: _ :: _, h => h.2
theorem shrink_suffix (s : IP) : ∀ st, shrink s st <:+ st
  | [] => List.suffix_refl _
  | [_] => List.suffix_refl _
  | b :: a :: r => by
    show (if 0 ≤ turn a.1 b.1 s.1 then shrink s (a :: r) else b :: a :: r) <:+ _
    split
    · exact (shrink_suffix s (a :: r)).trans (List.suffix_cons ..)
    · exact List.suffix_refl _
theorem shrink_bent (s : IP) : ∀ {st}, Bent st → Bent (s :: shrink s st)
  | [], _ => trivial
  | [_], _ => trivial
  | b :: a :: r, h => by
    show Bent (s :: (if 0 ≤ turn a.1 b.1 s.1 then shrink s (a :: r) else b :: a :: r))
    split
    · exact shrink_bent s (bent_tail h)
    · rename_i hn
      exact ⟨Rat.not_le.mp hn, h⟩
/-- a corner stays -/
theorem shrink_keeps {c : List Pt} {p : Pt} (hx : Ext c p) (s : IP) (hs : InS c s.1) : ∀ {st : List IP}, (∀ q ∈ st, InS c q.1) → (s :: st).Pairwise (fun a b : IP => Le2 b.1 a.1) → (∃ q ∈ st, q.1 = p) → s.1 = p ∨ ∃ q ∈ shrink s st, q.1 = p
  | [], _, _, h => .inr h
  | [_], _, _, h => .inr h
  | b :: a :: r, hi, hp, h => by
    show _ ∨ ∃ q ∈ (if 0 ≤ turn a.1 b.1 s.1 then shrink s (a :: r) else b :: a :: r), _
    split
    · rename_i ht
      have hsb := (List.pairwise_cons.mp hp).1 b (List.mem_cons_self ..)
      have hp2 := (List.pairwise_cons.mp hp).2
      have hba := (List.pairwise_cons.mp hp2).1 a (List.mem_cons_self ..)
      by_cases es : s.1 = p
      · exact .inl es
      · have hk : ∃ q ∈ a :: r, q.1 = p := by
          obtain ⟨q, hq, e⟩ := h
          rcases List.mem_cons.mp hq with e1 | hq
          · subst e1
            by_cases ea : a.1 = p
            · exact ⟨a, List.mem_cons_self .., ea⟩
            · exfalso
              obtain ⟨A, B, hA, hB, hg⟩ := hx
              have g1 := hg a.1 (hi a (List.mem_cons_of_mem _ (List.mem_cons_self ..)))
              have g2 := hg s.1 hs
              have l1 : goal A B a.1 < goal A B p := Rat.lt_of_le_of_ne g1.1 fun z => ea (g1.2 z)
              have l2 : goal A B s.1 < goal A B p := Rat.lt_of_le_of_ne g2.1 fun z => es (g2.2 z)
              rw [← e] at l1 l2
              unfold goal turn Le2 at *
              have ux : 0 ≤ q.1.1 - a.1.1 := by grind
              have vx : 0 ≤ s.1.1 - q.1.1 := by grind
              by_cases h0 : s.1.1 - q.1.1 = 0
              · have : s.1.1 = q.1.1 := by grind
                have hy : q.1.2 ≤ s.1.2 := by grind
                have := mul_nn (Rat.le_of_lt hB) (show 0 ≤ s.1.2 - q.1.2 by grind)
                grind
              · have vx' : 0 < s.1.1 - q.1.1 := by grind
                have k1 := mul_pp vx' (show 0 < (A * q.1.1 + B * q.1.2) - (A * a.1.1 + B * a.1.2) by grind)
                have k2 := mul_nn ux (Rat.le_of_lt (show 0 < (A * q.1.1 + B * q.1.2) - (A * s.1.1 + B * s.1.2) by grind))
                have k3 := mul_nn (Rat.le_of_lt hB) ht
                grind
          · exact ⟨q, hq, e⟩
        exact shrink_keeps hx s hs (fun q hq => hi q (List.mem_cons_of_mem _ hq)) (List.pairwise_cons.mpr ⟨fun z hz => (List.pairwise_cons.mp hp).1 z (List.mem_cons_of_mem _ hz), (List.pairwise_cons.mp hp2).2⟩) hk
    · exact .inr h
/-- what holds of the stack when all of l has been pushed -/
structure StOk (c : List Pt) (done st : List IP) : Prop where
  mem : ∀ q ∈ st, q ∈ done
  srt : st.Pairwise (fun a b : IP => Le2 b.1 a.1)
  bent : Bent st
  has : ∀ p ∈ c, (∃ q ∈ done, q.1 = p) → ∃ q ∈ st, q.1 = p
theorem stack_ok {c : List Pt} (hc : Ch c) : ∀ (l done st : List IP), (∀ q ∈ done ++ l, InS c q.1) → (done ++ l).Pairwise (fun a b : IP => Le2 a.1 b.1) → StOk c done st → StOk c (done ++ l) (l.foldl push st)
  | [], done, st, _, _, h => by rw [List.append_nil]; exact h
  | s :: l, done, st, hi, hs, h => by
    rw [show done ++ s :: l = (done ++ [s]) ++ l by simp] at hi hs ⊢
    refine stack_ok hc l (done ++ [s]) (push st s) hi hs ?_
    have hsuf := shrink_suffix s st
    have hsi : InS c s.1 := hi s (by simp)
    have hle : ∀ q ∈ st, Le2 q.1 s.1 := fun q hq => by
      have h1 := (List.pairwise_append.mp (List.pairwise_append.mp hs).1).2.2
      exact h1 q (h.mem q hq) s (List.mem_cons_self ..)
    have hall : (s :: st).Pairwise (fun a b : IP => Le2 b.1 a.1) := List.pairwise_cons.mpr ⟨hle, h.srt⟩
    refine ⟨fun q hq => ?_, ?_, shrink_bent s h.bent, fun p hp hd => ?_⟩
    · rcases List.mem_cons.mp hq with e | hq
      · subst e; simp
      · exact List.mem_append_left _ (h.mem q (hsuf.subset hq))
    · exact List.pairwise_cons.mpr ⟨fun q hq => hle q (hsuf.subset hq), h.srt.sublist hsuf.sublist⟩
    · obtain ⟨q, hq, e⟩ := hd
      rcases List.mem_append.mp hq with hq | hq
      · have hst := h.has p hp ⟨q, hq, e⟩
        rcases shrink_keeps (hc.ext hp) s hsi (fun q hq => hi q (by simp [h.mem q hq])) hall hst with e | ⟨q, hq, e⟩
        · exact ⟨s, List.mem_cons_self .., e⟩
        · exact ⟨q, List.mem_cons_of_mem _ hq, e⟩
      · simp only [List.mem_singleton] at hq
        subst hq
        exact ⟨q, List.mem_cons_self .., e⟩
/-- in order, bent -/
def BentF : List IP → Prop
  | x :: y :: z :: r => turn x.1 y.1 z.1 < 0 ∧ BentF (y :: z :: r)
  | _ => True
theorem bentF_snoc : ∀ (l : List IP) (y z : IP), BentF (l ++ [y, z]) ∨ True := fun _ _ _ => .inr trivial
theorem bentF_append {y z : IP} : ∀ {l : List IP}, BentF (l ++ [y]) → (∀ x ∈ l.getLast?, turn x.1 y.1 z.1 < 0) → BentF (l ++ [y, z])
  | [], _, _ => trivial
  | [x], _, h => ⟨h x rfl, trivial⟩
  | [w, x], h1, h => ⟨h1.1, h x rfl, trivial⟩
  | v :: w :: x :: l, h1, h => ⟨h1.1, bentF_append (l := w :: x :: l) h1.2 (fun u hu => h u (by simpa using hu))⟩
theorem bent_rev : ∀ {l : List IP}, Bent l → BentF l.reverse
  | [], _ => trivial
  | [_], _ => trivial
  | [_, _], _ => trivial
  | z :: y :: x :: r, h => by
    have ih := bent_rev (l := y :: x :: r) h.2
    have e1 : (y :: x :: r).reverse = (x :: r).reverse ++ [y] := by simp
    have e2 : (z :: y :: x :: r).reverse = (x :: r).reverse ++ [y, z] := by simp
    rw [e1] at ih
    rw [e2]
    refine bentF_append ih fun u hu => ?_
    have : u = x := by simpa using hu.symm
    subst this
    exact h.1
theorem dropRise_suffix : ∀ l, dropRise l <:+ l
  | [] => List.suffix_refl _
  | [_] => List.suffix_refl _
  | a :: b :: r => by
    show (if a.1.2 ≤ b.1.2 then dropRise (b :: r) else a :: b :: r) <:+ _
    split
    · exact (dropRise_suffix (b :: r)).trans (List.suffix_cons ..)
    · exact List.suffix_refl _
theorem dropRise_ne : ∀ {l}, l ≠ [] → dropRise l ≠ []
  | [], h => h
  | [_], h => h
  | a :: b :: r, h => by
    show (if a.1.2 ≤ b.1.2 then dropRise (b :: r) else a :: b :: r) ≠ []
    split
    · exact dropRise_ne (List.cons_ne_nil _ _)
    · exact List.cons_ne_nil _ _
/-- what was dropped is no better than the head -/
theorem dropRise_head : ∀ {l : List IP}, l.Pairwise (fun a b : IP => Le2 a.1 b.1) → ∀ q ∈ l, q ∈ dropRise l ∨ ∃ h r, dropRise l = h :: r ∧ q.1.1 ≤ h.1.1 ∧ q.1.2 ≤ h.1.2
  | [], _, q, hq => nomatch hq
  | [_], _, q, hq => .inl hq
  | a :: b :: r, hs, q, hq => by
    show q ∈ (if a.1.2 ≤ b.1.2 then dropRise (b :: r) else a :: b :: r) ∨ ∃ h t, (if a.1.2 ≤ b.1.2 then dropRise (b :: r) else a :: b :: r) = h :: t ∧ _
    have hp := List.pairwise_cons.mp hs
    split
    · rename_i hab
      rcases List.mem_cons.mp hq with e | hq
      · subst e
        right
        have hle := hp.1 b (List.mem_cons_self ..)
        have hx : q.1.1 ≤ b.1.1 := by unfold Le2 at hle; grind
        rcases dropRise_head hp.2 b (List.mem_cons_self ..) with hb | ⟨h, t, e, h1, h2⟩
        · cases hd : dropRise (b :: r) with
          | nil => rw [hd] at hb; cases hb
          | cons h t =>
            have hsub := dropRise_suffix (b :: r)
            rw [hd] at hb hsub
            refine ⟨h, t, rfl, ?_⟩
            rcases List.mem_cons.mp hb with e | hb
            · subst e; exact ⟨hx, hab⟩
            · obtain ⟨pre, hpre⟩ := hsub
              cases pre with
              | nil =>
                have e2 : h = b := by simpa using congrArg List.head? hpre
                subst e2
                exact ⟨hx, hab⟩
              | cons u pre =>
                have e1 : u = b := by simpa using congrArg List.head? hpre
                subst e1
                have hpw := hp.2
                rw [← hpre] at hpw
                have k1 := (List.pairwise_append.mp hpw).2.2 u (List.mem_cons_self ..) h (List.mem_cons_self ..)
                have k2 := (List.pairwise_cons.mp (List.pairwise_append.mp hpw).2.1).1 u hb
                unfold Le2 at k1 k2
                constructor <;> grind
        · exact ⟨h, t, e, Rat.le_trans hx h1, Rat.le_trans hab h2⟩
      · exact dropRise_head hp.2 q hq
    · exact .inl hq
theorem dropRise_bent : ∀ {l}, BentF l → BentF (dropRise l)
  | [], h => h
  | [_], h => h
  | a :: b :: r, h => by
    show BentF (if a.1.2 ≤ b.1.2 then dropRise (b :: r) else a :: b :: r)
    split
    · refine dropRise_bent ?_
      cases r with
      | nil => trivial
      | cons c r => exact h.2
    · exact h
theorem dropRise_first : ∀ l {a b : IP} {r : List IP}, dropRise l = a :: b :: r → b.1.2 < a.1.2
  | [], _, _, _, h => nomatch h
  | [_], _, _, _, h => nomatch h
  | x :: y :: r, a, b, t, h => by
    have h : (if x.1.2 ≤ y.1.2 then dropRise (y :: r) else x :: y :: r) = a :: b :: t := h
    by_cases hc : x.1.2 ≤ y.1.2
    · rw [if_pos hc] at h; exact dropRise_first (y :: r) h
    · rw [if_neg hc] at h
      simp only [List.cons.injEq] at h
      rw [← h.1, ← h.2.1]
      exact Rat.not_le.mp hc
/-- a bent list that falls at first is made of steps -/
theorem bent_steps : ∀ {r : List IP} {a b : IP}, BentF (a :: b :: r) → (a :: b :: r).Pairwise (fun a b : IP => Le2 a.1 b.1) → b.1.2 < a.1.2 → ∃ t, Steps t ∧ (a :: b :: r).map (·.1) = walk a.1 t ∧ ∃ s t', t = s :: t' ∧ s = (b.1.1 - a.1.1, a.1.2 - b.1.2)
  | [], a, b, _, hs, hy => by
    have hle := (List.pairwise_cons.mp hs).1 b (List.mem_cons_self ..)
    have hx : a.1.1 < b.1.1 := by unfold Le2 at hle; grind
    refine ⟨[(b.1.1 - a.1.1, a.1.2 - b.1.2)], ⟨fun s h => ?_, List.pairwise_singleton ..⟩, ?_, _, _, rfl, rfl⟩
    · simp only [List.mem_singleton] at h; subst h; constructor <;> simp only [] <;> grind
    · simp only [List.map_cons, List.map_nil, walk]
      congr 2
      apply Prod.ext <;> simp only [] <;> grind
  | c :: r, a, b, hb, hs, hy => by
    have hle := (List.pairwise_cons.mp hs).1 b (List.mem_cons_self ..)
    have hx : a.1.1 < b.1.1 := by unfold Le2 at hle; grind
    have hs2 := (List.pairwise_cons.mp hs).2
    have hle2 := (List.pairwise_cons.mp hs2).1 c (List.mem_cons_self ..)
    have ht := hb.1
    have hy2 : c.1.2 < b.1.2 := by
      unfold turn at ht
      have hcx : 0 ≤ c.1.1 - b.1.1 := by unfold Le2 at hle2; grind
      have k := mul_nn (show 0 ≤ a.1.2 - b.1.2 by grind) hcx
      have k2 : 0 < (b.1.1 - a.1.1) * (b.1.2 - c.1.2) := by grind
      have := pos_of_mul (by grind) k2
      grind
    obtain ⟨t, h1, h2, s, t', e, es⟩ := bent_steps hb.2 hs2 hy2
    subst e
    have hsp := h1.pos s (List.mem_cons_self ..)
    have hflat : Flat (b.1.1 - a.1.1, a.1.2 - b.1.2) s := by
      unfold Flat; rw [es]; simp only []; unfold turn at ht; grind
    refine ⟨(b.1.1 - a.1.1, a.1.2 - b.1.2) :: s :: t', ⟨fun u hu => ?_, List.pairwise_cons.mpr ⟨fun u hu => ?_, h1.flat⟩⟩, ?_, _, _, rfl, rfl⟩
    · rcases List.mem_cons.mp hu with e | hu
      · subst e; constructor <;> simp only [] <;> grind
      · exact h1.pos u hu
    · rcases List.mem_cons.mp hu with e | hu
      · subst e; exact hflat
      · have k1 := (List.pairwise_cons.mp h1.flat).1 u hu
        have hu2 := h1.pos u (List.mem_cons_of_mem _ hu)
        unfold Flat at *
        simp only [] at *
        generalize a.1.2 - b.1.2 = A at *
        have hB : 0 < b.1.1 - a.1.1 := by grind
        generalize b.1.1 - a.1.1 = B at *
        have k2 := mul_pp hu2.1 (show 0 < s.2 * B - A * s.1 by grind)
        have k3 := mul_pp hB (show 0 < u.2 * s.1 - s.2 * u.1 by grind)
        have k4 : 0 < s.1 * (u.2 * B - A * u.1) := by grind
        have := pos_of_mul hsp.1 k4
        grind
    · have e : walk a.1 ((b.1.1 - a.1.1, a.1.2 - b.1.2) :: s :: t') = a.1 :: walk (a.1.1 + (b.1.1 - a.1.1), a.1.2 - (a.1.2 - b.1.2)) (s :: t') := rfl
      rw [e, show (a.1.1 + (b.1.1 - a.1.1), a.1.2 - (a.1.2 - b.1.2)) = b.1 by apply Prod.ext <;> simp only [] <;> grind]
      rw [List.map_cons, h2]
/-- THE BORDER: the chain whose corners are among the points and that holds them all -/
theorem upper_eq {c ps : List Pt} (hc : Ch c) (h1 : ∀ p ∈ c, p ∈ ps) (h2 : ∀ p ∈ ps, InS c p) : upper ps = c := by
  have hperm := sortIP_perm ps.zipIdx
  have hmem : ∀ q ∈ sortIP ps.zipIdx, q.1 ∈ ps := fun q hq => by
    have := hperm.mem_iff.mp hq
    exact List.fst_mem_of_mem_zipIdx this
  have hst := stack_ok hc (sortIP ps.zipIdx) [] [] (fun q hq => h2 _ (hmem q (by simpa using hq))) (by simpa using sortIP_sorted _) (StOk.mk (fun q h => by cases h) List.Pairwise.nil trivial (fun p _ h => by obtain ⟨q, h, _⟩ := h; cases h))
  rw [List.nil_append] at hst
  generalize hS : (sortIP ps.zipIdx).foldl push [] = st at hst
  have hsub : ∀ q ∈ dropRise st.reverse, q ∈ st := fun q hq => by
    have := (dropRise_suffix st.reverse).subset hq
    simpa using this
  have hsrt : st.reverse.Pairwise (fun a b : IP => Le2 a.1 b.1) := List.pairwise_reverse.mpr hst.srt
  have hin : ∀ q ∈ st, InS c q.1 := fun q hq => h2 _ (hmem q (hst.mem q hq))
  have hhas : ∀ p ∈ c, ∃ q ∈ dropRise st.reverse, q.1 = p := fun p hp => by
    have hd : ∃ q ∈ sortIP ps.zipIdx, q.1 = p := by
      obtain ⟨i, hi, e⟩ := List.mem_iff_getElem.mp (h1 p hp)
      refine ⟨(p, i), hperm.mem_iff.mpr ?_, rfl⟩
      rw [List.mem_zipIdx_iff_getElem?]
      simp [hi, e]
    obtain ⟨q, hq, e⟩ := hst.has p hp hd
    rcases dropRise_head hsrt q (by simpa using hq) with h | ⟨h, r, e1, k1, k2⟩
    · exact ⟨q, h, e⟩
    · refine ⟨h, by rw [e1]; exact List.mem_cons_self .., ?_⟩
      obtain ⟨a, b, ha, hb, hg⟩ := hc.ext hp
      have hh : InS c h.1 := hin h (hsub h (by rw [e1]; exact List.mem_cons_self ..))
      refine (hg h.1 hh).2 (Rat.le_antisymm (hg h.1 hh).1 ?_)
      rw [← e]
      have j1 := mul_nn (Rat.le_of_lt ha) (show 0 ≤ h.1.1 - q.1.1 by grind)
      have j2 := mul_nn (Rat.le_of_lt hb) (show 0 ≤ h.1.2 - q.1.2 by grind)
      unfold goal; grind
  have hch : Ch ((dropRise st.reverse).map (·.1)) := by
    have hbent := dropRise_bent (bent_rev hst.bent)
    have hsr : (dropRise st.reverse).Pairwise (fun a b : IP => Le2 a.1 b.1) := hsrt.sublist (dropRise_suffix _).sublist
    have hfst := @dropRise_first st.reverse
    have hne : dropRise st.reverse ≠ [] := by
      have := lastP_mem hc.ne
      obtain ⟨q, hq, _⟩ := hhas _ this
      intro z; rw [z] at hq; cases hq
    generalize dropRise st.reverse = d at *
    match d, hne with
    | [a], _ => exact walk_ch a.1 (r := []) ⟨(fun s h => by cases h), List.Pairwise.nil⟩
    | a :: b :: r, _ =>
      obtain ⟨t, h1, h2, _⟩ := bent_steps hbent hsr (hfst rfl)
      rw [h2]
      exact walk_ch a.1 h1
  unfold upper
  rw [hS]
  refine hc.same hch (fun p hp => ?_) (fun p hp => ?_)
  · obtain ⟨q, hq, e⟩ := hhas p hp
    exact List.mem_map.mpr ⟨q, hq, e⟩
  · obtain ⟨q, hq, e⟩ := List.mem_map.mp hp
    rw [← e]
    exact hin q (hsub q hq)
theorem upper_self {c : List Pt} (hc : Ch c) : upper c = c := upper_eq hc (fun p h => h) (fun p h => hc.mem_in h)
end Ma

set_option maxRecDepth 100000
/-! SpA: rewriting rules by which a def's body is reckoned. -/
namespace Vm
open PySem L2 Ma
section
variable {α β : Type}
def bnd (r : R α) (f : α → R β) : R β := R.bind r f
def sof (r : R α) (f : α → SR) : SR := SR.ofR r f
def sq (r : SR) (f : Env → SR) : SR := SR.seq r f
def trn (r : SR) (f : Env → SR) : SR := SR.turn r f
theorem bnd_ok (a : α) (f : α → R β) : bnd (.ok a) f = f a := rfl
theorem bnd_exc (c x) (f : α → R β) : bnd (.exc c x) f = .exc c x := rfl
theorem bnd_bad (f : α → R β) : bnd .bad f = .bad := rfl
theorem sof_ok (a : α) (f : α → SR) : sof (.ok a) f = f a := rfl
theorem sof_exc (c x) (f : α → SR) : sof (.exc c x) f = .exc c x := rfl
theorem sof_bad (f : α → SR) : sof .bad f = .bad := rfl
end
theorem sq_nx (ρ f) : sq (.nx ρ) f = f ρ := rfl
theorem sq_rt (d ρ f) : sq (.rt d ρ) f = .rt d ρ := rfl
theorem sq_bk (ρ f) : sq (.bk ρ) f = .bk ρ := rfl
theorem sq_ct (ρ f) : sq (.ct ρ) f = .ct ρ := rfl
theorem sq_exc (c x f) : sq (.exc c x) f = .exc c x := rfl
theorem trn_nx (ρ f) : trn (.nx ρ) f = f ρ := rfl
theorem trn_ct (ρ f) : trn (.ct ρ) f = f ρ := rfl
theorem trn_bk (ρ f) : trn (.bk ρ) f = .nx ρ := rfl
theorem trn_rt (d ρ f) : trn (.rt d ρ) f = .rt d ρ := rfl
theorem trn_exc (c x f) : trn (.exc c x) f = .exc c x := rfl
theorem endR_nx (ρ) : endR (.nx ρ) = .ok .non := rfl
theorem endR_rt (d ρ) : endR (.rt d ρ) = .ok d := rfl
theorem endR_exc (c x) : endR (.exc c x) = .exc c x := rfl
theorem ies_cons (e r) : ies (e :: r) = .cons e (ies r) := rfl
theorem ies_nil : ies [] = .nil := rfl
theorem iss_cons (e r) : iss (e :: r) = .cons e (iss r) := rfl
theorem iss_nil : iss [] = .nil := rfl
def vr (ρ : Env) (i : Nat) : R D := getO ρ i
theorem vr_zero (d r) : vr (some d :: r) 0 = .ok d := rfl
theorem vr_succ (x r i) : vr (x :: r) (i + 1) = vr r i := rfl
theorem getO_eq (ρ i) : getO ρ i = vr ρ i := rfl
def tupD (xs : List D) : R D := R.guard (xs.length ≤ maxLen) (.tup xs)
def lstD (xs : List D) : R D := R.guard (xs.length ≤ maxLen) (.lst xs)
theorem tupD_ok {xs : List D} (h : xs.length ≤ maxLen) : tupD xs = .ok (.tup xs) := if_pos h
theorem lstD_ok {xs : List D} (h : xs.length ≤ maxLen) : lstD xs = .ok (.lst xs) := if_pos h
theorem tupD_0 : tupD [] = .ok (.tup []) := rfl
theorem tupD_1 (a) : tupD [a] = .ok (.tup [a]) := rfl
theorem tupD_2 (a b) : tupD [a, b] = .ok (.tup [a, b]) := rfl
theorem tupD_3 (a b c) : tupD [a, b, c] = .ok (.tup [a, b, c]) := rfl
theorem tupD_4 (a b c d) : tupD [a, b, c, d] = .ok (.tup [a, b, c, d]) := rfl
theorem tupD_5 (a b c d e) : tupD [a, b, c, d, e] = .ok (.tup [a, b, c, d, e]) := rfl
theorem lstD_0 : lstD [] = .ok (.lst []) := rfl
theorem lstD_1 (a) : lstD [a] = .ok (.lst [a]) := rfl
theorem lstD_2 (a b) : lstD [a, b] = .ok (.lst [a, b]) := rfl
theorem lstD_3 (a b c) : lstD [a, b, c] = .ok (.lst [a, b, c]) := rfl
theorem lstD_4 (a b c d) : lstD [a, b, c, d] = .ok (.lst [a, b, c, d]) := rfl
theorem lstD_5 (a b c d e) : lstD [a, b, c, d, e] = .ok (.lst [a, b, c, d, e]) := rfl
def truthD (x : D) : R Bool := truth x
theorem truthD_bl (b) : truthD (.bl b) = .ok b := rfl
theorem truthD_non : truthD .non = .ok false := rfl
def iteD (c : Bool) (a b : R D) : R D := if c then a else b
theorem iteD_t (a b) : iteD true a b = a := rfl
theorem iteD_f (a b) : iteD false a b = b := rfl
def iteS (c : Bool) (a b : SR) : SR := if c then a else b
theorem iteS_t (a b) : iteS true a b = a := rfl
theorem iteS_f (a b) : iteS false a b = b := rfl
def negD : D → R D
  | .int i => .ok (.int (-i))
  | _ => .bad
theorem negD_int (i) : negD (.int i) = .ok (.int (-i)) := rfl
def chnD (z : D) (f : R D) : R D := match z with
  | .bl true => f
  | .bl false => .ok (.bl false)
  | _ => .bad
theorem chnD_t (f) : chnD (.bl true) f = f := rfl
theorem chnD_f (f) : chnD (.bl false) f = .ok (.bl false) := rfl
/-- one of and, or -/
def booD (k : Bool) (x : D) (f : R D) : R D := match x with
  | .bl b => if b = k then f else .ok (.bl b)
  | _ => .bad
theorem and_t (f) : booD true (.bl true) f = f := rfl
theorem and_f (f) : booD true (.bl false) f = .ok (.bl false) := rfl
theorem or_t (f) : booD false (.bl true) f = .ok (.bl true) := rfl
theorem or_f (f) : booD false (.bl false) f = f := rfl
def lcntE (x : D) (f : R D) : R D := match x with
  | .lst ds => bnd f fun y => lcntD (.lst ds) y
  | _ => .bad
def lidxE (x : D) (f : R D) : R D := match x with
  | .lst ds => bnd f fun y => lidxD (.lst ds) y
  | _ => .bad
section
variable (Φ : Sm) (ρ : Env)
theorem evE_var (i) : evE Φ (.var i) ρ = vr ρ i := rfl
theorem evE_lit (d) : evE Φ (.lit d) ρ = .ok d := rfl
theorem evE_glb (g) : evE Φ (.glb g) ρ = .ok (Φ.glb g) := rfl
theorem evE_tup (es) : evE Φ (.tup es) ρ = bnd (evEs Φ es ρ) tupD := rfl
theorem evE_lst (es) : evE Φ (.lst es) ρ = bnd (evEs Φ es ρ) lstD := rfl
theorem evE_bin (o a b) : evE Φ (.bin o a b) ρ = bnd (evE Φ a ρ) fun x => bnd (evE Φ b ρ) fun y => binD o x y := rfl
theorem evE_neg (a) : evE Φ (.neg a) ρ = bnd (evE Φ a ρ) negD := by
  show R.bind _ _ = R.bind _ _
  congr 1
theorem evE_not (a) : evE Φ (.not a) ρ = bnd (evE Φ a ρ) fun x => bnd (truthD x) fun b => .ok (.bl (!b)) := rfl
theorem evE_cmp (o a b) : evE Φ (.cmp o a b) ρ = bnd (evE Φ a ρ) fun x => bnd (evE Φ b ρ) fun y => cmpD o x y := rfl
theorem evE_chn (o p a b c) : evE Φ (.chn o p a b c) ρ = bnd (evE Φ a ρ) fun x => bnd (evE Φ b ρ) fun y => bnd (cmpD o x y) fun z => chnD z (bnd (evE Φ c ρ) fun w => cmpD p y w) := rfl
theorem evE_boo (k es) : evE Φ (.boo k es) ρ = evB Φ k es ρ := rfl
theorem evB_one (k e) : evB Φ k (.cons e .nil) ρ = evE Φ e ρ := rfl
theorem evB_cons (k e e' es) : evB Φ k (.cons e (.cons e' es)) ρ = bnd (evE Φ e ρ) fun x => booD k x (evB Φ k (.cons e' es) ρ) := rfl
theorem evE_ite (t a b) : evE Φ (.ite t a b) ρ = bnd (evE Φ t ρ) fun x => bnd (truthD x) fun c => iteD c (evE Φ a ρ) (evE Φ b ρ) := rfl
theorem evE_ix (a b) : evE Φ (.ix a b) ρ = bnd (evE Φ a ρ) fun x => bnd (evE Φ b ρ) fun y => ixD x y := rfl
theorem evE_slc (a lo hi) : evE Φ (.slc a lo hi) ρ = bnd (evE Φ a ρ) fun x => bnd (evEs Φ lo ρ) fun l => bnd (partD l) fun l' => bnd (evEs Φ hi ρ) fun h => bnd (partD h) fun h' => slcD x l' h' := rfl
theorem evE_fld (f a) : evE Φ (.fld f a) ρ = bnd (evE Φ a ρ) fun x => fldD Φ f x := rfl
theorem evE_call (f es) : evE Φ (.call f es) ρ = bnd (evEs Φ es ρ) fun xs => Φ.call f xs := rfl
theorem evE_callK (f sh es ks) : evE Φ (.callK f sh es ks) ρ = bnd (evEs Φ es ρ) fun xs => bnd (evEs Φ ks ρ) fun ys => bnd (.ofOpt (shpD (Φ.sh sh) xs ys)) fun zs => Φ.call f zs := rfl
theorem evE_callV (a es) : evE Φ (.callV a es) ρ = bnd (evE Φ a ρ) fun x => bnd (callOf Φ x) fun g => bnd (evEs Φ es ρ) fun xs => Φ.call g (x :: xs) := rfl
theorem evE_makeK (c sh es ks) : evE Φ (.makeK c sh es ks) ρ = bnd (evEs Φ es ρ) fun xs => bnd (evEs Φ ks ρ) fun ys => bnd (.ofOpt (shpD (Φ.sh sh) xs ys)) fun zs => Φ.made c zs := rfl
theorem evE_meth (m a es) : evE Φ (.meth m a es) ρ = bnd (evE Φ a ρ) fun x => bnd (methOf Φ m x) fun g => bnd (evEs Φ es ρ) fun xs => Φ.call g (x :: xs) := rfl
theorem evE_bi (b es) : evE Φ (.bi b es) ρ = bnd (evEs Φ es ρ) fun xs => biD b xs := rfl
theorem evE_lcnt (a e) : evE Φ (.lcnt a e) ρ = bnd (evE Φ a ρ) fun x => lcntE x (evE Φ e ρ) := by
  show R.bind _ _ = R.bind _ _
  congr 1
theorem evE_lidx (a e) : evE Φ (.lidx a e) ρ = bnd (evE Φ a ρ) fun x => lidxE x (evE Φ e ρ) := by
  show R.bind _ _ = R.bind _ _
  congr 1
theorem evE_isi (T a) : evE Φ (.isi T a) ρ = bnd (evE Φ a ρ) fun x => isiD T x := rfl
theorem evE_isx (c a) : evE Φ (.isx c a) ρ = bnd (evE Φ a ρ) fun x => isxD Φ c x := rfl
/-- a comprehension's turn -/
def cmpT (t : Tgt) (own : List Nat) (cs : IEs) (e : IE) (x : D) : R (Option D) :=
  bnd (bindT t x (wipeE ρ own)) fun ρ' => bnd (evT Φ cs ρ') fun b => if b then bnd (evE Φ e ρ') fun y => .ok (some y) else .ok none
theorem evE_comp (t own it cs e) : evE Φ (.comp t own it cs e) ρ = bnd (evI Φ it ρ) fun xs => bnd (compL (cmpT Φ ρ t own cs e) xs) lstD := rfl
theorem evEs_nil : evEs Φ .nil ρ = .ok [] := rfl
theorem evEs_cons (e es) : evEs Φ (.cons e es) ρ = bnd (evE Φ e ρ) fun x => bnd (evEs Φ es ρ) fun xs => .ok (x :: xs) := rfl
theorem evT_nil : evT Φ .nil ρ = .ok true := rfl
theorem evT_one (e) : evT Φ (.cons e .nil) ρ = bnd (evE Φ e ρ) truthD := rfl
theorem evI_seq (a) : evI Φ (.seq a) ρ = bnd (evE Φ a ρ) fun x => .ofOpt (seq? x) := rfl
theorem evI_rng1 (a) : evI Φ (.rng1 a) ρ = bnd (evE Φ a ρ) fun x => rng1D x := rfl
theorem evI_rng2 (a b) : evI Φ (.rng2 a b) ρ = bnd (evE Φ a ρ) fun x => bnd (evE Φ b ρ) fun y => rng2D x y := rfl
theorem evI_enum (a) : evI Φ (.enum a) ρ = bnd (evE Φ a ρ) fun x => enum1D x := rfl
theorem evI_zip (a b) : evI Φ (.zip a b) ρ = bnd (evE Φ a ρ) fun x => bnd (evE Φ b ρ) fun y => zipD x y := rfl
/-- stores into a list or an instance -/
def appD (x : D) (i : Nat) (r : R D) : SR := match x with
  | .lst xs => sof r fun d => if xs.length < maxLen then .nx (ρ.set i (some (.lst (xs ++ [d])))) else .bad
  | _ => .bad
theorem appD_ok {ρ : Env} (xs i d) (h : xs.length < maxLen) : appD ρ (.lst xs) i (.ok d) = .nx (ρ.set i (some (.lst (xs ++ [d])))) := if_pos h
def popD (i : Nat) (x : D) : SR := match x with
  | .lst xs => if xs.length = 0 then .bad else .nx (ρ.set i (some (.lst xs.dropLast)))
  | _ => .bad
theorem popD_ok {ρ : Env} (xs i) (h : xs ≠ []) : popD ρ i (.lst xs) = .nx (ρ.set i (some (.lst xs.dropLast))) := if_neg fun e => h (List.length_eq_zero_iff.mp e)
def setFD (i f : Nat) (d x : D) : SR := match x with
  | .ins c fs => if f ∈ Φ.attrs c ∧ Φ.prop c f = none ∧ fs.length < 500 then .nx (ρ.set i (some (.ins c (putF f d fs)))) else .bad
  | _ => .bad
def setID (i : Nat) (d x kk : D) : SR := match x, kk with
  | .lst xs, .int j => match L2.ixN xs.length j with
    | some m => .nx (ρ.set i (some (.lst (xs.set m d))))
    | none => .bad
  | _, _ => .bad
def asgFD (i : Nat) (d : D) : SR := if i < ρ.length then .nx (ρ.set i (some d)) else .bad
theorem asgFD_ok {ρ : Env} (i d) (h : i < ρ.length) : asgFD ρ i d = .nx (ρ.set i (some d)) := if_pos h
theorem asgFD_z {x} {r : Env} (d) : asgFD (x :: r) 0 d = .nx (some d :: r) := if_pos (by simp)
theorem asgFD_cons {x} {r : Env} (i d) : asgFD (x :: r) (i + 1) d = sq (asgFD r i d) fun r' => .nx (x :: r') := by
  unfold asgFD
  by_cases h : i < r.length
  · rw [if_pos h, if_pos (by simp; exact h)]; rfl
  · rw [if_neg h, if_neg (by simp; omega)]; rfl
def raiseD (c : Nat) : List D → SR
  | [.str _] => .exc c none
  | _ => .bad
theorem raiseD_ok (c s) : raiseD c [.str s] = .exc c none := rfl
theorem evS_share (i) : evS Φ (.share i) ρ = .nx ρ := rfl
theorem evS_asg (t e) : evS Φ (.asg t e) ρ = sof (evE Φ e ρ) fun d => sof (bindT t d ρ) fun ρ' => .nx ρ' := rfl
theorem evS_asgF (i e) : evS Φ (.asgF i e) ρ = sof (evE Φ e ρ) fun d => asgFD ρ i d := rfl
theorem evS_setF (i f e) : evS Φ (.setF i f e) ρ = sof (evE Φ e ρ) fun d => sof (vr ρ i) fun x => setFD Φ ρ i f d x := by
  show SR.ofR _ _ = SR.ofR _ _
  congr 1
theorem evS_setI (i k e) : evS Φ (.setI i k e) ρ = sof (evE Φ e ρ) fun d => sof (vr ρ i) fun x => sof (evE Φ k ρ) fun kk => setID ρ i d x kk := by
  show SR.ofR _ _ = SR.ofR _ _
  congr 1
theorem evS_app (i e) : evS Φ (.app i e) ρ = sof (vr ρ i) fun x => appD ρ x i (evE Φ e ρ) := by
  show SR.ofR _ _ = SR.ofR _ _
  congr 1
theorem evS_pop (i) : evS Φ (.pop i) ρ = sof (vr ρ i) fun x => popD ρ i x := by
  show SR.ofR _ _ = SR.ofR _ _
  congr 1
theorem evS_expr (e) : evS Φ (.expr e) ρ = sof (evE Φ e ρ) fun _ => .nx ρ := rfl
theorem evS_ret (e) : evS Φ (.ret e) ρ = sof (evE Φ e ρ) fun d => .rt d ρ := rfl
theorem evS_retN : evS Φ .retN ρ = .rt .non ρ := rfl
theorem evS_if (t a b) : evS Φ (.ifS t a b) ρ = sof (evE Φ t ρ) fun x => sof (truthD x) fun c => iteS c (evSs Φ a ρ) (evSs Φ b ρ) := rfl
theorem evS_for (o t it b) : evS Φ (.forS o t it b) ρ = sof (evI Φ it ρ) fun xs => forL t (evSs Φ b) xs ρ := rfl
theorem evS_while (o t b) : evS Φ (.whileS o t b) ρ = whileN (fun ρ => bnd (evE Φ t ρ) truthD) (evSs Φ b) Φ.fuel ρ := rfl
theorem evS_brk : evS Φ .brk ρ = .bk ρ := rfl
theorem evS_cont : evS Φ .cont ρ = .ct ρ := rfl
theorem evS_pass : evS Φ .pass ρ = .nx ρ := rfl
theorem evS_raise (c es) : evS Φ (.raise c es) ρ = sof (evEs Φ es ρ) fun xs => raiseD c xs := by
  show SR.ofR _ _ = SR.ofR _ _
  congr 1
theorem evSs_nil : evSs Φ .nil ρ = .nx ρ := rfl
theorem evSs_cons (s ss) : evSs Φ (.cons s ss) ρ = sq (evS Φ s ρ) (evSs Φ ss) := rfl
end
theorem bindT_nm (i d ρ) : bindT (.nm i) d ρ = .ok (ρ.set i (some d)) := rfl
theorem bindT_tp (ts xs ρ) : bindT (.tp ts) (.tup xs) ρ = bindTs ts xs ρ := rfl
theorem bindTs_nil (ρ) : bindTs [] [] ρ = .ok ρ := rfl
theorem bindTs_cons (t ts x xs ρ) : bindTs (t :: ts) (x :: xs) ρ = bnd (bindT t x ρ) fun ρ' => bindTs ts xs ρ' := rfl
theorem wipe_nil (ρ) : wipeE ρ [] = ρ := rfl
theorem wipe_cons (ρ v vs) : wipeE ρ (v :: vs) = (wipeE ρ vs).set v none := rfl
theorem forL_nil (t b ρ) : forL t b [] ρ = .nx ρ := rfl
theorem forL_cons (t b x xs ρ) : forL t b (x :: xs) ρ = sof (bindT t x ρ) fun ρ' => trn (b ρ') (forL t b xs) := rfl
theorem whileN_succ (t b n ρ) : whileN t b (n + 1) ρ = sof (t ρ) fun c => if c then trn (b ρ) (whileN t b n) else .nx ρ := rfl

/-! ### operations on ints -/
theorem bin_add (x y) : binD .add x y = addD x y := rfl
theorem bin_sub (x y) : binD .sub x y = subD x y := rfl
theorem bin_mul (x y) : binD .mul x y = mulD x y := rfl
theorem bin_fdiv (x y) : binD .fdiv x y = fdivD x y := rfl
theorem bin_mod (x y) : binD .mod x y = modD x y := rfl
theorem bin_pow (x y) : binD .pow x y = powD x y := rfl
theorem addD_int (i j) : addD (.int i) (.int j) = .ok (.int (i + j)) := rfl
theorem subD_int (i j) : subD (.int i) (.int j) = .ok (.int (i - j)) := rfl
theorem mulD_ok {i j : Int} (h : mulOk i j) : mulD (.int i) (.int j) = .ok (.int (i * j)) := if_pos h
theorem fdivD_ok {i j : Int} (h : divOk j) : fdivD (.int i) (.int j) = .ok (.int (i.fdiv j)) := if_pos h
theorem modD_ok {i j : Int} (h : j ≠ 0) : modD (.int i) (.int j) = .ok (.int (i.fmod j)) := if_pos h
theorem powD_ok {i j : Int} (h : 0 ≤ j ∧ j ≤ 1000 ∧ i.natAbs ≤ 1000) : powD (.int i) (.int j) = .ok (.int (i ^ j.toNat)) := if_pos h
theorem addD_lst {xs ys : List D} (h : xs.length + ys.length ≤ maxLen) : addD (.lst xs) (.lst ys) = .ok (.lst (xs ++ ys)) := if_pos h
theorem shaped_int (i : Int) : SeqAt.shaped (.int i) = true := rfl
theorem eqD_ok {x y : D} {p q : PyData} (h1 : toPy x = some p) (h2 : toPy y = some q) (s1 : SeqAt.shaped p = true) (s2 : SeqAt.shaped q = true) : eqD x y = .ok (PyData.eqv p q) := by
  unfold eqD
  rw [h1, h2]
  exact if_pos ⟨s1, s2⟩
theorem eqD_int (i j : Int) : eqD (.int i) (.int j) = .ok (decide (i = j)) := by
  rw [eqD_ok (p := .int i) (q := .int j) rfl rfl rfl rfl]
  show R.ok (i == j) = _
  rfl
theorem cmp_eq (x y) : cmpD .eq x y = bnd (eqD x y) fun b => .ok (.bl b) := rfl
theorem cmp_ne (x y) : cmpD .ne x y = bnd (eqD x y) fun b => .ok (.bl (!b)) := rfl
theorem cmp_eq_int (i j : Int) : cmpD .eq (.int i) (.int j) = .ok (.bl (decide (i = j))) := by
  rw [cmp_eq, eqD_int]; rfl
theorem cmp_ne_int (i j : Int) : cmpD .ne (.int i) (.int j) = .ok (.bl (!decide (i = j))) := by
  rw [cmp_ne, eqD_int]; rfl
theorem cmp_lt_int (i j : Int) : cmpD .lt (.int i) (.int j) = .ok (.bl (decide (i < j))) := rfl
theorem cmp_le_int (i j : Int) : cmpD .le (.int i) (.int j) = .ok (.bl (decide (i ≤ j))) := rfl
theorem cmp_gt_int (i j : Int) : cmpD .gt (.int i) (.int j) = .ok (.bl (decide (j < i))) := rfl
theorem cmp_ge_int (i j : Int) : cmpD .ge (.int i) (.int j) = .ok (.bl (decide (j ≤ i))) := rfl
theorem cmp_is_non (x) : cmpD .isN x .non = .ok (.bl (isNone x)) := rfl
theorem cmp_isnot_non (x) : cmpD .notN x .non = .ok (.bl (!isNone x)) := rfl
theorem isNone_non : isNone .non = true := rfl
theorem isNone_tup (xs) : isNone (.tup xs) = false := rfl
theorem bi_len_lst (xs : List D) : biD .len [.lst xs] = .ok (.int xs.length) := rfl
theorem bi_len_tup (xs : List D) : biD .len [.tup xs] = .ok (.int xs.length) := rfl
theorem bi_len_scr (ns : List Int) : biD .len [.scr ns] = .ok (.int ns.length) := rfl
theorem bi_int (i : Int) : biD .int1 [.int i] = .ok (.int i) := rfl
theorem bi_abs (i : Int) : biD .abs [.int i] = .ok (.int (i.natAbs : Int)) := by
  show R.ok (D.int (if i < 0 then -i else i)) = _
  congr 2; split <;> omega
theorem bi_gcd (i j : Int) : biD .gcd [.int i, .int j] = .ok (.int (gcdI i j)) := rfl
theorem bi_lcm {i j : Int} (h : i.natAbs.log2 < 6000 ∧ j.natAbs.log2 < 6000) : biD .lcm [.int i, .int j] = .ok (.int (lcmI i j)) := if_pos h
theorem bi_list_lst (xs) : biD .list1 [.lst xs] = .ok (.lst xs) := rfl
theorem bi_list_tup (xs) : biD .list1 [.tup xs] = .ok (.lst xs) := rfl
theorem bi_tuple_lst (xs) : biD .tuple1 [.lst xs] = .ok (.tup xs) := rfl
theorem bi_tuple_tup (xs) : biD .tuple1 [.tup xs] = .ok (.tup xs) := rfl
theorem bi_max2 (i j : Int) : biD .max2 [.int i, .int j] = .ok (.int (max i j)) := by
  show R.ok (D.int (if j > i then j else i)) = _
  congr 2; split <;> omega
theorem bi_min2 (i j : Int) : biD .min2 [.int i, .int j] = .ok (.int (min i j)) := by
  show R.ok (D.int (if j < i then j else i)) = _
  congr 2; split <;> omega
theorem ofOpt_some {α} (a : α) : R.ofOpt (some a) = .ok a := rfl
theorem seq_lst (xs) : seq? (.lst xs) = some xs := rfl
theorem seq_tup (xs) : seq? (.tup xs) = some xs := rfl
theorem partD_nil : partD [] = .ok none := rfl
theorem partD_int (i) : partD [.int i] = .ok (some i) := rfl
theorem ixD_lst {xs : List D} {i : Int} {d} (h : L2.atI xs i = some d) : ixD (.lst xs) (.int i) = .ok d := by show R.ofOpt _ = _; rw [h]
theorem ixD_tup {xs : List D} {i : Int} {d} (h : L2.atI xs i = some d) : ixD (.tup xs) (.int i) = .ok d := by show R.ofOpt _ = _; rw [h]
theorem guard_pos {α} {c : Prop} [Decidable c] {a : α} (h : c) : R.guard c a = .ok a := if_pos h

/-! ### fractions and points as data -/
def fr (q : Rat) : D := .tup [.int q.num, .int q.den]
def pt (p : Pt) : D := .tup [fr p.1, fr p.2]
theorem ix_fr0 (q) : ixD (fr q) (.int 0) = .ok (.int q.num) := rfl
theorem ix_fr1 (q) : ixD (fr q) (.int 1) = .ok (.int q.den) := rfl
theorem ix_pt0 (p) : ixD (pt p) (.int 0) = .ok (fr p.1) := rfl
theorem ix_pt1 (p) : ixD (pt p) (.int 1) = .ok (fr p.2) := rfl
theorem ix_t2_0 (a b) : ixD (.tup [a, b]) (.int 0) = .ok a := rfl
theorem ix_t2_1 (a b) : ixD (.tup [a, b]) (.int 1) = .ok b := rfl
theorem ix_t3_0 (a b c) : ixD (.tup [a, b, c]) (.int 0) = .ok a := rfl
theorem ix_t3_1 (a b c) : ixD (.tup [a, b, c]) (.int 1) = .ok b := rfl
theorem ix_t3_2 (a b c) : ixD (.tup [a, b, c]) (.int 2) = .ok c := rfl
theorem ix_t4_0 (a b c d) : ixD (.tup [a, b, c, d]) (.int 0) = .ok a := rfl
theorem ix_t4_1 (a b c d) : ixD (.tup [a, b, c, d]) (.int 1) = .ok b := rfl
theorem ix_t4_2 (a b c d) : ixD (.tup [a, b, c, d]) (.int 2) = .ok c := rfl
theorem ix_t4_3 (a b c d) : ixD (.tup [a, b, c, d]) (.int 3) = .ok d := rfl
theorem pt_mk (a b) : (.tup [fr a, fr b] : D) = pt (a, b) := rfl
theorem isNone_fr (q) : isNone (fr q) = false := rfl
theorem isNone_pt (p) : isNone (pt p) = false := rfl
theorem bindT_pt (t u p ρ) : bindT (.tp [t, u]) (pt p) ρ = bindTs [t, u] [fr p.1, fr p.2] ρ := rfl
/-- within the sizes that the machine's words reach -/
def Ok (q : Rat) : Prop := Sz 4400 q
def OkP (p : Pt) : Prop := Ok p.1 ∧ Ok p.2
theorem Ok.sz {q : Rat} (h : Ok q) : Sz 4400 q := h
theorem Ok.of {k : Nat} {q : Rat} (h : Sz k q) (hk : k ≤ 4400) : Ok q := h.mono hk
theorem mulOk_of {i j : Int} {k l : Nat} (hi : i.natAbs < 2 ^ k) (hj : j.natAbs < 2 ^ l) (h : k + l ≤ 1000000) (hk : 0 < k) (hl : 0 < l) : mulOk i j := by
  have := log2_lt hi hk
  have := log2_lt hj hl
  unfold mulOk; omega
theorem divOk_of {j : Int} {k : Nat} (h0 : j ≠ 0) (h : j.natAbs < 2 ^ k) (hk : k ≤ 9000) (h1 : 0 < k) : divOk j := ⟨h0, Nat.lt_of_lt_of_le (log2_lt h h1) hk⟩
theorem mul_nd {a b : Rat} (ha : Ok a) (hb : Ok b) : mulD (.int a.num) (.int (b.den : Int)) = .ok (.int (a.num * b.den)) := mulD_ok (mulOk_of ha.1 (show ((b.den : Int)).natAbs < 2 ^ 4400 from hb.2) (by decide) (by decide) (by decide))
theorem mul_dd {a b : Rat} (ha : Ok a) (hb : Ok b) : mulD (.int (a.den : Int)) (.int (b.den : Int)) = .ok (.int ((a.den : Int) * (b.den : Int))) := mulD_ok (mulOk_of (show ((a.den : Int)).natAbs < 2 ^ 4400 from ha.2) (show ((b.den : Int)).natAbs < 2 ^ 4400 from hb.2) (by decide) (by decide) (by decide))
theorem mul_nn' {a b : Rat} (ha : Ok a) (hb : Ok b) : mulD (.int a.num) (.int b.num) = .ok (.int (a.num * b.num)) := mulD_ok (mulOk_of ha.1 hb.1 (by decide) (by decide) (by decide))
theorem mul_dn {a b : Rat} (ha : Ok a) (hb : Ok b) : mulD (.int (a.den : Int)) (.int b.num) = .ok (.int ((a.den : Int) * b.num)) := mulD_ok (mulOk_of (show ((a.den : Int)).natAbs < 2 ^ 4400 from ha.2) hb.1 (by decide) (by decide) (by decide))
theorem mul_mnd {a b : Rat} (ha : Ok a) (hb : Ok b) : mulD (.int (-a.num)) (.int (b.den : Int)) = .ok (.int (-a.num * b.den)) := mulD_ok (mulOk_of (show (-a.num).natAbs < 2 ^ 4400 by rw [Int.natAbs_neg]; exact ha.1) (show ((b.den : Int)).natAbs < 2 ^ 4400 from hb.2) (by decide) (by decide) (by decide))
theorem mul_mdn {a b : Rat} (ha : Ok a) (hb : Ok b) : mulD (.int (-(a.den : Int))) (.int b.num) = .ok (.int (-(a.den : Int) * b.num)) := mulD_ok (mulOk_of (show (-(a.den : Int)).natAbs < 2 ^ 4400 by rw [Int.natAbs_neg]; exact ha.2) hb.1 (by decide) (by decide) (by decide))
theorem Ok.dd {a b : Rat} (ha : Ok a) (hb : Ok b) : ((a.den : Int) * (b.den : Int)).natAbs < 2 ^ 8800 := dd_lt ha hb
theorem Ok.dn {a b : Rat} (ha : Ok a) (hb : Ok b) : ((a.den : Int) * b.num).natAbs < 2 ^ 8800 := by
  rw [Int.natAbs_mul]; exact mul_lt_pow ha.2 hb.1
theorem callN_eq {P : Prog} {n f : Nat} {F : Fn} {ds : List D} (h : P.fns f = some F) (h1 : F.init = false) (h2 : ds.length = F.np) : callN P (n + 1) f ds = endR (evSs (smOf P (callN P n) (mkN P n) (callN (hotP P) n)) F.body (startE F.ns ds)) := by
  show (match P.fns f with | some F => if F.init = false ∧ ds.length = F.np then endR (evSs (smOf P (callN P n) (mkN P n) (callN (hotP P) n)) F.body (startE F.ns ds)) else .bad | none => .bad) = _
  rw [h]
  exact if_pos ⟨h1, h2⟩
end Vm
namespace Vm
open PySem L2 Ma
theorem divOk_gcdS {a b : Int} (hb : b ≠ 0) (hs : b.natAbs < 2 ^ 8800) : divOk (gcdS a b) := by
  have h1 := gcdS_ne (n := a) hb
  have h2 : (gcdS a b).natAbs ≤ b.natAbs := by
    obtain ⟨c, hc⟩ := gcdS_dvd_r a b
    have : b.natAbs = (gcdS a b).natAbs * c.natAbs := (congrArg Int.natAbs hc).trans (Int.natAbs_mul _ _)
    have hc0 : 0 < c.natAbs := by
      apply Nat.pos_of_ne_zero
      intro z
      rw [z, Nat.mul_zero] at this
      omega
    calc (gcdS a b).natAbs = (gcdS a b).natAbs * 1 := (Nat.mul_one _).symm
      _ ≤ (gcdS a b).natAbs * c.natAbs := Nat.mul_le_mul_left _ hc0
      _ = b.natAbs := this.symm
  exact divOk_of (k := 8800) h1 (Nat.lt_of_le_of_lt h2 hs) (by decide) (by decide)
theorem fr_divInt {a b : Int} (hb : b ≠ 0) : fr (Rat.divInt a b) = .tup [.int (a.fdiv (gcdS a b)), .int (b.fdiv (gcdS a b))] := by
  obtain ⟨h1, h2⟩ := frac_norm (n := a) hb
  unfold fr
  rw [h1, h2]
end Vm

set_option maxRecDepth 100000
/-! SpB: loops. -/
namespace Vm
open PySem L2 Ma

/-- a for loop without return -/
theorem forL_fold {α σ : Type} {t : Tgt} {b : Env → SR} (f : α → D) (env : σ → Env → Prop) (step : σ → α → σ) : ∀ (xs : List α), (∀ s x ρ, x ∈ xs → env s ρ → ∃ ρ', sof (bindT t (f x) ρ) b = .nx ρ' ∧ env (step s x) ρ') →
    ∀ s ρ, env s ρ → ∃ ρ', forL t b (xs.map f) ρ = .nx ρ' ∧ env (xs.foldl step s) ρ'
  | [], _, s, ρ, h => ⟨ρ, rfl, h⟩
  | x :: xs, hs, s, ρ, h => by
    obtain ⟨ρ1, h1, h2⟩ := hs s x ρ (List.mem_cons_self ..) h
    obtain ⟨ρ2, h3, h4⟩ := forL_fold f env step xs (fun s y ρ hy => hs s y ρ (List.mem_cons_of_mem _ hy)) (step s x) ρ1 h2
    refine ⟨ρ2, ?_, h4⟩
    show sof (bindT t (f x) ρ) (fun ρ' => trn (b ρ') (forL t b (xs.map f))) = _
    revert h1
    cases e : bindT t (f x) ρ with
    | ok ρ' => intro h1; have h1 : b ρ' = .nx ρ1 := h1; show trn (b ρ') _ = _; rw [h1]; exact h3
    | exc c a => intro h1; exact absurd h1 (fun z => nomatch z)
    | bad => intro h1; exact absurd h1 (fun z => nomatch z)
/-- a for loop whose state is told by the turns done: the invariant speaks of the rest of the list -/
theorem forL_inv {α : Type} {t : Tgt} {b : Env → SR} (f : α → D) (I : List α → List α → Env → Prop) : ∀ (xs done : List α), (∀ d x r ρ, d ++ x :: r = done ++ xs → I d (x :: r) ρ → ∃ ρ', sof (bindT t (f x) ρ) b = .nx ρ' ∧ I (d ++ [x]) r ρ') →
    ∀ ρ, I done xs ρ → ∃ ρ', forL t b (xs.map f) ρ = .nx ρ' ∧ I (done ++ xs) [] ρ'
  | [], done, _, ρ, h => ⟨ρ, rfl, by rw [List.append_nil]; exact h⟩
  | x :: xs, done, hs, ρ, h => by
    obtain ⟨ρ1, h1, h2⟩ := hs done x xs ρ rfl h
    obtain ⟨ρ2, h3, h4⟩ := forL_inv f I xs (done ++ [x]) (fun d y r ρ e hy => hs d y r ρ (by rw [e]; simp) hy) ρ1 h2
    refine ⟨ρ2, ?_, by rw [show done ++ x :: xs = done ++ [x] ++ xs by simp]; exact h4⟩
    show sof (bindT t (f x) ρ) (fun ρ' => trn (b ρ') (forL t b (xs.map f))) = _
    revert h1
    cases e : bindT t (f x) ρ with
    | ok ρ' => intro h1; have h1 : b ρ' = .nx ρ1 := h1; show trn (b ρ') _ = _; rw [h1]; exact h3
    | exc c a => intro h1; exact absurd h1 (fun z => nomatch z)
    | bad => intro h1; exact absurd h1 (fun z => nomatch z)
/-- a for loop that looks for an answer: what is returned is the first item's that has one -/
theorem forL_find {α : Type} {t : Tgt} {b : Env → SR} (f : α → D) (env : Env → Prop) (g : α → Option D) : ∀ (xs : List α), (∀ x ρ, x ∈ xs → env ρ → match g x with
      | none => ∃ ρ', sof (bindT t (f x) ρ) b = .nx ρ' ∧ env ρ'
      | some d => ∃ ρ', sof (bindT t (f x) ρ) b = .rt d ρ') →
    ∀ ρ, env ρ → match xs.findSome? g with
      | none => ∃ ρ', forL t b (xs.map f) ρ = .nx ρ' ∧ env ρ'
      | some d => ∃ ρ', forL t b (xs.map f) ρ = .rt d ρ'
  | [], _, ρ, h => ⟨ρ, rfl, h⟩
  | x :: xs, hs, ρ, h => by
    have h1 := hs x ρ (List.mem_cons_self ..) h
    have ih := forL_find f env g xs (fun y ρ hy => hs y ρ (List.mem_cons_of_mem _ hy))
    rw [List.findSome?_cons]
    cases hg : g x with
    | none =>
      rw [hg] at h1
      obtain ⟨ρ1, h1, h2⟩ := h1
      have e : forL t b ((x :: xs).map f) ρ = forL t b (xs.map f) ρ1 := by
        show sof (bindT t (f x) ρ) (fun ρ' => trn (b ρ') (forL t b (xs.map f))) = _
        revert h1
        cases e : bindT t (f x) ρ with
        | ok ρ' => intro h1; have h1 : b ρ' = .nx ρ1 := h1; show trn (b ρ') _ = _; rw [h1]; rfl
        | exc c a => intro h1; exact absurd h1 (fun z => nomatch z)
        | bad => intro h1; exact absurd h1 (fun z => nomatch z)
      have := ih ρ1 h2
      simp only []
      rw [e]
      exact this
    | some d =>
      rw [hg] at h1
      obtain ⟨ρ1, h1⟩ := h1
      refine ⟨ρ1, ?_⟩
      show sof (bindT t (f x) ρ) (fun ρ' => trn (b ρ') (forL t b (xs.map f))) = _
      revert h1
      cases e : bindT t (f x) ρ with
      | ok ρ' => intro h1; have h1 : b ρ' = .rt d ρ1 := h1; show trn (b ρ') _ = _; rw [h1]; rfl
      | exc c a => intro h1; exact absurd h1 (fun z => nomatch z)
      | bad => intro h1; exact absurd h1 (fun z => nomatch z)
/-- a comprehension without test -/
theorem compL_map {α : Type} {g : D → R (Option D)} (f : α → D) (h : α → D) : ∀ (xs : List α), (∀ x ∈ xs, g (f x) = .ok (some (h x))) → compL g (xs.map f) = .ok (xs.map h)
  | [], _ => rfl
  | x :: xs, hs => by
    have h1 := hs x (List.mem_cons_self ..)
    have h2 := compL_map f h xs (fun y hy => hs y (List.mem_cons_of_mem _ hy))
    show (match g (f x) with
      | .ok o => match compL g (xs.map f) with
        | .ok ys => .ok (match o with | some y => y :: ys | none => ys)
        | _ => .bad
      | _ => .bad : R (List D)) = _
    rw [h1, h2]
    rfl
/-- a while loop with a measure: each turn brings the state on, or the test is false -/
theorem whileN_run {σ : Type} {t : Env → R Bool} {b : Env → SR} (env : σ → Env → Prop) (m : σ → Nat) (go : σ → Bool) (step : σ → σ)
    (ht : ∀ s ρ, env s ρ → t ρ = .ok (go s)) (hb : ∀ s ρ, env s ρ → go s = true → ∃ ρ', (b ρ = .nx ρ' ∨ b ρ = .ct ρ') ∧ env (step s) ρ') (hm : ∀ s, go s = true → m (step s) < m s) :
    ∀ (n : Nat) (s : σ) (ρ : Env), m s < n → env s ρ → ∃ (s' : σ) (ρ' : Env), whileN t b n ρ = .nx ρ' ∧ env s' ρ' ∧ go s' = false ∧ ∃ k, s' = Nat.repeat step k s ∧ ∀ j, j < k → go (Nat.repeat step j s) = true
  | 0, s, ρ, h, _ => absurd h (Nat.not_lt_zero _)
  | n + 1, s, ρ, h, he => by
    have h1 := ht s ρ he
    cases hg : go s with
    | false =>
      refine ⟨s, ρ, ?_, he, hg, 0, rfl, fun j hj => absurd hj (Nat.not_lt_zero _)⟩
      rw [whileN_succ, h1, hg]
      rfl
    | true =>
      obtain ⟨ρ1, h2, h3⟩ := hb s ρ he hg
      have hlt := hm s hg
      obtain ⟨s', ρ', h4, h5, h6, k, h7, h8⟩ := whileN_run env m go step ht hb hm n (step s) ρ1 (by omega) h3
      have hr : ∀ j, Nat.repeat step j (step s) = Nat.repeat step (j + 1) s := by
        intro j
        induction j with
        | zero => rfl
        | succ j ih => show step _ = step _; rw [ih]
      refine ⟨s', ρ', ?_, h5, h6, k + 1, by rw [h7, hr], fun j hj => ?_⟩
      · rw [whileN_succ, h1, hg]
        show trn (b ρ) (whileN t b n) = _
        rcases h2 with h2 | h2 <;> rw [h2] <;> exact h4
      · cases j with
        | zero => exact hg
        | succ j => rw [← hr]; exact h8 j (by omega)

/-! ### ranges and the edges of a chain -/
theorem rgD_zero (lo : Int) : rgD 0 lo = [] := rfl
theorem rgD_succ (n : Nat) (lo : Int) : rgD (n + 1) lo = .int lo :: rgD n (lo + 1) := by
  unfold rgD
  rw [List.range_succ_eq_map, List.map_cons, List.map_map]
  congr 1
  · simp
  · apply List.map_congr_left
    intro a _
    simp only [Function.comp]
    congr 1
    omega
/-- neighbours with the places of the right ones -/
def edgesI {α : Type} : List α → Int → List (Int × α × α)
  | p :: q :: r, i => (i, p, q) :: edgesI (q :: r) (i + 1)
  | _, _ => []
theorem rgD_edgesI {α : Type} : ∀ (c : List α) (i : Int), rgD (c.length - 1) i = (edgesI c i).map fun e => .int e.1
  | [], _ => rfl
  | [_], _ => rfl
  | p :: q :: r, i => by
    show rgD (r.length + 1) i = _
    rw [rgD_succ]
    have := rgD_edgesI (q :: r) (i + 1)
    show _ = _ :: _
    rw [← this]
    rfl
theorem edgesI_len {α : Type} : ∀ (c : List α) (i : Int), (edgesI c i).length ≤ c.length
  | [], _ => Nat.le_refl _
  | [_], _ => Nat.zero_le _
  | p :: q :: r, i => Nat.succ_le_succ (edgesI_len (q :: r) (i + 1))
theorem edgesI_edges : ∀ (c : List Pt) (i : Int), (edgesI c i).map (·.2) = edges c
  | [], _ => rfl
  | [_], _ => rfl
  | p :: q :: r, i => by
    show (p, q) :: _ = (p, q) :: _
    rw [edgesI_edges (q :: r)]
theorem at_nat {α : Type} (xs : List α) (i : Int) (k : Nat) (h : i = k) : L2.atI xs i = xs[k]? := by
  subst h
  unfold L2.atI L2.ixN
  rw [if_pos (by omega)]
  by_cases h : (k : Int) < xs.length
  · rw [if_pos h]; rfl
  · rw [if_neg h, List.getElem?_eq_none (by omega)]; rfl
theorem at_neg {α : Type} (xs : List α) (i : Int) (k : Nat) (h0 : i < 0) (h : i + xs.length = k) : L2.atI xs i = xs[k]? := by
  unfold L2.atI L2.ixN
  rw [if_neg (by omega), if_pos (by omega), h]
  rfl
theorem edgesI_at {α : Type} : ∀ (c pre : List α) (e : Int × α × α), e ∈ edgesI c (pre.length + 1) → (∃ k : Nat, e.1 = (k : Int) + 1 ∧ (pre ++ c)[k]? = some e.2.1 ∧ (pre ++ c)[k + 1]? = some e.2.2)
  | [], pre, e, h => nomatch h
  | [_], pre, e, h => nomatch h
  | p :: q :: r, pre, e, h => by
    rcases List.mem_cons.mp h with h | h
    · subst h
      exact ⟨pre.length, rfl, by simp, by simp⟩
    · have := edgesI_at (q :: r) (pre ++ [p]) e (by simpa using h)
      obtain ⟨k, h1, h2, h3⟩ := this
      exact ⟨k, h1, by simpa using h2, by simpa using h3⟩
theorem edgesI_ixg {α : Type} (f : α → D) {c : List α} {e : Int × α × α} (h : e ∈ edgesI c 1) : L2.atI (c.map f) (e.1 - 1) = some (f e.2.1) ∧ L2.atI (c.map f) e.1 = some (f e.2.2) ∧ e.2.1 ∈ c ∧ e.2.2 ∈ c := by
  obtain ⟨k, h1, h2, h3⟩ := edgesI_at c [] e h
  simp only [List.nil_append] at h2 h3
  refine ⟨?_, ?_, List.mem_of_getElem? h2, List.mem_of_getElem? h3⟩
  · rw [at_nat _ _ k (by omega), List.getElem?_map, h2]
    rfl
  · rw [at_nat _ _ (k + 1) (by omega), List.getElem?_map, h3]
    rfl
theorem edgesI_ix {c : List Pt} {e : Int × Pt × Pt} (h : e ∈ edgesI c 1) : L2.atI (c.map pt) (e.1 - 1) = some (pt e.2.1) ∧ L2.atI (c.map pt) e.1 = some (pt e.2.2) ∧ (e.2.1, e.2.2) ∈ edges c := by
  obtain ⟨h1, h2, _⟩ := edgesI_ixg pt h
  refine ⟨h1, h2, ?_⟩
  rw [← edgesI_edges c 1]
  exact List.mem_map.mpr ⟨e, h, rfl⟩
theorem rng2_edges {α : Type} {c : List α} (h : c ≠ []) (hl : c.length ≤ 1000) : rng2D (.int 1) (.int (c.length : Nat)) = .ok ((edgesI c 1).map fun e => .int e.1) := by
  have : 0 < c.length := List.length_pos_iff.mpr h
  show R.guard _ _ = _
  rw [guard_pos (by omega), ← rgD_edgesI]
  congr 2
  omega
theorem at_last {c : List Pt} (h : c ≠ []) : L2.atI (c.map pt) (-1) = some (pt (lastP c)) := by
  have hl : 0 < c.length := List.length_pos_iff.mpr h
  have h1 : L2.atI (c.map pt) (-1) = (c.map pt)[c.length - 1]? := at_neg _ _ _ (by decide) (by rw [List.length_map]; omega)
  rw [h1, List.getElem?_map]
  have : c[c.length - 1]? = some (lastP c) := by
    clear h1
    induction c with
    | nil => exact absurd rfl h
    | cons p c ih =>
      cases c with
      | nil => rfl
      | cons q r =>
        have := ih (List.cons_ne_nil _ _) (by simp)
        show (p :: q :: r)[r.length + 1]? = some (lastP (q :: r))
        rw [List.getElem?_cons_succ]
        exact this
  rw [this]
  rfl
theorem at_head {c : List Pt} (h : c ≠ []) : L2.atI (c.map pt) 0 = some (pt (headP c)) := by
  cases c with
  | nil => exact absurd rfl h
  | cons p c => rw [at_nat (List.map pt (p :: c)) 0 0 rfl]; rfl
end Vm

set_option maxRecDepth 100000
/-! SpC: equality of data that stands for Lean values. -/
namespace Vm
open PySem L2 Ma

class Dt (α : Type) [DecidableEq α] where
  d : α → D
  p : α → PyData
  tp : ∀ a, toPy (d a) = some (p a)
  lay : ∀ a, (p a).canLay0 = true
  dep : Nat
  le : ∀ a, (p a).depth ≤ dep
  eqv : ∀ a b, PyData.eqv (p a) (p b) = decide (a = b)
instance : Dt Int where
  d := .int
  p := .int
  tp _ := rfl
  lay _ := rfl
  dep := 0
  le _ := Nat.le_refl _
  eqv a b := by simp only [PyData.eqv]; rw [Bool.eq_iff_iff, beq_iff_eq, decide_eq_true_eq]
instance : Dt Bool where
  d := .bl
  p := .bool
  tp _ := rfl
  lay _ := rfl
  dep := 0
  le _ := Nat.le_refl _
  eqv a b := by simp only [PyData.eqv]; rw [Bool.eq_iff_iff, beq_iff_eq, decide_eq_true_eq]
instance : Dt Rat where
  d := fr
  p q := .tuple [.int q.num, .int q.den]
  tp _ := rfl
  lay _ := rfl
  dep := 1
  le _ := Nat.le_refl _
  eqv a b := by
    simp only [PyData.eqv, PyData.eqvAll, Bool.and_true]
    rw [Bool.eq_iff_iff, Bool.and_eq_true, beq_iff_eq, beq_iff_eq, decide_eq_true_eq, ← ext_iff']
    omega
section
variable {α β : Type} [DecidableEq α] [DecidableEq β] [Dt α] [Dt β]
instance : Dt (α × β) where
  d x := .tup [Dt.d x.1, Dt.d x.2]
  p x := .tuple [Dt.p x.1, Dt.p x.2]
  tp x := by simp only [toPy, toPys, Dt.tp]; rfl
  lay x := by simp only [PyData.canLay0, PyData.canLayAll0, Dt.lay]; rfl
  dep := max (Dt.dep α) (Dt.dep β) + 1
  le x := by
    have h1 := Dt.le x.1
    have h2 := Dt.le x.2
    simp only [PyData.depth, PyData.depthAll]
    omega
  eqv a b := by
    simp only [PyData.eqv, PyData.eqvAll, Dt.eqv, Bool.and_true]
    rw [← Bool.decide_and]
    exact decide_eq_decide.mpr (by rw [Prod.ext_iff])
theorem toPys_map (xs : List α) : toPys (xs.map Dt.d) = some (xs.map Dt.p) := by
  induction xs with
  | nil => rfl
  | cons x xs ih => simp only [List.map_cons, toPys, Dt.tp, ih]
theorem lay_map (xs : List α) : PyData.canLayAll0 (xs.map Dt.p) = true := by
  induction xs with
  | nil => rfl
  | cons x xs ih => simp only [List.map_cons, PyData.canLayAll0, Dt.lay, ih]; rfl
theorem dep_map (xs : List α) : PyData.depthAll (xs.map Dt.p) ≤ Dt.dep α := by
  induction xs with
  | nil => exact Nat.zero_le _
  | cons x xs ih =>
    have h1 := Dt.le x
    simp only [List.map_cons, PyData.depthAll]
    omega
theorem eqv_map : ∀ (xs ys : List α), PyData.eqvAll (xs.map Dt.p) (ys.map Dt.p) = decide (xs = ys)
  | [], [] => by simp only [List.map_nil, PyData.eqvAll, decide_true]
  | [], _ :: _ => by simp [PyData.eqvAll]
  | _ :: _, [] => by simp [PyData.eqvAll]
  | x :: xs, y :: ys => by
    rw [List.map_cons, List.map_cons, PyData.eqvAll, Dt.eqv x y, eqv_map xs ys, ← Bool.decide_and]
    exact decide_eq_decide.mpr (by rw [List.cons.injEq])
/-- a list of values -/
instance : Dt (List α) where
  d xs := .lst (xs.map Dt.d)
  p xs := .list (xs.map Dt.p)
  tp xs := by simp only [toPy, toPys_map]; rfl
  lay xs := by simp only [PyData.canLay0]; exact lay_map xs
  dep := Dt.dep α + 1
  le xs := by
    have := dep_map xs
    simp only [PyData.depth]
    omega
  eqv a b := by simp only [PyData.eqv]; exact eqv_map a b
/-- a tuple of values of one kind -/
structure Tp (α : Type) where
  l : List α
  deriving DecidableEq
instance : Dt (Tp α) where
  d xs := .tup (xs.l.map Dt.d)
  p xs := .tuple (xs.l.map Dt.p)
  tp xs := by simp only [toPy, toPys_map]; rfl
  lay xs := by simp only [PyData.canLay0]; exact lay_map xs.l
  dep := Dt.dep α + 1
  le xs := by
    have := dep_map xs.l
    simp only [PyData.depth]
    omega
  eqv a b := by
    simp only [PyData.eqv]
    rw [eqv_map]
    exact decide_eq_decide.mpr ⟨fun h => by cases a; cases b; exact congrArg Tp.mk h, fun h => by rw [h]⟩
theorem eqD_dt (h : Dt.dep α ≤ 64) (a b : α) : eqD (Dt.d a) (Dt.d b) = .ok (decide (a = b)) := by
  have s : ∀ a : α, SeqAt.shaped (Dt.p a) = true := fun a => Bool.and_eq_true_iff.mpr ⟨Dt.lay a, decide_eq_true (Nat.le_trans (Dt.le a) h)⟩
  rw [eqD_ok (Dt.tp a) (Dt.tp b) (s a) (s b), Dt.eqv]
theorem cmp_eq_dt (h : Dt.dep α ≤ 64) (a b : α) : cmpD .eq (Dt.d a) (Dt.d b) = .ok (.bl (decide (a = b))) := by rw [cmp_eq, eqD_dt h]; rfl
theorem cmp_ne_dt (h : Dt.dep α ≤ 64) (a b : α) : cmpD .ne (Dt.d a) (Dt.d b) = .ok (.bl (!decide (a = b))) := by rw [cmp_ne, eqD_dt h]; rfl
end
theorem cmp_eq_fr (a b : Rat) : cmpD .eq (fr a) (fr b) = .ok (.bl (decide (a = b))) := cmp_eq_dt (α := Rat) (by decide) a b
theorem cmp_ne_fr (a b : Rat) : cmpD .ne (fr a) (fr b) = .ok (.bl (!decide (a = b))) := cmp_ne_dt (α := Rat) (by decide) a b
theorem cmp_eq_pt (a b : Pt) : cmpD .eq (pt a) (pt b) = .ok (.bl (decide (a = b))) := cmp_eq_dt (α := Pt) (by decide) a b
theorem cmp_ne_pt (a b : Pt) : cmpD .ne (pt a) (pt b) = .ok (.bl (!decide (a = b))) := cmp_ne_dt (α := Pt) (by decide) a b
theorem cmp_eq_lpt (a b : List Pt) : cmpD .eq (.lst (a.map pt)) (.lst (b.map pt)) = .ok (.bl (decide (a = b))) := cmp_eq_dt (α := List Pt) (by decide) a b
theorem cmp_ne_lpt (a b : List Pt) : cmpD .ne (.lst (a.map pt)) (.lst (b.map pt)) = .ok (.bl (!decide (a = b))) := cmp_ne_dt (α := List Pt) (by decide) a b
theorem tp_eq {α : Type} {a b : List α} : (Tp.mk a = Tp.mk b) ↔ a = b := ⟨fun h => congrArg Tp.l h, fun h => by rw [h]⟩
theorem cmp_eq_tpt (a b : List Pt) : cmpD .eq (.tup (a.map pt)) (.tup (b.map pt)) = .ok (.bl (decide (a = b))) := (cmp_eq_dt (α := Tp Pt) (by decide) ⟨a⟩ ⟨b⟩).trans (by rw [decide_eq_decide.mpr tp_eq])
theorem cmp_ne_tpt (a b : List Pt) : cmpD .ne (.tup (a.map pt)) (.tup (b.map pt)) = .ok (.bl (!decide (a = b))) := (cmp_ne_dt (α := Tp Pt) (by decide) ⟨a⟩ ⟨b⟩).trans (by rw [decide_eq_decide.mpr tp_eq])
end Vm

set_option maxRecDepth 100000
set_option maxHeartbeats 1000000
/-! SpD: points over common denominators, sorted. -/
namespace Vm
open PySem L2 Ma
def sX (W : Nat) (q : IP) : Int := q.1.1.num * ((W / q.1.1.den : Nat) : Int)
def sY (H : Nat) (q : IP) : Int := q.1.2.num * ((H / q.1.2.den : Nat) : Int)
def spR (W H : Nat) (q : IP) : List Int := [sX W q, sY H q, (q.2 : Int)]
def spD (W H : Nat) (q : IP) : D := .tup [.int (sX W q), .int (sY H q), .int (q.2 : Int)]
/-- common denominators, within the machine's sizes -/
structure Com (W H : Nat) (q : IP) : Prop where
  w : q.1.1.den ∣ W
  h : q.1.2.den ∣ H
  sz : SzP 1000 q.1
  W0 : 0 < W
  H0 : 0 < H
  Ws : W < 2 ^ 5900
  Hs : H < 2 ^ 5900
theorem num_eq (q : Rat) : (q.num : Rat) = q * (q.den : Rat) := by
  have h : ((q.den : Nat) : Rat) ≠ 0 := by
    intro z
    have := Rat.natCast_pos.mpr q.den_pos
    grind
  have := Rat.num_divInt_den q
  rw [Rat.divInt_eq_div] at this
  have h2 : ((q.den : Int) : Rat) = (q.den : Rat) := rfl
  rw [h2] at this
  grind
theorem scaled {q : Rat} {W : Nat} (h : q.den ∣ W) : ((q.num * ((W / q.den : Nat) : Int) : Int) : Rat) = q * (W : Rat) := by
  obtain ⟨k, rfl⟩ := h
  rw [Nat.mul_div_cancel_left _ q.den_pos, Rat.intCast_mul, num_eq]
  have : (((k : Nat) : Int) : Rat) = (k : Rat) := rfl
  rw [this, Rat.natCast_mul]
  grind
theorem Com.x {W H : Nat} {q : IP} (h : Com W H q) : ((sX W q : Int) : Rat) = q.1.1 * (W : Rat) := scaled h.w
theorem Com.y {W H : Nat} {q : IP} (h : Com W H q) : ((sY H q : Int) : Rat) = q.1.2 * (H : Rat) := scaled h.h
theorem Com.wp {W H : Nat} {q : IP} (h : Com W H q) : (0 : Rat) < (W : Rat) := Rat.natCast_pos.mpr h.W0
theorem Com.hp {W H : Nat} {q : IP} (h : Com W H q) : (0 : Rat) < (H : Rat) := Rat.natCast_pos.mpr h.H0
theorem int_lt_iff {i j : Int} {a b w : Rat} (hi : (i : Rat) = a * w) (hj : (j : Rat) = b * w) (hw : 0 < w) : i < j ↔ a < b := by
  rw [← Rat.intCast_lt_intCast, hi, hj]
  exact Rat.mul_lt_mul_right hw
theorem int_eq_iff {i j : Int} {a b w : Rat} (hi : (i : Rat) = a * w) (hj : (j : Rat) = b * w) (hw : 0 < w) : i = j ↔ a = b := by
  constructor
  · intro e
    have h1 := int_lt_iff hi hj hw
    have h2 := int_lt_iff hj hi hw
    have : ¬ a < b := fun z => by have := h1.mpr z; omega
    have : ¬ b < a := fun z => by have := h2.mpr z; omega
    grind
  · intro e
    have h1 := int_lt_iff hi hj hw
    have h2 := int_lt_iff hj hi hw
    subst e
    have : ¬ i < j := fun z => Rat.lt_irrefl (h1.mp z)
    have : ¬ j < i := fun z => Rat.lt_irrefl (h2.mp z)
    omega
theorem lexLt_sp {W H : Nat} {a b : IP} (ha : Com W H a) (hb : Com W H b) : HT.lexLt (spR W H a) (spR W H b) = ltIP a b := by
  have e1 := int_eq_iff ha.x hb.x ha.wp
  have e2 := int_lt_iff ha.x hb.x ha.wp
  have e3 := int_eq_iff ha.y hb.y ha.hp
  have e4 := int_lt_iff ha.y hb.y ha.hp
  unfold spR ltIP
  rw [HT.lexLt_cons]
  by_cases h1 : a.1.1 = b.1.1
  · rw [if_pos (e1.mpr h1), if_pos h1, HT.lexLt_cons]
    by_cases h2 : a.1.2 = b.1.2
    · rw [if_pos (e3.mpr h2), if_pos h2, HT.lexLt_cons]
      by_cases h3 : (a.2 : Int) = (b.2 : Int)
      · rw [if_pos h3, HT.lexLt_nil_nil, decide_eq_false (by omega)]
      · rw [if_neg h3]; exact decide_eq_decide.mpr (by omega)
    · rw [if_neg (fun z => h2 (e3.mp z)), if_neg h2]; exact decide_eq_decide.mpr e4
  · rw [if_neg (fun z => h1 (e1.mp z)), if_neg h1]; exact decide_eq_decide.mpr e2
theorem insT_sp {W H : Nat} {x : IP} (hx : Com W H x) : ∀ {l : List IP}, (∀ q ∈ l, Com W H q) → insT (spR W H x) (l.map (spR W H)) = (insIP x l).map (spR W H)
  | [], _ => rfl
  | y :: r, h => by
    show (if HT.lexLt (spR W H x) (spR W H y) then _ else _) = List.map _ (if ltIP x y then x :: y :: r else y :: insIP x r)
    rw [lexLt_sp hx (h y (List.mem_cons_self ..))]
    split
    · rfl
    · rw [List.map_cons, insT_sp hx fun q hq => h q (List.mem_cons_of_mem _ hq)]
theorem sortT_sp {W H : Nat} : ∀ {l : List IP}, (∀ q ∈ l, Com W H q) → sortT (l.map (spR W H)) = (sortIP l).map (spR W H)
  | [], _ => rfl
  | x :: r, h => by
    have hr : ∀ q ∈ r, Com W H q := fun q hq => h q (List.mem_cons_of_mem _ hq)
    show insT (spR W H x) (sortT (r.map (spR W H))) = (insIP x (sortIP r)).map _
    rw [sortT_sp hr, insT_sp (h x (List.mem_cons_self ..)) fun q hq => hr q ((sortIP_perm r).mem_iff.mp hq)]
theorem rows_sp (W H : Nat) : ∀ l : List IP, rows? (l.map (spD W H)) = some (l.map (spR W H))
  | [] => rfl
  | x :: r => by
    rw [List.map_cons, List.map_cons]
    show (match row? (spD W H x), rows? (r.map (spD W H)) with | some a, some b => some (a :: b) | _, _ => none) = _
    rw [rows_sp W H r]
    rfl
theorem bi_sort_sp {W H : Nat} {l : List IP} (h : ∀ q ∈ l, Com W H q) : biD .sortT [.lst (l.map (spD W H))] = .ok (.lst ((sortIP l).map (spD W H))) := by
  show (match rows? (l.map (spD W H)) with | some rs => R.guard (∀ r ∈ rs, r ≠ []) (D.lst ((sortT rs).map fun r : List Int => D.tup (r.map D.int))) | none => .bad) = _
  rw [rows_sp]
  have hg : ∀ r ∈ l.map (spR W H), r ≠ [] := fun r hr => by
    obtain ⟨q, _, rfl⟩ := List.mem_map.mp hr
    exact List.cons_ne_nil _ _
  show R.guard (∀ r ∈ l.map (spR W H), r ≠ []) _ = _
  rw [guard_pos hg, sortT_sp h, List.map_map]
  rfl
theorem int_abs_lt {a : Int} {b k l : Nat} (h1 : a.natAbs < 2 ^ k) (h2 : b < 2 ^ l) : (a * (b : Int)).natAbs < 2 ^ (k + l) := by
  rw [Int.natAbs_mul, Int.natAbs_natCast]; exact mul_lt_pow h1 h2
theorem Com.xs {W H : Nat} {q : IP} (h : Com W H q) : (sX W q).natAbs < 2 ^ 6900 := int_abs_lt (k := 1000) (l := 5900) h.sz.1.1 (Nat.lt_of_le_of_lt (Nat.div_le_self _ _) h.Ws)
theorem Com.ys {W H : Nat} {q : IP} (h : Com W H q) : (sY H q).natAbs < 2 ^ 6900 := int_abs_lt (k := 1000) (l := 5900) h.sz.2.1 (Nat.lt_of_le_of_lt (Nat.div_le_self _ _) h.Hs)
def turnI (W H : Nat) (a b c : IP) : Int := (sX W b - sX W a) * (sY H c - sY H a) - (sY H b - sY H a) * (sX W c - sX W a)
theorem turnI_nn {W H : Nat} {a b c : IP} (ha : Com W H a) (hb : Com W H b) (hc : Com W H c) : 0 ≤ turnI W H a b c ↔ 0 ≤ turn a.1 b.1 c.1 := by
  have e : ((turnI W H a b c : Int) : Rat) = ((W : Rat) * (H : Rat)) * turn a.1 b.1 c.1 := by
    unfold turnI turn
    rw [Rat.intCast_sub, Rat.intCast_mul, Rat.intCast_mul, Rat.intCast_sub, Rat.intCast_sub, Rat.intCast_sub, Rat.intCast_sub, ha.x, hb.x, hc.x, ha.y, hb.y, hc.y]
    grind
  have hp := mul_pp ha.wp ha.hp
  rw [← Rat.intCast_nonneg, e]
  exact ⟨fun h => nn_of_mul hp h, fun h => mul_nn (Rat.le_of_lt hp) h⟩
theorem yle_iff {W H : Nat} {a b : IP} (ha : Com W H a) (hb : Com W H b) : sY H a ≤ sY H b ↔ a.1.2 ≤ b.1.2 := by
  have := int_lt_iff hb.y ha.y ha.hp
  constructor
  · intro h
    apply Rat.not_lt.mp
    intro z
    have := this.mpr z
    omega
  · intro h
    have h2 : ¬ b.1.2 < a.1.2 := Rat.not_lt.mpr h
    have k : ¬ sY H b < sY H a := fun z => h2 (this.mp z)
    omega
theorem mulOk_dif {a b c d : Int} (h1 : a.natAbs < 2 ^ 6900) (h2 : b.natAbs < 2 ^ 6900) (h3 : c.natAbs < 2 ^ 6900) (h4 : d.natAbs < 2 ^ 6900) : mulOk (a - b) (c - d) :=
  mulOk_of (k := 6901) (l := 6901) (natAbs_sub_lt h1 h2) (natAbs_sub_lt h3 h4) (by decide) (by decide) (by decide)

/-! the common denominators -/
def lcmX (l : List Pt) : Nat := l.foldl (fun w p => Nat.lcm w p.1.den) 1
def lcmY (l : List Pt) : Nat := l.foldl (fun w p => Nat.lcm w p.2.den) 1
theorem foldl_lcm (f : Pt → Nat) (s : Nat) : ∀ (l : List Pt) (a : Nat), (∀ p ∈ l, 0 < f p ∧ f p < 2 ^ s) → 0 < a → a ∣ l.foldl (fun w p => Nat.lcm w (f p)) a ∧ (∀ p ∈ l, f p ∣ l.foldl (fun w p => Nat.lcm w (f p)) a) ∧ 0 < l.foldl (fun w p => Nat.lcm w (f p)) a ∧ l.foldl (fun w p => Nat.lcm w (f p)) a ≤ a * 2 ^ (s * l.length)
  | [], a, _, h => ⟨Nat.dvd_refl _, (fun p hp => by cases hp), h, by simp⟩
  | p :: l, a, hl, h => by
    have hp := hl p (List.mem_cons_self ..)
    have hpos : 0 < Nat.lcm a (f p) := Nat.lcm_pos h hp.1
    obtain ⟨h1, h2, h3, h4⟩ := foldl_lcm f s l (Nat.lcm a (f p)) (fun q hq => hl q (List.mem_cons_of_mem _ hq)) hpos
    refine ⟨Nat.dvd_trans (Nat.dvd_lcm_left _ _) h1, fun q hq => ?_, h3, ?_⟩
    · rcases List.mem_cons.mp hq with e | hq
      · subst e; exact Nat.dvd_trans (Nat.dvd_lcm_right _ _) h1
      · exact h2 q hq
    · refine Nat.le_trans h4 ?_
      have hle : Nat.lcm a (f p) ≤ a * 2 ^ s := Nat.le_trans (Nat.le_of_dvd (Nat.mul_pos h hp.1) (Nat.lcm_dvd_mul a (f p))) (Nat.mul_le_mul_left _ (Nat.le_of_lt hp.2))
      rw [List.length_cons, show s * (l.length + 1) = s + s * l.length by rw [Nat.mul_add, Nat.mul_one]; omega, Nat.pow_add, ← Nat.mul_assoc]
      exact Nat.mul_le_mul_right _ hle
theorem lcm_lt {f : Pt → Nat} {s : Nat} {l : List Pt} (h : ∀ p ∈ l, 0 < f p ∧ f p < 2 ^ s) (hl : s * l.length < 5900) : l.foldl (fun w p => Nat.lcm w (f p)) 1 < 2 ^ 5900 := by
  have := (foldl_lcm f s l 1 h (by decide)).2.2.2
  rw [Nat.one_mul] at this
  exact Nat.lt_of_le_of_lt this (Nat.pow_lt_pow_right (by decide) hl)
theorem com_of {l : List Pt} {s : Nat} (hs : SzC s l) (hl : s * l.length < 5900) (hs2 : s ≤ 1000) {q : IP} (hq : q.1 ∈ l) : Com (lcmX l) (lcmY l) q := by
  have hx : ∀ p ∈ l, 0 < p.1.den ∧ p.1.den < 2 ^ s := fun p hp => ⟨p.1.den_pos, (hs p hp).1.2⟩
  have hy : ∀ p ∈ l, 0 < p.2.den ∧ p.2.den < 2 ^ s := fun p hp => ⟨p.2.den_pos, (hs p hp).2.2⟩
  exact ⟨(foldl_lcm _ s l 1 hx (by decide)).2.1 _ hq, (foldl_lcm _ s l 1 hy (by decide)).2.1 _ hq, (hs _ hq).mono hs2, (foldl_lcm _ s l 1 hx (by decide)).2.2.1, (foldl_lcm _ s l 1 hy (by decide)).2.2.1, lcm_lt hx hl, lcm_lt hy hl⟩
/-- the stack's points are among those pushed; no more than those -/
theorem stack_mem : ∀ (l st done : List IP), (∀ q ∈ st, q ∈ done) → ∀ q ∈ l.foldl push st, q ∈ done ++ l
  | [], st, done, h, q, hq => by rw [List.append_nil]; exact h q hq
  | s :: l, st, done, h, q, hq => by
    have := stack_mem l (push st s) (done ++ [s]) (fun q hq => by
      rcases List.mem_cons.mp hq with e | hq
      · subst e; simp
      · exact List.mem_append_left _ (h q ((shrink_suffix s st).subset hq))) q hq
    simpa using this
theorem stack_len : ∀ (l st : List IP), (l.foldl push st).length ≤ st.length + l.length
  | [], st => Nat.le_refl _
  | s :: l, st => by
    have h1 := stack_len l (push st s)
    have h2 : (push st s).length ≤ st.length + 1 := Nat.succ_le_succ (shrink_suffix s st).sublist.length_le
    simp only [List.foldl_cons, List.length_cons] at *
    omega
theorem cut_tail {α : Type} (x : α) (xs : List α) : cutL (x :: xs) (some 1) none = xs := by
  unfold cutL
  have h1 : HT.sIx (x :: xs).length 0 (some 1) = 1 := (HT.sIx_nat (x :: xs).length 0 1).trans (by rw [List.length_cons]; omega)
  have h2 : HT.sIx (x :: xs).length (x :: xs).length none = (x :: xs).length := rfl
  rw [h1, h2]
  simp
end Vm

set_option maxRecDepth 100000
set_option maxHeartbeats 1000000
/-! SpE: the laws' worlds: digits, steps, chains of ints. -/
namespace Vm
open PySem L2 Ma
/-- so many digits below the base -/
structure Dig (base : Int) (k : Nat) (ds : List Int) : Prop where
  len : ds.length = k
  rng : ∀ x ∈ ds, 0 ≤ x ∧ x < base
def dg (ds : List Int) (i : Nat) : Int := ds.getD i 0
theorem Dig.at {b : Int} {k : Nat} {ds : List Int} (h : Dig b k ds) (i : Nat) (hi : i < k) : ixD (.lst (ds.map .int)) (.int (i : Nat)) = .ok (.int (dg ds i)) := by
  refine ixD_lst ?_
  rw [at_nat _ _ i rfl, List.getElem?_map, List.getElem?_eq_getElem (by rw [h.len]; exact hi)]
  unfold dg
  rw [List.getD_eq_getElem?_getD, List.getElem?_eq_getElem (by rw [h.len]; exact hi)]
  rfl
theorem Dig.le {b : Int} {k : Nat} {ds : List Int} (h : Dig b k ds) (i : Nat) (hi : i < k) : 0 ≤ dg ds i ∧ dg ds i < b := by
  unfold dg
  rw [List.getD_eq_getElem?_getD, List.getElem?_eq_getElem (by rw [h.len]; exact hi)]
  exact h.rng _ (List.getElem_mem _)
theorem Dig.snoc {b : Int} {k : Nat} {ds : List Int} (h : Dig b k ds) {x : Int} (h0 : 0 ≤ x) (h1 : x < b) : Dig b (k + 1) (ds ++ [x]) := by
  refine ⟨by rw [List.length_append, h.len]; rfl, fun y hy => ?_⟩
  rcases List.mem_append.mp hy with hy | hy
  · exact h.rng y hy
  · simp only [List.mem_singleton] at hy; subst hy; exact ⟨h0, h1⟩
theorem fmod_rng {a b : Int} (hb : 0 < b) : 0 ≤ a.fmod b ∧ a.fmod b < b := by
  rw [Int.fmod_eq_emod_of_nonneg _ (Int.le_of_lt hb)]
  exact ⟨Int.emod_nonneg _ (by omega), Int.emod_lt_of_pos _ hb⟩
theorem fdiv_nn {a b : Int} (ha : 0 ≤ a) (hb : 0 < b) : 0 ≤ a.fdiv b := by
  rw [Int.fdiv_eq_ediv_of_nonneg _ (Int.le_of_lt hb)]
  exact Int.ediv_nonneg ha (Int.le_of_lt hb)
theorem rng1_nat (c : Nat) (h : c ≤ 1000000) : rng1D (.int (c : Nat)) = .ok ((List.range c).map fun i => .int ((i : Nat) : Int)) := by
  show R.guard _ _ = _
  rw [guard_pos (by omega)]
  unfold rgD
  rw [Int.toNat_natCast]
  congr 1
  apply List.map_congr_left
  intro a _
  rw [Int.zero_add]
/-- a small int -/
def Small (i : Int) : Prop := i.natAbs < 2 ^ 64
theorem sm_of {i : Int} (h1 : -10000000000000000000 ≤ i) (h2 : i ≤ 10000000000000000000) : Small i := by
  show i.natAbs < 18446744073709551616
  omega
theorem mul_sm {i j : Int} (hi : Small i) (hj : Small j) : mulD (.int i) (.int j) = .ok (.int (i * j)) := mulD_ok (mulOk_of (k := 64) (l := 64) hi hj (by decide) (by decide) (by decide))
/-! ### steps -/
abbrev IPt := Int × Int
def ipD (p : IPt) : D := .tup [.int p.1, .int p.2]
instance : Inhabited IPt := ⟨(0, 0)⟩
def FlatI (s t : IPt) : Prop := s.2 * t.1 < t.2 * s.1
instance (s t : IPt) : Decidable (FlatI s t) := by unfold FlatI; infer_instance
def StepI (s : IPt) : Prop := (1 ≤ s.1 ∧ s.1 ≤ 60) ∧ (1 ≤ s.2 ∧ s.2 ≤ 60)
structure StI (l : List IPt) : Prop where
  pos : ∀ s ∈ l, StepI s
  flat : l.Pairwise FlatI
theorem pos_of_mul_int {a b : Int} (ha : 0 < a) (h : 0 < a * b) : 0 < b := by
  rcases Int.lt_or_le 0 b with h1 | h1
  · exact h1
  · have := Int.mul_nonpos_of_nonneg_of_nonpos (Int.le_of_lt ha) h1
    omega
theorem flatI_trans {s t u : IPt} (hs : StepI s) (ht : StepI t) (hu : StepI u) (h1 : FlatI s t) (h2 : FlatI t u) : FlatI s u := by
  unfold FlatI StepI at *
  have k1 := Int.mul_pos (show 0 < t.2 * s.1 - s.2 * t.1 by omega) (show 0 < u.1 by omega)
  have k2 := Int.mul_pos (show 0 < u.2 * t.1 - t.2 * u.1 by omega) (show 0 < s.1 by omega)
  have k3 : 0 < t.1 * (u.2 * s.1 - s.2 * u.1) := by grind
  have := pos_of_mul_int (by omega) k3
  omega
/-- a step put in its place -/
theorem StI.ins {pre suf : List IPt} {s : IPt} (h : StI (pre ++ suf)) (hs : StepI s) (h1 : ∀ t ∈ pre, FlatI t s) (h2 : ∀ t r, suf = t :: r → FlatI s t) : StI (pre ++ [s] ++ suf) := by
  have hp := List.pairwise_append.mp h.flat
  have hsuf : ∀ u ∈ suf, FlatI s u := fun u hu => by
    cases suf with
    | nil => cases hu
    | cons t r =>
      have ht := h2 t r rfl
      rcases List.mem_cons.mp hu with e | hu
      · subst e; exact ht
      · exact flatI_trans hs (h.pos t (by simp)) (h.pos u (by simp [hu])) ht ((List.pairwise_cons.mp hp.2.1).1 u hu)
  refine ⟨fun t ht => ?_, ?_⟩
  · simp only [List.mem_append, List.mem_singleton] at ht
    rcases ht with (ht | ht) | ht
    · exact h.pos t (by simp [ht])
    · subst ht; exact hs
    · exact h.pos t (by simp [ht])
  · rw [List.append_assoc]
    refine List.pairwise_append.mpr ⟨hp.1, List.pairwise_cons.mpr ⟨hsuf, hp.2.1⟩, fun a ha b hb => ?_⟩
    rcases List.mem_cons.mp hb with e | hb
    · subst e; exact h1 a ha
    · exact hp.2.2 a ha b hb
/-! ### chains of ints -/
def walkI : IPt → List IPt → List IPt
  | p, [] => [p]
  | p, s :: r => p :: walkI (p.1 + s.1, p.2 - s.2) r
theorem walkI_ne (p r) : walkI p r ≠ [] := by cases r <;> exact List.cons_ne_nil _ _
theorem walkI_len : ∀ (r : List IPt) (p : IPt), (walkI p r).length = r.length + 1
  | [], _ => rfl
  | s :: r, p => by
    show (walkI _ r).length + 1 = _
    rw [walkI_len r]; rfl
def toPt (p : IPt) : Pt := ((p.1 : Rat), (p.2 : Rat))
theorem walkI_pt : ∀ (r : List IPt) (p : IPt), (walkI p r).map toPt = walk (toPt p) (r.map toPt)
  | [], _ => rfl
  | s :: r, p => by
    show toPt p :: (walkI _ r).map toPt = toPt p :: walk _ _
    rw [walkI_pt r]
    congr 2
    unfold toPt
    simp only [Rat.intCast_add, Rat.intCast_sub]
theorem StI.steps {r : List IPt} (h : StI r) : Steps (r.map toPt) := by
  refine ⟨fun s hs => ?_, ?_⟩
  · obtain ⟨t, ht, rfl⟩ := List.mem_map.mp hs
    obtain ⟨⟨h1, _⟩, ⟨h2, _⟩⟩ := h.pos t ht
    exact ⟨Rat.intCast_pos.mpr (by omega), Rat.intCast_pos.mpr (by omega)⟩
  · rw [List.pairwise_map]
    refine h.flat.imp fun {a b} hab => ?_
    unfold Flat toPt
    unfold FlatI at hab
    simp only []
    rw [← Rat.intCast_mul, ← Rat.intCast_mul]
    exact Rat.intCast_lt_intCast.mpr hab
theorem walkI_ch {p : IPt} {r : List IPt} (h : StI r) : Ch ((walkI p r).map toPt) := by
  rw [walkI_pt]; exact walk_ch _ h.steps
def sumY (r : List IPt) : Int := (r.map (·.2)).sum
theorem walkI_rng : ∀ {r : List IPt} {p : IPt}, (∀ s ∈ r, StepI s) → ∀ q ∈ walkI p r, (p.1 ≤ q.1 ∧ q.1 ≤ p.1 + 60 * r.length) ∧ (p.2 - sumY r ≤ q.2 ∧ q.2 ≤ p.2)
  | [], p, _, q, hq => by
    simp only [walkI, List.mem_singleton] at hq; subst hq
    simp [sumY]
  | s :: r, p, h, q, hq => by
    have hs := h s (List.mem_cons_self ..)
    have hsum : 0 ≤ sumY r := by
      have : ∀ l : List IPt, (∀ s ∈ l, StepI s) → 0 ≤ sumY l := by
        intro l
        induction l with
        | nil => intro _; exact Int.le_refl _
        | cons t l ih =>
          intro hl
          have h1 := ih fun u hu => hl u (List.mem_cons_of_mem _ hu)
          have h2 := hl t (List.mem_cons_self ..)
          unfold sumY StepI at *
          rw [List.map_cons, List.sum_cons]
          omega
      exact this r fun u hu => h u (List.mem_cons_of_mem _ hu)
    have e : sumY (s :: r) = s.2 + sumY r := by unfold sumY; rw [List.map_cons, List.sum_cons]
    unfold StepI at hs
    rcases List.mem_cons.mp hq with hq | hq
    · subst hq
      rw [e, List.length_cons]
      omega
    · have := walkI_rng (fun u hu => h u (List.mem_cons_of_mem _ hu)) q hq
      simp only [List.length_cons] at *
      rw [e]
      omega
theorem sumY_le {r : List IPt} (h : ∀ s ∈ r, StepI s) : 0 ≤ sumY r ∧ sumY r ≤ 60 * r.length := by
  induction r with
  | nil => exact ⟨Int.le_refl _, Int.le_refl _⟩
  | cons t l ih =>
    have h1 := ih fun u hu => h u (List.mem_cons_of_mem _ hu)
    have h2 := h t (List.mem_cons_self ..)
    unfold sumY StepI at *
    rw [List.map_cons, List.sum_cons, List.length_cons]
    omega
def lastI (c : List IPt) : IPt := c.getLast?.getD (0, 0)
def headI (c : List IPt) : IPt := c.head?.getD (0, 0)
def triD (t : Int × Int × Int) : D := .tup [.int t.1, .int t.2.1, .int t.2.2]
/-- the bounds that the law tells of a chain of ints -/
def bndE (e : Int × IPt × IPt) : Int × Int × Int := (e.2.1.2 - e.2.2.2, e.2.2.1 - e.2.1.1, (e.2.1.2 - e.2.2.2) * e.2.2.1 + (e.2.2.1 - e.2.1.1) * e.2.2.2)
def bndI (c : List IPt) : List (Int × Int × Int) := [(1, 0, (lastI c).1), (0, 1, (headI c).2)] ++ (edgesI c 1).map bndE
theorem at_headI {c : List IPt} (h : c ≠ []) : ixD (.lst (c.map ipD)) (.int 0) = .ok (ipD (headI c)) := by
  refine ixD_lst ?_
  cases c with
  | nil => exact absurd rfl h
  | cons p c => exact at_nat _ 0 0 rfl
theorem at_lastI {c : List IPt} (h : c ≠ []) : ixD (.lst (c.map ipD)) (.int (-1)) = .ok (ipD (lastI c)) := by
  refine ixD_lst ?_
  have hl : 0 < c.length := List.length_pos_iff.mpr h
  rw [at_neg _ _ (c.length - 1) (by decide) (by rw [List.length_map]; omega), List.getElem?_map]
  unfold lastI
  rw [List.getLast?_eq_getElem?, List.getElem?_eq_getElem (by omega)]
  rfl
theorem mem_lastI {c : List IPt} (h : c ≠ []) : lastI c ∈ c := by
  have hl : 0 < c.length := List.length_pos_iff.mpr h
  unfold lastI
  rw [List.getLast?_eq_getElem?, List.getElem?_eq_getElem (by omega)]
  exact List.getElem_mem _
theorem mem_headI {c : List IPt} (h : c ≠ []) : headI c ∈ c := by
  cases c with
  | nil => exact absurd rfl h
  | cons p c => exact List.mem_cons_self ..
/-! ### worlds -/
structure Wld where
  left : Rat
  low : Rat
  u0 : Int
  u1 : Int
  u2 : Int
  u3 : Int
  ch : List IPt
def wD (w : Wld) : D := .tup [.tup [fr w.left, fr w.low], .lst [.int w.u0, .int w.u1, .int w.u2, .int w.u3], .lst (w.ch.map ipD), .lst ((bndI w.ch).map triD)]
def UOk (u : Int) : Prop := 0 < u ∧ u < 1048576
structure WOk (w : Wld) : Prop where
  left : Sz 8 w.left
  low : Sz 8 w.low
  u0 : UOk w.u0
  u1 : UOk w.u1
  u2 : UOk w.u2
  u3 : UOk w.u3
  ch : ∃ p r, w.ch = walkI p r ∧ StI r ∧ r.length ≤ 21
  sm : ∀ q ∈ w.ch, (0 ≤ q.1 ∧ q.1 ≤ 2000) ∧ (0 ≤ q.2 ∧ q.2 ≤ 2000)
  gain : 1 ≤ (lastI w.ch).1 ∧ 1 ≤ (headI w.ch).2
def Wld.at (w : Wld) (x y : Rat) : Pt := (w.left + (w.u0 : Rat) / (w.u1 : Rat) * x, w.low + (w.u2 : Rat) / (w.u3 : Rat) * y)
def Wld.corners (w : Wld) : List Pt := w.ch.map fun p => w.at p.1 p.2
theorem UOk.pos {u : Int} (h : UOk u) : (0 : Rat) < (u : Rat) := Rat.intCast_pos.mpr h.1
theorem div_pos' {a b : Rat} (ha : 0 < a) (hb : 0 < b) : 0 < a / b := by
  rw [Rat.div_def]; exact Rat.mul_pos ha (Rat.inv_pos.mpr hb)
theorem WOk.ne {w : Wld} (h : WOk w) : w.ch ≠ [] := by
  obtain ⟨p, r, e, _⟩ := h.ch
  rw [e]; exact walkI_ne p r
theorem WOk.len {w : Wld} (h : WOk w) : w.ch.length ≤ 22 := by
  obtain ⟨p, r, e, _, hl⟩ := h.ch
  rw [e, walkI_len]; omega
theorem WOk.chain {w : Wld} (h : WOk w) : Ch w.corners := by
  obtain ⟨p, r, e, hs, hl⟩ := h.ch
  have e2 : w.corners = (w.ch.map toPt).map (aff ((w.u0 : Rat) / w.u1) ((w.u2 : Rat) / w.u3) w.left w.low) := by
    unfold Wld.corners
    rw [List.map_map]
    rfl
  rw [e2, e]
  exact Ch.aff (div_pos' h.u0.pos h.u1.pos) (div_pos' h.u2.pos h.u3.pos) (walkI_ch hs)
theorem int_sz {i : Int} {k : Nat} (h : i.natAbs < 2 ^ k) (hk : 0 < k) : Sz k (i : Rat) := by
  refine ⟨h, ?_⟩
  show 1 < 2 ^ k
  calc 1 < 2 ^ 1 := by decide
    _ ≤ 2 ^ k := Nat.pow_le_pow_right (by decide) hk
theorem UOk.sz {u : Int} (h : UOk u) : Sz 20 (u : Rat) := int_sz (by unfold UOk at h; show u.natAbs < 1048576; omega) (by decide)
theorem WOk.sz {w : Wld} (h : WOk w) : SzC 100 w.corners := fun p hp => by
  obtain ⟨q, hq, rfl⟩ := List.mem_map.mp hp
  obtain ⟨h1, h2⟩ := h.sm q hq
  have s1 : Sz 11 (q.1 : Rat) := int_sz (by show q.1.natAbs < 2048; omega) (by decide)
  have s2 : Sz 11 (q.2 : Rat) := int_sz (by show q.2.natAbs < 2048; omega) (by decide)
  exact ⟨(h.left.add ((h.u0.sz.div h.u1.sz).mul s1)).mono (by decide), (h.low.add ((h.u2.sz.div h.u3.sz).mul s2)).mono (by decide)⟩
theorem WOk.clen {w : Wld} (h : WOk w) : w.corners.length ≤ 22 := by
  unfold Wld.corners; rw [List.length_map]; exact h.len
theorem take_cut {α : Type} (pre suf : List α) : cutL (pre ++ suf) none (some (pre.length : Nat)) = pre := by
  unfold cutL
  rw [HT.sIx_none, HT.sIx_nat]
  simp
theorem drop_cut {α : Type} (pre suf : List α) : cutL (pre ++ suf) (some (pre.length : Nat)) none = suf := by
  unfold cutL
  rw [HT.sIx_none, HT.sIx_nat]
  simp
theorem slc_take (pre suf : List D) : slcD (.lst (pre ++ suf)) none (some (pre.length : Nat)) = .ok (.lst pre) := by
  show R.ok (D.lst (cutL _ _ _)) = _
  rw [take_cut]
theorem slc_drop (pre suf : List D) : slcD (.lst (pre ++ suf)) (some (pre.length : Nat)) none = .ok (.lst suf) := by
  show R.ok (D.lst (cutL _ _ _)) = _
  rw [drop_cut]
end Vm
namespace Vm
open PySem L2 Ma
def refD (Φ : Sm) (f : Nat) (r : R D) : R D := match r with
  | .ok _ => .ok .non
  | .exc c a => if Φ.sub c (Φ.word f).1 = true ∧ c ∈ Φ.xs then (match Φ.hcall (Φ.word f).2 [.exn c a] with
    | .ok d => .guard (noExn d = true) d
    | _ => .bad) else .bad
  | .bad => .bad
theorem evE_refused (Φ : Sm) (f e ρ) : evE Φ (.refused f e) ρ = refD Φ f (evE Φ e ρ) := rfl
theorem refD_exc {Φ : Sm} {f c : Nat} {a : Option D} {d : D} (h1 : Φ.sub c (Φ.word f).1 = true) (h2 : c ∈ Φ.xs) (h3 : Φ.hcall (Φ.word f).2 [.exn c a] = .ok d) (h4 : noExn d = true) : refD Φ f (.exc c a) = .ok d := by
  show (if Φ.sub c (Φ.word f).1 = true ∧ c ∈ Φ.xs then (match Φ.hcall (Φ.word f).2 [.exn c a] with
    | .ok d => R.guard (noExn d = true) d
    | _ => .bad) else .bad) = _
  rw [if_pos ⟨h1, h2⟩, h3]
  exact if_pos h4
theorem isi_tup_fr (q) : isiD .tuple (fr q) = .ok (.bl true) := rfl
theorem isi_tup_pt (p) : isiD .tuple (pt p) = .ok (.bl true) := rfl
theorem isi_tup_non : isiD .tuple .non = .ok (.bl false) := rfl
theorem isi_int_int (i) : isiD .int (.int i) = .ok (.bl true) := rfl
theorem isi_bool_int (i) : isiD .bool (.int i) = .ok (.bl false) := rfl
theorem isi_bool_bl (i) : isiD .bool (.bl i) = .ok (.bl true) := rfl
theorem len_fr (q) : biD .len [fr q] = .ok (.int 2) := rfl
theorem len_pt (q) : biD .len [pt q] = .ok (.int 2) := rfl
theorem seq_fr (q : Rat) : seq? (fr q) = some [.int q.num, .int q.den] := rfl
/-- a fraction put in its place -/
theorem ins_sorted {pre suf : List Rat} {x : Rat} (h : (pre ++ suf).Pairwise (· ≤ ·)) (h1 : ∀ t ∈ pre, t ≤ x) (h2 : ∀ t r, suf = t :: r → x < t) : (pre ++ [x] ++ suf).Pairwise (· ≤ ·) := by
  have hp := List.pairwise_append.mp h
  have hs : ∀ u ∈ suf, x ≤ u := fun u hu => by
    cases suf with
    | nil => cases hu
    | cons t r =>
      have ht := h2 t r rfl
      rcases List.mem_cons.mp hu with e | hu
      · subst e; exact Rat.le_of_lt ht
      · exact Rat.le_trans (Rat.le_of_lt ht) ((List.pairwise_cons.mp hp.2.1).1 u hu)
  rw [List.append_assoc]
  refine List.pairwise_append.mpr ⟨hp.1, List.pairwise_cons.mpr ⟨hs, hp.2.1⟩, fun a ha b hb => ?_⟩
  rcases List.mem_cons.mp hb with e | hb
  · subst e; exact h1 a ha
  · exact hp.2.2 a ha b hb
theorem wt_divInt {a b : Int} (h1 : 0 < a) (h2 : a < b) : Wt (Rat.divInt a b) := by
  have hb : (0 : Rat) < (b : Rat) := Rat.intCast_pos.mpr (by omega)
  have e : Rat.divInt a b * (b : Rat) = (a : Rat) := by rw [Rat.divInt_eq_div]; exact Rat.div_mul_cancel (by grind)
  have k1 : (0 : Rat) < (a : Rat) := Rat.intCast_pos.mpr h1
  have k2 : (a : Rat) < (b : Rat) := Rat.intCast_lt_intCast.mpr h2
  constructor
  · apply Rat.not_le.mp
    intro z
    have := Rat.mul_le_mul_of_nonneg_right z (Rat.le_of_lt hb)
    grind
  · apply Rat.not_le.mp
    intro z
    have := Rat.mul_le_mul_of_nonneg_right z (Rat.le_of_lt hb)
    grind
end Vm

set_option maxRecDepth 1000000
set_option maxHeartbeats 0
namespace K59
open PySem PySem.Spec PyProof.Rows L2 Vm
/-! ### the text -/
abbrev pw : Program := PySem.Challenge.pw_dealsformany_k59_equal_and_weighted_loss
def top (i : Nat) : Stmt := pw.main.body.getD i (.Pass ⟨0, 0, 0, 0⟩)
def sub (i j : Nat) : Stmt := (match top i with | .ClassDef _ _ _ b _ _ _ _ _ _ _ => b | _ => []).getD j (.Pass ⟨0, 0, 0, 0⟩)
def nmL : List Str := ["__call__", "frontier", "most", "at", "limit", "line", "name", "losses", "weight"]
def fnL : List (Option Str) := [some ("frac" : Str), some ("plus" : Str), some ("minus" : Str), some ("times" : Str), some ("over" : Str), some ("below" : Str), some ("larger" : Str), some ("gap" : Str), some ("check_weight" : Str), some ("weighed" : Str), some ("lot_edges" : Str), some ("loss_point" : Str), some ("turn" : Str), some ("whole_spots" : Str), some ("upper_chain" : Str), some ("_law_cell" : Str), some ("_law_digits" : Str), some ("_law_lowest" : Str), some ("_law_plus" : Str), some ("_law_minus" : Str), some ("_law_times" : Str), some ("_law_over" : Str), some ("_law_less" : Str), some ("_law_is_number" : Str), some ("_law_is_point" : Str), some ("_law_ascending" : Str), some ("_law_whole" : Str), some ("_law_word" : Str), some ("_law_steps" : Str), some ("_law_bounds" : Str), some ("_law_world" : Str), some ("_law_at" : Str), some ("_law_corners" : Str), some ("_law_high" : Str), some ("_law_in_chain" : Str), some ("_law_on_rim" : Str), some ("_law_top_point" : Str), some ("_law_back" : Str), some ("_law_loss" : Str), some ("_law_right" : Str), some ("law" : Str), none, none, none, none, none, none]
def frL : List Bool := [false, false, false, false, false, false, false, false, false, false, true, false, true, true, true, false, true, false, false, false, false, false, false, false, false, false, false, false, false, true, false, false, true, false, false, false, false, false, false, false, true, false, false, false, false, false, false]
def plL : List Bool := [true, true, true, true, true, true, true, true, true, true, true, false, true, true, true, true, true, true, true, true, true, true, true, true, true, true, true, true, true, true, true, true, true, true, true, true, true, true, true, true, true, false, true, false, true, true, false]
def shL : List Shp := [⟨1, [], [.pos 0]⟩, ⟨1, ["weight"], [.pos 0, .kw 0]⟩, ⟨0, ["weight"], [.kw 0]⟩, ⟨0, [], [.dfl (.tup [(.int 1), (.int 2)])]⟩, ⟨1, [], [.pos 0, .dfl (.tup [(.int 1), (.int 2)])]⟩]
def shF : List Nat := [43, 11, 41, 41, 11]
def glL : List (Str × D) := [("ZERO", (.tup [(.int 0), (.int 1)])), ("ONE", (.tup [(.int 1), (.int 1)])), ("HALF", (.tup [(.int 1), (.int 2)]))]
def clL : List Str := ["LossRule", "Lot"]
def clI : List Nat := [41, 43]
def xcL : List Str := ["SettleError", "BadNumber", "NoGain", "Outside", "BadWeight", "BadTable", "BadRows", "BadEstate", "NothingSeen", "UnknownName", "TooMany", "BadText", "NoSuchName", "NameTaken", "BadDeed", "NothingToUndo", "BadTie", "BadPairing", "BadTypes", "NoCorner"]
def xoL : List Nat := [0, 1, 2, 3, 4, 5, 7, 8, 15, 17, 18, 19]
def lamL : List (List (Str × NameKind)) := [(defScope (top 79)).names]
def G : Gi where
  nm i := nmL.getD i ""
  nn := nmL.length
  fname f := (fnL.getD f none)
  fr f := frL.getD f false
  plain f := plL.getD f false
  shp f s := decide (shF[s]? = some f) && !clI.contains f
  sh s := shL.getD s ⟨0, [], []⟩
  gname g := (glL[g]?).map (·.1)
  cname c := clL[c]?
  shpI c s := decide (shF[s]? = clI[c]? ∧ (shF[s]?).isSome = true)
  xname c := if xoL.contains c = true then xcL[c]? else none
  rname f := if f = 46 then some "_law_refused" else none
  xisn c := if c < xcL.length then (xcL[c]?).map (·, true) else if c = xcL.length then some ("ValueError", false) else none
  isP f := [2].contains f
  bi _ := true
  lam s := lamL.contains s.names
def s0_0 : IS := .ifS (.cmp .eq (.var 1) (.lit (.int 0))) (iss [.raise 1 (ies [(.lit (.str "the denominator is zero"))])]) .nil
def s0_1 : IS := .asg (.nm 2) (.bi .gcd (ies [(.var 0), (.var 1)]))
def s0_2 : IS := .ifS (.cmp .lt (.var 1) (.lit (.int 0))) (iss [.asg (.nm 2) (.neg (.var 2))]) .nil
def s0_3 : IS := .ret (.tup (ies [(.bin .fdiv (.var 0) (.var 2)), (.bin .fdiv (.var 1) (.var 2))]))
def b0 : ISs := iss [s0_0, s0_1, s0_2, s0_3]
def b1 : ISs := iss [
    .ret (.call 0 (ies [(.bin .add (.bin .mul (.ix (.var 0) (.lit (.int 0))) (.ix (.var 1) (.lit (.int 1)))) (.bin .mul (.ix (.var 1) (.lit (.int 0))) (.ix (.var 0) (.lit (.int 1))))), (.bin .mul (.ix (.var 0) (.lit (.int 1))) (.ix (.var 1) (.lit (.int 1))))]))]
def b2 : ISs := iss [
    .ret (.call 0 (ies [(.bin .sub (.bin .mul (.ix (.var 0) (.lit (.int 0))) (.ix (.var 1) (.lit (.int 1)))) (.bin .mul (.ix (.var 1) (.lit (.int 0))) (.ix (.var 0) (.lit (.int 1))))), (.bin .mul (.ix (.var 0) (.lit (.int 1))) (.ix (.var 1) (.lit (.int 1))))]))]
def b3 : ISs := iss [
    .ret (.call 0 (ies [(.bin .mul (.ix (.var 0) (.lit (.int 0))) (.ix (.var 1) (.lit (.int 0)))), (.bin .mul (.ix (.var 0) (.lit (.int 1))) (.ix (.var 1) (.lit (.int 1))))]))]
def s4_0 : IS := .ifS (.cmp .eq (.ix (.var 1) (.lit (.int 0))) (.lit (.int 0))) (iss [.raise 1 (ies [(.lit (.str "division by zero"))])]) .nil
def s4_1 : IS := .ret (.call 0 (ies [(.bin .mul (.ix (.var 0) (.lit (.int 0))) (.ix (.var 1) (.lit (.int 1)))), (.bin .mul (.ix (.var 0) (.lit (.int 1))) (.ix (.var 1) (.lit (.int 0))))]))
def b4 : ISs := iss [s4_0, s4_1]
def b5 : ISs := iss [
    .ret (.cmp .lt (.bin .mul (.ix (.var 0) (.lit (.int 0))) (.ix (.var 1) (.lit (.int 1)))) (.bin .mul (.ix (.var 1) (.lit (.int 0))) (.ix (.var 0) (.lit (.int 1)))))]
def s6_0 : IS := .ifS (.call 5 (ies [(.var 0), (.var 1)])) (iss [.ret (.var 1)]) .nil
def s6_1 : IS := .ret (.var 0)
def b6 : ISs := iss [s6_0, s6_1]
def b7 : ISs := iss [
    .ret (.tup (ies [(.call 2 (ies [(.ix (.var 0) (.lit (.int 0))), (.ix (.var 1) (.lit (.int 0)))])), (.call 2 (ies [(.ix (.var 0) (.lit (.int 1))), (.ix (.var 1) (.lit (.int 1)))]))]))]
def b8 : ISs := iss [
    .ifS (.not (.boo true (ies [(.call 5 (ies [(.glb 0), (.var 0)])), (.call 5 (ies [(.var 0), (.glb 1)]))]))) (iss [.raise 4 (ies [(.lit (.str "the weight is not strictly between 0 and 1"))])]) .nil]
def b9 : ISs := iss [
    .ret (.call 1 (ies [(.call 3 (ies [(.ix (.var 0) (.lit (.int 0))), (.ix (.var 1) (.lit (.int 0)))])), (.call 3 (ies [(.ix (.var 0) (.lit (.int 1))), (.ix (.var 1) (.lit (.int 1)))]))]))]
def b10_0 : ISs := (iss [.asg (.nm 3) (.ix (.fld 1 (.var 0)) (.bin .sub (.var 2) (.lit (.int 1)))), .asg (.nm 4) (.ix (.fld 1 (.var 0)) (.var 2)), .app 1 (.tup (ies [(.var 3), (.var 4), (.tup (ies [(.call 2 (ies [(.ix (.var 3) (.lit (.int 1))), (.ix (.var 4) (.lit (.int 1)))])), (.call 2 (ies [(.ix (.var 4) (.lit (.int 0))), (.ix (.var 3) (.lit (.int 0)))]))]))]))])
def s10_0 : IS := .asgF 1 (.lst .nil)
def s10_1 : IS := .forS [] (.nm 2) (.rng2 (.lit (.int 1)) (.bi .len (ies [(.fld 1 (.var 0))]))) b10_0
def s10_2 : IS := .ret (.var 1)
def b10 : ISs := iss [s10_0, s10_1, s10_2]
def b11_0 : ISs := (iss [.asg (.nm 7) (.call 9 (ies [(.var 6), (.call 7 (ies [(.fld 2 (.var 0)), (.var 4)]))])), .asg (.nm 3) (.call 6 (ies [(.var 3), (.call 4 (ies [(.var 7), (.call 9 (ies [(.var 6), (.var 2)]))]))]))])
def s11_0 : IS := .expr (.call 8 (ies [(.var 1)]))
def s11_1 : IS := .asg (.nm 2) (.tup (ies [(.var 1), (.call 2 (ies [(.glb 1), (.var 1)]))]))
def s11_2 : IS := .asg (.nm 3) (.glb 0)
def s11_3 : IS := .forS [] (.tp [(.nm 4), (.nm 5), (.nm 6)]) (.seq (.call 10 (ies [(.var 0)]))) b11_0
def s11_4 : IS := .ret (.call 7 (ies [(.fld 2 (.var 0)), (.tup (ies [(.call 3 (ies [(.var 3), (.ix (.var 2) (.lit (.int 0)))])), (.call 3 (ies [(.var 3), (.ix (.var 2) (.lit (.int 1)))]))]))]))
def b11 : ISs := iss [s11_0, s11_1, s11_2, s11_3, s11_4]
def b12 : ISs := iss [
    .ret (.bin .sub (.bin .mul (.bin .sub (.ix (.var 1) (.lit (.int 0))) (.ix (.var 0) (.lit (.int 0)))) (.bin .sub (.ix (.var 2) (.lit (.int 1))) (.ix (.var 0) (.lit (.int 1))))) (.bin .mul (.bin .sub (.ix (.var 1) (.lit (.int 1))) (.ix (.var 0) (.lit (.int 1)))) (.bin .sub (.ix (.var 2) (.lit (.int 0))) (.ix (.var 0) (.lit (.int 0))))))]
def b13_2 : ISs := (iss [.app 5 (.tup (ies [(.bin .mul (.ix (.var 3) (.lit (.int 0))) (.bin .fdiv (.var 1) (.ix (.var 3) (.lit (.int 1))))), (.bin .mul (.ix (.var 4) (.lit (.int 0))) (.bin .fdiv (.var 2) (.ix (.var 4) (.lit (.int 1))))), (.var 6)]))])
def b13_0 : ISs := (iss [.asg (.nm 1) (.bi .lcm (ies [(.var 1), (.ix (.var 3) (.lit (.int 1)))])), .asg (.nm 2) (.bi .lcm (ies [(.var 2), (.ix (.var 4) (.lit (.int 1)))]))])
def s13_0 : IS := .asg (.nm 1) (.lit (.int 1))
def s13_1 : IS := .asg (.nm 2) (.lit (.int 1))
def s13_2 : IS := .forS [] (.tp [(.nm 3), (.nm 4)]) (.seq (.var 0)) b13_0
def s13_3 : IS := .asgF 5 (.lst .nil)
def s13_4 : IS := .forS [] (.tp [(.nm 6), (.tp [(.nm 3), (.nm 4)])]) (.enum (.var 0)) b13_2
def s13_5 : IS := .ret (.var 5)
def b13 : ISs := iss [s13_0, s13_1, s13_2, s13_3, s13_4, s13_5]
def k14_6 : IE := (.ix (.var 0) (.ix (.var 2) (.lit (.int 2))))
def t14_5 : IE := (.boo true (ies [(.cmp .ge (.bi .len (ies [(.var 1)])) (.lit (.int 2))), (.cmp .ge (.ix (.ix (.var 1) (.lit (.int 1))) (.lit (.int 1))) (.ix (.ix (.var 1) (.lit (.int 0))) (.lit (.int 1))))]))
def b14_4 : ISs := (iss [.asgF 1 (.slc (.var 1) (ies [(.lit (.int 1))]) .nil)])
def t14_3 : IE := (.boo true (ies [(.cmp .ge (.bi .len (ies [(.var 1)])) (.lit (.int 2))), (.cmp .ge (.call 12 (ies [(.ix (.var 1) (.neg (.lit (.int 2)))), (.ix (.var 1) (.neg (.lit (.int 1)))), (.var 2)])) (.lit (.int 0)))]))
def b14_2 : ISs := (iss [.pop 1])
def b14_0 : ISs := (iss [.whileS [] t14_3 b14_2, .app 1 (.var 2)])
def s14_0 : IS := .asgF 1 (.lst .nil)
def s14_1 : IS := .forS [] (.nm 2) (.seq (.bi .sortT (ies [(.call 13 (ies [(.var 0)]))]))) b14_0
def s14_2 : IS := .whileS [] t14_5 b14_4
def s14_3 : IS := .ret (.comp (.nm 2) [2] (.seq (.var 1)) .nil k14_6)
def b14 : ISs := iss [s14_0, s14_1, s14_2, s14_3]
def s15_0 : IS := .ifS (.cmp .lt (.var 1) (.bi .len (ies [(.var 0)]))) (iss [.ret (.ix (.var 0) (.var 1))]) .nil
def s15_1 : IS := .ret (.lit (.int 0))
def b15 : ISs := iss [s15_0, s15_1]
def b16_2 : ISs := (iss [.asg (.nm 3) (.bin .mod (.bi .int1 (ies [(.bin .add (.bin .add (.bin .mul (.var 3) (.lit (.int 48271))) (.bin .mul (.var 5) (.lit (.int 69621)))) (.lit (.int 17)))])) (.lit (.int 2147483647))), .asg (.nm 3) (.bin .mod (.bi .int1 (ies [(.bin .add (.bin .add (.bin .mul (.var 3) (.lit (.int 16807))) (.bin .mul (.lit (.int 2)) (.var 5))) (.lit (.int 5)))])) (.lit (.int 2147483629))), .app 4 (.bin .mod (.bi .int1 (ies [(.bin .fdiv (.var 3) (.lit (.int 64)))])) (.var 1))])
def b16_0 : ISs := (iss [.app 4 (.bin .mod (.bi .int1 (ies [(.var 3)])) (.var 1)), .asg (.nm 3) (.bin .fdiv (.var 3) (.var 1))])
def s16_0 : IS := .asg (.nm 3) (.bi .abs (ies [(.bi .int1 (ies [(.var 0)]))]))
def s16_1 : IS := .asgF 4 (.lst .nil)
def s16_2 : IS := .ifS (.cmp .ge (.var 3) (.bin .pow (.lit (.int 10)) (.lit (.int 18)))) (iss [.forS [] (.nm 5) (.rng1 (.var 2)) b16_0, .ret (.var 4)]) .nil
def s16_3 : IS := .forS [] (.nm 5) (.rng1 (.var 2)) b16_2
def s16_4 : IS := .ret (.var 4)
def b16 : ISs := iss [s16_0, s16_1, s16_2, s16_3, s16_4]
def t17_1 : IE := (.cmp .gt (.var 3) (.lit (.int 0)))
def b17_0 : ISs := (iss [.asg (.nm 4) (.bin .sub (.var 2) (.bin .mul (.bin .fdiv (.var 2) (.var 3)) (.var 3))), .asg (.nm 2) (.var 3), .asg (.nm 3) (.var 4)])
def s17_0 : IS := .asg (.nm 2) (.bi .abs (ies [(.var 0)]))
def s17_1 : IS := .asg (.nm 3) (.var 1)
def s17_2 : IS := .whileS [] t17_1 b17_0
def s17_3 : IS := .ret (.tup (ies [(.bin .fdiv (.var 0) (.var 2)), (.bin .fdiv (.var 1) (.var 2))]))
def b17 : ISs := iss [s17_0, s17_1, s17_2, s17_3]
def b18 : ISs := iss [
    .ret (.call 17 (ies [(.bin .add (.bin .mul (.ix (.var 0) (.lit (.int 0))) (.ix (.var 1) (.lit (.int 1)))) (.bin .mul (.ix (.var 1) (.lit (.int 0))) (.ix (.var 0) (.lit (.int 1))))), (.bin .mul (.ix (.var 0) (.lit (.int 1))) (.ix (.var 1) (.lit (.int 1))))]))]
def b19 : ISs := iss [
    .ret (.call 17 (ies [(.bin .sub (.bin .mul (.ix (.var 0) (.lit (.int 0))) (.ix (.var 1) (.lit (.int 1)))) (.bin .mul (.ix (.var 1) (.lit (.int 0))) (.ix (.var 0) (.lit (.int 1))))), (.bin .mul (.ix (.var 0) (.lit (.int 1))) (.ix (.var 1) (.lit (.int 1))))]))]
def b20 : ISs := iss [
    .ret (.call 17 (ies [(.bin .mul (.ix (.var 0) (.lit (.int 0))) (.ix (.var 1) (.lit (.int 0)))), (.bin .mul (.ix (.var 0) (.lit (.int 1))) (.ix (.var 1) (.lit (.int 1))))]))]
def s21_0 : IS := .ifS (.cmp .lt (.ix (.var 1) (.lit (.int 0))) (.lit (.int 0))) (iss [.ret (.call 17 (ies [(.bin .mul (.neg (.ix (.var 0) (.lit (.int 0)))) (.ix (.var 1) (.lit (.int 1)))), (.bin .mul (.neg (.ix (.var 0) (.lit (.int 1)))) (.ix (.var 1) (.lit (.int 0))))]))]) .nil
def s21_1 : IS := .ret (.call 17 (ies [(.bin .mul (.ix (.var 0) (.lit (.int 0))) (.ix (.var 1) (.lit (.int 1)))), (.bin .mul (.ix (.var 0) (.lit (.int 1))) (.ix (.var 1) (.lit (.int 0))))]))
def b21 : ISs := iss [s21_0, s21_1]
def b22 : ISs := iss [
    .ret (.cmp .lt (.bin .mul (.ix (.var 0) (.lit (.int 0))) (.ix (.var 1) (.lit (.int 1)))) (.bin .mul (.ix (.var 1) (.lit (.int 0))) (.ix (.var 0) (.lit (.int 1)))))]
def b23_0 : ISs := (iss [.ifS (.boo false (ies [(.not (.isi .int (.var 1))), (.isi .bool (.var 1))])) (iss [.ret (.lit (.bl false))]) .nil])
def s23_0 : IS := .ifS (.boo false (ies [(.not (.isi .tuple (.var 0))), (.cmp .ne (.bi .len (ies [(.var 0)])) (.lit (.int 2)))])) (iss [.ret (.lit (.bl false))]) .nil
def s23_1 : IS := .forS [] (.nm 1) (.seq (.var 0)) b23_0
def s23_2 : IS := .ret (.boo true (ies [(.cmp .gt (.ix (.var 0) (.lit (.int 1))) (.lit (.int 0))), (.cmp .eq (.call 17 (ies [(.ix (.var 0) (.lit (.int 0))), (.ix (.var 0) (.lit (.int 1)))])) (.var 0))]))
def b23 : ISs := iss [s23_0, s23_1, s23_2]
def s24_0 : IS := .ifS (.boo false (ies [(.not (.isi .tuple (.var 0))), (.cmp .ne (.bi .len (ies [(.var 0)])) (.lit (.int 2)))])) (iss [.ret (.lit (.bl false))]) .nil
def s24_1 : IS := .ret (.boo true (ies [(.call 23 (ies [(.ix (.var 0) (.lit (.int 0)))])), (.call 23 (ies [(.ix (.var 0) (.lit (.int 1)))]))]))
def b24 : ISs := iss [s24_0, s24_1]
def t25_3 : IE := (.boo true (ies [(.cmp .lt (.var 3) (.bi .len (ies [(.var 1)]))), (.not (.call 22 (ies [(.var 2), (.ix (.var 1) (.var 3))])))]))
def b25_2 : ISs := (iss [.asg (.nm 3) (.bin .add (.var 3) (.lit (.int 1)))])
def b25_0 : ISs := (iss [.asg (.nm 3) (.lit (.int 0)), .whileS [] t25_3 b25_2, .asg (.nm 1) (.bin .add (.bin .add (.slc (.var 1) .nil (ies [(.var 3)])) (.lst (ies [(.var 2)]))) (.slc (.var 1) (ies [(.var 3)]) .nil))])
def s25_0 : IS := .asg (.nm 1) (.lst .nil)
def s25_1 : IS := .forS [] (.nm 2) (.seq (.var 0)) b25_0
def s25_2 : IS := .ret (.var 1)
def b25 : ISs := iss [s25_0, s25_1, s25_2]
def s26_0 : IS := .ifS (.boo false (ies [(.isi .bool (.var 0)), (.not (.isi .int (.var 0)))])) (iss [.ret (.neg (.lit (.int 1)))]) .nil
def s26_1 : IS := .ret (.var 0)
def b26 : ISs := iss [s26_0, s26_1]
def s27_0 : IS := .asg (.nm 1) (.lst (ies [(.isx 16 (.var 0)), (.isx 10 (.var 0)), (.isx 6 (.var 0)), (.isx 17 (.var 0))]))
def s27_1 : IS := .asg (.nm 1) (.bin .add (.var 1) (.lst (ies [(.isx 18 (.var 0)), (.isx 5 (.var 0)), (.isx 19 (.var 0))])))
def s27_2 : IS := .asg (.nm 1) (.bin .add (.var 1) (.lst (ies [(.isx 4 (.var 0)), (.isx 9 (.var 0)), (.isx 12 (.var 0))])))
def s27_3 : IS := .asg (.nm 1) (.bin .add (.var 1) (.lst (ies [(.isx 13 (.var 0)), (.isx 14 (.var 0)), (.isx 15 (.var 0))])))
def s27_4 : IS := .asg (.nm 1) (.bin .add (.var 1) (.lst (ies [(.isx 3 (.var 0)), (.isx 11 (.var 0)), (.isx 8 (.var 0))])))
def s27_5 : IS := .asg (.nm 1) (.bin .add (.var 1) (.lst (ies [(.isx 2 (.var 0)), (.isx 7 (.var 0))])))
def s27_6 : IS := .ifS (.boo false (ies [(.not (.isx 20 (.var 0))), (.cmp .ne (.lcnt (.var 1) (.lit (.bl true))) (.lit (.int 1)))])) (iss [.ret (.tup (ies [(.lit (.str "other")), (.lit (.int 0))]))]) .nil
def s27_7 : IS := .ifS (.boo false (ies [(.ix (.var 1) (.lit (.int 0))), (.ix (.var 1) (.lit (.int 2))), (.ix (.var 1) (.lit (.int 11)))])) (iss [.ret (.tup (ies [(.ix (.lst (ies [(.lit (.str "tie")), (.lit (.str "")), (.lit (.str "rows")), (.lit (.str "")), (.lit (.str "")), (.lit (.str "")), (.lit (.str "")), (.lit (.str "")), (.lit (.str "")), (.lit (.str "")), (.lit (.str "")), (.lit (.str "deed"))])) (.lidx (.var 1) (.lit (.bl true)))), (.call 26 (ies [(.fld 3 (.var 0))]))]))]) .nil
def s27_8 : IS := .ifS (.ix (.var 1) (.lit (.int 1))) (iss [.ret (.tup (ies [(.lit (.str "many")), (.call 26 (ies [(.fld 4 (.var 0))]))]))]) .nil
def s27_9 : IS := .ifS (.ix (.var 1) (.lit (.int 14))) (iss [.ret (.tup (ies [(.lit (.str "text")), (.call 26 (ies [(.fld 5 (.var 0))]))]))]) .nil
def s27_10 : IS := .ifS (.ix (.var 1) (.lit (.int 8))) (iss [.ret (.tup (ies [(.lit (.str "unknown")), (.fld 6 (.var 0))]))]) .nil
def s27_11 : IS := .ifS (.ix (.var 1) (.lit (.int 9))) (iss [.ret (.tup (ies [(.lit (.str "name")), (.fld 6 (.var 0))]))]) .nil
def s27_12 : IS := .ifS (.ix (.var 1) (.lit (.int 10))) (iss [.ret (.tup (ies [(.lit (.str "taken")), (.fld 6 (.var 0))]))]) .nil
def s27_13 : IS := .asg (.nm 2) (.lst (ies [(.lit (.str "")), (.lit (.str "")), (.lit (.str "")), (.lit (.str "pairing")), (.lit (.str "types")), (.lit (.str "table")), (.lit (.str "corner")), (.lit (.str "weight")), (.lit (.str "")), (.lit (.str "")), (.lit (.str "")), (.lit (.str "")), (.lit (.str "undo")), (.lit (.str "outside")), (.lit (.str ""))]))
def s27_14 : IS := .ret (.tup (ies [(.ix (.bin .add (.var 2) (.lst (ies [(.lit (.str "nothing")), (.lit (.str "gain")), (.lit (.str "estate"))]))) (.lidx (.var 1) (.lit (.bl true)))), (.lit (.int 0))]))
def b27 : ISs := iss [s27_0, s27_1, s27_2, s27_3, s27_4, s27_5, s27_6, s27_7, s27_8, s27_9, s27_10, s27_11, s27_12, s27_13, s27_14]
def t28_3 : IE := (.boo true (ies [(.cmp .lt (.var 5) (.bi .len (ies [(.var 2)]))), (.cmp .lt (.bin .mul (.ix (.ix (.var 2) (.var 5)) (.lit (.int 1))) (.ix (.var 4) (.lit (.int 0)))) (.bin .mul (.ix (.var 4) (.lit (.int 1))) (.ix (.ix (.var 2) (.var 5)) (.lit (.int 0)))))]))
def b28_2 : ISs := (iss [.asg (.nm 5) (.bin .add (.var 5) (.lit (.int 1)))])
def b28_0 : ISs := (iss [.asg (.nm 4) (.tup (ies [(.bin .add (.lit (.int 1)) (.ix (.var 0) (.bin .add (.lit (.int 12)) (.bin .mul (.lit (.int 2)) (.var 3))))), (.bin .add (.lit (.int 1)) (.ix (.var 0) (.bin .add (.lit (.int 13)) (.bin .mul (.lit (.int 2)) (.var 3)))))])), .ifS (.cmp .eq (.bin .mod (.bi .int1 (ies [(.ix (.var 0) (.lit (.int 2)))])) (.lit (.int 2))) (.lit (.int 0))) (iss [.asg (.nm 4) (.tup (ies [(.bin .add (.lit (.int 1)) (.bin .mod (.bi .int1 (ies [(.ix (.var 0) (.bin .add (.lit (.int 12)) (.bin .mul (.lit (.int 2)) (.var 3))))])) (.lit (.int 7)))), (.bin .add (.lit (.int 1)) (.bin .mod (.bi .int1 (ies [(.ix (.var 0) (.bin .add (.lit (.int 13)) (.bin .mul (.lit (.int 2)) (.var 3))))])) (.lit (.int 7))))]))]) .nil, .asg (.nm 5) (.lit (.int 0)), .whileS [] t28_3 b28_2, .ifS (.boo false (ies [(.cmp .eq (.var 5) (.bi .len (ies [(.var 2)]))), (.cmp .gt (.bin .mul (.ix (.ix (.var 2) (.var 5)) (.lit (.int 1))) (.ix (.var 4) (.lit (.int 0)))) (.bin .mul (.ix (.var 4) (.lit (.int 1))) (.ix (.ix (.var 2) (.var 5)) (.lit (.int 0)))))])) (iss [.asg (.nm 2) (.bin .add (.bin .add (.slc (.var 2) .nil (ies [(.var 5)])) (.lst (ies [(.var 4)]))) (.slc (.var 2) (ies [(.var 5)]) .nil))]) .nil])
def s28_0 : IS := .asg (.nm 2) (.lst .nil)
def s28_1 : IS := .forS [] (.nm 3) (.rng1 (.var 1)) b28_0
def s28_2 : IS := .ret (.var 2)
def b28 : ISs := iss [s28_0, s28_1, s28_2]
def b29_0 : ISs := (iss [.asg (.nm 3) (.bin .sub (.ix (.ix (.var 0) (.bin .sub (.var 2) (.lit (.int 1)))) (.lit (.int 1))) (.ix (.ix (.var 0) (.var 2)) (.lit (.int 1)))), .asg (.nm 4) (.bin .sub (.ix (.ix (.var 0) (.var 2)) (.lit (.int 0))) (.ix (.ix (.var 0) (.bin .sub (.var 2) (.lit (.int 1)))) (.lit (.int 0)))), .app 1 (.tup (ies [(.var 3), (.var 4), (.bin .add (.bin .mul (.var 3) (.ix (.ix (.var 0) (.var 2)) (.lit (.int 0)))) (.bin .mul (.var 4) (.ix (.ix (.var 0) (.var 2)) (.lit (.int 1)))))]))])
def s29_0 : IS := .asgF 1 (.lst (ies [(.tup (ies [(.lit (.int 1)), (.lit (.int 0)), (.ix (.ix (.var 0) (.neg (.lit (.int 1)))) (.lit (.int 0)))])), (.tup (ies [(.lit (.int 0)), (.lit (.int 1)), (.ix (.ix (.var 0) (.lit (.int 0))) (.lit (.int 1)))]))]))
def s29_1 : IS := .forS [] (.nm 2) (.rng2 (.lit (.int 1)) (.bi .len (ies [(.var 0)]))) b29_0
def s29_2 : IS := .ret (.var 1)
def b29 : ISs := iss [s29_0, s29_1, s29_2]
def k30_4 : IE := (.bin .add (.bin .mul (.var 11) (.bin .pow (.lit (.int 10)) (.lit (.int 5)))) (.ix (.var 1) (.lit (.int 9))))
def b30_2 : ISs := (iss [.asg (.nm 4) (.bin .add (.var 4) (.ix (.var 6) (.lit (.int 0)))), .asg (.nm 5) (.bin .sub (.var 5) (.ix (.var 6) (.lit (.int 1)))), .app 7 (.tup (ies [(.var 4), (.var 5)]))])
def b30_0 : ISs := (iss [.asg (.nm 5) (.bin .add (.var 5) (.ix (.var 6) (.lit (.int 1))))])
def s30_0 : IS := .asg (.nm 1) (.call 16 (ies [(.var 0), (.lit (.int 60)), (.lit (.int 54))]))
def s30_1 : IS := .asg (.nm 2) (.bin .mod (.bi .int1 (ies [(.ix (.var 1) (.lit (.int 0)))])) (.lit (.int 6)))
def s30_2 : IS := .ifS (.cmp .ge (.ix (.var 1) (.lit (.int 0))) (.lit (.int 54))) (iss [.asg (.nm 2) (.bin .add (.lit (.int 6)) (.bin .mod (.bi .int1 (ies [(.ix (.var 1) (.lit (.int 1)))])) (.lit (.int 16))))]) .nil
def s30_3 : IS := .asg (.nm 3) (.call 28 (ies [(.var 1), (.var 2)]))
def s30_4 : IS := .asg (.nm 4) (.bi .max2 (ies [(.lit (.int 0)), (.bin .sub (.bin .mod (.bi .int1 (ies [(.ix (.var 1) (.lit (.int 3)))])) (.lit (.int 8))) (.lit (.int 3)))]))
def s30_5 : IS := .asg (.nm 5) (.bi .max2 (ies [(.lit (.int 0)), (.bin .sub (.bin .mod (.bi .int1 (ies [(.ix (.var 1) (.lit (.int 4)))])) (.lit (.int 8))) (.lit (.int 3)))]))
def s30_6 : IS := .ifS (.cmp .eq (.var 3) (.lst .nil)) (iss [.asg (.nm 4) (.bin .add (.var 4) (.lit (.int 1))), .asg (.nm 5) (.bin .add (.var 5) (.lit (.int 1)))]) .nil
def s30_7 : IS := .forS [] (.nm 6) (.seq (.var 3)) b30_0
def s30_8 : IS := .asgF 7 (.lst (ies [(.tup (ies [(.var 4), (.var 5)]))]))
def s30_9 : IS := .forS [] (.nm 6) (.seq (.var 3)) b30_2
def s30_10 : IS := .asg (.nm 8) (.lst (ies [(.bin .add (.lit (.int 1)) (.bin .mod (.bi .int1 (ies [(.ix (.var 1) (.lit (.int 5)))])) (.lit (.int 6)))), (.bin .add (.lit (.int 1)) (.bin .mod (.bi .int1 (ies [(.ix (.var 1) (.lit (.int 6)))])) (.lit (.int 6)))), (.bin .add (.lit (.int 1)) (.bin .mod (.bi .int1 (ies [(.ix (.var 1) (.lit (.int 7)))])) (.lit (.int 6)))), (.bin .add (.lit (.int 1)) (.bin .mod (.bi .int1 (ies [(.ix (.var 1) (.lit (.int 8)))])) (.lit (.int 6))))]))
def s30_11 : IS := .ifS (.cmp .eq (.bin .mod (.bi .int1 (ies [(.ix (.var 1) (.lit (.int 2)))])) (.lit (.int 5))) (.lit (.int 4))) (iss [.asg (.nm 8) (.comp (.nm 11) [11] (.seq (.var 8)) .nil k30_4)]) .nil
def s30_12 : IS := .asg (.nm 9) (.call 17 (ies [(.bin .sub (.ix (.var 1) (.lit (.int 10))) (.lit (.int 30))), (.bin .add (.lit (.int 1)) (.bin .mod (.bi .int1 (ies [(.ix (.var 1) (.lit (.int 9)))])) (.lit (.int 6))))]))
def s30_13 : IS := .asg (.nm 10) (.call 17 (ies [(.bin .sub (.ix (.var 1) (.lit (.int 11))) (.lit (.int 30))), (.bin .add (.lit (.int 1)) (.bin .mod (.bi .int1 (ies [(.ix (.var 1) (.lit (.int 8)))])) (.lit (.int 6))))]))
def s30_14 : IS := .share 7
def s30_15 : IS := .ret (.tup (ies [(.tup (ies [(.var 9), (.var 10)])), (.var 8), (.var 7), (.call 29 (ies [(.var 7)]))]))
def b30 : ISs := iss [s30_0, s30_1, s30_2, s30_3, s30_4, s30_5, s30_6, s30_7, s30_8, s30_9, s30_10, s30_11, s30_12, s30_13, s30_14, s30_15]
def s31_0 : IS := .asg (.nm 3) (.ix (.var 0) (.lit (.int 1)))
def s31_1 : IS := .asg (.nm 4) (.ix (.ix (.var 0) (.lit (.int 0))) (.lit (.int 0)))
def s31_2 : IS := .asg (.nm 5) (.ix (.ix (.var 0) (.lit (.int 0))) (.lit (.int 1)))
def s31_3 : IS := .asg (.nm 6) (.bin .add (.bin .mul (.bin .mul (.ix (.var 4) (.lit (.int 0))) (.ix (.var 3) (.lit (.int 1)))) (.ix (.var 1) (.lit (.int 1)))) (.bin .mul (.bin .mul (.ix (.var 4) (.lit (.int 1))) (.ix (.var 3) (.lit (.int 0)))) (.ix (.var 1) (.lit (.int 0)))))
def s31_4 : IS := .asg (.nm 7) (.bin .add (.bin .mul (.bin .mul (.ix (.var 5) (.lit (.int 0))) (.ix (.var 3) (.lit (.int 3)))) (.ix (.var 2) (.lit (.int 1)))) (.bin .mul (.bin .mul (.ix (.var 5) (.lit (.int 1))) (.ix (.var 3) (.lit (.int 2)))) (.ix (.var 2) (.lit (.int 0)))))
def s31_5 : IS := .ret (.tup (ies [(.call 17 (ies [(.var 6), (.bin .mul (.bin .mul (.ix (.var 4) (.lit (.int 1))) (.ix (.var 3) (.lit (.int 1)))) (.ix (.var 1) (.lit (.int 1))))])), (.call 17 (ies [(.var 7), (.bin .mul (.bin .mul (.ix (.var 5) (.lit (.int 1))) (.ix (.var 3) (.lit (.int 3)))) (.ix (.var 2) (.lit (.int 1))))]))]))
def b31 : ISs := iss [s31_0, s31_1, s31_2, s31_3, s31_4, s31_5]
def k32_0 : IE := (.call 31 (ies [(.var 0), (.tup (ies [(.ix (.var 1) (.lit (.int 0))), (.lit (.int 1))])), (.tup (ies [(.ix (.var 1) (.lit (.int 1))), (.lit (.int 1))]))]))
def b32 : ISs := iss [
    .ret (.comp (.nm 1) [1] (.seq (.ix (.var 0) (.lit (.int 2)))) .nil k32_0)]
def b33_0 : ISs := (iss [.ifS (.not (.call 22 (ies [(.ix (.ix (.var 0) (.var 2)) (.lit (.int 0))), (.var 1)]))) (iss [.asg (.nm 3) (.call 21 (ies [(.call 19 (ies [(.var 1), (.ix (.ix (.var 0) (.bin .sub (.var 2) (.lit (.int 1)))) (.lit (.int 0)))])), (.call 19 (ies [(.ix (.ix (.var 0) (.var 2)) (.lit (.int 0))), (.ix (.ix (.var 0) (.bin .sub (.var 2) (.lit (.int 1)))) (.lit (.int 0)))]))])), .asg (.nm 4) (.call 19 (ies [(.ix (.ix (.var 0) (.var 2)) (.lit (.int 1))), (.ix (.ix (.var 0) (.bin .sub (.var 2) (.lit (.int 1)))) (.lit (.int 1)))])), .ret (.call 18 (ies [(.ix (.ix (.var 0) (.bin .sub (.var 2) (.lit (.int 1)))) (.lit (.int 1))), (.call 20 (ies [(.var 3), (.var 4)]))]))]) .nil])
def s33_0 : IS := .ifS (.not (.call 22 (ies [(.ix (.ix (.var 0) (.lit (.int 0))) (.lit (.int 0))), (.var 1)]))) (iss [.ret (.ix (.ix (.var 0) (.lit (.int 0))) (.lit (.int 1)))]) .nil
def s33_1 : IS := .forS [] (.nm 2) (.rng2 (.lit (.int 1)) (.bi .len (ies [(.var 0)]))) b33_0
def s33_2 : IS := .ret (.ix (.ix (.var 0) (.neg (.lit (.int 1)))) (.lit (.int 1)))
def b33 : ISs := iss [s33_0, s33_1, s33_2]
def s34_0 : IS := .ifS (.boo false (ies [(.cmp .isN (.var 1) (.lit .non)), (.call 22 (ies [(.ix (.ix (.var 0) (.neg (.lit (.int 1)))) (.lit (.int 0))), (.ix (.var 1) (.lit (.int 0)))]))])) (iss [.ret (.lit (.bl false))]) .nil
def s34_1 : IS := .ret (.not (.call 22 (ies [(.call 33 (ies [(.var 0), (.ix (.var 1) (.lit (.int 0)))])), (.ix (.var 1) (.lit (.int 1)))])))
def b34 : ISs := iss [s34_0, s34_1]
def s35_0 : IS := .ifS (.not (.call 34 (ies [(.var 0), (.var 1)]))) (iss [.ret (.lit (.bl false))]) .nil
def s35_1 : IS := .ret (.boo false (ies [(.cmp .eq (.ix (.var 1) (.lit (.int 0))) (.ix (.ix (.var 0) (.neg (.lit (.int 1)))) (.lit (.int 0)))), (.cmp .eq (.ix (.var 1) (.lit (.int 1))) (.call 33 (ies [(.var 0), (.ix (.var 1) (.lit (.int 0)))])))]))
def b35 : ISs := iss [s35_0, s35_1]
def b36 : ISs := iss [
    .ret (.tup (ies [(.ix (.ix (.var 0) (.neg (.lit (.int 1)))) (.lit (.int 0))), (.ix (.ix (.var 0) (.lit (.int 0))) (.lit (.int 1)))]))]
def b37 : ISs := iss [
    .ret (.tup (ies [(.call 19 (ies [(.ix (.var 0) (.lit (.int 0))), (.ix (.var 1) (.lit (.int 0)))])), (.call 19 (ies [(.ix (.var 0) (.lit (.int 1))), (.ix (.var 1) (.lit (.int 1)))]))]))]
def b38_0 : ISs := (iss [.asg (.nm 6) (.call 19 (ies [(.ix (.ix (.var 0) (.bin .sub (.var 5) (.lit (.int 1)))) (.lit (.int 1))), (.ix (.ix (.var 0) (.var 5)) (.lit (.int 1)))])), .asg (.nm 7) (.call 19 (ies [(.ix (.ix (.var 0) (.var 5)) (.lit (.int 0))), (.ix (.ix (.var 0) (.bin .sub (.var 5) (.lit (.int 1)))) (.lit (.int 0)))])), .asg (.nm 8) (.call 37 (ies [(.var 2), (.ix (.var 0) (.var 5))])), .asg (.nm 9) (.call 18 (ies [(.call 20 (ies [(.var 6), (.ix (.var 8) (.lit (.int 0)))])), (.call 20 (ies [(.var 7), (.ix (.var 8) (.lit (.int 1)))]))])), .asg (.nm 10) (.call 21 (ies [(.var 9), (.call 18 (ies [(.call 20 (ies [(.var 6), (.ix (.var 3) (.lit (.int 0)))])), (.call 20 (ies [(.var 7), (.ix (.var 3) (.lit (.int 1)))]))]))])), .ifS (.call 22 (ies [(.var 4), (.var 10)])) (iss [.asg (.nm 4) (.var 10)]) .nil])
def s38_0 : IS := .asg (.nm 2) (.call 36 (ies [(.var 0)]))
def s38_1 : IS := .asg (.nm 3) (.tup (ies [(.var 1), (.call 19 (ies [(.tup (ies [(.lit (.int 1)), (.lit (.int 1))])), (.var 1)]))]))
def s38_2 : IS := .asg (.nm 4) (.tup (ies [(.lit (.int 0)), (.lit (.int 1))]))
def s38_3 : IS := .forS [] (.nm 5) (.rng2 (.lit (.int 1)) (.bi .len (ies [(.var 0)]))) b38_0
def s38_4 : IS := .ret (.call 37 (ies [(.var 2), (.tup (ies [(.call 20 (ies [(.var 4), (.ix (.var 3) (.lit (.int 0)))])), (.call 20 (ies [(.var 4), (.ix (.var 3) (.lit (.int 1)))]))]))]))
def b38 : ISs := iss [s38_0, s38_1, s38_2, s38_3, s38_4]
def s39_0 : IS := .ifS (.boo false (ies [(.not (.call 24 (ies [(.var 3)]))), (.not (.call 35 (ies [(.var 1), (.var 3)])))])) (iss [.ret (.lit (.bl false))]) .nil
def s39_1 : IS := .asg (.nm 4) (.call 37 (ies [(.call 36 (ies [(.var 1)])), (.var 3)]))
def s39_2 : IS := .ifS (.boo false (ies [(.cmp .lt (.ix (.ix (.var 4) (.lit (.int 0))) (.lit (.int 0))) (.lit (.int 0))), (.cmp .lt (.ix (.ix (.var 4) (.lit (.int 1))) (.lit (.int 0))) (.lit (.int 0)))])) (iss [.ret (.lit (.bl false))]) .nil
def s39_3 : IS := .ifS (.cmp .ne (.call 20 (ies [(.ix (.var 4) (.lit (.int 0))), (.call 19 (ies [(.tup (ies [(.lit (.int 1)), (.lit (.int 1))])), (.var 2)]))])) (.call 20 (ies [(.ix (.var 4) (.lit (.int 1))), (.var 2)]))) (iss [.ret (.lit (.bl false))]) .nil
def s39_4 : IS := .ret (.boo true (ies [(.cmp .eq (.var 3) (.call 38 (ies [(.var 1), (.var 2)]))), (.cmp .eq (.meth 7 (.var 0) (ies [(.var 3)])) (.var 4))]))
def b39 : ISs := iss [s39_0, s39_1, s39_2, s39_3, s39_4]
def b40_2 : ISs := (iss [.ifS (.cmp .ne (.refused 46 (.callK 11 1 (ies [(.var 2)]) (ies [(.var 10)]))) (.tup (ies [(.lit (.str "weight")), (.lit (.int 0))]))) (iss [.ret (.lit (.bl false))]) .nil, .ifS (.cmp .ne (.refused 46 (.makeK 0 2 .nil (ies [(.var 10)]))) (.tup (ies [(.lit (.str "weight")), (.lit (.int 0))]))) (iss [.ret (.lit (.bl false))]) .nil])
def b40_0 : ISs := (iss [.asg (.nm 7) (.callK 11 1 (ies [(.var 2)]) (ies [(.var 6)])), .asg (.nm 8) (.makeK 0 2 .nil (ies [(.var 6)])), .ifS (.boo false (ies [(.not (.call 39 (ies [(.var 2), (.var 1), (.var 6), (.var 7)]))), (.cmp .ne (.fld 8 (.var 8)) (.var 6)), (.cmp .ne (.callV (.var 8) (ies [(.var 2)])) (.var 7))])) (iss [.ret (.lit (.bl false))]) .nil, .ifS (.boo false (ies [(.boo true (ies [(.cmp .notN (.var 5) (.lit .non)), (.call 22 (ies [(.ix (.var 5) (.lit (.int 0))), (.ix (.var 7) (.lit (.int 0)))]))])), (.boo true (ies [(.cmp .notN (.var 5) (.lit .non)), (.call 22 (ies [(.ix (.var 7) (.lit (.int 1))), (.ix (.var 5) (.lit (.int 1)))]))]))])) (iss [.ret (.lit (.bl false))]) .nil, .asg (.nm 5) (.var 7)])
def s40_0 : IS := .asg (.nm 1) (.call 32 (ies [(.call 30 (ies [(.call 15 (ies [(.var 0), (.lit (.int 0))]))]))]))
def s40_1 : IS := .asg (.nm 2) (.makeK 1 0 (ies [(.bi .list1 (ies [(.var 1)]))]) .nil)
def s40_2 : IS := .asgF 3 (.lst (ies [(.call 17 (ies [(.bin .add (.lit (.int 1)) (.bin .mod (.bi .int1 (ies [(.call 15 (ies [(.var 0), (.lit (.int 1))]))])) (.lit (.int 11)))), (.lit (.int 12))]))]))
def s40_3 : IS := .asg (.nm 4) (.bin .add (.lit (.int 2)) (.bin .mod (.bi .int1 (ies [(.call 15 (ies [(.var 0), (.lit (.int 2))]))])) (.bin .pow (.lit (.int 10)) (.lit (.int 30)))))
def s40_4 : IS := .app 3 (.call 17 (ies [(.bin .add (.lit (.int 1)) (.bin .mod (.bi .int1 (ies [(.call 15 (ies [(.var 0), (.lit (.int 3))]))])) (.bin .sub (.var 4) (.lit (.int 1))))), (.var 4)]))
def s40_5 : IS := .asg (.nm 5) (.lit .non)
def s40_6 : IS := .forS [] (.nm 6) (.seq (.call 25 (ies [(.bin .add (.var 3) (.lst (ies [(.tup (ies [(.lit (.int 1)), (.lit (.int 2))])), (.tup (ies [(.lit (.int 1)), (.lit (.int 99))])), (.tup (ies [(.lit (.int 98)), (.lit (.int 99))]))])))]))) b40_0
def s40_7 : IS := .asg (.nm 9) (.makeK 0 3 .nil .nil)
def s40_8 : IS := .ifS (.boo false (ies [(.cmp .ne (.fld 8 (.var 9)) (.tup (ies [(.lit (.int 1)), (.lit (.int 2))]))), (.cmp .ne (.callV (.var 9) (ies [(.var 2)])) (.callK 11 4 (ies [(.var 2)]) .nil)), (.cmp .ne (.callK 11 4 (ies [(.var 2)]) .nil) (.call 38 (ies [(.var 1), (.tup (ies [(.lit (.int 1)), (.lit (.int 2))]))])))])) (iss [.ret (.lit (.bl false))]) .nil
def s40_9 : IS := .forS [] (.nm 10) (.seq (.lst (ies [(.tup (ies [(.lit (.int 0)), (.lit (.int 1))])), (.tup (ies [(.lit (.int 1)), (.lit (.int 1))])), (.tup (ies [(.neg (.lit (.int 1))), (.lit (.int 3))])), (.tup (ies [(.lit (.int 4)), (.lit (.int 3))]))]))) b40_2
def s40_10 : IS := .ret (.lit (.bl true))
def b40 : ISs := iss [s40_0, s40_1, s40_2, s40_3, s40_4, s40_5, s40_6, s40_7, s40_8, s40_9, s40_10]
def s41_0 : IS := .expr (.call 8 (ies [(.var 1)]))
def s41_1 : IS := .setF 0 8 (.var 1)
def b41 : ISs := iss [s41_0, s41_1]
def b42 : ISs := iss [
    .ret (.callK 11 1 (ies [(.var 1)]) (ies [(.fld 8 (.var 0))]))]
def s43_0 : IS := .ifS (.cmp .eq (.bi .len (ies [(.var 1)])) (.lit (.int 0))) (iss [.raise 19 (ies [(.lit (.str "a lot has at least one corner"))])]) .nil
def s43_1 : IS := .setF 0 1 (.bi .tuple1 (ies [(.call 14 (ies [(.bi .list1 (ies [(.var 1)]))]))]))
def b43 : ISs := iss [s43_0, s43_1]
def b44 : ISs := iss [
    .ret (.tup (ies [(.ix (.ix (.fld 1 (.var 0)) (.neg (.lit (.int 1)))) (.lit (.int 0))), (.ix (.ix (.fld 1 (.var 0)) (.lit (.int 0))) (.lit (.int 1)))]))]
def b45 : ISs := iss [
    .ret (.call 7 (ies [(.fld 2 (.var 0)), (.var 1)]))]
/- 46 ('_law_refused', None): stmt Try try: -/
def b46 : ISs := .nil
def d0 : He5.DefA := ⟨fun K => He.fAd K ("frac", none), "frac", "frac", defArgs (top 27), defBody (top 27), defScope (top 27), [.int 1], []⟩
def r0 : Vm.Row := ⟨d0, ("frac", none), ["n", "d", "shared"], ["n", "d"], ⟨2, 3, false, false, b0⟩⟩
def d1 : He5.DefA := ⟨fun K => He.fAd K ("plus", none), "plus", "plus", defArgs (top 28), defBody (top 28), defScope (top 28), [], []⟩
def r1 : Vm.Row := ⟨d1, ("plus", none), ["a", "b"], ["a", "b"], ⟨2, 2, false, false, b1⟩⟩
def d2 : He5.DefA := ⟨fun K => He.fAd K ("minus", none), "minus", "minus", defArgs (top 29), defBody (top 29), defScope (top 29), [], []⟩
def r2 : Vm.Row := ⟨d2, ("minus", none), ["a", "b"], ["a", "b"], ⟨2, 2, false, false, b2⟩⟩
def d3 : He5.DefA := ⟨fun K => He.fAd K ("times", none), "times", "times", defArgs (top 30), defBody (top 30), defScope (top 30), [], []⟩
def r3 : Vm.Row := ⟨d3, ("times", none), ["a", "b"], ["a", "b"], ⟨2, 2, false, false, b3⟩⟩
def d4 : He5.DefA := ⟨fun K => He.fAd K ("over", none), "over", "over", defArgs (top 31), defBody (top 31), defScope (top 31), [], []⟩
def r4 : Vm.Row := ⟨d4, ("over", none), ["a", "b"], ["a", "b"], ⟨2, 2, false, false, b4⟩⟩
def d5 : He5.DefA := ⟨fun K => He.fAd K ("below", none), "below", "below", defArgs (top 32), defBody (top 32), defScope (top 32), [], []⟩
def r5 : Vm.Row := ⟨d5, ("below", none), ["a", "b"], ["a", "b"], ⟨2, 2, false, false, b5⟩⟩
def d6 : He5.DefA := ⟨fun K => He.fAd K ("larger", none), "larger", "larger", defArgs (top 34), defBody (top 34), defScope (top 34), [], []⟩
def r6 : Vm.Row := ⟨d6, ("larger", none), ["a", "b"], ["a", "b"], ⟨2, 2, false, false, b6⟩⟩
def d7 : He5.DefA := ⟨fun K => He.fAd K ("gap", none), "gap", "gap", defArgs (top 36), defBody (top 36), defScope (top 36), [], []⟩
def r7 : Vm.Row := ⟨d7, ("gap", none), ["point", "base"], ["point", "base"], ⟨2, 2, false, false, b7⟩⟩
def d8 : He5.DefA := ⟨fun K => He.fAd K ("check_weight", none), "check_weight", "check_weight", defArgs (top 38), defBody (top 38), defScope (top 38), [], []⟩
def r8 : Vm.Row := ⟨d8, ("check_weight", none), ["weight"], ["weight"], ⟨1, 1, false, false, b8⟩⟩
def d9 : He5.DefA := ⟨fun K => He.fAd K ("weighed", none), "weighed", "weighed", defArgs (top 39), defBody (top 39), defScope (top 39), [], []⟩
def r9 : Vm.Row := ⟨d9, ("weighed", none), ["factors", "point"], ["factors", "point"], ⟨2, 2, false, false, b9⟩⟩
def d10 : He5.DefA := ⟨fun K => He.fAd K ("lot_edges", none), "lot_edges", "lot_edges", defArgs (top 41), defBody (top 41), defScope (top 41), [], []⟩
def r10 : Vm.Row := ⟨d10, ("lot_edges", none), ["lot", "edges", "k", "left", "right"], ["lot"], ⟨1, 5, false, true, b10⟩⟩
def d11 : He5.DefA := ⟨fun K => He.fAd K ("loss_point", none), "loss_point", "loss_point", defArgs (top 42), defBody (top 42), defScope (top 42), [], [("weight", .glo "HALF")]⟩
def r11 : Vm.Row := ⟨d11, ("loss_point", none), ["lot", "weight", "way", "far", "left", "_", "normal", "beyond"], ["lot", "weight"], ⟨2, 8, false, false, b11⟩⟩
def d12 : He5.DefA := ⟨fun K => He.fAd K ("turn", none), "turn", "turn", defArgs (top 45), defBody (top 45), defScope (top 45), [], []⟩
def r12 : Vm.Row := ⟨d12, ("turn", none), ["a", "b", "c"], ["a", "b", "c"], ⟨3, 3, false, true, b12⟩⟩
def d13 : He5.DefA := ⟨fun K => He.fAd K ("whole_spots", none), "whole_spots", "whole_spots", defArgs (top 46), defBody (top 46), defScope (top 46), [], []⟩
def r13 : Vm.Row := ⟨d13, ("whole_spots", none), ["points", "wide", "high", "x", "y", "spots", "k"], ["points"], ⟨1, 7, false, true, b13⟩⟩
def d14 : He5.DefA := ⟨fun K => He.fAd K ("upper_chain", none), "upper_chain", "upper_chain", defArgs (top 47), defBody (top 47), defScope (top 47), [], []⟩
def r14 : Vm.Row := ⟨d14, ("upper_chain", none), ["points", "chain", "spot"], ["points"], ⟨1, 3, false, true, b14⟩⟩
def d15 : He5.DefA := ⟨fun K => He.fAd K ("_law_cell", none), "_law_cell", "_law_cell", defArgs (top 53), defBody (top 53), defScope (top 53), [], []⟩
def r15 : Vm.Row := ⟨d15, ("_law_cell", none), ["script", "k"], ["script", "k"], ⟨2, 2, false, false, b15⟩⟩
def d16 : He5.DefA := ⟨fun K => He.fAd K ("_law_digits", none), "_law_digits", "_law_digits", defArgs (top 54), defBody (top 54), defScope (top 54), [], []⟩
def r16 : Vm.Row := ⟨d16, ("_law_digits", none), ["cell", "base", "count", "rest", "digits", "k"], ["cell", "base", "count"], ⟨3, 6, false, true, b16⟩⟩
def d17 : He5.DefA := ⟨fun K => He.fAd K ("_law_lowest", none), "_law_lowest", "_law_lowest", defArgs (top 55), defBody (top 55), defScope (top 55), [], []⟩
def r17 : Vm.Row := ⟨d17, ("_law_lowest", none), ["n", "d", "a", "b", "c"], ["n", "d"], ⟨2, 5, false, false, b17⟩⟩
def d18 : He5.DefA := ⟨fun K => He.fAd K ("_law_plus", none), "_law_plus", "_law_plus", defArgs (top 56), defBody (top 56), defScope (top 56), [], []⟩
def r18 : Vm.Row := ⟨d18, ("_law_plus", none), ["a", "b"], ["a", "b"], ⟨2, 2, false, false, b18⟩⟩
def d19 : He5.DefA := ⟨fun K => He.fAd K ("_law_minus", none), "_law_minus", "_law_minus", defArgs (top 57), defBody (top 57), defScope (top 57), [], []⟩
def r19 : Vm.Row := ⟨d19, ("_law_minus", none), ["a", "b"], ["a", "b"], ⟨2, 2, false, false, b19⟩⟩
def d20 : He5.DefA := ⟨fun K => He.fAd K ("_law_times", none), "_law_times", "_law_times", defArgs (top 58), defBody (top 58), defScope (top 58), [], []⟩
def r20 : Vm.Row := ⟨d20, ("_law_times", none), ["a", "b"], ["a", "b"], ⟨2, 2, false, false, b20⟩⟩
def d21 : He5.DefA := ⟨fun K => He.fAd K ("_law_over", none), "_law_over", "_law_over", defArgs (top 59), defBody (top 59), defScope (top 59), [], []⟩
def r21 : Vm.Row := ⟨d21, ("_law_over", none), ["a", "b"], ["a", "b"], ⟨2, 2, false, false, b21⟩⟩
def d22 : He5.DefA := ⟨fun K => He.fAd K ("_law_less", none), "_law_less", "_law_less", defArgs (top 60), defBody (top 60), defScope (top 60), [], []⟩
def r22 : Vm.Row := ⟨d22, ("_law_less", none), ["a", "b"], ["a", "b"], ⟨2, 2, false, false, b22⟩⟩
def d23 : He5.DefA := ⟨fun K => He.fAd K ("_law_is_number", none), "_law_is_number", "_law_is_number", defArgs (top 61), defBody (top 61), defScope (top 61), [], []⟩
def r23 : Vm.Row := ⟨d23, ("_law_is_number", none), ["value", "part"], ["value"], ⟨1, 2, false, false, b23⟩⟩
def d24 : He5.DefA := ⟨fun K => He.fAd K ("_law_is_point", none), "_law_is_point", "_law_is_point", defArgs (top 62), defBody (top 62), defScope (top 62), [], []⟩
def r24 : Vm.Row := ⟨d24, ("_law_is_point", none), ["value"], ["value"], ⟨1, 1, false, false, b24⟩⟩
def d25 : He5.DefA := ⟨fun K => He.fAd K ("_law_ascending", none), "_law_ascending", "_law_ascending", defArgs (top 63), defBody (top 63), defScope (top 63), [], []⟩
def r25 : Vm.Row := ⟨d25, ("_law_ascending", none), ["numbers", "told", "number", "at"], ["numbers"], ⟨1, 4, false, false, b25⟩⟩
def d26 : He5.DefA := ⟨fun K => He.fAd K ("_law_whole", none), "_law_whole", "_law_whole", defArgs (top 64), defBody (top 64), defScope (top 64), [], []⟩
def r26 : Vm.Row := ⟨d26, ("_law_whole", none), ["value"], ["value"], ⟨1, 1, false, false, b26⟩⟩
def d27 : He5.DefA := ⟨fun K => He.fAd K ("_law_word", none), "_law_word", "_law_word", defArgs (top 65), defBody (top 65), defScope (top 65), [], []⟩
def r27 : Vm.Row := ⟨d27, ("_law_word", none), ["e", "kinds", "words"], ["e"], ⟨1, 3, false, false, b27⟩⟩
def d28 : He5.DefA := ⟨fun K => He.fAd K ("_law_steps", none), "_law_steps", "_law_steps", defArgs (top 67), defBody (top 67), defScope (top 67), [], []⟩
def r28 : Vm.Row := ⟨d28, ("_law_steps", none), ["row", "many", "steps", "k", "step", "at"], ["row", "many"], ⟨2, 6, false, false, b28⟩⟩
def d29 : He5.DefA := ⟨fun K => He.fAd K ("_law_bounds", none), "_law_bounds", "_law_bounds", defArgs (top 68), defBody (top 68), defScope (top 68), [], []⟩
def r29 : Vm.Row := ⟨d29, ("_law_bounds", none), ["chain", "bounds", "k", "a", "b"], ["chain"], ⟨1, 5, false, true, b29⟩⟩
def d30 : He5.DefA := ⟨fun K => He.fAd K ("_law_world", none), "_law_world", "_law_world", defArgs (top 69), defBody (top 69), defScope (top 69), [], []⟩
def r30 : Vm.Row := ⟨d30, ("_law_world", none), ["cell", "row", "many", "steps", "x", "y", "step", "chain", "units", "left", "low", "one"], ["cell"], ⟨1, 12, false, false, b30⟩⟩
def d31 : He5.DefA := ⟨fun K => He.fAd K ("_law_at", none), "_law_at", "_law_at", defArgs (top 70), defBody (top 70), defScope (top 70), [], []⟩
def r31 : Vm.Row := ⟨d31, ("_law_at", none), ["world", "x", "y", "units", "left", "low", "first", "second"], ["world", "x", "y"], ⟨3, 8, false, false, b31⟩⟩
def d32 : He5.DefA := ⟨fun K => He.fAd K ("_law_corners", none), "_law_corners", "_law_corners", defArgs (top 71), defBody (top 71), defScope (top 71), [], []⟩
def r32 : Vm.Row := ⟨d32, ("_law_corners", none), ["world", "corner"], ["world"], ⟨1, 2, false, true, b32⟩⟩
def d33 : He5.DefA := ⟨fun K => He.fAd K ("_law_high", none), "_law_high", "_law_high", defArgs (top 72), defBody (top 72), defScope (top 72), [], []⟩
def r33 : Vm.Row := ⟨d33, ("_law_high", none), ["chain", "x", "k", "share", "drop"], ["chain", "x"], ⟨2, 5, false, false, b33⟩⟩
def d34 : He5.DefA := ⟨fun K => He.fAd K ("_law_in_chain", none), "_law_in_chain", "_law_in_chain", defArgs (top 73), defBody (top 73), defScope (top 73), [], []⟩
def r34 : Vm.Row := ⟨d34, ("_law_in_chain", none), ["chain", "point"], ["chain", "point"], ⟨2, 2, false, false, b34⟩⟩
def d35 : He5.DefA := ⟨fun K => He.fAd K ("_law_on_rim", none), "_law_on_rim", "_law_on_rim", defArgs (top 74), defBody (top 74), defScope (top 74), [], []⟩
def r35 : Vm.Row := ⟨d35, ("_law_on_rim", none), ["chain", "point"], ["chain", "point"], ⟨2, 2, false, false, b35⟩⟩
def d36 : He5.DefA := ⟨fun K => He.fAd K ("_law_top_point", none), "_law_top_point", "_law_top_point", defArgs (top 75), defBody (top 75), defScope (top 75), [], []⟩
def r36 : Vm.Row := ⟨d36, ("_law_top_point", none), ["chain"], ["chain"], ⟨1, 1, false, false, b36⟩⟩
def d37 : He5.DefA := ⟨fun K => He.fAd K ("_law_back", none), "_law_back", "_law_back", defArgs (top 76), defBody (top 76), defScope (top 76), [], []⟩
def r37 : Vm.Row := ⟨d37, ("_law_back", none), ["point", "by"], ["point", "by"], ⟨2, 2, false, false, b37⟩⟩
def d38 : He5.DefA := ⟨fun K => He.fAd K ("_law_loss", none), "_law_loss", "_law_loss", defArgs (top 77), defBody (top 77), defScope (top 77), [], []⟩
def r38 : Vm.Row := ⟨d38, ("_law_loss", none), ["chain", "weight", "top", "way", "far", "k", "a", "b", "gap_here", "beyond", "one"], ["chain", "weight"], ⟨2, 11, false, false, b38⟩⟩
def d39 : He5.DefA := ⟨fun K => He.fAd K ("_law_right", none), "_law_right", "_law_right", defArgs (top 78), defBody (top 78), defScope (top 78), [], []⟩
def r39 : Vm.Row := ⟨d39, ("_law_right", none), ["lot", "chain", "weight", "point", "loss"], ["lot", "chain", "weight", "point"], ⟨4, 5, false, false, b39⟩⟩
def d40 : He5.DefA := ⟨fun K => He.fAd K ("law", none), "law", "law", defArgs (top 79), defBody (top 79), defScope (top 79), [], []⟩
def r40 : Vm.Row := ⟨d40, ("law", none), ["script", "chain", "lot", "weights", "d", "last", "weight", "point", "rule", "plain", "bad"], ["script"], ⟨1, 11, false, true, b40⟩⟩
def d41 : He5.DefA := ⟨fun K => He.fAd K ("LossRule", some "__init__"), "__init__", "LossRule.__init__", defArgs (sub 43 0), defBody (sub 43 0), defScope (sub 43 0), [], [("weight", .glo "HALF")]⟩
def r41 : Vm.Row := ⟨d41, ("LossRule", some "__init__"), ["self", "weight"], ["self", "weight"], ⟨2, 2, true, false, b41⟩⟩
def d42 : He5.DefA := ⟨fun K => He.fAd K ("LossRule", some "__call__"), "__call__", "LossRule.__call__", defArgs (sub 43 1), defBody (sub 43 1), defScope (sub 43 1), [], []⟩
def r42 : Vm.Row := ⟨d42, ("LossRule", some "__call__"), ["self", "lot"], ["self", "lot"], ⟨2, 2, false, false, b42⟩⟩
def d43 : He5.DefA := ⟨fun K => He.fAd K ("Lot", some "__init__"), "__init__", "Lot.__init__", defArgs (sub 51 0), defBody (sub 51 0), defScope (sub 51 0), [], []⟩
def r43 : Vm.Row := ⟨d43, ("Lot", some "__init__"), ["self", "corners"], ["self", "corners"], ⟨2, 2, true, false, b43⟩⟩
def d44 : He5.DefA := ⟨fun K => propAd K ("Lot", some "most"), "most", "Lot.most", defArgs (sub 51 4), defBody (sub 51 4), defScope (sub 51 4), [], []⟩
def r44 : Vm.Row := ⟨d44, ("Lot", some "most"), ["self"], ["self"], ⟨1, 1, false, false, b44⟩⟩
def d45 : He5.DefA := ⟨fun K => He.fAd K ("Lot", some "losses"), "losses", "Lot.losses", defArgs (sub 51 6), defBody (sub 51 6), defScope (sub 51 6), [], []⟩
def r45 : Vm.Row := ⟨d45, ("Lot", some "losses"), ["self", "point"], ["self", "point"], ⟨2, 2, false, false, b45⟩⟩
def d46 : He5.DefA := ⟨fun K => He.fAd K ("_law_refused", none), "_law_refused", "_law_refused", defArgs (top 66), defBody (top 66), defScope (top 66), [], []⟩
def rows : List Vm.Row := [r0, r1, r2, r3, r4, r5, r6, r7, r8, r9, r10, r11, r12, r13, r14, r15, r16, r17, r18, r19, r20, r21, r22, r23, r24, r25, r26, r27, r28, r29, r30, r31, r32, r33, r34, r35, r36, r37, r38, r39, r40, r41, r42, r43, r44, r45]
def law : Vm.Law where
  G := G
  rows := rows
  hotL := [26, 27]
  inits := [some 41, some 43]
  clL := clL
  xcL := xcL
  glL := glL
  meL := [(0, 0, 42), (1, 7, 45)]
  prL := [(1, 2, 44)]
  atL := [[8], [1]]
  xfL := [3, 3, 3, 3, 3, 3, 3, 3, 3, 6, 4, 5, 6, 6, 3, 3, 3, 3, 3, 3]
  suL := [[0, 20], [1, 0, 20], [2, 0, 20], [3, 0, 20], [4, 0, 20], [5, 0, 20], [6, 0, 20], [7, 0, 20], [8, 0, 20], [9, 0, 20], [10, 0, 20], [11, 0, 20], [12, 0, 20], [13, 0, 20], [14, 0, 20], [15, 0, 20], [16, 0, 20], [17, 0, 20], [18, 0, 20], [19, 0, 20]]
  woL := [(46, 0, 27)]
  fuel := fuel0
theorem lamRows : ∀ r ∈ law.rows, law.G.lam r.d.scope = true → ∀ K, r.d.at_ K = He.fAd K r.pl := by
  have h : (law.rows.all fun r => !law.G.lam r.d.scope || [("law" : Str)].contains r.pl.1) = true := by decide +kernel
  have h2 : (law.rows.all fun r => r.pl.2.isSome || true) = true := by decide +kernel
  intro r hr hl K
  simp only [law, rows, List.mem_cons, List.not_mem_nil, or_false] at hr
  rcases hr with rfl | rfl | rfl | rfl | rfl | rfl | rfl | rfl | rfl | rfl | rfl | rfl | rfl | rfl | rfl | rfl | rfl | rfl | rfl | rfl | rfl | rfl | rfl | rfl | rfl | rfl | rfl | rfl | rfl | rfl | rfl | rfl | rfl | rfl | rfl | rfl | rfl | rfl | rfl | rfl | rfl | rfl | rfl | rfl | rfl | rfl <;> first | rfl | exact absurd hl (by decide +kernel)
theorem ckCold : ckRows law.G true 0 law.rows = true := by decide +kernel
theorem ckHot : (law.hotL.all fun f => match law.rows[f]? with | some r => ckRow law.G false f r | none => false) = true := by decide +kernel
theorem wf : law.Wf := by
  refine ⟨fname_of fnL rows (by decide +kernel), fun _ => rfl, fun _ => rfl, xname_of xoL xcL, lam_at (L := law) (fun r hr hl K => ?_), fun _ => rfl, nm_inj nmL (by decide +kernel), prop_of (L := law) (by decide +kernel), made_of (L := law) (fun _ => rfl) (by decide +kernel)⟩
  exact lamRows r hr hl K
section
variable {K : PySem.W.Frag} {w : World} {mg : Str → Option Value} {base : Heap} {hot : Option (Addr × Obj)} {prog : Program} {T : List (Addr × Str)}
theorem bindP (F : ∀ r ∈ law.rows, FunR K r.d) : ∀ f, law.G.plain f = true → PlainOk (law.C' wf prog w K mg base T hot) f
  | 0, _ => plain_of wf (r := r0) rfl (F _ (List.mem_of_getElem? (i := 0) rfl)) fun fd F => binds_full (F.binds1 2 1 (List.cons_ne_nil _ _) rfl fun _ _ _ _ _ _ _ us its hl hi => match us, its, hl, hi with | [_, _], [_], _, _ => ⟨_, rfl, rfl⟩) rfl
  | 1, _ => plain_of wf (r := r1) rfl (F _ (List.mem_of_getElem? (i := 1) rfl)) fun fd F => F.bindsN fun _ _ _ _ _ _ us hl => match us, hl with | [_, _], _ => rfl
  | 2, _ => plain_of wf (r := r2) rfl (F _ (List.mem_of_getElem? (i := 2) rfl)) fun fd F => F.bindsN fun _ _ _ _ _ _ us hl => match us, hl with | [_, _], _ => rfl
  | 3, _ => plain_of wf (r := r3) rfl (F _ (List.mem_of_getElem? (i := 3) rfl)) fun fd F => F.bindsN fun _ _ _ _ _ _ us hl => match us, hl with | [_, _], _ => rfl
  | 4, _ => plain_of wf (r := r4) rfl (F _ (List.mem_of_getElem? (i := 4) rfl)) fun fd F => F.bindsN fun _ _ _ _ _ _ us hl => match us, hl with | [_, _], _ => rfl
  | 5, _ => plain_of wf (r := r5) rfl (F _ (List.mem_of_getElem? (i := 5) rfl)) fun fd F => F.bindsN fun _ _ _ _ _ _ us hl => match us, hl with | [_, _], _ => rfl
  | 6, _ => plain_of wf (r := r6) rfl (F _ (List.mem_of_getElem? (i := 6) rfl)) fun fd F => F.bindsN fun _ _ _ _ _ _ us hl => match us, hl with | [_, _], _ => rfl
  | 7, _ => plain_of wf (r := r7) rfl (F _ (List.mem_of_getElem? (i := 7) rfl)) fun fd F => F.bindsN fun _ _ _ _ _ _ us hl => match us, hl with | [_, _], _ => rfl
  | 8, _ => plain_of wf (r := r8) rfl (F _ (List.mem_of_getElem? (i := 8) rfl)) fun fd F => F.bindsN fun _ _ _ _ _ _ us hl => match us, hl with | [_], _ => rfl
  | 9, _ => plain_of wf (r := r9) rfl (F _ (List.mem_of_getElem? (i := 9) rfl)) fun fd F => F.bindsN fun _ _ _ _ _ _ us hl => match us, hl with | [_, _], _ => rfl
  | 10, _ => plain_of wf (r := r10) rfl (F _ (List.mem_of_getElem? (i := 10) rfl)) fun fd F => F.bindsN fun _ _ _ _ _ _ us hl => match us, hl with | [_], _ => rfl
  | 11, h => absurd h (by decide)
  | 12, _ => plain_of wf (r := r12) rfl (F _ (List.mem_of_getElem? (i := 12) rfl)) fun fd F => F.bindsN fun _ _ _ _ _ _ us hl => match us, hl with | [_, _, _], _ => rfl
  | 13, _ => plain_of wf (r := r13) rfl (F _ (List.mem_of_getElem? (i := 13) rfl)) fun fd F => F.bindsN fun _ _ _ _ _ _ us hl => match us, hl with | [_], _ => rfl
  | 14, _ => plain_of wf (r := r14) rfl (F _ (List.mem_of_getElem? (i := 14) rfl)) fun fd F => F.bindsN fun _ _ _ _ _ _ us hl => match us, hl with | [_], _ => rfl
  | 15, _ => plain_of wf (r := r15) rfl (F _ (List.mem_of_getElem? (i := 15) rfl)) fun fd F => F.bindsN fun _ _ _ _ _ _ us hl => match us, hl with | [_, _], _ => rfl
  | 16, _ => plain_of wf (r := r16) rfl (F _ (List.mem_of_getElem? (i := 16) rfl)) fun fd F => F.bindsN fun _ _ _ _ _ _ us hl => match us, hl with | [_, _, _], _ => rfl
  | 17, _ => plain_of wf (r := r17) rfl (F _ (List.mem_of_getElem? (i := 17) rfl)) fun fd F => F.bindsN fun _ _ _ _ _ _ us hl => match us, hl with | [_, _], _ => rfl
  | 18, _ => plain_of wf (r := r18) rfl (F _ (List.mem_of_getElem? (i := 18) rfl)) fun fd F => F.bindsN fun _ _ _ _ _ _ us hl => match us, hl with | [_, _], _ => rfl
  | 19, _ => plain_of wf (r := r19) rfl (F _ (List.mem_of_getElem? (i := 19) rfl)) fun fd F => F.bindsN fun _ _ _ _ _ _ us hl => match us, hl with | [_, _], _ => rfl
  | 20, _ => plain_of wf (r := r20) rfl (F _ (List.mem_of_getElem? (i := 20) rfl)) fun fd F => F.bindsN fun _ _ _ _ _ _ us hl => match us, hl with | [_, _], _ => rfl
  | 21, _ => plain_of wf (r := r21) rfl (F _ (List.mem_of_getElem? (i := 21) rfl)) fun fd F => F.bindsN fun _ _ _ _ _ _ us hl => match us, hl with | [_, _], _ => rfl
  | 22, _ => plain_of wf (r := r22) rfl (F _ (List.mem_of_getElem? (i := 22) rfl)) fun fd F => F.bindsN fun _ _ _ _ _ _ us hl => match us, hl with | [_, _], _ => rfl
  | 23, _ => plain_of wf (r := r23) rfl (F _ (List.mem_of_getElem? (i := 23) rfl)) fun fd F => F.bindsN fun _ _ _ _ _ _ us hl => match us, hl with | [_], _ => rfl
  | 24, _ => plain_of wf (r := r24) rfl (F _ (List.mem_of_getElem? (i := 24) rfl)) fun fd F => F.bindsN fun _ _ _ _ _ _ us hl => match us, hl with | [_], _ => rfl
  | 25, _ => plain_of wf (r := r25) rfl (F _ (List.mem_of_getElem? (i := 25) rfl)) fun fd F => F.bindsN fun _ _ _ _ _ _ us hl => match us, hl with | [_], _ => rfl
  | 26, _ => plain_of wf (r := r26) rfl (F _ (List.mem_of_getElem? (i := 26) rfl)) fun fd F => F.bindsN fun _ _ _ _ _ _ us hl => match us, hl with | [_], _ => rfl
  | 27, _ => plain_of wf (r := r27) rfl (F _ (List.mem_of_getElem? (i := 27) rfl)) fun fd F => F.bindsN fun _ _ _ _ _ _ us hl => match us, hl with | [_], _ => rfl
  | 28, _ => plain_of wf (r := r28) rfl (F _ (List.mem_of_getElem? (i := 28) rfl)) fun fd F => F.bindsN fun _ _ _ _ _ _ us hl => match us, hl with | [_, _], _ => rfl
  | 29, _ => plain_of wf (r := r29) rfl (F _ (List.mem_of_getElem? (i := 29) rfl)) fun fd F => F.bindsN fun _ _ _ _ _ _ us hl => match us, hl with | [_], _ => rfl
  | 30, _ => plain_of wf (r := r30) rfl (F _ (List.mem_of_getElem? (i := 30) rfl)) fun fd F => F.bindsN fun _ _ _ _ _ _ us hl => match us, hl with | [_], _ => rfl
  | 31, _ => plain_of wf (r := r31) rfl (F _ (List.mem_of_getElem? (i := 31) rfl)) fun fd F => F.bindsN fun _ _ _ _ _ _ us hl => match us, hl with | [_, _, _], _ => rfl
  | 32, _ => plain_of wf (r := r32) rfl (F _ (List.mem_of_getElem? (i := 32) rfl)) fun fd F => F.bindsN fun _ _ _ _ _ _ us hl => match us, hl with | [_], _ => rfl
  | 33, _ => plain_of wf (r := r33) rfl (F _ (List.mem_of_getElem? (i := 33) rfl)) fun fd F => F.bindsN fun _ _ _ _ _ _ us hl => match us, hl with | [_, _], _ => rfl
  | 34, _ => plain_of wf (r := r34) rfl (F _ (List.mem_of_getElem? (i := 34) rfl)) fun fd F => F.bindsN fun _ _ _ _ _ _ us hl => match us, hl with | [_, _], _ => rfl
  | 35, _ => plain_of wf (r := r35) rfl (F _ (List.mem_of_getElem? (i := 35) rfl)) fun fd F => F.bindsN fun _ _ _ _ _ _ us hl => match us, hl with | [_, _], _ => rfl
  | 36, _ => plain_of wf (r := r36) rfl (F _ (List.mem_of_getElem? (i := 36) rfl)) fun fd F => F.bindsN fun _ _ _ _ _ _ us hl => match us, hl with | [_], _ => rfl
  | 37, _ => plain_of wf (r := r37) rfl (F _ (List.mem_of_getElem? (i := 37) rfl)) fun fd F => F.bindsN fun _ _ _ _ _ _ us hl => match us, hl with | [_, _], _ => rfl
  | 38, _ => plain_of wf (r := r38) rfl (F _ (List.mem_of_getElem? (i := 38) rfl)) fun fd F => F.bindsN fun _ _ _ _ _ _ us hl => match us, hl with | [_, _], _ => rfl
  | 39, _ => plain_of wf (r := r39) rfl (F _ (List.mem_of_getElem? (i := 39) rfl)) fun fd F => F.bindsN fun _ _ _ _ _ _ us hl => match us, hl with | [_, _, _, _], _ => rfl
  | 40, _ => plain_of wf (r := r40) rfl (F _ (List.mem_of_getElem? (i := 40) rfl)) fun fd F => F.bindsN fun _ _ _ _ _ _ us hl => match us, hl with | [_], _ => rfl
  | 41, h => absurd h (by decide)
  | 42, _ => plain_of wf (r := r42) rfl (F _ (List.mem_of_getElem? (i := 42) rfl)) fun fd F => F.bindsN fun _ _ _ _ _ _ us hl => match us, hl with | [_, _], _ => rfl
  | 43, h => absurd h (by decide)
  | 44, _ => plain_of wf (r := r44) rfl (F _ (List.mem_of_getElem? (i := 44) rfl)) fun fd F => F.bindsN fun _ _ _ _ _ _ us hl => match us, hl with | [_], _ => rfl
  | 45, _ => plain_of wf (r := r45) rfl (F _ (List.mem_of_getElem? (i := 45) rfl)) fun fd F => F.bindsN fun _ _ _ _ _ _ us hl => match us, hl with | [_, _], _ => rfl
  | 46, h => absurd h (by decide)
  | n + 47, h => absurd h (by rw [show law.G.plain (n + 47) = plL.getD (n + 47) false from rfl, List.getD_eq_getElem?_getD, List.getElem?_eq_none (by simp [plL])]; decide)
end

variable {K : PySem.W.Frag} {w : World} {mg : Str → Option Value} {base : Heap} {hot : Option (Addr × Obj)} {prog : Program} {T : List (Addr × Str)}
theorem shp1 (F : ∀ r ∈ law.rows, FunR K r.d) : ShpOk (law.C' wf prog w K mg base T hot) 11 (law.G.sh 1) :=
  shp_of wf (r := r11) (dv := fun _ => .non) (gV := fun vs zs => vs ++ zs) rfl (F _ (List.mem_of_getElem? (i := 11) rfl)) (fun n d h => by
    match n, h with
    | 0, h => cases h
    | 1, h => cases h
    | n + 2, h => cases h) (fun fd F => by
    obtain ⟨mv, kb⟩ := F.kbinds0 (ps := r11.ps) 1 ["weight"] [] (fun vs mz zs => vs ++ zs) (List.cons_ne_nil _ _) (fun q h => nomatch h) (fun r1 _ r3 => r1.append r3) (fun D doc pm an cdv ct us mv ws h1 h2 h3 => by
      match us, mv, ws, h1, h2, h3 with
      | [_], [], [_], _, _, _ => rfl)
    exact ⟨_, kb⟩) (fun vs zs h1 h2 => by
    match vs, zs, h1, h2 with
    | [_], [_], _, _ => rfl)
theorem shp4 (ex : law.Ex K) (F : ∀ r ∈ law.rows, FunR K r.d) : ShpOk (law.C' wf prog w K mg base T hot) 11 (law.G.sh 4) :=
  shp_of wf (r := r11) (dv := fun _ => .ref (He.ga K "HALF")) (gV := fun vs zs => vs ++ [.ref (He.ga K "HALF")]) rfl (F _ (List.mem_of_getElem? (i := 11) rfl)) (fun n d h => by
    match n, h with
    | 0, h => cases h
    | 1, h => cases h; exact glo_rep wf ex (List.mem_of_getElem? (i := 2) rfl)
    | n + 2, h => cases h) (fun fd F => by
    obtain ⟨mv, kb⟩ := F.kbinds0 (ps := r11.ps) 1 [] [(("weight" : Str), V.ref (He.ga K "HALF"))] (fun vs mz zs => vs ++ mz) (List.cons_ne_nil _ _) (fun q h => by
      have h : q = (("weight" : Str), V.ref (He.ga K "HALF")) := by simpa using h
      rw [h]; exact List.mem_cons_self) (fun r1 r2 _ => r1.append r2) (fun D doc pm an cdv ct us mv ws h1 h2 h3 => by
      match us, mv, ws, h1, h2, h3 with
      | [_], [_], [], _, _, _ => exact ⟨_, _, _, _, _, _, rfl, rfl, rfl⟩)
    exact ⟨_, kb⟩) (fun vs zs h1 h2 => by
    match vs, zs, h1, h2 with
    | [_], [], _, _ => rfl)

theorem shp0 (F : ∀ r ∈ law.rows, FunR K r.d) : ShpI (law.C' wf prog w K mg base T hot) 43 (law.G.sh 0) :=
  shI_of wf (r := r43) (dv := fun _ => .non) (gV := fun vs _ => vs) rfl (F _ (List.mem_of_getElem? (i := 43) rfl)) (fun n d h => by
    match n, h with
    | 0, h => cases h
    | n + 1, h => cases h) (fun fd F => kbn_plain (ps := r43.ps) (F.bindsN fun _ _ _ _ _ _ us hl => match us, hl with | [_, _], _ => rfl)) (fun v0 vs zs h1 h2 => by
    match vs, zs, h1, h2 with
    | [_], [], _, _ => rfl)
theorem shp2 (F : ∀ r ∈ law.rows, FunR K r.d) : ShpI (law.C' wf prog w K mg base T hot) 41 (law.G.sh 2) :=
  shI_of wf (r := r41) (dv := fun _ => .non) (gV := fun vs zs => vs ++ zs) rfl (F _ (List.mem_of_getElem? (i := 41) rfl)) (fun n d h => by
    match n, h with
    | 0, h => cases h
    | n + 1, h => cases h) (fun fd F => by
    obtain ⟨mv, kb⟩ := F.kbinds0 (ps := r41.ps) 1 ["weight"] [] (fun vs mz zs => vs ++ zs) (List.cons_ne_nil _ _) (fun q h => nomatch h) (fun r1 _ r3 => r1.append r3) (fun D doc pm an cdv ct us mv ws h1 h2 h3 => by
      match us, mv, ws, h1, h2, h3 with
      | [_], [], [_], _, _, _ => rfl)
    exact ⟨_, kb⟩) (fun v0 vs zs h1 h2 => by
    match vs, zs, h1, h2 with
    | [], [_], _, _ => rfl)
theorem shp3 (ex : law.Ex K) (F : ∀ r ∈ law.rows, FunR K r.d) : ShpI (law.C' wf prog w K mg base T hot) 41 (law.G.sh 3) :=
  shI_of wf (r := r41) (dv := fun _ => .ref (He.ga K "HALF")) (gV := fun vs zs => vs ++ [.ref (He.ga K "HALF")]) rfl (F _ (List.mem_of_getElem? (i := 41) rfl)) (fun n d h => by
    match n, h with
    | 0, h => cases h; exact glo_rep wf ex (List.mem_of_getElem? (i := 2) rfl)
    | n + 1, h => cases h) (fun fd F => by
    obtain ⟨mv, kb⟩ := F.kbinds0 (ps := r41.ps) 1 [] [(("weight" : Str), V.ref (He.ga K "HALF"))] (fun vs mz zs => vs ++ mz) (List.cons_ne_nil _ _) (fun q h => by
      have h : q = (("weight" : Str), V.ref (He.ga K "HALF")) := by simpa using h
      rw [h]; exact List.mem_cons_self) (fun r1 r2 _ => r1.append r2) (fun D doc pm an cdv ct us mv ws h1 h2 h3 => by
      match us, mv, ws, h1, h2, h3 with
      | [_], [_], [], _, _, _ => exact ⟨_, _, _, _, _, _, rfl, rfl, rfl⟩)
    exact ⟨_, kb⟩) (fun v0 vs zs h1 h2 => by
    match vs, zs, h1, h2 with
    | [], [], _, _ => rfl)
theorem bindS (ex : law.Ex K) (F : ∀ r ∈ law.rows, FunR K r.d) : ∀ f s, law.G.shp f s = true → ShpOk (law.C' wf prog w K mg base T hot) f (law.G.sh s) := fun f s h => by
  have h : (decide (shF[s]? = some f) && !clI.contains f) = true := h
  obtain ⟨h1, h2⟩ := Bool.and_eq_true_iff.mp h
  have h1 : shF[s]? = some f := of_decide_eq_true h1
  match s, h1 with
  | 0, h1 => cases h1; exact absurd h2 (by decide)
  | 1, h1 => cases h1; exact shp1 F
  | 2, h1 => cases h1; exact absurd h2 (by decide)
  | 3, h1 => cases h1; exact absurd h2 (by decide)
  | 4, h1 => cases h1; exact shp4 ex F
  | n + 5, h1 => cases h1
theorem bindI (ex : law.Ex K) (F : ∀ r ∈ law.rows, FunR K r.d) : ∀ c f s, law.inits.getD c none = some f → law.G.shpI c s = true → ShpI (law.C' wf prog w K mg base T hot) f (law.G.sh s) := fun c f s hi h => by
  have h : decide (shF[s]? = clI[c]? ∧ (shF[s]?).isSome = true) = true := h
  obtain ⟨h1, h2⟩ := of_decide_eq_true h
  match s, h1, h2 with
  | 0, h1, _ =>
    match c, hi, h1 with
    | 0, _, h1 => exact absurd h1 (by decide)
    | 1, hi, _ => cases hi; exact shp0 F
    | n + 2, hi, _ => cases hi
  | 1, h1, _ =>
    match c, hi, h1 with
    | 0, _, h1 => exact absurd h1 (by decide)
    | 1, _, h1 => exact absurd h1 (by decide)
    | n + 2, hi, _ => cases hi
  | 2, h1, _ =>
    match c, hi, h1 with
    | 0, hi, _ => cases hi; exact shp2 F
    | 1, _, h1 => exact absurd h1 (by decide)
    | n + 2, hi, _ => cases hi
  | 3, h1, _ =>
    match c, hi, h1 with
    | 0, hi, _ => cases hi; exact shp3 ex F
    | 1, _, h1 => exact absurd h1 (by decide)
    | n + 2, hi, _ => cases hi
  | 4, h1, _ =>
    match c, hi, h1 with
    | 0, _, h1 => exact absurd h1 (by decide)
    | 1, _, h1 => exact absurd h1 (by decide)
    | n + 2, hi, _ => cases hi
  | n + 5, _, h2 => cases h2

end K59
set_option maxRecDepth 100000
set_option maxHeartbeats 1000000
namespace K59
open PySem L2 Vm Ma
abbrev Pr : Prog := law.P
def SM (n : Nat) : Sm := smOf Pr (callN Pr n) (mkN Pr n) (callN (hotP Pr) n)
theorem SM_call (n f : Nat) (xs : List D) : (SM n).call f xs = callN Pr n f xs := rfl
theorem SM_made (n f : Nat) (xs : List D) : (SM n).made f xs = mkN Pr n f xs := rfl
theorem SM_glb (n g : Nat) : (SM n).glb g = ((glL[g]?).map (·.2)).getD .non := rfl
theorem SM_sh (n s : Nat) : (SM n).sh s = shL.getD s ⟨0, [], []⟩ := rfl
theorem SM_hcall (n f : Nat) (xs : List D) : (SM n).hcall f xs = callN (hotP Pr) n f xs := rfl
theorem SM_fuel (n : Nat) : (SM n).fuel = fuel0 := rfl
def SH (n : Nat) : Sm := smOf (hotP Pr) (callN (hotP Pr) n) (mkN (hotP Pr) n) (callN (hotP (hotP Pr)) n)
theorem SH_call (n f : Nat) (xs : List D) : (SH n).call f xs = callN (hotP Pr) n f xs := rfl
theorem v0_0 (Φ : Sm) (x : Option D) (ρ : Vm.Env) : evS Φ s0_0 (x :: ρ) = evS Φ (.ifS (.cmp .eq (.var 1) (.lit (.int 0))) (iss [.raise 1 (ies [(.lit (.str "the denominator is zero"))])]) .nil) (x :: ρ) := rfl
theorem v0_1 (Φ : Sm) (x : Option D) (ρ : Vm.Env) : evS Φ s0_1 (x :: ρ) = evS Φ (.asg (.nm 2) (.bi .gcd (ies [(.var 0), (.var 1)]))) (x :: ρ) := rfl
theorem v0_2 (Φ : Sm) (x : Option D) (ρ : Vm.Env) : evS Φ s0_2 (x :: ρ) = evS Φ (.ifS (.cmp .lt (.var 1) (.lit (.int 0))) (iss [.asg (.nm 2) (.neg (.var 2))]) .nil) (x :: ρ) := rfl
theorem v0_3 (Φ : Sm) (x : Option D) (ρ : Vm.Env) : evS Φ s0_3 (x :: ρ) = evS Φ (.ret (.tup (ies [(.bin .fdiv (.var 0) (.var 2)), (.bin .fdiv (.var 1) (.var 2))]))) (x :: ρ) := rfl
theorem e_frac (n : Nat) (a0 a1 : D) : callN Pr (n + 1) 0 [a0, a1] = endR (evSs (SM n) b0 [some a0, some a1, none]) := rfl
theorem e_plus (n : Nat) (a0 a1 : D) : callN Pr (n + 1) 1 [a0, a1] = endR (evSs (SM n) b1 [some a0, some a1]) := rfl
theorem e_minus (n : Nat) (a0 a1 : D) : callN Pr (n + 1) 2 [a0, a1] = endR (evSs (SM n) b2 [some a0, some a1]) := rfl
theorem e_times (n : Nat) (a0 a1 : D) : callN Pr (n + 1) 3 [a0, a1] = endR (evSs (SM n) b3 [some a0, some a1]) := rfl
theorem v4_0 (Φ : Sm) (x : Option D) (ρ : Vm.Env) : evS Φ s4_0 (x :: ρ) = evS Φ (.ifS (.cmp .eq (.ix (.var 1) (.lit (.int 0))) (.lit (.int 0))) (iss [.raise 1 (ies [(.lit (.str "division by zero"))])]) .nil) (x :: ρ) := rfl
theorem v4_1 (Φ : Sm) (x : Option D) (ρ : Vm.Env) : evS Φ s4_1 (x :: ρ) = evS Φ (.ret (.call 0 (ies [(.bin .mul (.ix (.var 0) (.lit (.int 0))) (.ix (.var 1) (.lit (.int 1)))), (.bin .mul (.ix (.var 0) (.lit (.int 1))) (.ix (.var 1) (.lit (.int 0))))]))) (x :: ρ) := rfl
theorem e_over (n : Nat) (a0 a1 : D) : callN Pr (n + 1) 4 [a0, a1] = endR (evSs (SM n) b4 [some a0, some a1]) := rfl
theorem e_below (n : Nat) (a0 a1 : D) : callN Pr (n + 1) 5 [a0, a1] = endR (evSs (SM n) b5 [some a0, some a1]) := rfl
theorem v6_0 (Φ : Sm) (x : Option D) (ρ : Vm.Env) : evS Φ s6_0 (x :: ρ) = evS Φ (.ifS (.call 5 (ies [(.var 0), (.var 1)])) (iss [.ret (.var 1)]) .nil) (x :: ρ) := rfl
theorem v6_1 (Φ : Sm) (x : Option D) (ρ : Vm.Env) : evS Φ s6_1 (x :: ρ) = evS Φ (.ret (.var 0)) (x :: ρ) := rfl
theorem e_larger (n : Nat) (a0 a1 : D) : callN Pr (n + 1) 6 [a0, a1] = endR (evSs (SM n) b6 [some a0, some a1]) := rfl
theorem e_gap (n : Nat) (a0 a1 : D) : callN Pr (n + 1) 7 [a0, a1] = endR (evSs (SM n) b7 [some a0, some a1]) := rfl
theorem e_check_weight (n : Nat) (a0 : D) : callN Pr (n + 1) 8 [a0] = endR (evSs (SM n) b8 [some a0]) := rfl
theorem e_weighed (n : Nat) (a0 a1 : D) : callN Pr (n + 1) 9 [a0, a1] = endR (evSs (SM n) b9 [some a0, some a1]) := rfl
theorem u10_0 (Φ : Sm) (x : Option D) (ρ : Vm.Env) : evSs Φ b10_0 (x :: ρ) = evSs Φ (iss [.asg (.nm 3) (.ix (.fld 1 (.var 0)) (.bin .sub (.var 2) (.lit (.int 1)))), .asg (.nm 4) (.ix (.fld 1 (.var 0)) (.var 2)), .app 1 (.tup (ies [(.var 3), (.var 4), (.tup (ies [(.call 2 (ies [(.ix (.var 3) (.lit (.int 1))), (.ix (.var 4) (.lit (.int 1)))])), (.call 2 (ies [(.ix (.var 4) (.lit (.int 0))), (.ix (.var 3) (.lit (.int 0)))]))]))]))]) (x :: ρ) := rfl
theorem v10_0 (Φ : Sm) (x : Option D) (ρ : Vm.Env) : evS Φ s10_0 (x :: ρ) = evS Φ (.asgF 1 (.lst .nil)) (x :: ρ) := rfl
theorem v10_1 (Φ : Sm) (x : Option D) (ρ : Vm.Env) : evS Φ s10_1 (x :: ρ) = evS Φ (.forS [] (.nm 2) (.rng2 (.lit (.int 1)) (.bi .len (ies [(.fld 1 (.var 0))]))) b10_0) (x :: ρ) := rfl
theorem v10_2 (Φ : Sm) (x : Option D) (ρ : Vm.Env) : evS Φ s10_2 (x :: ρ) = evS Φ (.ret (.var 1)) (x :: ρ) := rfl
theorem e_lot_edges (n : Nat) (a0 : D) : callN Pr (n + 1) 10 [a0] = endR (evSs (SM n) b10 [some a0, none, none, none, none]) := rfl
theorem u11_0 (Φ : Sm) (x : Option D) (ρ : Vm.Env) : evSs Φ b11_0 (x :: ρ) = evSs Φ (iss [.asg (.nm 7) (.call 9 (ies [(.var 6), (.call 7 (ies [(.fld 2 (.var 0)), (.var 4)]))])), .asg (.nm 3) (.call 6 (ies [(.var 3), (.call 4 (ies [(.var 7), (.call 9 (ies [(.var 6), (.var 2)]))]))]))]) (x :: ρ) := rfl
theorem v11_0 (Φ : Sm) (x : Option D) (ρ : Vm.Env) : evS Φ s11_0 (x :: ρ) = evS Φ (.expr (.call 8 (ies [(.var 1)]))) (x :: ρ) := rfl
theorem v11_1 (Φ : Sm) (x : Option D) (ρ : Vm.Env) : evS Φ s11_1 (x :: ρ) = evS Φ (.asg (.nm 2) (.tup (ies [(.var 1), (.call 2 (ies [(.glb 1), (.var 1)]))]))) (x :: ρ) := rfl
theorem v11_2 (Φ : Sm) (x : Option D) (ρ : Vm.Env) : evS Φ s11_2 (x :: ρ) = evS Φ (.asg (.nm 3) (.glb 0)) (x :: ρ) := rfl
theorem v11_3 (Φ : Sm) (x : Option D) (ρ : Vm.Env) : evS Φ s11_3 (x :: ρ) = evS Φ (.forS [] (.tp [(.nm 4), (.nm 5), (.nm 6)]) (.seq (.call 10 (ies [(.var 0)]))) b11_0) (x :: ρ) := rfl
theorem v11_4 (Φ : Sm) (x : Option D) (ρ : Vm.Env) : evS Φ s11_4 (x :: ρ) = evS Φ (.ret (.call 7 (ies [(.fld 2 (.var 0)), (.tup (ies [(.call 3 (ies [(.var 3), (.ix (.var 2) (.lit (.int 0)))])), (.call 3 (ies [(.var 3), (.ix (.var 2) (.lit (.int 1)))]))]))]))) (x :: ρ) := rfl
theorem e_loss_point (n : Nat) (a0 a1 : D) : callN Pr (n + 1) 11 [a0, a1] = endR (evSs (SM n) b11 [some a0, some a1, none, none, none, none, none, none]) := rfl
theorem e_turn (n : Nat) (a0 a1 a2 : D) : callN Pr (n + 1) 12 [a0, a1, a2] = endR (evSs (SM n) b12 [some a0, some a1, some a2]) := rfl
theorem u13_0 (Φ : Sm) (x : Option D) (ρ : Vm.Env) : evSs Φ b13_0 (x :: ρ) = evSs Φ (iss [.asg (.nm 1) (.bi .lcm (ies [(.var 1), (.ix (.var 3) (.lit (.int 1)))])), .asg (.nm 2) (.bi .lcm (ies [(.var 2), (.ix (.var 4) (.lit (.int 1)))]))]) (x :: ρ) := rfl
theorem u13_2 (Φ : Sm) (x : Option D) (ρ : Vm.Env) : evSs Φ b13_2 (x :: ρ) = evSs Φ (iss [.app 5 (.tup (ies [(.bin .mul (.ix (.var 3) (.lit (.int 0))) (.bin .fdiv (.var 1) (.ix (.var 3) (.lit (.int 1))))), (.bin .mul (.ix (.var 4) (.lit (.int 0))) (.bin .fdiv (.var 2) (.ix (.var 4) (.lit (.int 1))))), (.var 6)]))]) (x :: ρ) := rfl
theorem v13_0 (Φ : Sm) (x : Option D) (ρ : Vm.Env) : evS Φ s13_0 (x :: ρ) = evS Φ (.asg (.nm 1) (.lit (.int 1))) (x :: ρ) := rfl
theorem v13_1 (Φ : Sm) (x : Option D) (ρ : Vm.Env) : evS Φ s13_1 (x :: ρ) = evS Φ (.asg (.nm 2) (.lit (.int 1))) (x :: ρ) := rfl
theorem v13_2 (Φ : Sm) (x : Option D) (ρ : Vm.Env) : evS Φ s13_2 (x :: ρ) = evS Φ (.forS [] (.tp [(.nm 3), (.nm 4)]) (.seq (.var 0)) b13_0) (x :: ρ) := rfl
theorem v13_3 (Φ : Sm) (x : Option D) (ρ : Vm.Env) : evS Φ s13_3 (x :: ρ) = evS Φ (.asgF 5 (.lst .nil)) (x :: ρ) := rfl
theorem v13_4 (Φ : Sm) (x : Option D) (ρ : Vm.Env) : evS Φ s13_4 (x :: ρ) = evS Φ (.forS [] (.tp [(.nm 6), (.tp [(.nm 3), (.nm 4)])]) (.enum (.var 0)) b13_2) (x :: ρ) := rfl
theorem v13_5 (Φ : Sm) (x : Option D) (ρ : Vm.Env) : evS Φ s13_5 (x :: ρ) = evS Φ (.ret (.var 5)) (x :: ρ) := rfl
theorem e_whole_spots (n : Nat) (a0 : D) : callN Pr (n + 1) 13 [a0] = endR (evSs (SM n) b13 [some a0, none, none, none, none, none, none]) := rfl
theorem u14_0 (Φ : Sm) (x : Option D) (ρ : Vm.Env) : evSs Φ b14_0 (x :: ρ) = evSs Φ (iss [.whileS [] t14_3 b14_2, .app 1 (.var 2)]) (x :: ρ) := rfl
theorem u14_2 (Φ : Sm) (x : Option D) (ρ : Vm.Env) : evSs Φ b14_2 (x :: ρ) = evSs Φ (iss [.pop 1]) (x :: ρ) := rfl
theorem u14_3 (Φ : Sm) (x : Option D) (ρ : Vm.Env) : evE Φ t14_3 (x :: ρ) = evE Φ (.boo true (ies [(.cmp .ge (.bi .len (ies [(.var 1)])) (.lit (.int 2))), (.cmp .ge (.call 12 (ies [(.ix (.var 1) (.neg (.lit (.int 2)))), (.ix (.var 1) (.neg (.lit (.int 1)))), (.var 2)])) (.lit (.int 0)))])) (x :: ρ) := rfl
theorem u14_4 (Φ : Sm) (x : Option D) (ρ : Vm.Env) : evSs Φ b14_4 (x :: ρ) = evSs Φ (iss [.asgF 1 (.slc (.var 1) (ies [(.lit (.int 1))]) .nil)]) (x :: ρ) := rfl
theorem u14_5 (Φ : Sm) (x : Option D) (ρ : Vm.Env) : evE Φ t14_5 (x :: ρ) = evE Φ (.boo true (ies [(.cmp .ge (.bi .len (ies [(.var 1)])) (.lit (.int 2))), (.cmp .ge (.ix (.ix (.var 1) (.lit (.int 1))) (.lit (.int 1))) (.ix (.ix (.var 1) (.lit (.int 0))) (.lit (.int 1))))])) (x :: ρ) := rfl
theorem u14_6 (Φ : Sm) (x : Option D) (ρ : Vm.Env) : evE Φ k14_6 (x :: ρ) = evE Φ (.ix (.var 0) (.ix (.var 2) (.lit (.int 2)))) (x :: ρ) := rfl
theorem v14_0 (Φ : Sm) (x : Option D) (ρ : Vm.Env) : evS Φ s14_0 (x :: ρ) = evS Φ (.asgF 1 (.lst .nil)) (x :: ρ) := rfl
theorem v14_1 (Φ : Sm) (x : Option D) (ρ : Vm.Env) : evS Φ s14_1 (x :: ρ) = evS Φ (.forS [] (.nm 2) (.seq (.bi .sortT (ies [(.call 13 (ies [(.var 0)]))]))) b14_0) (x :: ρ) := rfl
theorem v14_2 (Φ : Sm) (x : Option D) (ρ : Vm.Env) : evS Φ s14_2 (x :: ρ) = evS Φ (.whileS [] t14_5 b14_4) (x :: ρ) := rfl
theorem v14_3 (Φ : Sm) (x : Option D) (ρ : Vm.Env) : evS Φ s14_3 (x :: ρ) = evS Φ (.ret (.comp (.nm 2) [2] (.seq (.var 1)) .nil k14_6)) (x :: ρ) := rfl
theorem e_upper_chain (n : Nat) (a0 : D) : callN Pr (n + 1) 14 [a0] = endR (evSs (SM n) b14 [some a0, none, none]) := rfl
theorem v15_0 (Φ : Sm) (x : Option D) (ρ : Vm.Env) : evS Φ s15_0 (x :: ρ) = evS Φ (.ifS (.cmp .lt (.var 1) (.bi .len (ies [(.var 0)]))) (iss [.ret (.ix (.var 0) (.var 1))]) .nil) (x :: ρ) := rfl
theorem v15_1 (Φ : Sm) (x : Option D) (ρ : Vm.Env) : evS Φ s15_1 (x :: ρ) = evS Φ (.ret (.lit (.int 0))) (x :: ρ) := rfl
theorem e_law_cell (n : Nat) (a0 a1 : D) : callN Pr (n + 1) 15 [a0, a1] = endR (evSs (SM n) b15 [some a0, some a1]) := rfl
theorem u16_0 (Φ : Sm) (x : Option D) (ρ : Vm.Env) : evSs Φ b16_0 (x :: ρ) = evSs Φ (iss [.app 4 (.bin .mod (.bi .int1 (ies [(.var 3)])) (.var 1)), .asg (.nm 3) (.bin .fdiv (.var 3) (.var 1))]) (x :: ρ) := rfl
theorem u16_2 (Φ : Sm) (x : Option D) (ρ : Vm.Env) : evSs Φ b16_2 (x :: ρ) = evSs Φ (iss [.asg (.nm 3) (.bin .mod (.bi .int1 (ies [(.bin .add (.bin .add (.bin .mul (.var 3) (.lit (.int 48271))) (.bin .mul (.var 5) (.lit (.int 69621)))) (.lit (.int 17)))])) (.lit (.int 2147483647))), .asg (.nm 3) (.bin .mod (.bi .int1 (ies [(.bin .add (.bin .add (.bin .mul (.var 3) (.lit (.int 16807))) (.bin .mul (.lit (.int 2)) (.var 5))) (.lit (.int 5)))])) (.lit (.int 2147483629))), .app 4 (.bin .mod (.bi .int1 (ies [(.bin .fdiv (.var 3) (.lit (.int 64)))])) (.var 1))]) (x :: ρ) := rfl
theorem v16_0 (Φ : Sm) (x : Option D) (ρ : Vm.Env) : evS Φ s16_0 (x :: ρ) = evS Φ (.asg (.nm 3) (.bi .abs (ies [(.bi .int1 (ies [(.var 0)]))]))) (x :: ρ) := rfl
theorem v16_1 (Φ : Sm) (x : Option D) (ρ : Vm.Env) : evS Φ s16_1 (x :: ρ) = evS Φ (.asgF 4 (.lst .nil)) (x :: ρ) := rfl
theorem v16_2 (Φ : Sm) (x : Option D) (ρ : Vm.Env) : evS Φ s16_2 (x :: ρ) = evS Φ (.ifS (.cmp .ge (.var 3) (.bin .pow (.lit (.int 10)) (.lit (.int 18)))) (iss [.forS [] (.nm 5) (.rng1 (.var 2)) b16_0, .ret (.var 4)]) .nil) (x :: ρ) := rfl
theorem v16_3 (Φ : Sm) (x : Option D) (ρ : Vm.Env) : evS Φ s16_3 (x :: ρ) = evS Φ (.forS [] (.nm 5) (.rng1 (.var 2)) b16_2) (x :: ρ) := rfl
theorem v16_4 (Φ : Sm) (x : Option D) (ρ : Vm.Env) : evS Φ s16_4 (x :: ρ) = evS Φ (.ret (.var 4)) (x :: ρ) := rfl
theorem e_law_digits (n : Nat) (a0 a1 a2 : D) : callN Pr (n + 1) 16 [a0, a1, a2] = endR (evSs (SM n) b16 [some a0, some a1, some a2, none, none, none]) := rfl
theorem u17_0 (Φ : Sm) (x : Option D) (ρ : Vm.Env) : evSs Φ b17_0 (x :: ρ) = evSs Φ (iss [.asg (.nm 4) (.bin .sub (.var 2) (.bin .mul (.bin .fdiv (.var 2) (.var 3)) (.var 3))), .asg (.nm 2) (.var 3), .asg (.nm 3) (.var 4)]) (x :: ρ) := rfl
theorem u17_1 (Φ : Sm) (x : Option D) (ρ : Vm.Env) : evE Φ t17_1 (x :: ρ) = evE Φ (.cmp .gt (.var 3) (.lit (.int 0))) (x :: ρ) := rfl
theorem v17_0 (Φ : Sm) (x : Option D) (ρ : Vm.Env) : evS Φ s17_0 (x :: ρ) = evS Φ (.asg (.nm 2) (.bi .abs (ies [(.var 0)]))) (x :: ρ) := rfl
theorem v17_1 (Φ : Sm) (x : Option D) (ρ : Vm.Env) : evS Φ s17_1 (x :: ρ) = evS Φ (.asg (.nm 3) (.var 1)) (x :: ρ) := rfl
theorem v17_2 (Φ : Sm) (x : Option D) (ρ : Vm.Env) : evS Φ s17_2 (x :: ρ) = evS Φ (.whileS [] t17_1 b17_0) (x :: ρ) := rfl
theorem v17_3 (Φ : Sm) (x : Option D) (ρ : Vm.Env) : evS Φ s17_3 (x :: ρ) = evS Φ (.ret (.tup (ies [(.bin .fdiv (.var 0) (.var 2)), (.bin .fdiv (.var 1) (.var 2))]))) (x :: ρ) := rfl
theorem e_law_lowest (n : Nat) (a0 a1 : D) : callN Pr (n + 1) 17 [a0, a1] = endR (evSs (SM n) b17 [some a0, some a1, none, none, none]) := rfl
theorem e_law_plus (n : Nat) (a0 a1 : D) : callN Pr (n + 1) 18 [a0, a1] = endR (evSs (SM n) b18 [some a0, some a1]) := rfl
theorem e_law_minus (n : Nat) (a0 a1 : D) : callN Pr (n + 1) 19 [a0, a1] = endR (evSs (SM n) b19 [some a0, some a1]) := rfl
theorem e_law_times (n : Nat) (a0 a1 : D) : callN Pr (n + 1) 20 [a0, a1] = endR (evSs (SM n) b20 [some a0, some a1]) := rfl
theorem v21_0 (Φ : Sm) (x : Option D) (ρ : Vm.Env) : evS Φ s21_0 (x :: ρ) = evS Φ (.ifS (.cmp .lt (.ix (.var 1) (.lit (.int 0))) (.lit (.int 0))) (iss [.ret (.call 17 (ies [(.bin .mul (.neg (.ix (.var 0) (.lit (.int 0)))) (.ix (.var 1) (.lit (.int 1)))), (.bin .mul (.neg (.ix (.var 0) (.lit (.int 1)))) (.ix (.var 1) (.lit (.int 0))))]))]) .nil) (x :: ρ) := rfl
theorem v21_1 (Φ : Sm) (x : Option D) (ρ : Vm.Env) : evS Φ s21_1 (x :: ρ) = evS Φ (.ret (.call 17 (ies [(.bin .mul (.ix (.var 0) (.lit (.int 0))) (.ix (.var 1) (.lit (.int 1)))), (.bin .mul (.ix (.var 0) (.lit (.int 1))) (.ix (.var 1) (.lit (.int 0))))]))) (x :: ρ) := rfl
theorem e_law_over (n : Nat) (a0 a1 : D) : callN Pr (n + 1) 21 [a0, a1] = endR (evSs (SM n) b21 [some a0, some a1]) := rfl
theorem e_law_less (n : Nat) (a0 a1 : D) : callN Pr (n + 1) 22 [a0, a1] = endR (evSs (SM n) b22 [some a0, some a1]) := rfl
theorem u23_0 (Φ : Sm) (x : Option D) (ρ : Vm.Env) : evSs Φ b23_0 (x :: ρ) = evSs Φ (iss [.ifS (.boo false (ies [(.not (.isi .int (.var 1))), (.isi .bool (.var 1))])) (iss [.ret (.lit (.bl false))]) .nil]) (x :: ρ) := rfl
theorem v23_0 (Φ : Sm) (x : Option D) (ρ : Vm.Env) : evS Φ s23_0 (x :: ρ) = evS Φ (.ifS (.boo false (ies [(.not (.isi .tuple (.var 0))), (.cmp .ne (.bi .len (ies [(.var 0)])) (.lit (.int 2)))])) (iss [.ret (.lit (.bl false))]) .nil) (x :: ρ) := rfl
theorem v23_1 (Φ : Sm) (x : Option D) (ρ : Vm.Env) : evS Φ s23_1 (x :: ρ) = evS Φ (.forS [] (.nm 1) (.seq (.var 0)) b23_0) (x :: ρ) := rfl
theorem v23_2 (Φ : Sm) (x : Option D) (ρ : Vm.Env) : evS Φ s23_2 (x :: ρ) = evS Φ (.ret (.boo true (ies [(.cmp .gt (.ix (.var 0) (.lit (.int 1))) (.lit (.int 0))), (.cmp .eq (.call 17 (ies [(.ix (.var 0) (.lit (.int 0))), (.ix (.var 0) (.lit (.int 1)))])) (.var 0))]))) (x :: ρ) := rfl
theorem e_law_is_number (n : Nat) (a0 : D) : callN Pr (n + 1) 23 [a0] = endR (evSs (SM n) b23 [some a0, none]) := rfl
theorem v24_0 (Φ : Sm) (x : Option D) (ρ : Vm.Env) : evS Φ s24_0 (x :: ρ) = evS Φ (.ifS (.boo false (ies [(.not (.isi .tuple (.var 0))), (.cmp .ne (.bi .len (ies [(.var 0)])) (.lit (.int 2)))])) (iss [.ret (.lit (.bl false))]) .nil) (x :: ρ) := rfl
theorem v24_1 (Φ : Sm) (x : Option D) (ρ : Vm.Env) : evS Φ s24_1 (x :: ρ) = evS Φ (.ret (.boo true (ies [(.call 23 (ies [(.ix (.var 0) (.lit (.int 0)))])), (.call 23 (ies [(.ix (.var 0) (.lit (.int 1)))]))]))) (x :: ρ) := rfl
theorem e_law_is_point (n : Nat) (a0 : D) : callN Pr (n + 1) 24 [a0] = endR (evSs (SM n) b24 [some a0]) := rfl
theorem u25_0 (Φ : Sm) (x : Option D) (ρ : Vm.Env) : evSs Φ b25_0 (x :: ρ) = evSs Φ (iss [.asg (.nm 3) (.lit (.int 0)), .whileS [] t25_3 b25_2, .asg (.nm 1) (.bin .add (.bin .add (.slc (.var 1) .nil (ies [(.var 3)])) (.lst (ies [(.var 2)]))) (.slc (.var 1) (ies [(.var 3)]) .nil))]) (x :: ρ) := rfl
theorem u25_2 (Φ : Sm) (x : Option D) (ρ : Vm.Env) : evSs Φ b25_2 (x :: ρ) = evSs Φ (iss [.asg (.nm 3) (.bin .add (.var 3) (.lit (.int 1)))]) (x :: ρ) := rfl
theorem u25_3 (Φ : Sm) (x : Option D) (ρ : Vm.Env) : evE Φ t25_3 (x :: ρ) = evE Φ (.boo true (ies [(.cmp .lt (.var 3) (.bi .len (ies [(.var 1)]))), (.not (.call 22 (ies [(.var 2), (.ix (.var 1) (.var 3))])))])) (x :: ρ) := rfl
theorem v25_0 (Φ : Sm) (x : Option D) (ρ : Vm.Env) : evS Φ s25_0 (x :: ρ) = evS Φ (.asg (.nm 1) (.lst .nil)) (x :: ρ) := rfl
theorem v25_1 (Φ : Sm) (x : Option D) (ρ : Vm.Env) : evS Φ s25_1 (x :: ρ) = evS Φ (.forS [] (.nm 2) (.seq (.var 0)) b25_0) (x :: ρ) := rfl
theorem v25_2 (Φ : Sm) (x : Option D) (ρ : Vm.Env) : evS Φ s25_2 (x :: ρ) = evS Φ (.ret (.var 1)) (x :: ρ) := rfl
theorem e_law_ascending (n : Nat) (a0 : D) : callN Pr (n + 1) 25 [a0] = endR (evSs (SM n) b25 [some a0, none, none, none]) := rfl
theorem v26_0 (Φ : Sm) (x : Option D) (ρ : Vm.Env) : evS Φ s26_0 (x :: ρ) = evS Φ (.ifS (.boo false (ies [(.isi .bool (.var 0)), (.not (.isi .int (.var 0)))])) (iss [.ret (.neg (.lit (.int 1)))]) .nil) (x :: ρ) := rfl
theorem v26_1 (Φ : Sm) (x : Option D) (ρ : Vm.Env) : evS Φ s26_1 (x :: ρ) = evS Φ (.ret (.var 0)) (x :: ρ) := rfl
theorem e_law_whole (n : Nat) (a0 : D) : callN Pr (n + 1) 26 [a0] = endR (evSs (SM n) b26 [some a0]) := rfl
theorem v27_0 (Φ : Sm) (x : Option D) (ρ : Vm.Env) : evS Φ s27_0 (x :: ρ) = evS Φ (.asg (.nm 1) (.lst (ies [(.isx 16 (.var 0)), (.isx 10 (.var 0)), (.isx 6 (.var 0)), (.isx 17 (.var 0))]))) (x :: ρ) := rfl
theorem v27_1 (Φ : Sm) (x : Option D) (ρ : Vm.Env) : evS Φ s27_1 (x :: ρ) = evS Φ (.asg (.nm 1) (.bin .add (.var 1) (.lst (ies [(.isx 18 (.var 0)), (.isx 5 (.var 0)), (.isx 19 (.var 0))])))) (x :: ρ) := rfl
theorem v27_2 (Φ : Sm) (x : Option D) (ρ : Vm.Env) : evS Φ s27_2 (x :: ρ) = evS Φ (.asg (.nm 1) (.bin .add (.var 1) (.lst (ies [(.isx 4 (.var 0)), (.isx 9 (.var 0)), (.isx 12 (.var 0))])))) (x :: ρ) := rfl
theorem v27_3 (Φ : Sm) (x : Option D) (ρ : Vm.Env) : evS Φ s27_3 (x :: ρ) = evS Φ (.asg (.nm 1) (.bin .add (.var 1) (.lst (ies [(.isx 13 (.var 0)), (.isx 14 (.var 0)), (.isx 15 (.var 0))])))) (x :: ρ) := rfl
theorem v27_4 (Φ : Sm) (x : Option D) (ρ : Vm.Env) : evS Φ s27_4 (x :: ρ) = evS Φ (.asg (.nm 1) (.bin .add (.var 1) (.lst (ies [(.isx 3 (.var 0)), (.isx 11 (.var 0)), (.isx 8 (.var 0))])))) (x :: ρ) := rfl
theorem v27_5 (Φ : Sm) (x : Option D) (ρ : Vm.Env) : evS Φ s27_5 (x :: ρ) = evS Φ (.asg (.nm 1) (.bin .add (.var 1) (.lst (ies [(.isx 2 (.var 0)), (.isx 7 (.var 0))])))) (x :: ρ) := rfl
theorem v27_6 (Φ : Sm) (x : Option D) (ρ : Vm.Env) : evS Φ s27_6 (x :: ρ) = evS Φ (.ifS (.boo false (ies [(.not (.isx 20 (.var 0))), (.cmp .ne (.lcnt (.var 1) (.lit (.bl true))) (.lit (.int 1)))])) (iss [.ret (.tup (ies [(.lit (.str "other")), (.lit (.int 0))]))]) .nil) (x :: ρ) := rfl
theorem v27_7 (Φ : Sm) (x : Option D) (ρ : Vm.Env) : evS Φ s27_7 (x :: ρ) = evS Φ (.ifS (.boo false (ies [(.ix (.var 1) (.lit (.int 0))), (.ix (.var 1) (.lit (.int 2))), (.ix (.var 1) (.lit (.int 11)))])) (iss [.ret (.tup (ies [(.ix (.lst (ies [(.lit (.str "tie")), (.lit (.str "")), (.lit (.str "rows")), (.lit (.str "")), (.lit (.str "")), (.lit (.str "")), (.lit (.str "")), (.lit (.str "")), (.lit (.str "")), (.lit (.str "")), (.lit (.str "")), (.lit (.str "deed"))])) (.lidx (.var 1) (.lit (.bl true)))), (.call 26 (ies [(.fld 3 (.var 0))]))]))]) .nil) (x :: ρ) := rfl
theorem v27_8 (Φ : Sm) (x : Option D) (ρ : Vm.Env) : evS Φ s27_8 (x :: ρ) = evS Φ (.ifS (.ix (.var 1) (.lit (.int 1))) (iss [.ret (.tup (ies [(.lit (.str "many")), (.call 26 (ies [(.fld 4 (.var 0))]))]))]) .nil) (x :: ρ) := rfl
theorem v27_9 (Φ : Sm) (x : Option D) (ρ : Vm.Env) : evS Φ s27_9 (x :: ρ) = evS Φ (.ifS (.ix (.var 1) (.lit (.int 14))) (iss [.ret (.tup (ies [(.lit (.str "text")), (.call 26 (ies [(.fld 5 (.var 0))]))]))]) .nil) (x :: ρ) := rfl
theorem v27_10 (Φ : Sm) (x : Option D) (ρ : Vm.Env) : evS Φ s27_10 (x :: ρ) = evS Φ (.ifS (.ix (.var 1) (.lit (.int 8))) (iss [.ret (.tup (ies [(.lit (.str "unknown")), (.fld 6 (.var 0))]))]) .nil) (x :: ρ) := rfl
theorem v27_11 (Φ : Sm) (x : Option D) (ρ : Vm.Env) : evS Φ s27_11 (x :: ρ) = evS Φ (.ifS (.ix (.var 1) (.lit (.int 9))) (iss [.ret (.tup (ies [(.lit (.str "name")), (.fld 6 (.var 0))]))]) .nil) (x :: ρ) := rfl
theorem v27_12 (Φ : Sm) (x : Option D) (ρ : Vm.Env) : evS Φ s27_12 (x :: ρ) = evS Φ (.ifS (.ix (.var 1) (.lit (.int 10))) (iss [.ret (.tup (ies [(.lit (.str "taken")), (.fld 6 (.var 0))]))]) .nil) (x :: ρ) := rfl
theorem v27_13 (Φ : Sm) (x : Option D) (ρ : Vm.Env) : evS Φ s27_13 (x :: ρ) = evS Φ (.asg (.nm 2) (.lst (ies [(.lit (.str "")), (.lit (.str "")), (.lit (.str "")), (.lit (.str "pairing")), (.lit (.str "types")), (.lit (.str "table")), (.lit (.str "corner")), (.lit (.str "weight")), (.lit (.str "")), (.lit (.str "")), (.lit (.str "")), (.lit (.str "")), (.lit (.str "undo")), (.lit (.str "outside")), (.lit (.str ""))]))) (x :: ρ) := rfl
theorem v27_14 (Φ : Sm) (x : Option D) (ρ : Vm.Env) : evS Φ s27_14 (x :: ρ) = evS Φ (.ret (.tup (ies [(.ix (.bin .add (.var 2) (.lst (ies [(.lit (.str "nothing")), (.lit (.str "gain")), (.lit (.str "estate"))]))) (.lidx (.var 1) (.lit (.bl true)))), (.lit (.int 0))]))) (x :: ρ) := rfl
theorem e_law_word (n : Nat) (a0 : D) : callN Pr (n + 1) 27 [a0] = endR (evSs (SM n) b27 [some a0, none, none]) := rfl
theorem u28_0 (Φ : Sm) (x : Option D) (ρ : Vm.Env) : evSs Φ b28_0 (x :: ρ) = evSs Φ (iss [.asg (.nm 4) (.tup (ies [(.bin .add (.lit (.int 1)) (.ix (.var 0) (.bin .add (.lit (.int 12)) (.bin .mul (.lit (.int 2)) (.var 3))))), (.bin .add (.lit (.int 1)) (.ix (.var 0) (.bin .add (.lit (.int 13)) (.bin .mul (.lit (.int 2)) (.var 3)))))])), .ifS (.cmp .eq (.bin .mod (.bi .int1 (ies [(.ix (.var 0) (.lit (.int 2)))])) (.lit (.int 2))) (.lit (.int 0))) (iss [.asg (.nm 4) (.tup (ies [(.bin .add (.lit (.int 1)) (.bin .mod (.bi .int1 (ies [(.ix (.var 0) (.bin .add (.lit (.int 12)) (.bin .mul (.lit (.int 2)) (.var 3))))])) (.lit (.int 7)))), (.bin .add (.lit (.int 1)) (.bin .mod (.bi .int1 (ies [(.ix (.var 0) (.bin .add (.lit (.int 13)) (.bin .mul (.lit (.int 2)) (.var 3))))])) (.lit (.int 7))))]))]) .nil, .asg (.nm 5) (.lit (.int 0)), .whileS [] t28_3 b28_2, .ifS (.boo false (ies [(.cmp .eq (.var 5) (.bi .len (ies [(.var 2)]))), (.cmp .gt (.bin .mul (.ix (.ix (.var 2) (.var 5)) (.lit (.int 1))) (.ix (.var 4) (.lit (.int 0)))) (.bin .mul (.ix (.var 4) (.lit (.int 1))) (.ix (.ix (.var 2) (.var 5)) (.lit (.int 0)))))])) (iss [.asg (.nm 2) (.bin .add (.bin .add (.slc (.var 2) .nil (ies [(.var 5)])) (.lst (ies [(.var 4)]))) (.slc (.var 2) (ies [(.var 5)]) .nil))]) .nil]) (x :: ρ) := rfl
theorem u28_2 (Φ : Sm) (x : Option D) (ρ : Vm.Env) : evSs Φ b28_2 (x :: ρ) = evSs Φ (iss [.asg (.nm 5) (.bin .add (.var 5) (.lit (.int 1)))]) (x :: ρ) := rfl
theorem u28_3 (Φ : Sm) (x : Option D) (ρ : Vm.Env) : evE Φ t28_3 (x :: ρ) = evE Φ (.boo true (ies [(.cmp .lt (.var 5) (.bi .len (ies [(.var 2)]))), (.cmp .lt (.bin .mul (.ix (.ix (.var 2) (.var 5)) (.lit (.int 1))) (.ix (.var 4) (.lit (.int 0)))) (.bin .mul (.ix (.var 4) (.lit (.int 1))) (.ix (.ix (.var 2) (.var 5)) (.lit (.int 0)))))])) (x :: ρ) := rfl
theorem v28_0 (Φ : Sm) (x : Option D) (ρ : Vm.Env) : evS Φ s28_0 (x :: ρ) = evS Φ (.asg (.nm 2) (.lst .nil)) (x :: ρ) := rfl
theorem v28_1 (Φ : Sm) (x : Option D) (ρ : Vm.Env) : evS Φ s28_1 (x :: ρ) = evS Φ (.forS [] (.nm 3) (.rng1 (.var 1)) b28_0) (x :: ρ) := rfl
theorem v28_2 (Φ : Sm) (x : Option D) (ρ : Vm.Env) : evS Φ s28_2 (x :: ρ) = evS Φ (.ret (.var 2)) (x :: ρ) := rfl
theorem e_law_steps (n : Nat) (a0 a1 : D) : callN Pr (n + 1) 28 [a0, a1] = endR (evSs (SM n) b28 [some a0, some a1, none, none, none, none]) := rfl
theorem u29_0 (Φ : Sm) (x : Option D) (ρ : Vm.Env) : evSs Φ b29_0 (x :: ρ) = evSs Φ (iss [.asg (.nm 3) (.bin .sub (.ix (.ix (.var 0) (.bin .sub (.var 2) (.lit (.int 1)))) (.lit (.int 1))) (.ix (.ix (.var 0) (.var 2)) (.lit (.int 1)))), .asg (.nm 4) (.bin .sub (.ix (.ix (.var 0) (.var 2)) (.lit (.int 0))) (.ix (.ix (.var 0) (.bin .sub (.var 2) (.lit (.int 1)))) (.lit (.int 0)))), .app 1 (.tup (ies [(.var 3), (.var 4), (.bin .add (.bin .mul (.var 3) (.ix (.ix (.var 0) (.var 2)) (.lit (.int 0)))) (.bin .mul (.var 4) (.ix (.ix (.var 0) (.var 2)) (.lit (.int 1)))))]))]) (x :: ρ) := rfl
theorem v29_0 (Φ : Sm) (x : Option D) (ρ : Vm.Env) : evS Φ s29_0 (x :: ρ) = evS Φ (.asgF 1 (.lst (ies [(.tup (ies [(.lit (.int 1)), (.lit (.int 0)), (.ix (.ix (.var 0) (.neg (.lit (.int 1)))) (.lit (.int 0)))])), (.tup (ies [(.lit (.int 0)), (.lit (.int 1)), (.ix (.ix (.var 0) (.lit (.int 0))) (.lit (.int 1)))]))]))) (x :: ρ) := rfl
theorem v29_1 (Φ : Sm) (x : Option D) (ρ : Vm.Env) : evS Φ s29_1 (x :: ρ) = evS Φ (.forS [] (.nm 2) (.rng2 (.lit (.int 1)) (.bi .len (ies [(.var 0)]))) b29_0) (x :: ρ) := rfl
theorem v29_2 (Φ : Sm) (x : Option D) (ρ : Vm.Env) : evS Φ s29_2 (x :: ρ) = evS Φ (.ret (.var 1)) (x :: ρ) := rfl
theorem e_law_bounds (n : Nat) (a0 : D) : callN Pr (n + 1) 29 [a0] = endR (evSs (SM n) b29 [some a0, none, none, none, none]) := rfl
theorem u30_0 (Φ : Sm) (x : Option D) (ρ : Vm.Env) : evSs Φ b30_0 (x :: ρ) = evSs Φ (iss [.asg (.nm 5) (.bin .add (.var 5) (.ix (.var 6) (.lit (.int 1))))]) (x :: ρ) := rfl
theorem u30_2 (Φ : Sm) (x : Option D) (ρ : Vm.Env) : evSs Φ b30_2 (x :: ρ) = evSs Φ (iss [.asg (.nm 4) (.bin .add (.var 4) (.ix (.var 6) (.lit (.int 0)))), .asg (.nm 5) (.bin .sub (.var 5) (.ix (.var 6) (.lit (.int 1)))), .app 7 (.tup (ies [(.var 4), (.var 5)]))]) (x :: ρ) := rfl
theorem u30_4 (Φ : Sm) (x : Option D) (ρ : Vm.Env) : evE Φ k30_4 (x :: ρ) = evE Φ (.bin .add (.bin .mul (.var 11) (.bin .pow (.lit (.int 10)) (.lit (.int 5)))) (.ix (.var 1) (.lit (.int 9)))) (x :: ρ) := rfl
theorem v30_0 (Φ : Sm) (x : Option D) (ρ : Vm.Env) : evS Φ s30_0 (x :: ρ) = evS Φ (.asg (.nm 1) (.call 16 (ies [(.var 0), (.lit (.int 60)), (.lit (.int 54))]))) (x :: ρ) := rfl
theorem v30_1 (Φ : Sm) (x : Option D) (ρ : Vm.Env) : evS Φ s30_1 (x :: ρ) = evS Φ (.asg (.nm 2) (.bin .mod (.bi .int1 (ies [(.ix (.var 1) (.lit (.int 0)))])) (.lit (.int 6)))) (x :: ρ) := rfl
theorem v30_2 (Φ : Sm) (x : Option D) (ρ : Vm.Env) : evS Φ s30_2 (x :: ρ) = evS Φ (.ifS (.cmp .ge (.ix (.var 1) (.lit (.int 0))) (.lit (.int 54))) (iss [.asg (.nm 2) (.bin .add (.lit (.int 6)) (.bin .mod (.bi .int1 (ies [(.ix (.var 1) (.lit (.int 1)))])) (.lit (.int 16))))]) .nil) (x :: ρ) := rfl
theorem v30_3 (Φ : Sm) (x : Option D) (ρ : Vm.Env) : evS Φ s30_3 (x :: ρ) = evS Φ (.asg (.nm 3) (.call 28 (ies [(.var 1), (.var 2)]))) (x :: ρ) := rfl
theorem v30_4 (Φ : Sm) (x : Option D) (ρ : Vm.Env) : evS Φ s30_4 (x :: ρ) = evS Φ (.asg (.nm 4) (.bi .max2 (ies [(.lit (.int 0)), (.bin .sub (.bin .mod (.bi .int1 (ies [(.ix (.var 1) (.lit (.int 3)))])) (.lit (.int 8))) (.lit (.int 3)))]))) (x :: ρ) := rfl
theorem v30_5 (Φ : Sm) (x : Option D) (ρ : Vm.Env) : evS Φ s30_5 (x :: ρ) = evS Φ (.asg (.nm 5) (.bi .max2 (ies [(.lit (.int 0)), (.bin .sub (.bin .mod (.bi .int1 (ies [(.ix (.var 1) (.lit (.int 4)))])) (.lit (.int 8))) (.lit (.int 3)))]))) (x :: ρ) := rfl
theorem v30_6 (Φ : Sm) (x : Option D) (ρ : Vm.Env) : evS Φ s30_6 (x :: ρ) = evS Φ (.ifS (.cmp .eq (.var 3) (.lst .nil)) (iss [.asg (.nm 4) (.bin .add (.var 4) (.lit (.int 1))), .asg (.nm 5) (.bin .add (.var 5) (.lit (.int 1)))]) .nil) (x :: ρ) := rfl
theorem v30_7 (Φ : Sm) (x : Option D) (ρ : Vm.Env) : evS Φ s30_7 (x :: ρ) = evS Φ (.forS [] (.nm 6) (.seq (.var 3)) b30_0) (x :: ρ) := rfl
theorem v30_8 (Φ : Sm) (x : Option D) (ρ : Vm.Env) : evS Φ s30_8 (x :: ρ) = evS Φ (.asgF 7 (.lst (ies [(.tup (ies [(.var 4), (.var 5)]))]))) (x :: ρ) := rfl
theorem v30_9 (Φ : Sm) (x : Option D) (ρ : Vm.Env) : evS Φ s30_9 (x :: ρ) = evS Φ (.forS [] (.nm 6) (.seq (.var 3)) b30_2) (x :: ρ) := rfl
theorem v30_10 (Φ : Sm) (x : Option D) (ρ : Vm.Env) : evS Φ s30_10 (x :: ρ) = evS Φ (.asg (.nm 8) (.lst (ies [(.bin .add (.lit (.int 1)) (.bin .mod (.bi .int1 (ies [(.ix (.var 1) (.lit (.int 5)))])) (.lit (.int 6)))), (.bin .add (.lit (.int 1)) (.bin .mod (.bi .int1 (ies [(.ix (.var 1) (.lit (.int 6)))])) (.lit (.int 6)))), (.bin .add (.lit (.int 1)) (.bin .mod (.bi .int1 (ies [(.ix (.var 1) (.lit (.int 7)))])) (.lit (.int 6)))), (.bin .add (.lit (.int 1)) (.bin .mod (.bi .int1 (ies [(.ix (.var 1) (.lit (.int 8)))])) (.lit (.int 6))))]))) (x :: ρ) := rfl
theorem v30_11 (Φ : Sm) (x : Option D) (ρ : Vm.Env) : evS Φ s30_11 (x :: ρ) = evS Φ (.ifS (.cmp .eq (.bin .mod (.bi .int1 (ies [(.ix (.var 1) (.lit (.int 2)))])) (.lit (.int 5))) (.lit (.int 4))) (iss [.asg (.nm 8) (.comp (.nm 11) [11] (.seq (.var 8)) .nil k30_4)]) .nil) (x :: ρ) := rfl
theorem v30_12 (Φ : Sm) (x : Option D) (ρ : Vm.Env) : evS Φ s30_12 (x :: ρ) = evS Φ (.asg (.nm 9) (.call 17 (ies [(.bin .sub (.ix (.var 1) (.lit (.int 10))) (.lit (.int 30))), (.bin .add (.lit (.int 1)) (.bin .mod (.bi .int1 (ies [(.ix (.var 1) (.lit (.int 9)))])) (.lit (.int 6))))]))) (x :: ρ) := rfl
theorem v30_13 (Φ : Sm) (x : Option D) (ρ : Vm.Env) : evS Φ s30_13 (x :: ρ) = evS Φ (.asg (.nm 10) (.call 17 (ies [(.bin .sub (.ix (.var 1) (.lit (.int 11))) (.lit (.int 30))), (.bin .add (.lit (.int 1)) (.bin .mod (.bi .int1 (ies [(.ix (.var 1) (.lit (.int 8)))])) (.lit (.int 6))))]))) (x :: ρ) := rfl
theorem v30_14 (Φ : Sm) (x : Option D) (ρ : Vm.Env) : evS Φ s30_14 (x :: ρ) = evS Φ (.share 7) (x :: ρ) := rfl
theorem v30_15 (Φ : Sm) (x : Option D) (ρ : Vm.Env) : evS Φ s30_15 (x :: ρ) = evS Φ (.ret (.tup (ies [(.tup (ies [(.var 9), (.var 10)])), (.var 8), (.var 7), (.call 29 (ies [(.var 7)]))]))) (x :: ρ) := rfl
theorem e_law_world (n : Nat) (a0 : D) : callN Pr (n + 1) 30 [a0] = endR (evSs (SM n) b30 [some a0, none, none, none, none, none, none, none, none, none, none, none]) := rfl
theorem v31_0 (Φ : Sm) (x : Option D) (ρ : Vm.Env) : evS Φ s31_0 (x :: ρ) = evS Φ (.asg (.nm 3) (.ix (.var 0) (.lit (.int 1)))) (x :: ρ) := rfl
theorem v31_1 (Φ : Sm) (x : Option D) (ρ : Vm.Env) : evS Φ s31_1 (x :: ρ) = evS Φ (.asg (.nm 4) (.ix (.ix (.var 0) (.lit (.int 0))) (.lit (.int 0)))) (x :: ρ) := rfl
theorem v31_2 (Φ : Sm) (x : Option D) (ρ : Vm.Env) : evS Φ s31_2 (x :: ρ) = evS Φ (.asg (.nm 5) (.ix (.ix (.var 0) (.lit (.int 0))) (.lit (.int 1)))) (x :: ρ) := rfl
theorem v31_3 (Φ : Sm) (x : Option D) (ρ : Vm.Env) : evS Φ s31_3 (x :: ρ) = evS Φ (.asg (.nm 6) (.bin .add (.bin .mul (.bin .mul (.ix (.var 4) (.lit (.int 0))) (.ix (.var 3) (.lit (.int 1)))) (.ix (.var 1) (.lit (.int 1)))) (.bin .mul (.bin .mul (.ix (.var 4) (.lit (.int 1))) (.ix (.var 3) (.lit (.int 0)))) (.ix (.var 1) (.lit (.int 0)))))) (x :: ρ) := rfl
theorem v31_4 (Φ : Sm) (x : Option D) (ρ : Vm.Env) : evS Φ s31_4 (x :: ρ) = evS Φ (.asg (.nm 7) (.bin .add (.bin .mul (.bin .mul (.ix (.var 5) (.lit (.int 0))) (.ix (.var 3) (.lit (.int 3)))) (.ix (.var 2) (.lit (.int 1)))) (.bin .mul (.bin .mul (.ix (.var 5) (.lit (.int 1))) (.ix (.var 3) (.lit (.int 2)))) (.ix (.var 2) (.lit (.int 0)))))) (x :: ρ) := rfl
theorem v31_5 (Φ : Sm) (x : Option D) (ρ : Vm.Env) : evS Φ s31_5 (x :: ρ) = evS Φ (.ret (.tup (ies [(.call 17 (ies [(.var 6), (.bin .mul (.bin .mul (.ix (.var 4) (.lit (.int 1))) (.ix (.var 3) (.lit (.int 1)))) (.ix (.var 1) (.lit (.int 1))))])), (.call 17 (ies [(.var 7), (.bin .mul (.bin .mul (.ix (.var 5) (.lit (.int 1))) (.ix (.var 3) (.lit (.int 3)))) (.ix (.var 2) (.lit (.int 1))))]))]))) (x :: ρ) := rfl
theorem e_law_at (n : Nat) (a0 a1 a2 : D) : callN Pr (n + 1) 31 [a0, a1, a2] = endR (evSs (SM n) b31 [some a0, some a1, some a2, none, none, none, none, none]) := rfl
theorem u32_0 (Φ : Sm) (x : Option D) (ρ : Vm.Env) : evE Φ k32_0 (x :: ρ) = evE Φ (.call 31 (ies [(.var 0), (.tup (ies [(.ix (.var 1) (.lit (.int 0))), (.lit (.int 1))])), (.tup (ies [(.ix (.var 1) (.lit (.int 1))), (.lit (.int 1))]))])) (x :: ρ) := rfl
theorem e_law_corners (n : Nat) (a0 : D) : callN Pr (n + 1) 32 [a0] = endR (evSs (SM n) b32 [some a0, none]) := rfl
theorem u33_0 (Φ : Sm) (x : Option D) (ρ : Vm.Env) : evSs Φ b33_0 (x :: ρ) = evSs Φ (iss [.ifS (.not (.call 22 (ies [(.ix (.ix (.var 0) (.var 2)) (.lit (.int 0))), (.var 1)]))) (iss [.asg (.nm 3) (.call 21 (ies [(.call 19 (ies [(.var 1), (.ix (.ix (.var 0) (.bin .sub (.var 2) (.lit (.int 1)))) (.lit (.int 0)))])), (.call 19 (ies [(.ix (.ix (.var 0) (.var 2)) (.lit (.int 0))), (.ix (.ix (.var 0) (.bin .sub (.var 2) (.lit (.int 1)))) (.lit (.int 0)))]))])), .asg (.nm 4) (.call 19 (ies [(.ix (.ix (.var 0) (.var 2)) (.lit (.int 1))), (.ix (.ix (.var 0) (.bin .sub (.var 2) (.lit (.int 1)))) (.lit (.int 1)))])), .ret (.call 18 (ies [(.ix (.ix (.var 0) (.bin .sub (.var 2) (.lit (.int 1)))) (.lit (.int 1))), (.call 20 (ies [(.var 3), (.var 4)]))]))]) .nil]) (x :: ρ) := rfl
theorem v33_0 (Φ : Sm) (x : Option D) (ρ : Vm.Env) : evS Φ s33_0 (x :: ρ) = evS Φ (.ifS (.not (.call 22 (ies [(.ix (.ix (.var 0) (.lit (.int 0))) (.lit (.int 0))), (.var 1)]))) (iss [.ret (.ix (.ix (.var 0) (.lit (.int 0))) (.lit (.int 1)))]) .nil) (x :: ρ) := rfl
theorem v33_1 (Φ : Sm) (x : Option D) (ρ : Vm.Env) : evS Φ s33_1 (x :: ρ) = evS Φ (.forS [] (.nm 2) (.rng2 (.lit (.int 1)) (.bi .len (ies [(.var 0)]))) b33_0) (x :: ρ) := rfl
theorem v33_2 (Φ : Sm) (x : Option D) (ρ : Vm.Env) : evS Φ s33_2 (x :: ρ) = evS Φ (.ret (.ix (.ix (.var 0) (.neg (.lit (.int 1)))) (.lit (.int 1)))) (x :: ρ) := rfl
theorem e_law_high (n : Nat) (a0 a1 : D) : callN Pr (n + 1) 33 [a0, a1] = endR (evSs (SM n) b33 [some a0, some a1, none, none, none]) := rfl
theorem v34_0 (Φ : Sm) (x : Option D) (ρ : Vm.Env) : evS Φ s34_0 (x :: ρ) = evS Φ (.ifS (.boo false (ies [(.cmp .isN (.var 1) (.lit .non)), (.call 22 (ies [(.ix (.ix (.var 0) (.neg (.lit (.int 1)))) (.lit (.int 0))), (.ix (.var 1) (.lit (.int 0)))]))])) (iss [.ret (.lit (.bl false))]) .nil) (x :: ρ) := rfl
theorem v34_1 (Φ : Sm) (x : Option D) (ρ : Vm.Env) : evS Φ s34_1 (x :: ρ) = evS Φ (.ret (.not (.call 22 (ies [(.call 33 (ies [(.var 0), (.ix (.var 1) (.lit (.int 0)))])), (.ix (.var 1) (.lit (.int 1)))])))) (x :: ρ) := rfl
theorem e_law_in_chain (n : Nat) (a0 a1 : D) : callN Pr (n + 1) 34 [a0, a1] = endR (evSs (SM n) b34 [some a0, some a1]) := rfl
theorem v35_0 (Φ : Sm) (x : Option D) (ρ : Vm.Env) : evS Φ s35_0 (x :: ρ) = evS Φ (.ifS (.not (.call 34 (ies [(.var 0), (.var 1)]))) (iss [.ret (.lit (.bl false))]) .nil) (x :: ρ) := rfl
theorem v35_1 (Φ : Sm) (x : Option D) (ρ : Vm.Env) : evS Φ s35_1 (x :: ρ) = evS Φ (.ret (.boo false (ies [(.cmp .eq (.ix (.var 1) (.lit (.int 0))) (.ix (.ix (.var 0) (.neg (.lit (.int 1)))) (.lit (.int 0)))), (.cmp .eq (.ix (.var 1) (.lit (.int 1))) (.call 33 (ies [(.var 0), (.ix (.var 1) (.lit (.int 0)))])))]))) (x :: ρ) := rfl
theorem e_law_on_rim (n : Nat) (a0 a1 : D) : callN Pr (n + 1) 35 [a0, a1] = endR (evSs (SM n) b35 [some a0, some a1]) := rfl
theorem e_law_top_point (n : Nat) (a0 : D) : callN Pr (n + 1) 36 [a0] = endR (evSs (SM n) b36 [some a0]) := rfl
theorem e_law_back (n : Nat) (a0 a1 : D) : callN Pr (n + 1) 37 [a0, a1] = endR (evSs (SM n) b37 [some a0, some a1]) := rfl
theorem u38_0 (Φ : Sm) (x : Option D) (ρ : Vm.Env) : evSs Φ b38_0 (x :: ρ) = evSs Φ (iss [.asg (.nm 6) (.call 19 (ies [(.ix (.ix (.var 0) (.bin .sub (.var 5) (.lit (.int 1)))) (.lit (.int 1))), (.ix (.ix (.var 0) (.var 5)) (.lit (.int 1)))])), .asg (.nm 7) (.call 19 (ies [(.ix (.ix (.var 0) (.var 5)) (.lit (.int 0))), (.ix (.ix (.var 0) (.bin .sub (.var 5) (.lit (.int 1)))) (.lit (.int 0)))])), .asg (.nm 8) (.call 37 (ies [(.var 2), (.ix (.var 0) (.var 5))])), .asg (.nm 9) (.call 18 (ies [(.call 20 (ies [(.var 6), (.ix (.var 8) (.lit (.int 0)))])), (.call 20 (ies [(.var 7), (.ix (.var 8) (.lit (.int 1)))]))])), .asg (.nm 10) (.call 21 (ies [(.var 9), (.call 18 (ies [(.call 20 (ies [(.var 6), (.ix (.var 3) (.lit (.int 0)))])), (.call 20 (ies [(.var 7), (.ix (.var 3) (.lit (.int 1)))]))]))])), .ifS (.call 22 (ies [(.var 4), (.var 10)])) (iss [.asg (.nm 4) (.var 10)]) .nil]) (x :: ρ) := rfl
theorem v38_0 (Φ : Sm) (x : Option D) (ρ : Vm.Env) : evS Φ s38_0 (x :: ρ) = evS Φ (.asg (.nm 2) (.call 36 (ies [(.var 0)]))) (x :: ρ) := rfl
theorem v38_1 (Φ : Sm) (x : Option D) (ρ : Vm.Env) : evS Φ s38_1 (x :: ρ) = evS Φ (.asg (.nm 3) (.tup (ies [(.var 1), (.call 19 (ies [(.tup (ies [(.lit (.int 1)), (.lit (.int 1))])), (.var 1)]))]))) (x :: ρ) := rfl
theorem v38_2 (Φ : Sm) (x : Option D) (ρ : Vm.Env) : evS Φ s38_2 (x :: ρ) = evS Φ (.asg (.nm 4) (.tup (ies [(.lit (.int 0)), (.lit (.int 1))]))) (x :: ρ) := rfl
theorem v38_3 (Φ : Sm) (x : Option D) (ρ : Vm.Env) : evS Φ s38_3 (x :: ρ) = evS Φ (.forS [] (.nm 5) (.rng2 (.lit (.int 1)) (.bi .len (ies [(.var 0)]))) b38_0) (x :: ρ) := rfl
theorem v38_4 (Φ : Sm) (x : Option D) (ρ : Vm.Env) : evS Φ s38_4 (x :: ρ) = evS Φ (.ret (.call 37 (ies [(.var 2), (.tup (ies [(.call 20 (ies [(.var 4), (.ix (.var 3) (.lit (.int 0)))])), (.call 20 (ies [(.var 4), (.ix (.var 3) (.lit (.int 1)))]))]))]))) (x :: ρ) := rfl
theorem e_law_loss (n : Nat) (a0 a1 : D) : callN Pr (n + 1) 38 [a0, a1] = endR (evSs (SM n) b38 [some a0, some a1, none, none, none, none, none, none, none, none, none]) := rfl
theorem v39_0 (Φ : Sm) (x : Option D) (ρ : Vm.Env) : evS Φ s39_0 (x :: ρ) = evS Φ (.ifS (.boo false (ies [(.not (.call 24 (ies [(.var 3)]))), (.not (.call 35 (ies [(.var 1), (.var 3)])))])) (iss [.ret (.lit (.bl false))]) .nil) (x :: ρ) := rfl
theorem v39_1 (Φ : Sm) (x : Option D) (ρ : Vm.Env) : evS Φ s39_1 (x :: ρ) = evS Φ (.asg (.nm 4) (.call 37 (ies [(.call 36 (ies [(.var 1)])), (.var 3)]))) (x :: ρ) := rfl
theorem v39_2 (Φ : Sm) (x : Option D) (ρ : Vm.Env) : evS Φ s39_2 (x :: ρ) = evS Φ (.ifS (.boo false (ies [(.cmp .lt (.ix (.ix (.var 4) (.lit (.int 0))) (.lit (.int 0))) (.lit (.int 0))), (.cmp .lt (.ix (.ix (.var 4) (.lit (.int 1))) (.lit (.int 0))) (.lit (.int 0)))])) (iss [.ret (.lit (.bl false))]) .nil) (x :: ρ) := rfl
theorem v39_3 (Φ : Sm) (x : Option D) (ρ : Vm.Env) : evS Φ s39_3 (x :: ρ) = evS Φ (.ifS (.cmp .ne (.call 20 (ies [(.ix (.var 4) (.lit (.int 0))), (.call 19 (ies [(.tup (ies [(.lit (.int 1)), (.lit (.int 1))])), (.var 2)]))])) (.call 20 (ies [(.ix (.var 4) (.lit (.int 1))), (.var 2)]))) (iss [.ret (.lit (.bl false))]) .nil) (x :: ρ) := rfl
theorem v39_4 (Φ : Sm) (x : Option D) (ρ : Vm.Env) : evS Φ s39_4 (x :: ρ) = evS Φ (.ret (.boo true (ies [(.cmp .eq (.var 3) (.call 38 (ies [(.var 1), (.var 2)]))), (.cmp .eq (.meth 7 (.var 0) (ies [(.var 3)])) (.var 4))]))) (x :: ρ) := rfl
theorem e_law_right (n : Nat) (a0 a1 a2 a3 : D) : callN Pr (n + 1) 39 [a0, a1, a2, a3] = endR (evSs (SM n) b39 [some a0, some a1, some a2, some a3, none]) := rfl
theorem u40_0 (Φ : Sm) (x : Option D) (ρ : Vm.Env) : evSs Φ b40_0 (x :: ρ) = evSs Φ (iss [.asg (.nm 7) (.callK 11 1 (ies [(.var 2)]) (ies [(.var 6)])), .asg (.nm 8) (.makeK 0 2 .nil (ies [(.var 6)])), .ifS (.boo false (ies [(.not (.call 39 (ies [(.var 2), (.var 1), (.var 6), (.var 7)]))), (.cmp .ne (.fld 8 (.var 8)) (.var 6)), (.cmp .ne (.callV (.var 8) (ies [(.var 2)])) (.var 7))])) (iss [.ret (.lit (.bl false))]) .nil, .ifS (.boo false (ies [(.boo true (ies [(.cmp .notN (.var 5) (.lit .non)), (.call 22 (ies [(.ix (.var 5) (.lit (.int 0))), (.ix (.var 7) (.lit (.int 0)))]))])), (.boo true (ies [(.cmp .notN (.var 5) (.lit .non)), (.call 22 (ies [(.ix (.var 7) (.lit (.int 1))), (.ix (.var 5) (.lit (.int 1)))]))]))])) (iss [.ret (.lit (.bl false))]) .nil, .asg (.nm 5) (.var 7)]) (x :: ρ) := rfl
theorem u40_2 (Φ : Sm) (x : Option D) (ρ : Vm.Env) : evSs Φ b40_2 (x :: ρ) = evSs Φ (iss [.ifS (.cmp .ne (.refused 46 (.callK 11 1 (ies [(.var 2)]) (ies [(.var 10)]))) (.tup (ies [(.lit (.str "weight")), (.lit (.int 0))]))) (iss [.ret (.lit (.bl false))]) .nil, .ifS (.cmp .ne (.refused 46 (.makeK 0 2 .nil (ies [(.var 10)]))) (.tup (ies [(.lit (.str "weight")), (.lit (.int 0))]))) (iss [.ret (.lit (.bl false))]) .nil]) (x :: ρ) := rfl
theorem v40_0 (Φ : Sm) (x : Option D) (ρ : Vm.Env) : evS Φ s40_0 (x :: ρ) = evS Φ (.asg (.nm 1) (.call 32 (ies [(.call 30 (ies [(.call 15 (ies [(.var 0), (.lit (.int 0))]))]))]))) (x :: ρ) := rfl
theorem v40_1 (Φ : Sm) (x : Option D) (ρ : Vm.Env) : evS Φ s40_1 (x :: ρ) = evS Φ (.asg (.nm 2) (.makeK 1 0 (ies [(.bi .list1 (ies [(.var 1)]))]) .nil)) (x :: ρ) := rfl
theorem v40_2 (Φ : Sm) (x : Option D) (ρ : Vm.Env) : evS Φ s40_2 (x :: ρ) = evS Φ (.asgF 3 (.lst (ies [(.call 17 (ies [(.bin .add (.lit (.int 1)) (.bin .mod (.bi .int1 (ies [(.call 15 (ies [(.var 0), (.lit (.int 1))]))])) (.lit (.int 11)))), (.lit (.int 12))]))]))) (x :: ρ) := rfl
theorem v40_3 (Φ : Sm) (x : Option D) (ρ : Vm.Env) : evS Φ s40_3 (x :: ρ) = evS Φ (.asg (.nm 4) (.bin .add (.lit (.int 2)) (.bin .mod (.bi .int1 (ies [(.call 15 (ies [(.var 0), (.lit (.int 2))]))])) (.bin .pow (.lit (.int 10)) (.lit (.int 30)))))) (x :: ρ) := rfl
theorem v40_4 (Φ : Sm) (x : Option D) (ρ : Vm.Env) : evS Φ s40_4 (x :: ρ) = evS Φ (.app 3 (.call 17 (ies [(.bin .add (.lit (.int 1)) (.bin .mod (.bi .int1 (ies [(.call 15 (ies [(.var 0), (.lit (.int 3))]))])) (.bin .sub (.var 4) (.lit (.int 1))))), (.var 4)]))) (x :: ρ) := rfl
theorem v40_5 (Φ : Sm) (x : Option D) (ρ : Vm.Env) : evS Φ s40_5 (x :: ρ) = evS Φ (.asg (.nm 5) (.lit .non)) (x :: ρ) := rfl
theorem v40_6 (Φ : Sm) (x : Option D) (ρ : Vm.Env) : evS Φ s40_6 (x :: ρ) = evS Φ (.forS [] (.nm 6) (.seq (.call 25 (ies [(.bin .add (.var 3) (.lst (ies [(.tup (ies [(.lit (.int 1)), (.lit (.int 2))])), (.tup (ies [(.lit (.int 1)), (.lit (.int 99))])), (.tup (ies [(.lit (.int 98)), (.lit (.int 99))]))])))]))) b40_0) (x :: ρ) := rfl
theorem v40_7 (Φ : Sm) (x : Option D) (ρ : Vm.Env) : evS Φ s40_7 (x :: ρ) = evS Φ (.asg (.nm 9) (.makeK 0 3 .nil .nil)) (x :: ρ) := rfl
theorem v40_8 (Φ : Sm) (x : Option D) (ρ : Vm.Env) : evS Φ s40_8 (x :: ρ) = evS Φ (.ifS (.boo false (ies [(.cmp .ne (.fld 8 (.var 9)) (.tup (ies [(.lit (.int 1)), (.lit (.int 2))]))), (.cmp .ne (.callV (.var 9) (ies [(.var 2)])) (.callK 11 4 (ies [(.var 2)]) .nil)), (.cmp .ne (.callK 11 4 (ies [(.var 2)]) .nil) (.call 38 (ies [(.var 1), (.tup (ies [(.lit (.int 1)), (.lit (.int 2))]))])))])) (iss [.ret (.lit (.bl false))]) .nil) (x :: ρ) := rfl
theorem v40_9 (Φ : Sm) (x : Option D) (ρ : Vm.Env) : evS Φ s40_9 (x :: ρ) = evS Φ (.forS [] (.nm 10) (.seq (.lst (ies [(.tup (ies [(.lit (.int 0)), (.lit (.int 1))])), (.tup (ies [(.lit (.int 1)), (.lit (.int 1))])), (.tup (ies [(.neg (.lit (.int 1))), (.lit (.int 3))])), (.tup (ies [(.lit (.int 4)), (.lit (.int 3))]))]))) b40_2) (x :: ρ) := rfl
theorem v40_10 (Φ : Sm) (x : Option D) (ρ : Vm.Env) : evS Φ s40_10 (x :: ρ) = evS Φ (.ret (.lit (.bl true))) (x :: ρ) := rfl
theorem e_law (n : Nat) (a0 : D) : callN Pr (n + 1) 40 [a0] = endR (evSs (SM n) b40 [some a0, none, none, none, none, none, none, none, none, none, none]) := rfl
theorem v41_0 (Φ : Sm) (x : Option D) (ρ : Vm.Env) : evS Φ s41_0 (x :: ρ) = evS Φ (.expr (.call 8 (ies [(.var 1)]))) (x :: ρ) := rfl
theorem v41_1 (Φ : Sm) (x : Option D) (ρ : Vm.Env) : evS Φ s41_1 (x :: ρ) = evS Φ (.setF 0 8 (.var 1)) (x :: ρ) := rfl
theorem e_LossRule_init (n : Nat) (a0 : D) : mkN Pr (n + 1) 0 [a0] = endI 0 (evSs (SM n) b41 [some (.ins 0 []), some a0]) := rfl
theorem e_LossRule_call (n : Nat) (a0 a1 : D) : callN Pr (n + 1) 42 [a0, a1] = endR (evSs (SM n) b42 [some a0, some a1]) := rfl
theorem v43_0 (Φ : Sm) (x : Option D) (ρ : Vm.Env) : evS Φ s43_0 (x :: ρ) = evS Φ (.ifS (.cmp .eq (.bi .len (ies [(.var 1)])) (.lit (.int 0))) (iss [.raise 19 (ies [(.lit (.str "a lot has at least one corner"))])]) .nil) (x :: ρ) := rfl
theorem v43_1 (Φ : Sm) (x : Option D) (ρ : Vm.Env) : evS Φ s43_1 (x :: ρ) = evS Φ (.setF 0 1 (.bi .tuple1 (ies [(.call 14 (ies [(.bi .list1 (ies [(.var 1)]))]))]))) (x :: ρ) := rfl
theorem e_Lot_init (n : Nat) (a0 : D) : mkN Pr (n + 1) 1 [a0] = endI 1 (evSs (SM n) b43 [some (.ins 1 []), some a0]) := rfl
theorem e_Lot_most (n : Nat) (a0 : D) : callN Pr (n + 1) 44 [a0] = endR (evSs (SM n) b44 [some a0]) := rfl
theorem e_Lot_losses (n : Nat) (a0 a1 : D) : callN Pr (n + 1) 45 [a0, a1] = endR (evSs (SM n) b45 [some a0, some a1]) := rfl
theorem shp_0 (n : Nat) (a0 : D) : shpD ((SM n).sh 0) [a0] [] = some [a0] := (rfl)
theorem shp_1 (n : Nat) (a0 b0 : D) : shpD ((SM n).sh 1) [a0] [b0] = some [a0, b0] := (rfl)
theorem shp_2 (n : Nat) (b0 : D) : shpD ((SM n).sh 2) [] [b0] = some [b0] := (rfl)
theorem shp_3 (n : Nat) : shpD ((SM n).sh 3) [] [] = some [((.tup [(.int 1), (.int 2)]) : D)] := (rfl)
theorem shp_4 (n : Nat) (a0 : D) : shpD ((SM n).sh 4) [a0] [] = some [a0, ((.tup [(.int 1), (.int 2)]) : D)] := (rfl)
theorem h_law_whole (n : Nat) (a0 : D) : callN (hotP Pr) (n + 1) 26 [a0] = endR (evSs (SH n) b26 [some a0]) := rfl
theorem h_law_word (n : Nat) (a0 : D) : callN (hotP Pr) (n + 1) 27 [a0] = endR (evSs (SH n) b27 [some a0, none, none]) := rfl
/-! ### fractions -/
theorem f_frac (n : Nat) (a b : Int) (hb : b ≠ 0) (hs : b.natAbs < 2 ^ 8800) : callN Pr (n + 1) 0 [.int a, .int b] = .ok (fr (Rat.divInt a b)) := by
  have hg : divOk (gcdS a b) := divOk_gcdS hb hs
  have h1 : fr (Rat.divInt a b) = .tup [.int (a.fdiv (gcdS a b)), .int (b.fdiv (gcdS a b))] := fr_divInt hb
  by_cases hn : b < 0
  · have eg : gcdS a b = - gcdI a b := if_pos hn
    rw [eg] at hg h1
    rw [e_frac, h1]
    simp -implicitDefEqProofs only [b0, v0_0, v0_1, v0_2, v0_3, iss_cons, iss_nil, ies_cons, ies_nil, evSs_cons, evSs_nil, evS_share, evS_asg, evS_asgF, evS_setF, evS_setI, evS_app, evS_pop, evS_expr, evS_ret, evS_retN, evS_if, evS_for, evS_while, evS_brk, evS_cont, evS_pass, evS_raise, evE_var, evE_lit, evE_glb, evE_tup, evE_lst, evE_bin, evE_neg, evE_not, evE_cmp, evE_chn, evE_boo, evB_one, evB_cons, evE_ite, evE_ix, evE_slc, evE_fld, evE_call, evE_callK, evE_callV, evE_makeK, evE_meth, evE_bi, evE_lcnt, evE_lidx, evE_isi, evE_isx, evE_comp, evEs_nil, evEs_cons, evT_nil, evT_one, evI_seq, evI_rng1, evI_rng2, evI_enum, evI_zip, bnd_ok, bnd_exc, sof_ok, sof_exc, sq_nx, sq_rt, sq_bk, sq_ct, sq_exc, trn_nx, trn_ct, trn_bk, trn_rt, trn_exc, endR_nx, endR_rt, endR_exc, vr_zero, vr_succ, tupD_0, tupD_1, tupD_2, tupD_3, tupD_4, tupD_5, lstD_0, lstD_1, lstD_2, lstD_3, lstD_4, lstD_5, truthD_bl, truthD_non, iteD_t, iteD_f, iteS_t, iteS_f, negD_int, chnD_t, chnD_f, and_t, and_f, or_t, or_f, asgFD_z, asgFD_cons, raiseD_ok, bindT_nm, bindT_tp, bindT_pt, bindTs_nil, bindTs_cons, wipe_nil, wipe_cons, List.set_cons_zero, List.set_cons_succ, bin_add, bin_sub, bin_mul, bin_fdiv, bin_mod, bin_pow, addD_int, subD_int, cmp_eq_int, cmp_ne_int, cmp_lt_int, cmp_le_int, cmp_gt_int, cmp_ge_int, cmp_is_non, cmp_isnot_non, isNone_non, isNone_tup, isNone_fr, isNone_pt, bi_len_lst, bi_len_tup, bi_len_scr, bi_int, bi_abs, bi_gcd, bi_list_lst, bi_list_tup, bi_tuple_lst, bi_tuple_tup, bi_max2, bi_min2, ofOpt_some, seq_lst, seq_tup, partD_nil, partD_int, ix_fr0, ix_fr1, ix_pt0, ix_pt1, ix_t2_0, ix_t2_1, ix_t3_0, ix_t3_1, ix_t3_2, ix_t4_0, ix_t4_1, ix_t4_2, ix_t4_3, SM_call, SM_made, cmp_eq_fr, cmp_ne_fr, cmp_eq_pt, cmp_ne_pt, cmp_eq_lpt, cmp_ne_lpt, cmp_eq_tpt, cmp_ne_tpt, SM_hcall, decide_true, decide_false, Bool.not_true, Bool.not_false, hb, hn, fdivD_ok hg]
  · have eg : gcdS a b = gcdI a b := if_neg hn
    rw [eg] at hg h1
    rw [e_frac, h1]
    simp -implicitDefEqProofs only [b0, v0_0, v0_1, v0_2, v0_3, iss_cons, iss_nil, ies_cons, ies_nil, evSs_cons, evSs_nil, evS_share, evS_asg, evS_asgF, evS_setF, evS_setI, evS_app, evS_pop, evS_expr, evS_ret, evS_retN, evS_if, evS_for, evS_while, evS_brk, evS_cont, evS_pass, evS_raise, evE_var, evE_lit, evE_glb, evE_tup, evE_lst, evE_bin, evE_neg, evE_not, evE_cmp, evE_chn, evE_boo, evB_one, evB_cons, evE_ite, evE_ix, evE_slc, evE_fld, evE_call, evE_callK, evE_callV, evE_makeK, evE_meth, evE_bi, evE_lcnt, evE_lidx, evE_isi, evE_isx, evE_comp, evEs_nil, evEs_cons, evT_nil, evT_one, evI_seq, evI_rng1, evI_rng2, evI_enum, evI_zip, bnd_ok, bnd_exc, sof_ok, sof_exc, sq_nx, sq_rt, sq_bk, sq_ct, sq_exc, trn_nx, trn_ct, trn_bk, trn_rt, trn_exc, endR_nx, endR_rt, endR_exc, vr_zero, vr_succ, tupD_0, tupD_1, tupD_2, tupD_3, tupD_4, tupD_5, lstD_0, lstD_1, lstD_2, lstD_3, lstD_4, lstD_5, truthD_bl, truthD_non, iteD_t, iteD_f, iteS_t, iteS_f, negD_int, chnD_t, chnD_f, and_t, and_f, or_t, or_f, asgFD_z, asgFD_cons, raiseD_ok, bindT_nm, bindT_tp, bindT_pt, bindTs_nil, bindTs_cons, wipe_nil, wipe_cons, List.set_cons_zero, List.set_cons_succ, bin_add, bin_sub, bin_mul, bin_fdiv, bin_mod, bin_pow, addD_int, subD_int, cmp_eq_int, cmp_ne_int, cmp_lt_int, cmp_le_int, cmp_gt_int, cmp_ge_int, cmp_is_non, cmp_isnot_non, isNone_non, isNone_tup, isNone_fr, isNone_pt, bi_len_lst, bi_len_tup, bi_len_scr, bi_int, bi_abs, bi_gcd, bi_list_lst, bi_list_tup, bi_tuple_lst, bi_tuple_tup, bi_max2, bi_min2, ofOpt_some, seq_lst, seq_tup, partD_nil, partD_int, ix_fr0, ix_fr1, ix_pt0, ix_pt1, ix_t2_0, ix_t2_1, ix_t3_0, ix_t3_1, ix_t3_2, ix_t4_0, ix_t4_1, ix_t4_2, ix_t4_3, SM_call, SM_made, cmp_eq_fr, cmp_ne_fr, cmp_eq_pt, cmp_ne_pt, cmp_eq_lpt, cmp_ne_lpt, cmp_eq_tpt, cmp_ne_tpt, SM_hcall, decide_true, decide_false, Bool.not_true, Bool.not_false, hb, hn, fdivD_ok hg]
theorem f_plus (n : Nat) {a b : Rat} (ha : Ok a) (hb : Ok b) : callN Pr (n + 2) 1 [fr a, fr b] = .ok (fr (a + b)) := by
  rw [e_plus, add_eq]
  simp -implicitDefEqProofs only [b1, iss_cons, iss_nil, ies_cons, ies_nil, evSs_cons, evSs_nil, evS_share, evS_asg, evS_asgF, evS_setF, evS_setI, evS_app, evS_pop, evS_expr, evS_ret, evS_retN, evS_if, evS_for, evS_while, evS_brk, evS_cont, evS_pass, evS_raise, evE_var, evE_lit, evE_glb, evE_tup, evE_lst, evE_bin, evE_neg, evE_not, evE_cmp, evE_chn, evE_boo, evB_one, evB_cons, evE_ite, evE_ix, evE_slc, evE_fld, evE_call, evE_callK, evE_callV, evE_makeK, evE_meth, evE_bi, evE_lcnt, evE_lidx, evE_isi, evE_isx, evE_comp, evEs_nil, evEs_cons, evT_nil, evT_one, evI_seq, evI_rng1, evI_rng2, evI_enum, evI_zip, bnd_ok, bnd_exc, sof_ok, sof_exc, sq_nx, sq_rt, sq_bk, sq_ct, sq_exc, trn_nx, trn_ct, trn_bk, trn_rt, trn_exc, endR_nx, endR_rt, endR_exc, vr_zero, vr_succ, tupD_0, tupD_1, tupD_2, tupD_3, tupD_4, tupD_5, lstD_0, lstD_1, lstD_2, lstD_3, lstD_4, lstD_5, truthD_bl, truthD_non, iteD_t, iteD_f, iteS_t, iteS_f, negD_int, chnD_t, chnD_f, and_t, and_f, or_t, or_f, asgFD_z, asgFD_cons, raiseD_ok, bindT_nm, bindT_tp, bindT_pt, bindTs_nil, bindTs_cons, wipe_nil, wipe_cons, List.set_cons_zero, List.set_cons_succ, bin_add, bin_sub, bin_mul, bin_fdiv, bin_mod, bin_pow, addD_int, subD_int, cmp_eq_int, cmp_ne_int, cmp_lt_int, cmp_le_int, cmp_gt_int, cmp_ge_int, cmp_is_non, cmp_isnot_non, isNone_non, isNone_tup, isNone_fr, isNone_pt, bi_len_lst, bi_len_tup, bi_len_scr, bi_int, bi_abs, bi_gcd, bi_list_lst, bi_list_tup, bi_tuple_lst, bi_tuple_tup, bi_max2, bi_min2, ofOpt_some, seq_lst, seq_tup, partD_nil, partD_int, ix_fr0, ix_fr1, ix_pt0, ix_pt1, ix_t2_0, ix_t2_1, ix_t3_0, ix_t3_1, ix_t3_2, ix_t4_0, ix_t4_1, ix_t4_2, ix_t4_3, SM_call, SM_made, cmp_eq_fr, cmp_ne_fr, cmp_eq_pt, cmp_ne_pt, cmp_eq_lpt, cmp_ne_lpt, cmp_eq_tpt, cmp_ne_tpt, SM_hcall, decide_true, decide_false, Bool.not_true, Bool.not_false, mul_nd ha hb, mul_nd hb ha, mul_dd ha hb, f_frac n _ _ (Int.ne_of_gt (dd_pos a b)) (ha.dd hb)]
theorem f_minus (n : Nat) {a b : Rat} (ha : Ok a) (hb : Ok b) : callN Pr (n + 2) 2 [fr a, fr b] = .ok (fr (a - b)) := by
  rw [e_minus, sub_eq]
  simp -implicitDefEqProofs only [b2, iss_cons, iss_nil, ies_cons, ies_nil, evSs_cons, evSs_nil, evS_share, evS_asg, evS_asgF, evS_setF, evS_setI, evS_app, evS_pop, evS_expr, evS_ret, evS_retN, evS_if, evS_for, evS_while, evS_brk, evS_cont, evS_pass, evS_raise, evE_var, evE_lit, evE_glb, evE_tup, evE_lst, evE_bin, evE_neg, evE_not, evE_cmp, evE_chn, evE_boo, evB_one, evB_cons, evE_ite, evE_ix, evE_slc, evE_fld, evE_call, evE_callK, evE_callV, evE_makeK, evE_meth, evE_bi, evE_lcnt, evE_lidx, evE_isi, evE_isx, evE_comp, evEs_nil, evEs_cons, evT_nil, evT_one, evI_seq, evI_rng1, evI_rng2, evI_enum, evI_zip, bnd_ok, bnd_exc, sof_ok, sof_exc, sq_nx, sq_rt, sq_bk, sq_ct, sq_exc, trn_nx, trn_ct, trn_bk, trn_rt, trn_exc, endR_nx, endR_rt, endR_exc, vr_zero, vr_succ, tupD_0, tupD_1, tupD_2, tupD_3, tupD_4, tupD_5, lstD_0, lstD_1, lstD_2, lstD_3, lstD_4, lstD_5, truthD_bl, truthD_non, iteD_t, iteD_f, iteS_t, iteS_f, negD_int, chnD_t, chnD_f, and_t, and_f, or_t, or_f, asgFD_z, asgFD_cons, raiseD_ok, bindT_nm, bindT_tp, bindT_pt, bindTs_nil, bindTs_cons, wipe_nil, wipe_cons, List.set_cons_zero, List.set_cons_succ, bin_add, bin_sub, bin_mul, bin_fdiv, bin_mod, bin_pow, addD_int, subD_int, cmp_eq_int, cmp_ne_int, cmp_lt_int, cmp_le_int, cmp_gt_int, cmp_ge_int, cmp_is_non, cmp_isnot_non, isNone_non, isNone_tup, isNone_fr, isNone_pt, bi_len_lst, bi_len_tup, bi_len_scr, bi_int, bi_abs, bi_gcd, bi_list_lst, bi_list_tup, bi_tuple_lst, bi_tuple_tup, bi_max2, bi_min2, ofOpt_some, seq_lst, seq_tup, partD_nil, partD_int, ix_fr0, ix_fr1, ix_pt0, ix_pt1, ix_t2_0, ix_t2_1, ix_t3_0, ix_t3_1, ix_t3_2, ix_t4_0, ix_t4_1, ix_t4_2, ix_t4_3, SM_call, SM_made, cmp_eq_fr, cmp_ne_fr, cmp_eq_pt, cmp_ne_pt, cmp_eq_lpt, cmp_ne_lpt, cmp_eq_tpt, cmp_ne_tpt, SM_hcall, decide_true, decide_false, Bool.not_true, Bool.not_false, mul_nd ha hb, mul_nd hb ha, mul_dd ha hb, f_frac n _ _ (Int.ne_of_gt (dd_pos a b)) (ha.dd hb)]
theorem f_times (n : Nat) {a b : Rat} (ha : Ok a) (hb : Ok b) : callN Pr (n + 2) 3 [fr a, fr b] = .ok (fr (a * b)) := by
  rw [e_times, mul_eq]
  simp -implicitDefEqProofs only [b3, iss_cons, iss_nil, ies_cons, ies_nil, evSs_cons, evSs_nil, evS_share, evS_asg, evS_asgF, evS_setF, evS_setI, evS_app, evS_pop, evS_expr, evS_ret, evS_retN, evS_if, evS_for, evS_while, evS_brk, evS_cont, evS_pass, evS_raise, evE_var, evE_lit, evE_glb, evE_tup, evE_lst, evE_bin, evE_neg, evE_not, evE_cmp, evE_chn, evE_boo, evB_one, evB_cons, evE_ite, evE_ix, evE_slc, evE_fld, evE_call, evE_callK, evE_callV, evE_makeK, evE_meth, evE_bi, evE_lcnt, evE_lidx, evE_isi, evE_isx, evE_comp, evEs_nil, evEs_cons, evT_nil, evT_one, evI_seq, evI_rng1, evI_rng2, evI_enum, evI_zip, bnd_ok, bnd_exc, sof_ok, sof_exc, sq_nx, sq_rt, sq_bk, sq_ct, sq_exc, trn_nx, trn_ct, trn_bk, trn_rt, trn_exc, endR_nx, endR_rt, endR_exc, vr_zero, vr_succ, tupD_0, tupD_1, tupD_2, tupD_3, tupD_4, tupD_5, lstD_0, lstD_1, lstD_2, lstD_3, lstD_4, lstD_5, truthD_bl, truthD_non, iteD_t, iteD_f, iteS_t, iteS_f, negD_int, chnD_t, chnD_f, and_t, and_f, or_t, or_f, asgFD_z, asgFD_cons, raiseD_ok, bindT_nm, bindT_tp, bindT_pt, bindTs_nil, bindTs_cons, wipe_nil, wipe_cons, List.set_cons_zero, List.set_cons_succ, bin_add, bin_sub, bin_mul, bin_fdiv, bin_mod, bin_pow, addD_int, subD_int, cmp_eq_int, cmp_ne_int, cmp_lt_int, cmp_le_int, cmp_gt_int, cmp_ge_int, cmp_is_non, cmp_isnot_non, isNone_non, isNone_tup, isNone_fr, isNone_pt, bi_len_lst, bi_len_tup, bi_len_scr, bi_int, bi_abs, bi_gcd, bi_list_lst, bi_list_tup, bi_tuple_lst, bi_tuple_tup, bi_max2, bi_min2, ofOpt_some, seq_lst, seq_tup, partD_nil, partD_int, ix_fr0, ix_fr1, ix_pt0, ix_pt1, ix_t2_0, ix_t2_1, ix_t3_0, ix_t3_1, ix_t3_2, ix_t4_0, ix_t4_1, ix_t4_2, ix_t4_3, SM_call, SM_made, cmp_eq_fr, cmp_ne_fr, cmp_eq_pt, cmp_ne_pt, cmp_eq_lpt, cmp_ne_lpt, cmp_eq_tpt, cmp_ne_tpt, SM_hcall, decide_true, decide_false, Bool.not_true, Bool.not_false, mul_nn' ha hb, mul_dd ha hb, f_frac n _ _ (Int.ne_of_gt (dd_pos a b)) (ha.dd hb)]
theorem f_over (n : Nat) {a b : Rat} (ha : Ok a) (hb : Ok b) (h0 : b ≠ 0) : callN Pr (n + 2) 4 [fr a, fr b] = .ok (fr (a / b)) := by
  have hn : b.num ≠ 0 := fun z => h0 (Rat.num_eq_zero.mp z)
  rw [e_over, div_eq]
  simp -implicitDefEqProofs only [b4, v4_0, v4_1, iss_cons, iss_nil, ies_cons, ies_nil, evSs_cons, evSs_nil, evS_share, evS_asg, evS_asgF, evS_setF, evS_setI, evS_app, evS_pop, evS_expr, evS_ret, evS_retN, evS_if, evS_for, evS_while, evS_brk, evS_cont, evS_pass, evS_raise, evE_var, evE_lit, evE_glb, evE_tup, evE_lst, evE_bin, evE_neg, evE_not, evE_cmp, evE_chn, evE_boo, evB_one, evB_cons, evE_ite, evE_ix, evE_slc, evE_fld, evE_call, evE_callK, evE_callV, evE_makeK, evE_meth, evE_bi, evE_lcnt, evE_lidx, evE_isi, evE_isx, evE_comp, evEs_nil, evEs_cons, evT_nil, evT_one, evI_seq, evI_rng1, evI_rng2, evI_enum, evI_zip, bnd_ok, bnd_exc, sof_ok, sof_exc, sq_nx, sq_rt, sq_bk, sq_ct, sq_exc, trn_nx, trn_ct, trn_bk, trn_rt, trn_exc, endR_nx, endR_rt, endR_exc, vr_zero, vr_succ, tupD_0, tupD_1, tupD_2, tupD_3, tupD_4, tupD_5, lstD_0, lstD_1, lstD_2, lstD_3, lstD_4, lstD_5, truthD_bl, truthD_non, iteD_t, iteD_f, iteS_t, iteS_f, negD_int, chnD_t, chnD_f, and_t, and_f, or_t, or_f, asgFD_z, asgFD_cons, raiseD_ok, bindT_nm, bindT_tp, bindT_pt, bindTs_nil, bindTs_cons, wipe_nil, wipe_cons, List.set_cons_zero, List.set_cons_succ, bin_add, bin_sub, bin_mul, bin_fdiv, bin_mod, bin_pow, addD_int, subD_int, cmp_eq_int, cmp_ne_int, cmp_lt_int, cmp_le_int, cmp_gt_int, cmp_ge_int, cmp_is_non, cmp_isnot_non, isNone_non, isNone_tup, isNone_fr, isNone_pt, bi_len_lst, bi_len_tup, bi_len_scr, bi_int, bi_abs, bi_gcd, bi_list_lst, bi_list_tup, bi_tuple_lst, bi_tuple_tup, bi_max2, bi_min2, ofOpt_some, seq_lst, seq_tup, partD_nil, partD_int, ix_fr0, ix_fr1, ix_pt0, ix_pt1, ix_t2_0, ix_t2_1, ix_t3_0, ix_t3_1, ix_t3_2, ix_t4_0, ix_t4_1, ix_t4_2, ix_t4_3, SM_call, SM_made, cmp_eq_fr, cmp_ne_fr, cmp_eq_pt, cmp_ne_pt, cmp_eq_lpt, cmp_ne_lpt, cmp_eq_tpt, cmp_ne_tpt, SM_hcall, decide_true, decide_false, Bool.not_true, Bool.not_false, hn, mul_nd ha hb, mul_dn ha hb, f_frac n _ _ (Int.mul_ne_zero (den_ne a) hn) (ha.dn hb)]
theorem f_below (n : Nat) {a b : Rat} (ha : Ok a) (hb : Ok b) : callN Pr (n + 1) 5 [fr a, fr b] = .ok (.bl (decide (a < b))) := by
  rw [e_below]
  simp -implicitDefEqProofs only [b5, iss_cons, iss_nil, ies_cons, ies_nil, evSs_cons, evSs_nil, evS_share, evS_asg, evS_asgF, evS_setF, evS_setI, evS_app, evS_pop, evS_expr, evS_ret, evS_retN, evS_if, evS_for, evS_while, evS_brk, evS_cont, evS_pass, evS_raise, evE_var, evE_lit, evE_glb, evE_tup, evE_lst, evE_bin, evE_neg, evE_not, evE_cmp, evE_chn, evE_boo, evB_one, evB_cons, evE_ite, evE_ix, evE_slc, evE_fld, evE_call, evE_callK, evE_callV, evE_makeK, evE_meth, evE_bi, evE_lcnt, evE_lidx, evE_isi, evE_isx, evE_comp, evEs_nil, evEs_cons, evT_nil, evT_one, evI_seq, evI_rng1, evI_rng2, evI_enum, evI_zip, bnd_ok, bnd_exc, sof_ok, sof_exc, sq_nx, sq_rt, sq_bk, sq_ct, sq_exc, trn_nx, trn_ct, trn_bk, trn_rt, trn_exc, endR_nx, endR_rt, endR_exc, vr_zero, vr_succ, tupD_0, tupD_1, tupD_2, tupD_3, tupD_4, tupD_5, lstD_0, lstD_1, lstD_2, lstD_3, lstD_4, lstD_5, truthD_bl, truthD_non, iteD_t, iteD_f, iteS_t, iteS_f, negD_int, chnD_t, chnD_f, and_t, and_f, or_t, or_f, asgFD_z, asgFD_cons, raiseD_ok, bindT_nm, bindT_tp, bindT_pt, bindTs_nil, bindTs_cons, wipe_nil, wipe_cons, List.set_cons_zero, List.set_cons_succ, bin_add, bin_sub, bin_mul, bin_fdiv, bin_mod, bin_pow, addD_int, subD_int, cmp_eq_int, cmp_ne_int, cmp_lt_int, cmp_le_int, cmp_gt_int, cmp_ge_int, cmp_is_non, cmp_isnot_non, isNone_non, isNone_tup, isNone_fr, isNone_pt, bi_len_lst, bi_len_tup, bi_len_scr, bi_int, bi_abs, bi_gcd, bi_list_lst, bi_list_tup, bi_tuple_lst, bi_tuple_tup, bi_max2, bi_min2, ofOpt_some, seq_lst, seq_tup, partD_nil, partD_int, ix_fr0, ix_fr1, ix_pt0, ix_pt1, ix_t2_0, ix_t2_1, ix_t3_0, ix_t3_1, ix_t3_2, ix_t4_0, ix_t4_1, ix_t4_2, ix_t4_3, SM_call, SM_made, cmp_eq_fr, cmp_ne_fr, cmp_eq_pt, cmp_ne_pt, cmp_eq_lpt, cmp_ne_lpt, cmp_eq_tpt, cmp_ne_tpt, SM_hcall, decide_true, decide_false, Bool.not_true, Bool.not_false, mul_nd ha hb, mul_nd hb ha, lt_iff']
theorem f_larger (n : Nat) {a b : Rat} (ha : Ok a) (hb : Ok b) : callN Pr (n + 2) 6 [fr a, fr b] = .ok (fr (maxR a b)) := by
  rw [e_larger]
  by_cases h : a < b
  · simp -implicitDefEqProofs only [b6, v6_0, v6_1, iss_cons, iss_nil, ies_cons, ies_nil, evSs_cons, evSs_nil, evS_share, evS_asg, evS_asgF, evS_setF, evS_setI, evS_app, evS_pop, evS_expr, evS_ret, evS_retN, evS_if, evS_for, evS_while, evS_brk, evS_cont, evS_pass, evS_raise, evE_var, evE_lit, evE_glb, evE_tup, evE_lst, evE_bin, evE_neg, evE_not, evE_cmp, evE_chn, evE_boo, evB_one, evB_cons, evE_ite, evE_ix, evE_slc, evE_fld, evE_call, evE_callK, evE_callV, evE_makeK, evE_meth, evE_bi, evE_lcnt, evE_lidx, evE_isi, evE_isx, evE_comp, evEs_nil, evEs_cons, evT_nil, evT_one, evI_seq, evI_rng1, evI_rng2, evI_enum, evI_zip, bnd_ok, bnd_exc, sof_ok, sof_exc, sq_nx, sq_rt, sq_bk, sq_ct, sq_exc, trn_nx, trn_ct, trn_bk, trn_rt, trn_exc, endR_nx, endR_rt, endR_exc, vr_zero, vr_succ, tupD_0, tupD_1, tupD_2, tupD_3, tupD_4, tupD_5, lstD_0, lstD_1, lstD_2, lstD_3, lstD_4, lstD_5, truthD_bl, truthD_non, iteD_t, iteD_f, iteS_t, iteS_f, negD_int, chnD_t, chnD_f, and_t, and_f, or_t, or_f, asgFD_z, asgFD_cons, raiseD_ok, bindT_nm, bindT_tp, bindT_pt, bindTs_nil, bindTs_cons, wipe_nil, wipe_cons, List.set_cons_zero, List.set_cons_succ, bin_add, bin_sub, bin_mul, bin_fdiv, bin_mod, bin_pow, addD_int, subD_int, cmp_eq_int, cmp_ne_int, cmp_lt_int, cmp_le_int, cmp_gt_int, cmp_ge_int, cmp_is_non, cmp_isnot_non, isNone_non, isNone_tup, isNone_fr, isNone_pt, bi_len_lst, bi_len_tup, bi_len_scr, bi_int, bi_abs, bi_gcd, bi_list_lst, bi_list_tup, bi_tuple_lst, bi_tuple_tup, bi_max2, bi_min2, ofOpt_some, seq_lst, seq_tup, partD_nil, partD_int, ix_fr0, ix_fr1, ix_pt0, ix_pt1, ix_t2_0, ix_t2_1, ix_t3_0, ix_t3_1, ix_t3_2, ix_t4_0, ix_t4_1, ix_t4_2, ix_t4_3, SM_call, SM_made, cmp_eq_fr, cmp_ne_fr, cmp_eq_pt, cmp_ne_pt, cmp_eq_lpt, cmp_ne_lpt, cmp_eq_tpt, cmp_ne_tpt, SM_hcall, decide_true, decide_false, Bool.not_true, Bool.not_false, f_below n ha hb, h, maxR, if_true]
  · simp -implicitDefEqProofs only [b6, v6_0, v6_1, iss_cons, iss_nil, ies_cons, ies_nil, evSs_cons, evSs_nil, evS_share, evS_asg, evS_asgF, evS_setF, evS_setI, evS_app, evS_pop, evS_expr, evS_ret, evS_retN, evS_if, evS_for, evS_while, evS_brk, evS_cont, evS_pass, evS_raise, evE_var, evE_lit, evE_glb, evE_tup, evE_lst, evE_bin, evE_neg, evE_not, evE_cmp, evE_chn, evE_boo, evB_one, evB_cons, evE_ite, evE_ix, evE_slc, evE_fld, evE_call, evE_callK, evE_callV, evE_makeK, evE_meth, evE_bi, evE_lcnt, evE_lidx, evE_isi, evE_isx, evE_comp, evEs_nil, evEs_cons, evT_nil, evT_one, evI_seq, evI_rng1, evI_rng2, evI_enum, evI_zip, bnd_ok, bnd_exc, sof_ok, sof_exc, sq_nx, sq_rt, sq_bk, sq_ct, sq_exc, trn_nx, trn_ct, trn_bk, trn_rt, trn_exc, endR_nx, endR_rt, endR_exc, vr_zero, vr_succ, tupD_0, tupD_1, tupD_2, tupD_3, tupD_4, tupD_5, lstD_0, lstD_1, lstD_2, lstD_3, lstD_4, lstD_5, truthD_bl, truthD_non, iteD_t, iteD_f, iteS_t, iteS_f, negD_int, chnD_t, chnD_f, and_t, and_f, or_t, or_f, asgFD_z, asgFD_cons, raiseD_ok, bindT_nm, bindT_tp, bindT_pt, bindTs_nil, bindTs_cons, wipe_nil, wipe_cons, List.set_cons_zero, List.set_cons_succ, bin_add, bin_sub, bin_mul, bin_fdiv, bin_mod, bin_pow, addD_int, subD_int, cmp_eq_int, cmp_ne_int, cmp_lt_int, cmp_le_int, cmp_gt_int, cmp_ge_int, cmp_is_non, cmp_isnot_non, isNone_non, isNone_tup, isNone_fr, isNone_pt, bi_len_lst, bi_len_tup, bi_len_scr, bi_int, bi_abs, bi_gcd, bi_list_lst, bi_list_tup, bi_tuple_lst, bi_tuple_tup, bi_max2, bi_min2, ofOpt_some, seq_lst, seq_tup, partD_nil, partD_int, ix_fr0, ix_fr1, ix_pt0, ix_pt1, ix_t2_0, ix_t2_1, ix_t3_0, ix_t3_1, ix_t3_2, ix_t4_0, ix_t4_1, ix_t4_2, ix_t4_3, SM_call, SM_made, cmp_eq_fr, cmp_ne_fr, cmp_eq_pt, cmp_ne_pt, cmp_eq_lpt, cmp_ne_lpt, cmp_eq_tpt, cmp_ne_tpt, SM_hcall, decide_true, decide_false, Bool.not_true, Bool.not_false, f_below n ha hb, h, maxR, if_false]
theorem f_gap (n : Nat) {p q : Pt} (hp : OkP p) (hq : OkP q) : callN Pr (n + 3) 7 [pt p, pt q] = .ok (pt (p.1 - q.1, p.2 - q.2)) := by
  rw [e_gap]
  simp -implicitDefEqProofs only [b7, iss_cons, iss_nil, ies_cons, ies_nil, evSs_cons, evSs_nil, evS_share, evS_asg, evS_asgF, evS_setF, evS_setI, evS_app, evS_pop, evS_expr, evS_ret, evS_retN, evS_if, evS_for, evS_while, evS_brk, evS_cont, evS_pass, evS_raise, evE_var, evE_lit, evE_glb, evE_tup, evE_lst, evE_bin, evE_neg, evE_not, evE_cmp, evE_chn, evE_boo, evB_one, evB_cons, evE_ite, evE_ix, evE_slc, evE_fld, evE_call, evE_callK, evE_callV, evE_makeK, evE_meth, evE_bi, evE_lcnt, evE_lidx, evE_isi, evE_isx, evE_comp, evEs_nil, evEs_cons, evT_nil, evT_one, evI_seq, evI_rng1, evI_rng2, evI_enum, evI_zip, bnd_ok, bnd_exc, sof_ok, sof_exc, sq_nx, sq_rt, sq_bk, sq_ct, sq_exc, trn_nx, trn_ct, trn_bk, trn_rt, trn_exc, endR_nx, endR_rt, endR_exc, vr_zero, vr_succ, tupD_0, tupD_1, tupD_2, tupD_3, tupD_4, tupD_5, lstD_0, lstD_1, lstD_2, lstD_3, lstD_4, lstD_5, truthD_bl, truthD_non, iteD_t, iteD_f, iteS_t, iteS_f, negD_int, chnD_t, chnD_f, and_t, and_f, or_t, or_f, asgFD_z, asgFD_cons, raiseD_ok, bindT_nm, bindT_tp, bindT_pt, bindTs_nil, bindTs_cons, wipe_nil, wipe_cons, List.set_cons_zero, List.set_cons_succ, bin_add, bin_sub, bin_mul, bin_fdiv, bin_mod, bin_pow, addD_int, subD_int, cmp_eq_int, cmp_ne_int, cmp_lt_int, cmp_le_int, cmp_gt_int, cmp_ge_int, cmp_is_non, cmp_isnot_non, isNone_non, isNone_tup, isNone_fr, isNone_pt, bi_len_lst, bi_len_tup, bi_len_scr, bi_int, bi_abs, bi_gcd, bi_list_lst, bi_list_tup, bi_tuple_lst, bi_tuple_tup, bi_max2, bi_min2, ofOpt_some, seq_lst, seq_tup, partD_nil, partD_int, ix_fr0, ix_fr1, ix_pt0, ix_pt1, ix_t2_0, ix_t2_1, ix_t3_0, ix_t3_1, ix_t3_2, ix_t4_0, ix_t4_1, ix_t4_2, ix_t4_3, SM_call, SM_made, cmp_eq_fr, cmp_ne_fr, cmp_eq_pt, cmp_ne_pt, cmp_eq_lpt, cmp_ne_lpt, cmp_eq_tpt, cmp_ne_tpt, SM_hcall, decide_true, decide_false, Bool.not_true, Bool.not_false, f_minus n hp.1 hq.1, f_minus n hp.2 hq.2, pt_mk]
/-! ### the law's fractions -/
theorem w_low (m : Nat) : ∀ (fuel a b : Nat) (x0 x1 x : Option D), b < fuel → a < 2 ^ 8801 → b < 2 ^ 8800 → ∃ x', whileN (fun ρ => bnd (evE (SM m) t17_1 ρ) truthD) (evSs (SM m) b17_0) fuel [x0, x1, some (.int a), some (.int b), x] = .nx [x0, x1, some (.int (Nat.gcd a b : Nat)), some (.int 0), x']
  | 0, a, b, x0, x1, x, h, _, _ => absurd h (Nat.not_lt_zero _)
  | fuel + 1, a, b, x0, x1, x, h, ha, hb => by
    by_cases h0 : b = 0
    · subst h0
      refine ⟨x, ?_⟩
      rw [whileN_succ, Nat.gcd_zero_right]
      simp -implicitDefEqProofs only [u17_1, iss_cons, iss_nil, ies_cons, ies_nil, evSs_cons, evSs_nil, evS_share, evS_asg, evS_asgF, evS_setF, evS_setI, evS_app, evS_pop, evS_expr, evS_ret, evS_retN, evS_if, evS_for, evS_while, evS_brk, evS_cont, evS_pass, evS_raise, evE_var, evE_lit, evE_glb, evE_tup, evE_lst, evE_bin, evE_neg, evE_not, evE_cmp, evE_chn, evE_boo, evB_one, evB_cons, evE_ite, evE_ix, evE_slc, evE_fld, evE_call, evE_callK, evE_callV, evE_makeK, evE_meth, evE_bi, evE_lcnt, evE_lidx, evE_isi, evE_isx, evE_comp, evEs_nil, evEs_cons, evT_nil, evT_one, evI_seq, evI_rng1, evI_rng2, evI_enum, evI_zip, bnd_ok, bnd_exc, sof_ok, sof_exc, sq_nx, sq_rt, sq_bk, sq_ct, sq_exc, trn_nx, trn_ct, trn_bk, trn_rt, trn_exc, endR_nx, endR_rt, endR_exc, vr_zero, vr_succ, tupD_0, tupD_1, tupD_2, tupD_3, tupD_4, tupD_5, lstD_0, lstD_1, lstD_2, lstD_3, lstD_4, lstD_5, truthD_bl, truthD_non, iteD_t, iteD_f, iteS_t, iteS_f, negD_int, chnD_t, chnD_f, and_t, and_f, or_t, or_f, asgFD_z, asgFD_cons, raiseD_ok, bindT_nm, bindT_tp, bindT_pt, bindTs_nil, bindTs_cons, wipe_nil, wipe_cons, List.set_cons_zero, List.set_cons_succ, bin_add, bin_sub, bin_mul, bin_fdiv, bin_mod, bin_pow, addD_int, subD_int, cmp_eq_int, cmp_ne_int, cmp_lt_int, cmp_le_int, cmp_gt_int, cmp_ge_int, cmp_is_non, cmp_isnot_non, isNone_non, isNone_tup, isNone_fr, isNone_pt, bi_len_lst, bi_len_tup, bi_len_scr, bi_int, bi_abs, bi_gcd, bi_list_lst, bi_list_tup, bi_tuple_lst, bi_tuple_tup, bi_max2, bi_min2, ofOpt_some, seq_lst, seq_tup, partD_nil, partD_int, ix_fr0, ix_fr1, ix_pt0, ix_pt1, ix_t2_0, ix_t2_1, ix_t3_0, ix_t3_1, ix_t3_2, ix_t4_0, ix_t4_1, ix_t4_2, ix_t4_3, SM_call, SM_made, cmp_eq_fr, cmp_ne_fr, cmp_eq_pt, cmp_ne_pt, cmp_eq_lpt, cmp_ne_lpt, cmp_eq_tpt, cmp_ne_tpt, SM_hcall, decide_true, decide_false, Bool.not_true, Bool.not_false, Int.natCast_zero, Int.lt_irrefl]
      rfl
    · have hp : (0 : Int) < (b : Int) := by omega
      have hq : a / b < 2 ^ 8801 := Nat.lt_of_le_of_lt (Nat.div_le_self _ _) ha
      have hd : divOk (b : Int) := divOk_of (k := 8800) (by omega) hb (by decide) (by decide)
      have hm : mulOk ((a / b : Nat) : Int) (b : Int) := mulOk_of (k := 8801) (l := 8800) hq hb (by decide) (by decide) (by decide)
      have hf : (a : Int).fdiv (b : Int) = ((a / b : Nat) : Int) := by rw [Int.fdiv_eq_ediv_of_nonneg _ (by omega)]; rfl
      have hr : (a : Int) - ((a / b : Nat) : Int) * (b : Int) = ((a % b : Nat) : Int) := by
        have := Nat.div_add_mod a b
        have h2 : ((b * (a / b) + a % b : Nat) : Int) = (a : Int) := by rw [this]
        rw [Int.natCast_add, Int.natCast_mul, Int.mul_comm] at h2
        omega
      have hlt := Nat.mod_lt a (show b > 0 by omega)
      obtain ⟨x', ih⟩ := w_low m fuel b (a % b) x0 x1 (some (.int ((a % b : Nat) : Int))) (by omega) (Nat.lt_of_lt_of_le hb (Nat.pow_le_pow_right (by decide) (by decide))) (Nat.lt_trans hlt hb)
      refine ⟨x', ?_⟩
      rw [whileN_succ]
      simp -implicitDefEqProofs only [u17_1, u17_0, iss_cons, iss_nil, ies_cons, ies_nil, evSs_cons, evSs_nil, evS_share, evS_asg, evS_asgF, evS_setF, evS_setI, evS_app, evS_pop, evS_expr, evS_ret, evS_retN, evS_if, evS_for, evS_while, evS_brk, evS_cont, evS_pass, evS_raise, evE_var, evE_lit, evE_glb, evE_tup, evE_lst, evE_bin, evE_neg, evE_not, evE_cmp, evE_chn, evE_boo, evB_one, evB_cons, evE_ite, evE_ix, evE_slc, evE_fld, evE_call, evE_callK, evE_callV, evE_makeK, evE_meth, evE_bi, evE_lcnt, evE_lidx, evE_isi, evE_isx, evE_comp, evEs_nil, evEs_cons, evT_nil, evT_one, evI_seq, evI_rng1, evI_rng2, evI_enum, evI_zip, bnd_ok, bnd_exc, sof_ok, sof_exc, sq_nx, sq_rt, sq_bk, sq_ct, sq_exc, trn_nx, trn_ct, trn_bk, trn_rt, trn_exc, endR_nx, endR_rt, endR_exc, vr_zero, vr_succ, tupD_0, tupD_1, tupD_2, tupD_3, tupD_4, tupD_5, lstD_0, lstD_1, lstD_2, lstD_3, lstD_4, lstD_5, truthD_bl, truthD_non, iteD_t, iteD_f, iteS_t, iteS_f, negD_int, chnD_t, chnD_f, and_t, and_f, or_t, or_f, asgFD_z, asgFD_cons, raiseD_ok, bindT_nm, bindT_tp, bindT_pt, bindTs_nil, bindTs_cons, wipe_nil, wipe_cons, List.set_cons_zero, List.set_cons_succ, bin_add, bin_sub, bin_mul, bin_fdiv, bin_mod, bin_pow, addD_int, subD_int, cmp_eq_int, cmp_ne_int, cmp_lt_int, cmp_le_int, cmp_gt_int, cmp_ge_int, cmp_is_non, cmp_isnot_non, isNone_non, isNone_tup, isNone_fr, isNone_pt, bi_len_lst, bi_len_tup, bi_len_scr, bi_int, bi_abs, bi_gcd, bi_list_lst, bi_list_tup, bi_tuple_lst, bi_tuple_tup, bi_max2, bi_min2, ofOpt_some, seq_lst, seq_tup, partD_nil, partD_int, ix_fr0, ix_fr1, ix_pt0, ix_pt1, ix_t2_0, ix_t2_1, ix_t3_0, ix_t3_1, ix_t3_2, ix_t4_0, ix_t4_1, ix_t4_2, ix_t4_3, SM_call, SM_made, cmp_eq_fr, cmp_ne_fr, cmp_eq_pt, cmp_ne_pt, cmp_eq_lpt, cmp_ne_lpt, cmp_eq_tpt, cmp_ne_tpt, SM_hcall, decide_true, decide_false, Bool.not_true, Bool.not_false, hp, fdivD_ok hd, hf, mulD_ok hm, hr, if_true]
      rw [ih]
      rw [show Nat.gcd a b = Nat.gcd b (a % b) by rw [Nat.gcd_comm a b, Nat.gcd_rec b a, Nat.gcd_comm]]
theorem fuel_big : 2 ^ 8800 < fuel0 := Nat.pow_lt_pow_right (by decide) (by decide)
theorem fuel_small : 1000 < fuel0 := Nat.lt_trans (by decide : 1000 < 2 ^ 10) (Nat.pow_lt_pow_right (by decide) (by decide))
theorem f_low (n : Nat) (a b : Int) (hb : 0 < b) (ha : a.natAbs < 2 ^ 8801) (hs : b.natAbs < 2 ^ 8800) : callN Pr (n + 1) 17 [.int a, .int b] = .ok (fr (Rat.divInt a b)) := by
  have hn := low_norm (n := a) hb rfl
  have hg : gcdS a b = ((Nat.gcd a.natAbs b.natAbs : Nat) : Int) := if_neg (by omega)
  have hd := divOk_gcdS (a := a) (Int.ne_of_gt hb) hs
  rw [hg] at hd
  have hb' : ((b.natAbs : Nat) : Int) = b := by omega
  obtain ⟨x', hw⟩ := w_low n fuel0 a.natAbs b.natAbs (some (.int a)) (some (.int b)) none (Nat.lt_trans hs fuel_big) ha hs
  rw [hb'] at hw
  rw [e_law_lowest]
  simp -implicitDefEqProofs only [b17, v17_0, v17_1, v17_2, v17_3, iss_cons, iss_nil, ies_cons, ies_nil, evSs_cons, evSs_nil, evS_share, evS_asg, evS_asgF, evS_setF, evS_setI, evS_app, evS_pop, evS_expr, evS_ret, evS_retN, evS_if, evS_for, evS_while, evS_brk, evS_cont, evS_pass, evS_raise, evE_var, evE_lit, evE_glb, evE_tup, evE_lst, evE_bin, evE_neg, evE_not, evE_cmp, evE_chn, evE_boo, evB_one, evB_cons, evE_ite, evE_ix, evE_slc, evE_fld, evE_call, evE_callK, evE_callV, evE_makeK, evE_meth, evE_bi, evE_lcnt, evE_lidx, evE_isi, evE_isx, evE_comp, evEs_nil, evEs_cons, evT_nil, evT_one, evI_seq, evI_rng1, evI_rng2, evI_enum, evI_zip, bnd_ok, bnd_exc, sof_ok, sof_exc, sq_nx, sq_rt, sq_bk, sq_ct, sq_exc, trn_nx, trn_ct, trn_bk, trn_rt, trn_exc, endR_nx, endR_rt, endR_exc, vr_zero, vr_succ, tupD_0, tupD_1, tupD_2, tupD_3, tupD_4, tupD_5, lstD_0, lstD_1, lstD_2, lstD_3, lstD_4, lstD_5, truthD_bl, truthD_non, iteD_t, iteD_f, iteS_t, iteS_f, negD_int, chnD_t, chnD_f, and_t, and_f, or_t, or_f, asgFD_z, asgFD_cons, raiseD_ok, bindT_nm, bindT_tp, bindT_pt, bindTs_nil, bindTs_cons, wipe_nil, wipe_cons, List.set_cons_zero, List.set_cons_succ, bin_add, bin_sub, bin_mul, bin_fdiv, bin_mod, bin_pow, addD_int, subD_int, cmp_eq_int, cmp_ne_int, cmp_lt_int, cmp_le_int, cmp_gt_int, cmp_ge_int, cmp_is_non, cmp_isnot_non, isNone_non, isNone_tup, isNone_fr, isNone_pt, bi_len_lst, bi_len_tup, bi_len_scr, bi_int, bi_abs, bi_gcd, bi_list_lst, bi_list_tup, bi_tuple_lst, bi_tuple_tup, bi_max2, bi_min2, ofOpt_some, seq_lst, seq_tup, partD_nil, partD_int, ix_fr0, ix_fr1, ix_pt0, ix_pt1, ix_t2_0, ix_t2_1, ix_t3_0, ix_t3_1, ix_t3_2, ix_t4_0, ix_t4_1, ix_t4_2, ix_t4_3, SM_call, SM_made, cmp_eq_fr, cmp_ne_fr, cmp_eq_pt, cmp_ne_pt, cmp_eq_lpt, cmp_ne_lpt, cmp_eq_tpt, cmp_ne_tpt, SM_hcall, decide_true, decide_false, Bool.not_true, Bool.not_false, SM_fuel, hw, fdivD_ok hd]
  rw [← hn.1, ← hn.2]
  rfl
theorem f_lplus (n : Nat) {a b : Rat} (ha : Ok a) (hb : Ok b) : callN Pr (n + 2) 18 [fr a, fr b] = .ok (fr (a + b)) := by
  have h1 : (a.num * (b.den : Int) + b.num * (a.den : Int)).natAbs < 2 ^ 8801 := natAbs_add_lt (k := 8800) (cross_lt ha hb) (cross_lt' ha hb)
  rw [e_law_plus, add_eq]
  simp -implicitDefEqProofs only [b18, iss_cons, iss_nil, ies_cons, ies_nil, evSs_cons, evSs_nil, evS_share, evS_asg, evS_asgF, evS_setF, evS_setI, evS_app, evS_pop, evS_expr, evS_ret, evS_retN, evS_if, evS_for, evS_while, evS_brk, evS_cont, evS_pass, evS_raise, evE_var, evE_lit, evE_glb, evE_tup, evE_lst, evE_bin, evE_neg, evE_not, evE_cmp, evE_chn, evE_boo, evB_one, evB_cons, evE_ite, evE_ix, evE_slc, evE_fld, evE_call, evE_callK, evE_callV, evE_makeK, evE_meth, evE_bi, evE_lcnt, evE_lidx, evE_isi, evE_isx, evE_comp, evEs_nil, evEs_cons, evT_nil, evT_one, evI_seq, evI_rng1, evI_rng2, evI_enum, evI_zip, bnd_ok, bnd_exc, sof_ok, sof_exc, sq_nx, sq_rt, sq_bk, sq_ct, sq_exc, trn_nx, trn_ct, trn_bk, trn_rt, trn_exc, endR_nx, endR_rt, endR_exc, vr_zero, vr_succ, tupD_0, tupD_1, tupD_2, tupD_3, tupD_4, tupD_5, lstD_0, lstD_1, lstD_2, lstD_3, lstD_4, lstD_5, truthD_bl, truthD_non, iteD_t, iteD_f, iteS_t, iteS_f, negD_int, chnD_t, chnD_f, and_t, and_f, or_t, or_f, asgFD_z, asgFD_cons, raiseD_ok, bindT_nm, bindT_tp, bindT_pt, bindTs_nil, bindTs_cons, wipe_nil, wipe_cons, List.set_cons_zero, List.set_cons_succ, bin_add, bin_sub, bin_mul, bin_fdiv, bin_mod, bin_pow, addD_int, subD_int, cmp_eq_int, cmp_ne_int, cmp_lt_int, cmp_le_int, cmp_gt_int, cmp_ge_int, cmp_is_non, cmp_isnot_non, isNone_non, isNone_tup, isNone_fr, isNone_pt, bi_len_lst, bi_len_tup, bi_len_scr, bi_int, bi_abs, bi_gcd, bi_list_lst, bi_list_tup, bi_tuple_lst, bi_tuple_tup, bi_max2, bi_min2, ofOpt_some, seq_lst, seq_tup, partD_nil, partD_int, ix_fr0, ix_fr1, ix_pt0, ix_pt1, ix_t2_0, ix_t2_1, ix_t3_0, ix_t3_1, ix_t3_2, ix_t4_0, ix_t4_1, ix_t4_2, ix_t4_3, SM_call, SM_made, cmp_eq_fr, cmp_ne_fr, cmp_eq_pt, cmp_ne_pt, cmp_eq_lpt, cmp_ne_lpt, cmp_eq_tpt, cmp_ne_tpt, SM_hcall, decide_true, decide_false, Bool.not_true, Bool.not_false, mul_nd ha hb, mul_nd hb ha, mul_dd ha hb, f_low n _ _ (dd_pos a b) h1 (ha.dd hb)]
theorem f_lminus (n : Nat) {a b : Rat} (ha : Ok a) (hb : Ok b) : callN Pr (n + 2) 19 [fr a, fr b] = .ok (fr (a - b)) := by
  have h1 : (a.num * (b.den : Int) - b.num * (a.den : Int)).natAbs < 2 ^ 8801 := natAbs_sub_lt (k := 8800) (cross_lt ha hb) (cross_lt' ha hb)
  rw [e_law_minus, sub_eq]
  simp -implicitDefEqProofs only [b19, iss_cons, iss_nil, ies_cons, ies_nil, evSs_cons, evSs_nil, evS_share, evS_asg, evS_asgF, evS_setF, evS_setI, evS_app, evS_pop, evS_expr, evS_ret, evS_retN, evS_if, evS_for, evS_while, evS_brk, evS_cont, evS_pass, evS_raise, evE_var, evE_lit, evE_glb, evE_tup, evE_lst, evE_bin, evE_neg, evE_not, evE_cmp, evE_chn, evE_boo, evB_one, evB_cons, evE_ite, evE_ix, evE_slc, evE_fld, evE_call, evE_callK, evE_callV, evE_makeK, evE_meth, evE_bi, evE_lcnt, evE_lidx, evE_isi, evE_isx, evE_comp, evEs_nil, evEs_cons, evT_nil, evT_one, evI_seq, evI_rng1, evI_rng2, evI_enum, evI_zip, bnd_ok, bnd_exc, sof_ok, sof_exc, sq_nx, sq_rt, sq_bk, sq_ct, sq_exc, trn_nx, trn_ct, trn_bk, trn_rt, trn_exc, endR_nx, endR_rt, endR_exc, vr_zero, vr_succ, tupD_0, tupD_1, tupD_2, tupD_3, tupD_4, tupD_5, lstD_0, lstD_1, lstD_2, lstD_3, lstD_4, lstD_5, truthD_bl, truthD_non, iteD_t, iteD_f, iteS_t, iteS_f, negD_int, chnD_t, chnD_f, and_t, and_f, or_t, or_f, asgFD_z, asgFD_cons, raiseD_ok, bindT_nm, bindT_tp, bindT_pt, bindTs_nil, bindTs_cons, wipe_nil, wipe_cons, List.set_cons_zero, List.set_cons_succ, bin_add, bin_sub, bin_mul, bin_fdiv, bin_mod, bin_pow, addD_int, subD_int, cmp_eq_int, cmp_ne_int, cmp_lt_int, cmp_le_int, cmp_gt_int, cmp_ge_int, cmp_is_non, cmp_isnot_non, isNone_non, isNone_tup, isNone_fr, isNone_pt, bi_len_lst, bi_len_tup, bi_len_scr, bi_int, bi_abs, bi_gcd, bi_list_lst, bi_list_tup, bi_tuple_lst, bi_tuple_tup, bi_max2, bi_min2, ofOpt_some, seq_lst, seq_tup, partD_nil, partD_int, ix_fr0, ix_fr1, ix_pt0, ix_pt1, ix_t2_0, ix_t2_1, ix_t3_0, ix_t3_1, ix_t3_2, ix_t4_0, ix_t4_1, ix_t4_2, ix_t4_3, SM_call, SM_made, cmp_eq_fr, cmp_ne_fr, cmp_eq_pt, cmp_ne_pt, cmp_eq_lpt, cmp_ne_lpt, cmp_eq_tpt, cmp_ne_tpt, SM_hcall, decide_true, decide_false, Bool.not_true, Bool.not_false, mul_nd ha hb, mul_nd hb ha, mul_dd ha hb, f_low n _ _ (dd_pos a b) h1 (ha.dd hb)]
theorem f_ltimes (n : Nat) {a b : Rat} (ha : Ok a) (hb : Ok b) : callN Pr (n + 2) 20 [fr a, fr b] = .ok (fr (a * b)) := by
  have h1 : (a.num * b.num).natAbs < 2 ^ 8801 := by rw [Int.natAbs_mul]; exact Nat.lt_of_lt_of_le (mul_lt_pow ha.1 hb.1) (Nat.pow_le_pow_right (by decide) (by decide))
  rw [e_law_times, mul_eq]
  simp -implicitDefEqProofs only [b20, iss_cons, iss_nil, ies_cons, ies_nil, evSs_cons, evSs_nil, evS_share, evS_asg, evS_asgF, evS_setF, evS_setI, evS_app, evS_pop, evS_expr, evS_ret, evS_retN, evS_if, evS_for, evS_while, evS_brk, evS_cont, evS_pass, evS_raise, evE_var, evE_lit, evE_glb, evE_tup, evE_lst, evE_bin, evE_neg, evE_not, evE_cmp, evE_chn, evE_boo, evB_one, evB_cons, evE_ite, evE_ix, evE_slc, evE_fld, evE_call, evE_callK, evE_callV, evE_makeK, evE_meth, evE_bi, evE_lcnt, evE_lidx, evE_isi, evE_isx, evE_comp, evEs_nil, evEs_cons, evT_nil, evT_one, evI_seq, evI_rng1, evI_rng2, evI_enum, evI_zip, bnd_ok, bnd_exc, sof_ok, sof_exc, sq_nx, sq_rt, sq_bk, sq_ct, sq_exc, trn_nx, trn_ct, trn_bk, trn_rt, trn_exc, endR_nx, endR_rt, endR_exc, vr_zero, vr_succ, tupD_0, tupD_1, tupD_2, tupD_3, tupD_4, tupD_5, lstD_0, lstD_1, lstD_2, lstD_3, lstD_4, lstD_5, truthD_bl, truthD_non, iteD_t, iteD_f, iteS_t, iteS_f, negD_int, chnD_t, chnD_f, and_t, and_f, or_t, or_f, asgFD_z, asgFD_cons, raiseD_ok, bindT_nm, bindT_tp, bindT_pt, bindTs_nil, bindTs_cons, wipe_nil, wipe_cons, List.set_cons_zero, List.set_cons_succ, bin_add, bin_sub, bin_mul, bin_fdiv, bin_mod, bin_pow, addD_int, subD_int, cmp_eq_int, cmp_ne_int, cmp_lt_int, cmp_le_int, cmp_gt_int, cmp_ge_int, cmp_is_non, cmp_isnot_non, isNone_non, isNone_tup, isNone_fr, isNone_pt, bi_len_lst, bi_len_tup, bi_len_scr, bi_int, bi_abs, bi_gcd, bi_list_lst, bi_list_tup, bi_tuple_lst, bi_tuple_tup, bi_max2, bi_min2, ofOpt_some, seq_lst, seq_tup, partD_nil, partD_int, ix_fr0, ix_fr1, ix_pt0, ix_pt1, ix_t2_0, ix_t2_1, ix_t3_0, ix_t3_1, ix_t3_2, ix_t4_0, ix_t4_1, ix_t4_2, ix_t4_3, SM_call, SM_made, cmp_eq_fr, cmp_ne_fr, cmp_eq_pt, cmp_ne_pt, cmp_eq_lpt, cmp_ne_lpt, cmp_eq_tpt, cmp_ne_tpt, SM_hcall, decide_true, decide_false, Bool.not_true, Bool.not_false, mul_nn' ha hb, mul_dd ha hb, f_low n _ _ (dd_pos a b) h1 (ha.dd hb)]
theorem f_lless (n : Nat) {a b : Rat} (ha : Ok a) (hb : Ok b) : callN Pr (n + 1) 22 [fr a, fr b] = .ok (.bl (decide (a < b))) := by
  rw [e_law_less]
  simp -implicitDefEqProofs only [b22, iss_cons, iss_nil, ies_cons, ies_nil, evSs_cons, evSs_nil, evS_share, evS_asg, evS_asgF, evS_setF, evS_setI, evS_app, evS_pop, evS_expr, evS_ret, evS_retN, evS_if, evS_for, evS_while, evS_brk, evS_cont, evS_pass, evS_raise, evE_var, evE_lit, evE_glb, evE_tup, evE_lst, evE_bin, evE_neg, evE_not, evE_cmp, evE_chn, evE_boo, evB_one, evB_cons, evE_ite, evE_ix, evE_slc, evE_fld, evE_call, evE_callK, evE_callV, evE_makeK, evE_meth, evE_bi, evE_lcnt, evE_lidx, evE_isi, evE_isx, evE_comp, evEs_nil, evEs_cons, evT_nil, evT_one, evI_seq, evI_rng1, evI_rng2, evI_enum, evI_zip, bnd_ok, bnd_exc, sof_ok, sof_exc, sq_nx, sq_rt, sq_bk, sq_ct, sq_exc, trn_nx, trn_ct, trn_bk, trn_rt, trn_exc, endR_nx, endR_rt, endR_exc, vr_zero, vr_succ, tupD_0, tupD_1, tupD_2, tupD_3, tupD_4, tupD_5, lstD_0, lstD_1, lstD_2, lstD_3, lstD_4, lstD_5, truthD_bl, truthD_non, iteD_t, iteD_f, iteS_t, iteS_f, negD_int, chnD_t, chnD_f, and_t, and_f, or_t, or_f, asgFD_z, asgFD_cons, raiseD_ok, bindT_nm, bindT_tp, bindT_pt, bindTs_nil, bindTs_cons, wipe_nil, wipe_cons, List.set_cons_zero, List.set_cons_succ, bin_add, bin_sub, bin_mul, bin_fdiv, bin_mod, bin_pow, addD_int, subD_int, cmp_eq_int, cmp_ne_int, cmp_lt_int, cmp_le_int, cmp_gt_int, cmp_ge_int, cmp_is_non, cmp_isnot_non, isNone_non, isNone_tup, isNone_fr, isNone_pt, bi_len_lst, bi_len_tup, bi_len_scr, bi_int, bi_abs, bi_gcd, bi_list_lst, bi_list_tup, bi_tuple_lst, bi_tuple_tup, bi_max2, bi_min2, ofOpt_some, seq_lst, seq_tup, partD_nil, partD_int, ix_fr0, ix_fr1, ix_pt0, ix_pt1, ix_t2_0, ix_t2_1, ix_t3_0, ix_t3_1, ix_t3_2, ix_t4_0, ix_t4_1, ix_t4_2, ix_t4_3, SM_call, SM_made, cmp_eq_fr, cmp_ne_fr, cmp_eq_pt, cmp_ne_pt, cmp_eq_lpt, cmp_ne_lpt, cmp_eq_tpt, cmp_ne_tpt, SM_hcall, decide_true, decide_false, Bool.not_true, Bool.not_false, mul_nd ha hb, mul_nd hb ha, lt_iff']
theorem f_lover (n : Nat) {a b : Rat} (ha : Ok a) (hb : Ok b) (h0 : b ≠ 0) : callN Pr (n + 2) 21 [fr a, fr b] = .ok (fr (a / b)) := by
  have hn : b.num ≠ 0 := fun z => h0 (Rat.num_eq_zero.mp z)
  have h1 : (a.num * (b.den : Int)).natAbs < 2 ^ 8801 := Nat.lt_of_lt_of_le (cross_lt ha hb) (Nat.pow_le_pow_right (by decide) (by decide))
  have h2 : (-a.num * (b.den : Int)).natAbs < 2 ^ 8801 := by rw [Int.neg_mul, Int.natAbs_neg]; exact h1
  have h3 : (-(a.den : Int) * b.num).natAbs < 2 ^ 8800 := by rw [Int.neg_mul, Int.natAbs_neg]; exact ha.dn hb
  rw [e_law_over]
  by_cases hneg : b.num < 0
  · have hp : 0 < -(a.den : Int) * b.num := by
      have := Int.mul_pos (den_pos' a) (show 0 < -b.num by omega)
      rw [Int.mul_neg] at this
      rw [Int.neg_mul]; exact this
    rw [div_eq']
    simp -implicitDefEqProofs only [b21, v21_0, v21_1, iss_cons, iss_nil, ies_cons, ies_nil, evSs_cons, evSs_nil, evS_share, evS_asg, evS_asgF, evS_setF, evS_setI, evS_app, evS_pop, evS_expr, evS_ret, evS_retN, evS_if, evS_for, evS_while, evS_brk, evS_cont, evS_pass, evS_raise, evE_var, evE_lit, evE_glb, evE_tup, evE_lst, evE_bin, evE_neg, evE_not, evE_cmp, evE_chn, evE_boo, evB_one, evB_cons, evE_ite, evE_ix, evE_slc, evE_fld, evE_call, evE_callK, evE_callV, evE_makeK, evE_meth, evE_bi, evE_lcnt, evE_lidx, evE_isi, evE_isx, evE_comp, evEs_nil, evEs_cons, evT_nil, evT_one, evI_seq, evI_rng1, evI_rng2, evI_enum, evI_zip, bnd_ok, bnd_exc, sof_ok, sof_exc, sq_nx, sq_rt, sq_bk, sq_ct, sq_exc, trn_nx, trn_ct, trn_bk, trn_rt, trn_exc, endR_nx, endR_rt, endR_exc, vr_zero, vr_succ, tupD_0, tupD_1, tupD_2, tupD_3, tupD_4, tupD_5, lstD_0, lstD_1, lstD_2, lstD_3, lstD_4, lstD_5, truthD_bl, truthD_non, iteD_t, iteD_f, iteS_t, iteS_f, negD_int, chnD_t, chnD_f, and_t, and_f, or_t, or_f, asgFD_z, asgFD_cons, raiseD_ok, bindT_nm, bindT_tp, bindT_pt, bindTs_nil, bindTs_cons, wipe_nil, wipe_cons, List.set_cons_zero, List.set_cons_succ, bin_add, bin_sub, bin_mul, bin_fdiv, bin_mod, bin_pow, addD_int, subD_int, cmp_eq_int, cmp_ne_int, cmp_lt_int, cmp_le_int, cmp_gt_int, cmp_ge_int, cmp_is_non, cmp_isnot_non, isNone_non, isNone_tup, isNone_fr, isNone_pt, bi_len_lst, bi_len_tup, bi_len_scr, bi_int, bi_abs, bi_gcd, bi_list_lst, bi_list_tup, bi_tuple_lst, bi_tuple_tup, bi_max2, bi_min2, ofOpt_some, seq_lst, seq_tup, partD_nil, partD_int, ix_fr0, ix_fr1, ix_pt0, ix_pt1, ix_t2_0, ix_t2_1, ix_t3_0, ix_t3_1, ix_t3_2, ix_t4_0, ix_t4_1, ix_t4_2, ix_t4_3, SM_call, SM_made, cmp_eq_fr, cmp_ne_fr, cmp_eq_pt, cmp_ne_pt, cmp_eq_lpt, cmp_ne_lpt, cmp_eq_tpt, cmp_ne_tpt, SM_hcall, decide_true, decide_false, Bool.not_true, Bool.not_false, hneg, mul_mnd ha hb, mul_mdn ha hb, f_low n _ _ hp h2 h3]
  · have hp : 0 < (a.den : Int) * b.num := Int.mul_pos (den_pos' a) (by omega)
    rw [div_eq]
    simp -implicitDefEqProofs only [b21, v21_0, v21_1, iss_cons, iss_nil, ies_cons, ies_nil, evSs_cons, evSs_nil, evS_share, evS_asg, evS_asgF, evS_setF, evS_setI, evS_app, evS_pop, evS_expr, evS_ret, evS_retN, evS_if, evS_for, evS_while, evS_brk, evS_cont, evS_pass, evS_raise, evE_var, evE_lit, evE_glb, evE_tup, evE_lst, evE_bin, evE_neg, evE_not, evE_cmp, evE_chn, evE_boo, evB_one, evB_cons, evE_ite, evE_ix, evE_slc, evE_fld, evE_call, evE_callK, evE_callV, evE_makeK, evE_meth, evE_bi, evE_lcnt, evE_lidx, evE_isi, evE_isx, evE_comp, evEs_nil, evEs_cons, evT_nil, evT_one, evI_seq, evI_rng1, evI_rng2, evI_enum, evI_zip, bnd_ok, bnd_exc, sof_ok, sof_exc, sq_nx, sq_rt, sq_bk, sq_ct, sq_exc, trn_nx, trn_ct, trn_bk, trn_rt, trn_exc, endR_nx, endR_rt, endR_exc, vr_zero, vr_succ, tupD_0, tupD_1, tupD_2, tupD_3, tupD_4, tupD_5, lstD_0, lstD_1, lstD_2, lstD_3, lstD_4, lstD_5, truthD_bl, truthD_non, iteD_t, iteD_f, iteS_t, iteS_f, negD_int, chnD_t, chnD_f, and_t, and_f, or_t, or_f, asgFD_z, asgFD_cons, raiseD_ok, bindT_nm, bindT_tp, bindT_pt, bindTs_nil, bindTs_cons, wipe_nil, wipe_cons, List.set_cons_zero, List.set_cons_succ, bin_add, bin_sub, bin_mul, bin_fdiv, bin_mod, bin_pow, addD_int, subD_int, cmp_eq_int, cmp_ne_int, cmp_lt_int, cmp_le_int, cmp_gt_int, cmp_ge_int, cmp_is_non, cmp_isnot_non, isNone_non, isNone_tup, isNone_fr, isNone_pt, bi_len_lst, bi_len_tup, bi_len_scr, bi_int, bi_abs, bi_gcd, bi_list_lst, bi_list_tup, bi_tuple_lst, bi_tuple_tup, bi_max2, bi_min2, ofOpt_some, seq_lst, seq_tup, partD_nil, partD_int, ix_fr0, ix_fr1, ix_pt0, ix_pt1, ix_t2_0, ix_t2_1, ix_t3_0, ix_t3_1, ix_t3_2, ix_t4_0, ix_t4_1, ix_t4_2, ix_t4_3, SM_call, SM_made, cmp_eq_fr, cmp_ne_fr, cmp_eq_pt, cmp_ne_pt, cmp_eq_lpt, cmp_ne_lpt, cmp_eq_tpt, cmp_ne_tpt, SM_hcall, decide_true, decide_false, Bool.not_true, Bool.not_false, hneg, mul_nd ha hb, mul_dn ha hb, f_low n _ _ hp h1 (ha.dn hb)]
/-! ### lots: the program -/
def lotD (c : List Pt) : D := .ins 1 [(1, .tup (c.map pt))]
theorem fld_frontier (n : Nat) (c : List Pt) : fldD (SM n) 1 (lotD c) = .ok (.tup (c.map pt)) := rfl
theorem glb_ZERO (n : Nat) : (SM n).glb 0 = fr 0 := rfl
theorem glb_ONE (n : Nat) : (SM n).glb 1 = fr 1 := rfl
theorem ix_head {c : List Pt} (h : c ≠ []) : ixD (.tup (c.map pt)) (.int 0) = .ok (pt (headP c)) := ixD_tup (at_head h)
theorem ix_last {c : List Pt} (h : c ≠ []) : ixD (.tup (c.map pt)) (.int (-1)) = .ok (pt (lastP c)) := ixD_tup (at_last h)
theorem ixl_head {c : List Pt} (h : c ≠ []) : ixD (.lst (c.map pt)) (.int 0) = .ok (pt (headP c)) := ixD_lst (at_head h)
theorem ixl_last {c : List Pt} (h : c ≠ []) : ixD (.lst (c.map pt)) (.int (-1)) = .ok (pt (lastP c)) := ixD_lst (at_last h)
theorem f_check (n : Nat) {w : Rat} (hw : Wt w) (h : Ok w) : callN Pr (n + 2) 8 [fr w] = .ok .non := by
  have h0 : Ok (0 : Rat) := .of zero_sz (by decide)
  have h1 : Ok (1 : Rat) := .of one_sz (by decide)
  rw [e_check_weight]
  simp -implicitDefEqProofs only [b8, iss_cons, iss_nil, ies_cons, ies_nil, evSs_cons, evSs_nil, evS_share, evS_asg, evS_asgF, evS_setF, evS_setI, evS_app, evS_pop, evS_expr, evS_ret, evS_retN, evS_if, evS_for, evS_while, evS_brk, evS_cont, evS_pass, evS_raise, evE_var, evE_lit, evE_glb, evE_tup, evE_lst, evE_bin, evE_neg, evE_not, evE_cmp, evE_chn, evE_boo, evB_one, evB_cons, evE_ite, evE_ix, evE_slc, evE_fld, evE_call, evE_callK, evE_callV, evE_makeK, evE_meth, evE_bi, evE_lcnt, evE_lidx, evE_isi, evE_isx, evE_comp, evEs_nil, evEs_cons, evT_nil, evT_one, evI_seq, evI_rng1, evI_rng2, evI_enum, evI_zip, bnd_ok, bnd_exc, sof_ok, sof_exc, sq_nx, sq_rt, sq_bk, sq_ct, sq_exc, trn_nx, trn_ct, trn_bk, trn_rt, trn_exc, endR_nx, endR_rt, endR_exc, vr_zero, vr_succ, tupD_0, tupD_1, tupD_2, tupD_3, tupD_4, tupD_5, lstD_0, lstD_1, lstD_2, lstD_3, lstD_4, lstD_5, truthD_bl, truthD_non, iteD_t, iteD_f, iteS_t, iteS_f, negD_int, chnD_t, chnD_f, and_t, and_f, or_t, or_f, asgFD_z, asgFD_cons, raiseD_ok, bindT_nm, bindT_tp, bindT_pt, bindTs_nil, bindTs_cons, wipe_nil, wipe_cons, List.set_cons_zero, List.set_cons_succ, bin_add, bin_sub, bin_mul, bin_fdiv, bin_mod, bin_pow, addD_int, subD_int, cmp_eq_int, cmp_ne_int, cmp_lt_int, cmp_le_int, cmp_gt_int, cmp_ge_int, cmp_is_non, cmp_isnot_non, isNone_non, isNone_tup, isNone_fr, isNone_pt, bi_len_lst, bi_len_tup, bi_len_scr, bi_int, bi_abs, bi_gcd, bi_list_lst, bi_list_tup, bi_tuple_lst, bi_tuple_tup, bi_max2, bi_min2, ofOpt_some, seq_lst, seq_tup, partD_nil, partD_int, ix_fr0, ix_fr1, ix_pt0, ix_pt1, ix_t2_0, ix_t2_1, ix_t3_0, ix_t3_1, ix_t3_2, ix_t4_0, ix_t4_1, ix_t4_2, ix_t4_3, SM_call, SM_made, cmp_eq_fr, cmp_ne_fr, cmp_eq_pt, cmp_ne_pt, cmp_eq_lpt, cmp_ne_lpt, cmp_eq_tpt, cmp_ne_tpt, SM_hcall, decide_true, decide_false, Bool.not_true, Bool.not_false, glb_ZERO, glb_ONE, f_below n h0 h, f_below n h h1, hw.lo, hw.hi]
theorem f_check_bad (n : Nat) {w : Rat} (hw : ¬ Wt w) (h : Ok w) : callN Pr (n + 2) 8 [fr w] = .exc 4 none := by
  have h0 : Ok (0 : Rat) := .of zero_sz (by decide)
  have h1 : Ok (1 : Rat) := .of one_sz (by decide)
  rw [e_check_weight]
  by_cases h2 : 0 < w
  · have h3 : ¬ w < 1 := fun h3 => hw ⟨h2, h3⟩
    simp -implicitDefEqProofs only [b8, iss_cons, iss_nil, ies_cons, ies_nil, evSs_cons, evSs_nil, evS_share, evS_asg, evS_asgF, evS_setF, evS_setI, evS_app, evS_pop, evS_expr, evS_ret, evS_retN, evS_if, evS_for, evS_while, evS_brk, evS_cont, evS_pass, evS_raise, evE_var, evE_lit, evE_glb, evE_tup, evE_lst, evE_bin, evE_neg, evE_not, evE_cmp, evE_chn, evE_boo, evB_one, evB_cons, evE_ite, evE_ix, evE_slc, evE_fld, evE_call, evE_callK, evE_callV, evE_makeK, evE_meth, evE_bi, evE_lcnt, evE_lidx, evE_isi, evE_isx, evE_comp, evEs_nil, evEs_cons, evT_nil, evT_one, evI_seq, evI_rng1, evI_rng2, evI_enum, evI_zip, bnd_ok, bnd_exc, sof_ok, sof_exc, sq_nx, sq_rt, sq_bk, sq_ct, sq_exc, trn_nx, trn_ct, trn_bk, trn_rt, trn_exc, endR_nx, endR_rt, endR_exc, vr_zero, vr_succ, tupD_0, tupD_1, tupD_2, tupD_3, tupD_4, tupD_5, lstD_0, lstD_1, lstD_2, lstD_3, lstD_4, lstD_5, truthD_bl, truthD_non, iteD_t, iteD_f, iteS_t, iteS_f, negD_int, chnD_t, chnD_f, and_t, and_f, or_t, or_f, asgFD_z, asgFD_cons, raiseD_ok, bindT_nm, bindT_tp, bindT_pt, bindTs_nil, bindTs_cons, wipe_nil, wipe_cons, List.set_cons_zero, List.set_cons_succ, bin_add, bin_sub, bin_mul, bin_fdiv, bin_mod, bin_pow, addD_int, subD_int, cmp_eq_int, cmp_ne_int, cmp_lt_int, cmp_le_int, cmp_gt_int, cmp_ge_int, cmp_is_non, cmp_isnot_non, isNone_non, isNone_tup, isNone_fr, isNone_pt, bi_len_lst, bi_len_tup, bi_len_scr, bi_int, bi_abs, bi_gcd, bi_list_lst, bi_list_tup, bi_tuple_lst, bi_tuple_tup, bi_max2, bi_min2, ofOpt_some, seq_lst, seq_tup, partD_nil, partD_int, ix_fr0, ix_fr1, ix_pt0, ix_pt1, ix_t2_0, ix_t2_1, ix_t3_0, ix_t3_1, ix_t3_2, ix_t4_0, ix_t4_1, ix_t4_2, ix_t4_3, SM_call, SM_made, cmp_eq_fr, cmp_ne_fr, cmp_eq_pt, cmp_ne_pt, cmp_eq_lpt, cmp_ne_lpt, cmp_eq_tpt, cmp_ne_tpt, SM_hcall, decide_true, decide_false, Bool.not_true, Bool.not_false, glb_ZERO, glb_ONE, f_below n h0 h, f_below n h h1, h2, h3]
  · simp -implicitDefEqProofs only [b8, iss_cons, iss_nil, ies_cons, ies_nil, evSs_cons, evSs_nil, evS_share, evS_asg, evS_asgF, evS_setF, evS_setI, evS_app, evS_pop, evS_expr, evS_ret, evS_retN, evS_if, evS_for, evS_while, evS_brk, evS_cont, evS_pass, evS_raise, evE_var, evE_lit, evE_glb, evE_tup, evE_lst, evE_bin, evE_neg, evE_not, evE_cmp, evE_chn, evE_boo, evB_one, evB_cons, evE_ite, evE_ix, evE_slc, evE_fld, evE_call, evE_callK, evE_callV, evE_makeK, evE_meth, evE_bi, evE_lcnt, evE_lidx, evE_isi, evE_isx, evE_comp, evEs_nil, evEs_cons, evT_nil, evT_one, evI_seq, evI_rng1, evI_rng2, evI_enum, evI_zip, bnd_ok, bnd_exc, sof_ok, sof_exc, sq_nx, sq_rt, sq_bk, sq_ct, sq_exc, trn_nx, trn_ct, trn_bk, trn_rt, trn_exc, endR_nx, endR_rt, endR_exc, vr_zero, vr_succ, tupD_0, tupD_1, tupD_2, tupD_3, tupD_4, tupD_5, lstD_0, lstD_1, lstD_2, lstD_3, lstD_4, lstD_5, truthD_bl, truthD_non, iteD_t, iteD_f, iteS_t, iteS_f, negD_int, chnD_t, chnD_f, and_t, and_f, or_t, or_f, asgFD_z, asgFD_cons, raiseD_ok, bindT_nm, bindT_tp, bindT_pt, bindTs_nil, bindTs_cons, wipe_nil, wipe_cons, List.set_cons_zero, List.set_cons_succ, bin_add, bin_sub, bin_mul, bin_fdiv, bin_mod, bin_pow, addD_int, subD_int, cmp_eq_int, cmp_ne_int, cmp_lt_int, cmp_le_int, cmp_gt_int, cmp_ge_int, cmp_is_non, cmp_isnot_non, isNone_non, isNone_tup, isNone_fr, isNone_pt, bi_len_lst, bi_len_tup, bi_len_scr, bi_int, bi_abs, bi_gcd, bi_list_lst, bi_list_tup, bi_tuple_lst, bi_tuple_tup, bi_max2, bi_min2, ofOpt_some, seq_lst, seq_tup, partD_nil, partD_int, ix_fr0, ix_fr1, ix_pt0, ix_pt1, ix_t2_0, ix_t2_1, ix_t3_0, ix_t3_1, ix_t3_2, ix_t4_0, ix_t4_1, ix_t4_2, ix_t4_3, SM_call, SM_made, cmp_eq_fr, cmp_ne_fr, cmp_eq_pt, cmp_ne_pt, cmp_eq_lpt, cmp_ne_lpt, cmp_eq_tpt, cmp_ne_tpt, SM_hcall, decide_true, decide_false, Bool.not_true, Bool.not_false, glb_ZERO, glb_ONE, f_below n h0 h, f_below n h h1, h2]
theorem f_weighed (n : Nat) {f p : Pt} (h1 : Ok f.1) (h2 : Ok f.2) (h3 : Ok p.1) (h4 : Ok p.2) (h5 : Ok (f.1 * p.1)) (h6 : Ok (f.2 * p.2)) : callN Pr (n + 3) 9 [pt f, pt p] = .ok (fr (f.1 * p.1 + f.2 * p.2)) := by
  rw [e_weighed]
  simp -implicitDefEqProofs only [b9, iss_cons, iss_nil, ies_cons, ies_nil, evSs_cons, evSs_nil, evS_share, evS_asg, evS_asgF, evS_setF, evS_setI, evS_app, evS_pop, evS_expr, evS_ret, evS_retN, evS_if, evS_for, evS_while, evS_brk, evS_cont, evS_pass, evS_raise, evE_var, evE_lit, evE_glb, evE_tup, evE_lst, evE_bin, evE_neg, evE_not, evE_cmp, evE_chn, evE_boo, evB_one, evB_cons, evE_ite, evE_ix, evE_slc, evE_fld, evE_call, evE_callK, evE_callV, evE_makeK, evE_meth, evE_bi, evE_lcnt, evE_lidx, evE_isi, evE_isx, evE_comp, evEs_nil, evEs_cons, evT_nil, evT_one, evI_seq, evI_rng1, evI_rng2, evI_enum, evI_zip, bnd_ok, bnd_exc, sof_ok, sof_exc, sq_nx, sq_rt, sq_bk, sq_ct, sq_exc, trn_nx, trn_ct, trn_bk, trn_rt, trn_exc, endR_nx, endR_rt, endR_exc, vr_zero, vr_succ, tupD_0, tupD_1, tupD_2, tupD_3, tupD_4, tupD_5, lstD_0, lstD_1, lstD_2, lstD_3, lstD_4, lstD_5, truthD_bl, truthD_non, iteD_t, iteD_f, iteS_t, iteS_f, negD_int, chnD_t, chnD_f, and_t, and_f, or_t, or_f, asgFD_z, asgFD_cons, raiseD_ok, bindT_nm, bindT_tp, bindT_pt, bindTs_nil, bindTs_cons, wipe_nil, wipe_cons, List.set_cons_zero, List.set_cons_succ, bin_add, bin_sub, bin_mul, bin_fdiv, bin_mod, bin_pow, addD_int, subD_int, cmp_eq_int, cmp_ne_int, cmp_lt_int, cmp_le_int, cmp_gt_int, cmp_ge_int, cmp_is_non, cmp_isnot_non, isNone_non, isNone_tup, isNone_fr, isNone_pt, bi_len_lst, bi_len_tup, bi_len_scr, bi_int, bi_abs, bi_gcd, bi_list_lst, bi_list_tup, bi_tuple_lst, bi_tuple_tup, bi_max2, bi_min2, ofOpt_some, seq_lst, seq_tup, partD_nil, partD_int, ix_fr0, ix_fr1, ix_pt0, ix_pt1, ix_t2_0, ix_t2_1, ix_t3_0, ix_t3_1, ix_t3_2, ix_t4_0, ix_t4_1, ix_t4_2, ix_t4_3, SM_call, SM_made, cmp_eq_fr, cmp_ne_fr, cmp_eq_pt, cmp_ne_pt, cmp_eq_lpt, cmp_ne_lpt, cmp_eq_tpt, cmp_ne_tpt, SM_hcall, decide_true, decide_false, Bool.not_true, Bool.not_false, f_times n h1 h3, f_times n h2 h4, f_plus n h5 h6]
def edgeD (e : Pt × Pt) : D := .tup [pt e.1, pt e.2, pt (e.1.2 - e.2.2, e.2.1 - e.1.1)]
theorem f_lot_edges (n : Nat) {c : List Pt} (hc : c ≠ []) (hl : c.length ≤ 1000) (hs : SzC 1000 c) : callN Pr (n + 3) 10 [lotD c] = .ok (.lst ((edges c).map edgeD)) := by
  have hlen : (edgesI c 1).length ≤ 1000 := by
    exact Nat.le_trans (edgesI_len c 1) hl
  obtain ⟨ρ', h1, h2⟩ := forL_inv (t := .nm 2) (b := evSs (SM (n + 2)) b10_0) (fun e => .int e.1) (fun done rest ρ => ∃ x y z, ρ = [some (lotD c), some (.lst (done.map fun e => edgeD e.2)), x, y, z]) (edgesI c 1) [] (fun d e r ρ he hi => by
    obtain ⟨x, y, z, rfl⟩ := hi
    have hm : e ∈ edgesI c 1 := by
      have : e ∈ d ++ e :: r := by simp
      rw [he] at this
      simpa using this
    obtain ⟨k1, k2, k3⟩ := edgesI_ix hm
    have hlt : (d.map fun e => edgeD e.2).length < maxLen := by
      have := congrArg List.length he
      simp only [List.length_append, List.length_cons, List.length_nil, List.length_map] at *
      show d.length < 16777216
      omega
    obtain ⟨s1, s2⟩ := hs.edge k3
    have o1 : Ok e.2.1.2 := .of s1.2 (by decide)
    have o2 : Ok e.2.2.2 := .of s2.2 (by decide)
    have o3 : Ok e.2.2.1 := .of s2.1 (by decide)
    have o4 : Ok e.2.1.1 := .of s1.1 (by decide)
    refine ⟨_, ?_, some (.int e.1), some (pt e.2.1), some (pt e.2.2), rfl⟩
    simp -implicitDefEqProofs only [u10_0, iss_cons, iss_nil, ies_cons, ies_nil, evSs_cons, evSs_nil, evS_share, evS_asg, evS_asgF, evS_setF, evS_setI, evS_app, evS_pop, evS_expr, evS_ret, evS_retN, evS_if, evS_for, evS_while, evS_brk, evS_cont, evS_pass, evS_raise, evE_var, evE_lit, evE_glb, evE_tup, evE_lst, evE_bin, evE_neg, evE_not, evE_cmp, evE_chn, evE_boo, evB_one, evB_cons, evE_ite, evE_ix, evE_slc, evE_fld, evE_call, evE_callK, evE_callV, evE_makeK, evE_meth, evE_bi, evE_lcnt, evE_lidx, evE_isi, evE_isx, evE_comp, evEs_nil, evEs_cons, evT_nil, evT_one, evI_seq, evI_rng1, evI_rng2, evI_enum, evI_zip, bnd_ok, bnd_exc, sof_ok, sof_exc, sq_nx, sq_rt, sq_bk, sq_ct, sq_exc, trn_nx, trn_ct, trn_bk, trn_rt, trn_exc, endR_nx, endR_rt, endR_exc, vr_zero, vr_succ, tupD_0, tupD_1, tupD_2, tupD_3, tupD_4, tupD_5, lstD_0, lstD_1, lstD_2, lstD_3, lstD_4, lstD_5, truthD_bl, truthD_non, iteD_t, iteD_f, iteS_t, iteS_f, negD_int, chnD_t, chnD_f, and_t, and_f, or_t, or_f, asgFD_z, asgFD_cons, raiseD_ok, bindT_nm, bindT_tp, bindT_pt, bindTs_nil, bindTs_cons, wipe_nil, wipe_cons, List.set_cons_zero, List.set_cons_succ, bin_add, bin_sub, bin_mul, bin_fdiv, bin_mod, bin_pow, addD_int, subD_int, cmp_eq_int, cmp_ne_int, cmp_lt_int, cmp_le_int, cmp_gt_int, cmp_ge_int, cmp_is_non, cmp_isnot_non, isNone_non, isNone_tup, isNone_fr, isNone_pt, bi_len_lst, bi_len_tup, bi_len_scr, bi_int, bi_abs, bi_gcd, bi_list_lst, bi_list_tup, bi_tuple_lst, bi_tuple_tup, bi_max2, bi_min2, ofOpt_some, seq_lst, seq_tup, partD_nil, partD_int, ix_fr0, ix_fr1, ix_pt0, ix_pt1, ix_t2_0, ix_t2_1, ix_t3_0, ix_t3_1, ix_t3_2, ix_t4_0, ix_t4_1, ix_t4_2, ix_t4_3, SM_call, SM_made, cmp_eq_fr, cmp_ne_fr, cmp_eq_pt, cmp_ne_pt, cmp_eq_lpt, cmp_ne_lpt, cmp_eq_tpt, cmp_ne_tpt, SM_hcall, decide_true, decide_false, Bool.not_true, Bool.not_false, fld_frontier, ixD_tup k1, ixD_tup k2, f_minus n o1 o2, f_minus n o3 o4, pt_mk, appD_ok _ _ _ hlt, List.map_append, List.map_cons, List.map_nil]
    rfl) [some (lotD c), some (.lst []), none, none, none] ⟨none, none, none, rfl⟩
  obtain ⟨x, y, z, rfl⟩ := h2
  rw [e_lot_edges]
  simp -implicitDefEqProofs only [b10, v10_0, v10_1, v10_2, iss_cons, iss_nil, ies_cons, ies_nil, evSs_cons, evSs_nil, evS_share, evS_asg, evS_asgF, evS_setF, evS_setI, evS_app, evS_pop, evS_expr, evS_ret, evS_retN, evS_if, evS_for, evS_while, evS_brk, evS_cont, evS_pass, evS_raise, evE_var, evE_lit, evE_glb, evE_tup, evE_lst, evE_bin, evE_neg, evE_not, evE_cmp, evE_chn, evE_boo, evB_one, evB_cons, evE_ite, evE_ix, evE_slc, evE_fld, evE_call, evE_callK, evE_callV, evE_makeK, evE_meth, evE_bi, evE_lcnt, evE_lidx, evE_isi, evE_isx, evE_comp, evEs_nil, evEs_cons, evT_nil, evT_one, evI_seq, evI_rng1, evI_rng2, evI_enum, evI_zip, bnd_ok, bnd_exc, sof_ok, sof_exc, sq_nx, sq_rt, sq_bk, sq_ct, sq_exc, trn_nx, trn_ct, trn_bk, trn_rt, trn_exc, endR_nx, endR_rt, endR_exc, vr_zero, vr_succ, tupD_0, tupD_1, tupD_2, tupD_3, tupD_4, tupD_5, lstD_0, lstD_1, lstD_2, lstD_3, lstD_4, lstD_5, truthD_bl, truthD_non, iteD_t, iteD_f, iteS_t, iteS_f, negD_int, chnD_t, chnD_f, and_t, and_f, or_t, or_f, asgFD_z, asgFD_cons, raiseD_ok, bindT_nm, bindT_tp, bindT_pt, bindTs_nil, bindTs_cons, wipe_nil, wipe_cons, List.set_cons_zero, List.set_cons_succ, bin_add, bin_sub, bin_mul, bin_fdiv, bin_mod, bin_pow, addD_int, subD_int, cmp_eq_int, cmp_ne_int, cmp_lt_int, cmp_le_int, cmp_gt_int, cmp_ge_int, cmp_is_non, cmp_isnot_non, isNone_non, isNone_tup, isNone_fr, isNone_pt, bi_len_lst, bi_len_tup, bi_len_scr, bi_int, bi_abs, bi_gcd, bi_list_lst, bi_list_tup, bi_tuple_lst, bi_tuple_tup, bi_max2, bi_min2, ofOpt_some, seq_lst, seq_tup, partD_nil, partD_int, ix_fr0, ix_fr1, ix_pt0, ix_pt1, ix_t2_0, ix_t2_1, ix_t3_0, ix_t3_1, ix_t3_2, ix_t4_0, ix_t4_1, ix_t4_2, ix_t4_3, SM_call, SM_made, cmp_eq_fr, cmp_ne_fr, cmp_eq_pt, cmp_ne_pt, cmp_eq_lpt, cmp_ne_lpt, cmp_eq_tpt, cmp_ne_tpt, SM_hcall, decide_true, decide_false, Bool.not_true, Bool.not_false, fld_frontier, List.length_map, rng2_edges hc hl, h1]
  rw [← edgesI_edges c 1, List.map_map]
  rfl
theorem f_most (n : Nat) {c : List Pt} (hc : c ≠ []) : callN Pr (n + 1) 44 [lotD c] = .ok (pt (topP c)) := by
  rw [e_Lot_most]
  simp -implicitDefEqProofs only [b44, iss_cons, iss_nil, ies_cons, ies_nil, evSs_cons, evSs_nil, evS_share, evS_asg, evS_asgF, evS_setF, evS_setI, evS_app, evS_pop, evS_expr, evS_ret, evS_retN, evS_if, evS_for, evS_while, evS_brk, evS_cont, evS_pass, evS_raise, evE_var, evE_lit, evE_glb, evE_tup, evE_lst, evE_bin, evE_neg, evE_not, evE_cmp, evE_chn, evE_boo, evB_one, evB_cons, evE_ite, evE_ix, evE_slc, evE_fld, evE_call, evE_callK, evE_callV, evE_makeK, evE_meth, evE_bi, evE_lcnt, evE_lidx, evE_isi, evE_isx, evE_comp, evEs_nil, evEs_cons, evT_nil, evT_one, evI_seq, evI_rng1, evI_rng2, evI_enum, evI_zip, bnd_ok, bnd_exc, sof_ok, sof_exc, sq_nx, sq_rt, sq_bk, sq_ct, sq_exc, trn_nx, trn_ct, trn_bk, trn_rt, trn_exc, endR_nx, endR_rt, endR_exc, vr_zero, vr_succ, tupD_0, tupD_1, tupD_2, tupD_3, tupD_4, tupD_5, lstD_0, lstD_1, lstD_2, lstD_3, lstD_4, lstD_5, truthD_bl, truthD_non, iteD_t, iteD_f, iteS_t, iteS_f, negD_int, chnD_t, chnD_f, and_t, and_f, or_t, or_f, asgFD_z, asgFD_cons, raiseD_ok, bindT_nm, bindT_tp, bindT_pt, bindTs_nil, bindTs_cons, wipe_nil, wipe_cons, List.set_cons_zero, List.set_cons_succ, bin_add, bin_sub, bin_mul, bin_fdiv, bin_mod, bin_pow, addD_int, subD_int, cmp_eq_int, cmp_ne_int, cmp_lt_int, cmp_le_int, cmp_gt_int, cmp_ge_int, cmp_is_non, cmp_isnot_non, isNone_non, isNone_tup, isNone_fr, isNone_pt, bi_len_lst, bi_len_tup, bi_len_scr, bi_int, bi_abs, bi_gcd, bi_list_lst, bi_list_tup, bi_tuple_lst, bi_tuple_tup, bi_max2, bi_min2, ofOpt_some, seq_lst, seq_tup, partD_nil, partD_int, ix_fr0, ix_fr1, ix_pt0, ix_pt1, ix_t2_0, ix_t2_1, ix_t3_0, ix_t3_1, ix_t3_2, ix_t4_0, ix_t4_1, ix_t4_2, ix_t4_3, SM_call, SM_made, cmp_eq_fr, cmp_ne_fr, cmp_eq_pt, cmp_ne_pt, cmp_eq_lpt, cmp_ne_lpt, cmp_eq_tpt, cmp_ne_tpt, SM_hcall, decide_true, decide_false, Bool.not_true, Bool.not_false, fld_frontier, ix_head hc, ix_last hc, pt_mk]
  rfl
theorem fld_most (n : Nat) {c : List Pt} (hc : c ≠ []) : fldD (SM (n + 1)) 2 (lotD c) = .ok (pt (topP c)) := by
  show noexc (callN Pr (n + 1) 44 [lotD c]) = _
  rw [f_most n hc]
  rfl
theorem f_loss_point (n : Nat) {c : List Pt} (h : Ch c) (hl : c.length ≤ 1000) (hs : SzC 100 c) {w : Rat} (hw : Wt w) (hz : Sz 100 w) : callN Pr (n + 5) 11 [lotD c, fr w] = .ok (pt (lossPt c w)) := by
  have hc := h.ne
  have ow : Ok w := .of hz (by decide)
  have o1 : Ok (1 : Rat) := .of one_sz (by decide)
  have oway : Ok (1 - w) := .of (way_sz hz) (by decide)
  have ht := hs.topP hc
  have ot : OkP (topP c) := ⟨.of ht.1 (by decide), .of ht.2 (by decide)⟩
  obtain ⟨ρ', h1, h2⟩ := forL_fold (t := .tp [.nm 4, .nm 5, .nm 6]) (b := evSs (SM (n + 4)) b11_0) edgeD (fun (s : Rat) ρ => Sz 1410 s ∧ ∃ x y z u, ρ = [some (lotD c), some (fr w), some (pt (w, 1 - w)), some (fr s), x, y, z, u]) (fun s e => maxR s (ratio c w e)) (edges c) (fun s e ρ he hi => by
    obtain ⟨hsz, x, y, z, u, rfl⟩ := hi
    obtain ⟨s1, s2⟩ := hs.edge he
    obtain ⟨n1, n2⟩ := nrm_sz hs he
    have r1 := ratio_sz hc hs hz he
    have g1 : Sz 201 ((topP c).1 - e.1.1) := ht.1.sub s1.1
    have g2 : Sz 201 ((topP c).2 - e.1.2) := ht.2.sub s1.2
    have m1 := n1.mul g1
    have m2 := n2.mul g2
    have m3 := n1.mul hz
    have m4 := n2.mul (way_sz hz)
    have hne : (e.1.2 - e.2.2) * w + (e.2.1 - e.1.1) * (1 - w) ≠ 0 := by have := den_pos_w (h.edge_falls he) hw; grind
    have q1 := f_gap (n + 1) ot (q := e.1) ⟨.of s1.1 (by decide), .of s1.2 (by decide)⟩
    have q2 := f_weighed (n + 1) (f := (e.1.2 - e.2.2, e.2.1 - e.1.1)) (p := ((topP c).1 - e.1.1, (topP c).2 - e.1.2)) (.of n1 (by decide)) (.of n2 (by decide)) (.of g1 (by decide)) (.of g2 (by decide)) (.of m1 (by decide)) (.of m2 (by decide))
    have q3 := f_weighed (n + 1) (f := (e.1.2 - e.2.2, e.2.1 - e.1.1)) (p := (w, 1 - w)) (.of n1 (by decide)) (.of n2 (by decide)) ow oway (.of m3 (by decide)) (.of m4 (by decide))
    have q4 := f_over (n + 2) (a := (e.1.2 - e.2.2) * ((topP c).1 - e.1.1) + (e.2.1 - e.1.1) * ((topP c).2 - e.1.2)) (b := (e.1.2 - e.2.2) * w + (e.2.1 - e.1.1) * (1 - w)) (.of (m1.add m2) (by decide)) (.of (m3.add m4) (by decide)) hne
    have q5 := f_larger (n + 2) (a := s) (b := ratio c w e) (.of hsz (by decide)) (.of r1 (by decide))
    refine ⟨_, ?_, maxR_sz hsz r1, some (pt e.1), some (pt e.2), some (pt (e.1.2 - e.2.2, e.2.1 - e.1.1)), some (fr ((e.1.2 - e.2.2) * ((topP c).1 - e.1.1) + (e.2.1 - e.1.1) * ((topP c).2 - e.1.2))), rfl⟩
    simp -implicitDefEqProofs only [edgeD, u11_0, iss_cons, iss_nil, ies_cons, ies_nil, evSs_cons, evSs_nil, evS_share, evS_asg, evS_asgF, evS_setF, evS_setI, evS_app, evS_pop, evS_expr, evS_ret, evS_retN, evS_if, evS_for, evS_while, evS_brk, evS_cont, evS_pass, evS_raise, evE_var, evE_lit, evE_glb, evE_tup, evE_lst, evE_bin, evE_neg, evE_not, evE_cmp, evE_chn, evE_boo, evB_one, evB_cons, evE_ite, evE_ix, evE_slc, evE_fld, evE_call, evE_callK, evE_callV, evE_makeK, evE_meth, evE_bi, evE_lcnt, evE_lidx, evE_isi, evE_isx, evE_comp, evEs_nil, evEs_cons, evT_nil, evT_one, evI_seq, evI_rng1, evI_rng2, evI_enum, evI_zip, bnd_ok, bnd_exc, sof_ok, sof_exc, sq_nx, sq_rt, sq_bk, sq_ct, sq_exc, trn_nx, trn_ct, trn_bk, trn_rt, trn_exc, endR_nx, endR_rt, endR_exc, vr_zero, vr_succ, tupD_0, tupD_1, tupD_2, tupD_3, tupD_4, tupD_5, lstD_0, lstD_1, lstD_2, lstD_3, lstD_4, lstD_5, truthD_bl, truthD_non, iteD_t, iteD_f, iteS_t, iteS_f, negD_int, chnD_t, chnD_f, and_t, and_f, or_t, or_f, asgFD_z, asgFD_cons, raiseD_ok, bindT_nm, bindT_tp, bindT_pt, bindTs_nil, bindTs_cons, wipe_nil, wipe_cons, List.set_cons_zero, List.set_cons_succ, bin_add, bin_sub, bin_mul, bin_fdiv, bin_mod, bin_pow, addD_int, subD_int, cmp_eq_int, cmp_ne_int, cmp_lt_int, cmp_le_int, cmp_gt_int, cmp_ge_int, cmp_is_non, cmp_isnot_non, isNone_non, isNone_tup, isNone_fr, isNone_pt, bi_len_lst, bi_len_tup, bi_len_scr, bi_int, bi_abs, bi_gcd, bi_list_lst, bi_list_tup, bi_tuple_lst, bi_tuple_tup, bi_max2, bi_min2, ofOpt_some, seq_lst, seq_tup, partD_nil, partD_int, ix_fr0, ix_fr1, ix_pt0, ix_pt1, ix_t2_0, ix_t2_1, ix_t3_0, ix_t3_1, ix_t3_2, ix_t4_0, ix_t4_1, ix_t4_2, ix_t4_3, SM_call, SM_made, cmp_eq_fr, cmp_ne_fr, cmp_eq_pt, cmp_ne_pt, cmp_eq_lpt, cmp_ne_lpt, cmp_eq_tpt, cmp_ne_tpt, SM_hcall, decide_true, decide_false, Bool.not_true, Bool.not_false, fld_most _ hc, q1, q2, q3, q4]
    rw [show ((e.1.2 - e.2.2) * ((topP c).1 - e.1.1) + (e.2.1 - e.1.1) * ((topP c).2 - e.1.2)) / ((e.1.2 - e.2.2) * w + (e.2.1 - e.1.1) * (1 - w)) = ratio c w e from rfl]
    simp -implicitDefEqProofs only [iss_cons, iss_nil, ies_cons, ies_nil, evSs_cons, evSs_nil, evS_share, evS_asg, evS_asgF, evS_setF, evS_setI, evS_app, evS_pop, evS_expr, evS_ret, evS_retN, evS_if, evS_for, evS_while, evS_brk, evS_cont, evS_pass, evS_raise, evE_var, evE_lit, evE_glb, evE_tup, evE_lst, evE_bin, evE_neg, evE_not, evE_cmp, evE_chn, evE_boo, evB_one, evB_cons, evE_ite, evE_ix, evE_slc, evE_fld, evE_call, evE_callK, evE_callV, evE_makeK, evE_meth, evE_bi, evE_lcnt, evE_lidx, evE_isi, evE_isx, evE_comp, evEs_nil, evEs_cons, evT_nil, evT_one, evI_seq, evI_rng1, evI_rng2, evI_enum, evI_zip, bnd_ok, bnd_exc, sof_ok, sof_exc, sq_nx, sq_rt, sq_bk, sq_ct, sq_exc, trn_nx, trn_ct, trn_bk, trn_rt, trn_exc, endR_nx, endR_rt, endR_exc, vr_zero, vr_succ, tupD_0, tupD_1, tupD_2, tupD_3, tupD_4, tupD_5, lstD_0, lstD_1, lstD_2, lstD_3, lstD_4, lstD_5, truthD_bl, truthD_non, iteD_t, iteD_f, iteS_t, iteS_f, negD_int, chnD_t, chnD_f, and_t, and_f, or_t, or_f, asgFD_z, asgFD_cons, raiseD_ok, bindT_nm, bindT_tp, bindT_pt, bindTs_nil, bindTs_cons, wipe_nil, wipe_cons, List.set_cons_zero, List.set_cons_succ, bin_add, bin_sub, bin_mul, bin_fdiv, bin_mod, bin_pow, addD_int, subD_int, cmp_eq_int, cmp_ne_int, cmp_lt_int, cmp_le_int, cmp_gt_int, cmp_ge_int, cmp_is_non, cmp_isnot_non, isNone_non, isNone_tup, isNone_fr, isNone_pt, bi_len_lst, bi_len_tup, bi_len_scr, bi_int, bi_abs, bi_gcd, bi_list_lst, bi_list_tup, bi_tuple_lst, bi_tuple_tup, bi_max2, bi_min2, ofOpt_some, seq_lst, seq_tup, partD_nil, partD_int, ix_fr0, ix_fr1, ix_pt0, ix_pt1, ix_t2_0, ix_t2_1, ix_t3_0, ix_t3_1, ix_t3_2, ix_t4_0, ix_t4_1, ix_t4_2, ix_t4_3, SM_call, SM_made, cmp_eq_fr, cmp_ne_fr, cmp_eq_pt, cmp_ne_pt, cmp_eq_lpt, cmp_ne_lpt, cmp_eq_tpt, cmp_ne_tpt, SM_hcall, decide_true, decide_false, Bool.not_true, Bool.not_false, q5]) 0 [some (lotD c), some (fr w), some (pt (w, 1 - w)), some (fr 0), none, none, none, none] ⟨zero_sz.mono (by decide), none, none, none, none, rfl⟩
  have hf : (edges c).foldl (fun s e => maxR s (ratio c w e)) 0 = far c w := by unfold far; rw [List.foldl_map]
  obtain ⟨_, x, y, z, u, rfl⟩ := h2
  rw [hf] at h1
  have f1 := far_sz hc hs hz
  have p1 := f1.mul hz
  have p2 := f1.mul (way_sz hz)
  have q6 := f_gap (n + 1) ot (q := (far c w * w, far c w * (1 - w))) ⟨.of p1 (by decide), .of p2 (by decide)⟩
  rw [e_loss_point]
  simp -implicitDefEqProofs only [b11, v11_0, v11_1, v11_2, v11_3, v11_4, iss_cons, iss_nil, ies_cons, ies_nil, evSs_cons, evSs_nil, evS_share, evS_asg, evS_asgF, evS_setF, evS_setI, evS_app, evS_pop, evS_expr, evS_ret, evS_retN, evS_if, evS_for, evS_while, evS_brk, evS_cont, evS_pass, evS_raise, evE_var, evE_lit, evE_glb, evE_tup, evE_lst, evE_bin, evE_neg, evE_not, evE_cmp, evE_chn, evE_boo, evB_one, evB_cons, evE_ite, evE_ix, evE_slc, evE_fld, evE_call, evE_callK, evE_callV, evE_makeK, evE_meth, evE_bi, evE_lcnt, evE_lidx, evE_isi, evE_isx, evE_comp, evEs_nil, evEs_cons, evT_nil, evT_one, evI_seq, evI_rng1, evI_rng2, evI_enum, evI_zip, bnd_ok, bnd_exc, sof_ok, sof_exc, sq_nx, sq_rt, sq_bk, sq_ct, sq_exc, trn_nx, trn_ct, trn_bk, trn_rt, trn_exc, endR_nx, endR_rt, endR_exc, vr_zero, vr_succ, tupD_0, tupD_1, tupD_2, tupD_3, tupD_4, tupD_5, lstD_0, lstD_1, lstD_2, lstD_3, lstD_4, lstD_5, truthD_bl, truthD_non, iteD_t, iteD_f, iteS_t, iteS_f, negD_int, chnD_t, chnD_f, and_t, and_f, or_t, or_f, asgFD_z, asgFD_cons, raiseD_ok, bindT_nm, bindT_tp, bindT_pt, bindTs_nil, bindTs_cons, wipe_nil, wipe_cons, List.set_cons_zero, List.set_cons_succ, bin_add, bin_sub, bin_mul, bin_fdiv, bin_mod, bin_pow, addD_int, subD_int, cmp_eq_int, cmp_ne_int, cmp_lt_int, cmp_le_int, cmp_gt_int, cmp_ge_int, cmp_is_non, cmp_isnot_non, isNone_non, isNone_tup, isNone_fr, isNone_pt, bi_len_lst, bi_len_tup, bi_len_scr, bi_int, bi_abs, bi_gcd, bi_list_lst, bi_list_tup, bi_tuple_lst, bi_tuple_tup, bi_max2, bi_min2, ofOpt_some, seq_lst, seq_tup, partD_nil, partD_int, ix_fr0, ix_fr1, ix_pt0, ix_pt1, ix_t2_0, ix_t2_1, ix_t3_0, ix_t3_1, ix_t3_2, ix_t4_0, ix_t4_1, ix_t4_2, ix_t4_3, SM_call, SM_made, cmp_eq_fr, cmp_ne_fr, cmp_eq_pt, cmp_ne_pt, cmp_eq_lpt, cmp_ne_lpt, cmp_eq_tpt, cmp_ne_tpt, SM_hcall, decide_true, decide_false, Bool.not_true, Bool.not_false, f_check (n + 2) hw ow, glb_ONE, glb_ZERO, f_minus (n + 2) o1 ow, pt_mk, f_lot_edges (n + 1) hc hl (hs.mono (by decide)), h1, fld_most _ hc, f_times (n + 2) (.of f1 (by decide) : Ok (far c w)) ow, f_times (n + 2) (.of f1 (by decide) : Ok (far c w)) oway, q6]
  rfl
theorem f_loss_point_bad (n : Nat) (x : D) {w : Rat} (hw : ¬ Wt w) (h : Ok w) : callN Pr (n + 3) 11 [x, fr w] = .exc 4 none := by
  rw [e_loss_point]
  simp -implicitDefEqProofs only [b11, v11_0, v11_1, v11_2, v11_3, v11_4, iss_cons, iss_nil, ies_cons, ies_nil, evSs_cons, evSs_nil, evS_share, evS_asg, evS_asgF, evS_setF, evS_setI, evS_app, evS_pop, evS_expr, evS_ret, evS_retN, evS_if, evS_for, evS_while, evS_brk, evS_cont, evS_pass, evS_raise, evE_var, evE_lit, evE_glb, evE_tup, evE_lst, evE_bin, evE_neg, evE_not, evE_cmp, evE_chn, evE_boo, evB_one, evB_cons, evE_ite, evE_ix, evE_slc, evE_fld, evE_call, evE_callK, evE_callV, evE_makeK, evE_meth, evE_bi, evE_lcnt, evE_lidx, evE_isi, evE_isx, evE_comp, evEs_nil, evEs_cons, evT_nil, evT_one, evI_seq, evI_rng1, evI_rng2, evI_enum, evI_zip, bnd_ok, bnd_exc, sof_ok, sof_exc, sq_nx, sq_rt, sq_bk, sq_ct, sq_exc, trn_nx, trn_ct, trn_bk, trn_rt, trn_exc, endR_nx, endR_rt, endR_exc, vr_zero, vr_succ, tupD_0, tupD_1, tupD_2, tupD_3, tupD_4, tupD_5, lstD_0, lstD_1, lstD_2, lstD_3, lstD_4, lstD_5, truthD_bl, truthD_non, iteD_t, iteD_f, iteS_t, iteS_f, negD_int, chnD_t, chnD_f, and_t, and_f, or_t, or_f, asgFD_z, asgFD_cons, raiseD_ok, bindT_nm, bindT_tp, bindT_pt, bindTs_nil, bindTs_cons, wipe_nil, wipe_cons, List.set_cons_zero, List.set_cons_succ, bin_add, bin_sub, bin_mul, bin_fdiv, bin_mod, bin_pow, addD_int, subD_int, cmp_eq_int, cmp_ne_int, cmp_lt_int, cmp_le_int, cmp_gt_int, cmp_ge_int, cmp_is_non, cmp_isnot_non, isNone_non, isNone_tup, isNone_fr, isNone_pt, bi_len_lst, bi_len_tup, bi_len_scr, bi_int, bi_abs, bi_gcd, bi_list_lst, bi_list_tup, bi_tuple_lst, bi_tuple_tup, bi_max2, bi_min2, ofOpt_some, seq_lst, seq_tup, partD_nil, partD_int, ix_fr0, ix_fr1, ix_pt0, ix_pt1, ix_t2_0, ix_t2_1, ix_t3_0, ix_t3_1, ix_t3_2, ix_t4_0, ix_t4_1, ix_t4_2, ix_t4_3, SM_call, SM_made, cmp_eq_fr, cmp_ne_fr, cmp_eq_pt, cmp_ne_pt, cmp_eq_lpt, cmp_ne_lpt, cmp_eq_tpt, cmp_ne_tpt, SM_hcall, decide_true, decide_false, Bool.not_true, Bool.not_false, f_check_bad n hw h]
theorem f_losses (n : Nat) {c : List Pt} (hc : c ≠ []) (hs : SzC 4000 c) {p : Pt} (hp : OkP p) : callN Pr (n + 4) 45 [lotD c, pt p] = .ok (pt ((topP c).1 - p.1, (topP c).2 - p.2)) := by
  have ht := hs.topP hc
  rw [e_Lot_losses]
  simp -implicitDefEqProofs only [b45, iss_cons, iss_nil, ies_cons, ies_nil, evSs_cons, evSs_nil, evS_share, evS_asg, evS_asgF, evS_setF, evS_setI, evS_app, evS_pop, evS_expr, evS_ret, evS_retN, evS_if, evS_for, evS_while, evS_brk, evS_cont, evS_pass, evS_raise, evE_var, evE_lit, evE_glb, evE_tup, evE_lst, evE_bin, evE_neg, evE_not, evE_cmp, evE_chn, evE_boo, evB_one, evB_cons, evE_ite, evE_ix, evE_slc, evE_fld, evE_call, evE_callK, evE_callV, evE_makeK, evE_meth, evE_bi, evE_lcnt, evE_lidx, evE_isi, evE_isx, evE_comp, evEs_nil, evEs_cons, evT_nil, evT_one, evI_seq, evI_rng1, evI_rng2, evI_enum, evI_zip, bnd_ok, bnd_exc, sof_ok, sof_exc, sq_nx, sq_rt, sq_bk, sq_ct, sq_exc, trn_nx, trn_ct, trn_bk, trn_rt, trn_exc, endR_nx, endR_rt, endR_exc, vr_zero, vr_succ, tupD_0, tupD_1, tupD_2, tupD_3, tupD_4, tupD_5, lstD_0, lstD_1, lstD_2, lstD_3, lstD_4, lstD_5, truthD_bl, truthD_non, iteD_t, iteD_f, iteS_t, iteS_f, negD_int, chnD_t, chnD_f, and_t, and_f, or_t, or_f, asgFD_z, asgFD_cons, raiseD_ok, bindT_nm, bindT_tp, bindT_pt, bindTs_nil, bindTs_cons, wipe_nil, wipe_cons, List.set_cons_zero, List.set_cons_succ, bin_add, bin_sub, bin_mul, bin_fdiv, bin_mod, bin_pow, addD_int, subD_int, cmp_eq_int, cmp_ne_int, cmp_lt_int, cmp_le_int, cmp_gt_int, cmp_ge_int, cmp_is_non, cmp_isnot_non, isNone_non, isNone_tup, isNone_fr, isNone_pt, bi_len_lst, bi_len_tup, bi_len_scr, bi_int, bi_abs, bi_gcd, bi_list_lst, bi_list_tup, bi_tuple_lst, bi_tuple_tup, bi_max2, bi_min2, ofOpt_some, seq_lst, seq_tup, partD_nil, partD_int, ix_fr0, ix_fr1, ix_pt0, ix_pt1, ix_t2_0, ix_t2_1, ix_t3_0, ix_t3_1, ix_t3_2, ix_t4_0, ix_t4_1, ix_t4_2, ix_t4_3, SM_call, SM_made, cmp_eq_fr, cmp_ne_fr, cmp_eq_pt, cmp_ne_pt, cmp_eq_lpt, cmp_ne_lpt, cmp_eq_tpt, cmp_ne_tpt, SM_hcall, decide_true, decide_false, Bool.not_true, Bool.not_false, fld_most _ hc, f_gap n (p := topP c) ⟨.of ht.1 (by decide), .of ht.2 (by decide)⟩ hp]
/-! ### lots: the law -/
theorem f_ltop (n : Nat) {c : List Pt} (hc : c ≠ []) : callN Pr (n + 1) 36 [.lst (c.map pt)] = .ok (pt (topP c)) := by
  rw [e_law_top_point]
  simp -implicitDefEqProofs only [b36, iss_cons, iss_nil, ies_cons, ies_nil, evSs_cons, evSs_nil, evS_share, evS_asg, evS_asgF, evS_setF, evS_setI, evS_app, evS_pop, evS_expr, evS_ret, evS_retN, evS_if, evS_for, evS_while, evS_brk, evS_cont, evS_pass, evS_raise, evE_var, evE_lit, evE_glb, evE_tup, evE_lst, evE_bin, evE_neg, evE_not, evE_cmp, evE_chn, evE_boo, evB_one, evB_cons, evE_ite, evE_ix, evE_slc, evE_fld, evE_call, evE_callK, evE_callV, evE_makeK, evE_meth, evE_bi, evE_lcnt, evE_lidx, evE_isi, evE_isx, evE_comp, evEs_nil, evEs_cons, evT_nil, evT_one, evI_seq, evI_rng1, evI_rng2, evI_enum, evI_zip, bnd_ok, bnd_exc, sof_ok, sof_exc, sq_nx, sq_rt, sq_bk, sq_ct, sq_exc, trn_nx, trn_ct, trn_bk, trn_rt, trn_exc, endR_nx, endR_rt, endR_exc, vr_zero, vr_succ, tupD_0, tupD_1, tupD_2, tupD_3, tupD_4, tupD_5, lstD_0, lstD_1, lstD_2, lstD_3, lstD_4, lstD_5, truthD_bl, truthD_non, iteD_t, iteD_f, iteS_t, iteS_f, negD_int, chnD_t, chnD_f, and_t, and_f, or_t, or_f, asgFD_z, asgFD_cons, raiseD_ok, bindT_nm, bindT_tp, bindT_pt, bindTs_nil, bindTs_cons, wipe_nil, wipe_cons, List.set_cons_zero, List.set_cons_succ, bin_add, bin_sub, bin_mul, bin_fdiv, bin_mod, bin_pow, addD_int, subD_int, cmp_eq_int, cmp_ne_int, cmp_lt_int, cmp_le_int, cmp_gt_int, cmp_ge_int, cmp_is_non, cmp_isnot_non, isNone_non, isNone_tup, isNone_fr, isNone_pt, bi_len_lst, bi_len_tup, bi_len_scr, bi_int, bi_abs, bi_gcd, bi_list_lst, bi_list_tup, bi_tuple_lst, bi_tuple_tup, bi_max2, bi_min2, ofOpt_some, seq_lst, seq_tup, partD_nil, partD_int, ix_fr0, ix_fr1, ix_pt0, ix_pt1, ix_t2_0, ix_t2_1, ix_t3_0, ix_t3_1, ix_t3_2, ix_t4_0, ix_t4_1, ix_t4_2, ix_t4_3, SM_call, SM_made, cmp_eq_fr, cmp_ne_fr, cmp_eq_pt, cmp_ne_pt, cmp_eq_lpt, cmp_ne_lpt, cmp_eq_tpt, cmp_ne_tpt, SM_hcall, decide_true, decide_false, Bool.not_true, Bool.not_false, ixl_head hc, ixl_last hc, pt_mk]
  rfl
theorem f_lback (n : Nat) {p q : Pt} (hp : OkP p) (hq : OkP q) : callN Pr (n + 3) 37 [pt p, pt q] = .ok (pt (p.1 - q.1, p.2 - q.2)) := by
  rw [e_law_back]
  simp -implicitDefEqProofs only [b37, iss_cons, iss_nil, ies_cons, ies_nil, evSs_cons, evSs_nil, evS_share, evS_asg, evS_asgF, evS_setF, evS_setI, evS_app, evS_pop, evS_expr, evS_ret, evS_retN, evS_if, evS_for, evS_while, evS_brk, evS_cont, evS_pass, evS_raise, evE_var, evE_lit, evE_glb, evE_tup, evE_lst, evE_bin, evE_neg, evE_not, evE_cmp, evE_chn, evE_boo, evB_one, evB_cons, evE_ite, evE_ix, evE_slc, evE_fld, evE_call, evE_callK, evE_callV, evE_makeK, evE_meth, evE_bi, evE_lcnt, evE_lidx, evE_isi, evE_isx, evE_comp, evEs_nil, evEs_cons, evT_nil, evT_one, evI_seq, evI_rng1, evI_rng2, evI_enum, evI_zip, bnd_ok, bnd_exc, sof_ok, sof_exc, sq_nx, sq_rt, sq_bk, sq_ct, sq_exc, trn_nx, trn_ct, trn_bk, trn_rt, trn_exc, endR_nx, endR_rt, endR_exc, vr_zero, vr_succ, tupD_0, tupD_1, tupD_2, tupD_3, tupD_4, tupD_5, lstD_0, lstD_1, lstD_2, lstD_3, lstD_4, lstD_5, truthD_bl, truthD_non, iteD_t, iteD_f, iteS_t, iteS_f, negD_int, chnD_t, chnD_f, and_t, and_f, or_t, or_f, asgFD_z, asgFD_cons, raiseD_ok, bindT_nm, bindT_tp, bindT_pt, bindTs_nil, bindTs_cons, wipe_nil, wipe_cons, List.set_cons_zero, List.set_cons_succ, bin_add, bin_sub, bin_mul, bin_fdiv, bin_mod, bin_pow, addD_int, subD_int, cmp_eq_int, cmp_ne_int, cmp_lt_int, cmp_le_int, cmp_gt_int, cmp_ge_int, cmp_is_non, cmp_isnot_non, isNone_non, isNone_tup, isNone_fr, isNone_pt, bi_len_lst, bi_len_tup, bi_len_scr, bi_int, bi_abs, bi_gcd, bi_list_lst, bi_list_tup, bi_tuple_lst, bi_tuple_tup, bi_max2, bi_min2, ofOpt_some, seq_lst, seq_tup, partD_nil, partD_int, ix_fr0, ix_fr1, ix_pt0, ix_pt1, ix_t2_0, ix_t2_1, ix_t3_0, ix_t3_1, ix_t3_2, ix_t4_0, ix_t4_1, ix_t4_2, ix_t4_3, SM_call, SM_made, cmp_eq_fr, cmp_ne_fr, cmp_eq_pt, cmp_ne_pt, cmp_eq_lpt, cmp_ne_lpt, cmp_eq_tpt, cmp_ne_tpt, SM_hcall, decide_true, decide_false, Bool.not_true, Bool.not_false, f_lminus n hp.1 hq.1, f_lminus n hp.2 hq.2, pt_mk]
theorem f_lhigh (n : Nat) {c : List Pt} (h : Ch c) (hl : c.length ≤ 1000) (hs : SzC 100 c) {x : Rat} {k : Nat} (hx : Sz k x) (hk : k ≤ 3000) : callN Pr (n + 3) 33 [.lst (c.map pt), fr x] = .ok (fr (high c x)) := by
  have hc := h.ne
  have ox : Ok x := .of hx (by omega)
  have oh : Ok (headP c).1 := .of (hs.head hc).1 (by decide)
  rw [e_law_high]
  by_cases h0 : (headP c).1 < x
  · have hfind := forL_find (t := .nm 2) (b := evSs (SM (n + 2)) b33_0) (fun e : Int × Pt × Pt => .int e.1) (fun ρ => ∃ y z u, ρ = [some (.lst (c.map pt)), some (fr x), y, z, u]) (fun e => (highG x e.2).map fr) (edgesI c 1) (fun e ρ he hi => by
      obtain ⟨y, z, u, rfl⟩ := hi
      obtain ⟨k1, k2, k3⟩ := edgesI_ix he
      obtain ⟨s1, s2⟩ := hs.edge k3
      have hf := h.edge_falls k3
      have o1 : Ok e.2.1.1 := .of s1.1 (by decide)
      have o2 : Ok e.2.2.1 := .of s2.1 (by decide)
      have o3 : Ok e.2.1.2 := .of s1.2 (by decide)
      have o4 : Ok e.2.2.2 := .of s2.2 (by decide)
      by_cases h1 : e.2.2.1 < x
      · have hg : highG x e.2 = none := if_pos h1
        simp only [hg, Option.map_none]
        refine ⟨_, ?_, some (.int e.1), z, u, rfl⟩
        simp -implicitDefEqProofs only [u33_0, iss_cons, iss_nil, ies_cons, ies_nil, evSs_cons, evSs_nil, evS_share, evS_asg, evS_asgF, evS_setF, evS_setI, evS_app, evS_pop, evS_expr, evS_ret, evS_retN, evS_if, evS_for, evS_while, evS_brk, evS_cont, evS_pass, evS_raise, evE_var, evE_lit, evE_glb, evE_tup, evE_lst, evE_bin, evE_neg, evE_not, evE_cmp, evE_chn, evE_boo, evB_one, evB_cons, evE_ite, evE_ix, evE_slc, evE_fld, evE_call, evE_callK, evE_callV, evE_makeK, evE_meth, evE_bi, evE_lcnt, evE_lidx, evE_isi, evE_isx, evE_comp, evEs_nil, evEs_cons, evT_nil, evT_one, evI_seq, evI_rng1, evI_rng2, evI_enum, evI_zip, bnd_ok, bnd_exc, sof_ok, sof_exc, sq_nx, sq_rt, sq_bk, sq_ct, sq_exc, trn_nx, trn_ct, trn_bk, trn_rt, trn_exc, endR_nx, endR_rt, endR_exc, vr_zero, vr_succ, tupD_0, tupD_1, tupD_2, tupD_3, tupD_4, tupD_5, lstD_0, lstD_1, lstD_2, lstD_3, lstD_4, lstD_5, truthD_bl, truthD_non, iteD_t, iteD_f, iteS_t, iteS_f, negD_int, chnD_t, chnD_f, and_t, and_f, or_t, or_f, asgFD_z, asgFD_cons, raiseD_ok, bindT_nm, bindT_tp, bindT_pt, bindTs_nil, bindTs_cons, wipe_nil, wipe_cons, List.set_cons_zero, List.set_cons_succ, bin_add, bin_sub, bin_mul, bin_fdiv, bin_mod, bin_pow, addD_int, subD_int, cmp_eq_int, cmp_ne_int, cmp_lt_int, cmp_le_int, cmp_gt_int, cmp_ge_int, cmp_is_non, cmp_isnot_non, isNone_non, isNone_tup, isNone_fr, isNone_pt, bi_len_lst, bi_len_tup, bi_len_scr, bi_int, bi_abs, bi_gcd, bi_list_lst, bi_list_tup, bi_tuple_lst, bi_tuple_tup, bi_max2, bi_min2, ofOpt_some, seq_lst, seq_tup, partD_nil, partD_int, ix_fr0, ix_fr1, ix_pt0, ix_pt1, ix_t2_0, ix_t2_1, ix_t3_0, ix_t3_1, ix_t3_2, ix_t4_0, ix_t4_1, ix_t4_2, ix_t4_3, SM_call, SM_made, cmp_eq_fr, cmp_ne_fr, cmp_eq_pt, cmp_ne_pt, cmp_eq_lpt, cmp_ne_lpt, cmp_eq_tpt, cmp_ne_tpt, SM_hcall, decide_true, decide_false, Bool.not_true, Bool.not_false, ixD_lst k1, ixD_lst k2, f_lless (n + 1) o2 ox, h1]
      · have hg : highG x e.2 = some (yAt e.2.1 e.2.2 x) := if_neg h1
        simp only [hg, Option.map_some]
        have z1 := hx.sub s1.1
        have z2 := s2.1.sub s1.1
        have z3 := z1.div z2
        have z4 := s2.2.sub s1.2
        have z5 := z3.mul z4
        have hne : e.2.2.1 - e.2.1.1 ≠ 0 := by unfold Falls at hf; grind
        have e1 : e.2.1.2 + (x - e.2.1.1) / (e.2.2.1 - e.2.1.1) * (e.2.2.2 - e.2.1.2) = yAt e.2.1 e.2.2 x := by unfold yAt; grind
        refine ⟨[some (.lst (c.map pt)), some (fr x), some (.int e.1), some (fr ((x - e.2.1.1) / (e.2.2.1 - e.2.1.1))), some (fr (e.2.2.2 - e.2.1.2))], ?_⟩
        · simp -implicitDefEqProofs only [u33_0, iss_cons, iss_nil, ies_cons, ies_nil, evSs_cons, evSs_nil, evS_share, evS_asg, evS_asgF, evS_setF, evS_setI, evS_app, evS_pop, evS_expr, evS_ret, evS_retN, evS_if, evS_for, evS_while, evS_brk, evS_cont, evS_pass, evS_raise, evE_var, evE_lit, evE_glb, evE_tup, evE_lst, evE_bin, evE_neg, evE_not, evE_cmp, evE_chn, evE_boo, evB_one, evB_cons, evE_ite, evE_ix, evE_slc, evE_fld, evE_call, evE_callK, evE_callV, evE_makeK, evE_meth, evE_bi, evE_lcnt, evE_lidx, evE_isi, evE_isx, evE_comp, evEs_nil, evEs_cons, evT_nil, evT_one, evI_seq, evI_rng1, evI_rng2, evI_enum, evI_zip, bnd_ok, bnd_exc, sof_ok, sof_exc, sq_nx, sq_rt, sq_bk, sq_ct, sq_exc, trn_nx, trn_ct, trn_bk, trn_rt, trn_exc, endR_nx, endR_rt, endR_exc, vr_zero, vr_succ, tupD_0, tupD_1, tupD_2, tupD_3, tupD_4, tupD_5, lstD_0, lstD_1, lstD_2, lstD_3, lstD_4, lstD_5, truthD_bl, truthD_non, iteD_t, iteD_f, iteS_t, iteS_f, negD_int, chnD_t, chnD_f, and_t, and_f, or_t, or_f, asgFD_z, asgFD_cons, raiseD_ok, bindT_nm, bindT_tp, bindT_pt, bindTs_nil, bindTs_cons, wipe_nil, wipe_cons, List.set_cons_zero, List.set_cons_succ, bin_add, bin_sub, bin_mul, bin_fdiv, bin_mod, bin_pow, addD_int, subD_int, cmp_eq_int, cmp_ne_int, cmp_lt_int, cmp_le_int, cmp_gt_int, cmp_ge_int, cmp_is_non, cmp_isnot_non, isNone_non, isNone_tup, isNone_fr, isNone_pt, bi_len_lst, bi_len_tup, bi_len_scr, bi_int, bi_abs, bi_gcd, bi_list_lst, bi_list_tup, bi_tuple_lst, bi_tuple_tup, bi_max2, bi_min2, ofOpt_some, seq_lst, seq_tup, partD_nil, partD_int, ix_fr0, ix_fr1, ix_pt0, ix_pt1, ix_t2_0, ix_t2_1, ix_t3_0, ix_t3_1, ix_t3_2, ix_t4_0, ix_t4_1, ix_t4_2, ix_t4_3, SM_call, SM_made, cmp_eq_fr, cmp_ne_fr, cmp_eq_pt, cmp_ne_pt, cmp_eq_lpt, cmp_ne_lpt, cmp_eq_tpt, cmp_ne_tpt, SM_hcall, decide_true, decide_false, Bool.not_true, Bool.not_false, ixD_lst k1, ixD_lst k2, f_lless (n + 1) o2 ox, h1, f_lminus n ox o1, f_lminus n o2 o1, f_lminus n o4 o3, f_lover n (.of z1 (by omega)) (.of z2 (by decide)) hne, f_ltimes n (.of z3 (by omega)) (.of z4 (by decide)), f_lplus n o3 (.of z5 (by omega)), e1]) [some (.lst (c.map pt)), some (fr x), none, none, none] ⟨none, none, none, rfl⟩
    have hh := high_find hc h0
    have hmap : (edgesI c 1).findSome? (fun e => (highG x e.2).map fr) = ((edges c).findSome? (highG x)).map fr := by
      rw [← edgesI_edges c 1, List.findSome?_map]
      generalize edgesI c 1 = l
      induction l with
      | nil => rfl
      | cons e l ih =>
        rw [List.findSome?_cons, List.findSome?_cons]
        simp only [Function.comp]
        cases highG x e.2 with
        | none => exact ih
        | some d => rfl
    rw [hmap] at hfind
    cases hg : (edges c).findSome? (highG x) with
    | none =>
      rw [hg] at hfind hh
      simp only [Option.map_none] at hfind
      obtain ⟨ρ', h1, y, z, u, rfl⟩ := hfind
      simp -implicitDefEqProofs only [b33, v33_0, v33_1, v33_2, iss_cons, iss_nil, ies_cons, ies_nil, evSs_cons, evSs_nil, evS_share, evS_asg, evS_asgF, evS_setF, evS_setI, evS_app, evS_pop, evS_expr, evS_ret, evS_retN, evS_if, evS_for, evS_while, evS_brk, evS_cont, evS_pass, evS_raise, evE_var, evE_lit, evE_glb, evE_tup, evE_lst, evE_bin, evE_neg, evE_not, evE_cmp, evE_chn, evE_boo, evB_one, evB_cons, evE_ite, evE_ix, evE_slc, evE_fld, evE_call, evE_callK, evE_callV, evE_makeK, evE_meth, evE_bi, evE_lcnt, evE_lidx, evE_isi, evE_isx, evE_comp, evEs_nil, evEs_cons, evT_nil, evT_one, evI_seq, evI_rng1, evI_rng2, evI_enum, evI_zip, bnd_ok, bnd_exc, sof_ok, sof_exc, sq_nx, sq_rt, sq_bk, sq_ct, sq_exc, trn_nx, trn_ct, trn_bk, trn_rt, trn_exc, endR_nx, endR_rt, endR_exc, vr_zero, vr_succ, tupD_0, tupD_1, tupD_2, tupD_3, tupD_4, tupD_5, lstD_0, lstD_1, lstD_2, lstD_3, lstD_4, lstD_5, truthD_bl, truthD_non, iteD_t, iteD_f, iteS_t, iteS_f, negD_int, chnD_t, chnD_f, and_t, and_f, or_t, or_f, asgFD_z, asgFD_cons, raiseD_ok, bindT_nm, bindT_tp, bindT_pt, bindTs_nil, bindTs_cons, wipe_nil, wipe_cons, List.set_cons_zero, List.set_cons_succ, bin_add, bin_sub, bin_mul, bin_fdiv, bin_mod, bin_pow, addD_int, subD_int, cmp_eq_int, cmp_ne_int, cmp_lt_int, cmp_le_int, cmp_gt_int, cmp_ge_int, cmp_is_non, cmp_isnot_non, isNone_non, isNone_tup, isNone_fr, isNone_pt, bi_len_lst, bi_len_tup, bi_len_scr, bi_int, bi_abs, bi_gcd, bi_list_lst, bi_list_tup, bi_tuple_lst, bi_tuple_tup, bi_max2, bi_min2, ofOpt_some, seq_lst, seq_tup, partD_nil, partD_int, ix_fr0, ix_fr1, ix_pt0, ix_pt1, ix_t2_0, ix_t2_1, ix_t3_0, ix_t3_1, ix_t3_2, ix_t4_0, ix_t4_1, ix_t4_2, ix_t4_3, SM_call, SM_made, cmp_eq_fr, cmp_ne_fr, cmp_eq_pt, cmp_ne_pt, cmp_eq_lpt, cmp_ne_lpt, cmp_eq_tpt, cmp_ne_tpt, SM_hcall, decide_true, decide_false, Bool.not_true, Bool.not_false, ixl_head hc, ixl_last hc, f_lless (n + 1) oh ox, h0, List.length_map, rng2_edges hc hl, h1]
      rw [hh]
      rfl
    | some v =>
      rw [hg] at hfind hh
      simp only [Option.map_some] at hfind
      obtain ⟨ρ', h1⟩ := hfind
      simp -implicitDefEqProofs only [b33, v33_0, v33_1, v33_2, iss_cons, iss_nil, ies_cons, ies_nil, evSs_cons, evSs_nil, evS_share, evS_asg, evS_asgF, evS_setF, evS_setI, evS_app, evS_pop, evS_expr, evS_ret, evS_retN, evS_if, evS_for, evS_while, evS_brk, evS_cont, evS_pass, evS_raise, evE_var, evE_lit, evE_glb, evE_tup, evE_lst, evE_bin, evE_neg, evE_not, evE_cmp, evE_chn, evE_boo, evB_one, evB_cons, evE_ite, evE_ix, evE_slc, evE_fld, evE_call, evE_callK, evE_callV, evE_makeK, evE_meth, evE_bi, evE_lcnt, evE_lidx, evE_isi, evE_isx, evE_comp, evEs_nil, evEs_cons, evT_nil, evT_one, evI_seq, evI_rng1, evI_rng2, evI_enum, evI_zip, bnd_ok, bnd_exc, sof_ok, sof_exc, sq_nx, sq_rt, sq_bk, sq_ct, sq_exc, trn_nx, trn_ct, trn_bk, trn_rt, trn_exc, endR_nx, endR_rt, endR_exc, vr_zero, vr_succ, tupD_0, tupD_1, tupD_2, tupD_3, tupD_4, tupD_5, lstD_0, lstD_1, lstD_2, lstD_3, lstD_4, lstD_5, truthD_bl, truthD_non, iteD_t, iteD_f, iteS_t, iteS_f, negD_int, chnD_t, chnD_f, and_t, and_f, or_t, or_f, asgFD_z, asgFD_cons, raiseD_ok, bindT_nm, bindT_tp, bindT_pt, bindTs_nil, bindTs_cons, wipe_nil, wipe_cons, List.set_cons_zero, List.set_cons_succ, bin_add, bin_sub, bin_mul, bin_fdiv, bin_mod, bin_pow, addD_int, subD_int, cmp_eq_int, cmp_ne_int, cmp_lt_int, cmp_le_int, cmp_gt_int, cmp_ge_int, cmp_is_non, cmp_isnot_non, isNone_non, isNone_tup, isNone_fr, isNone_pt, bi_len_lst, bi_len_tup, bi_len_scr, bi_int, bi_abs, bi_gcd, bi_list_lst, bi_list_tup, bi_tuple_lst, bi_tuple_tup, bi_max2, bi_min2, ofOpt_some, seq_lst, seq_tup, partD_nil, partD_int, ix_fr0, ix_fr1, ix_pt0, ix_pt1, ix_t2_0, ix_t2_1, ix_t3_0, ix_t3_1, ix_t3_2, ix_t4_0, ix_t4_1, ix_t4_2, ix_t4_3, SM_call, SM_made, cmp_eq_fr, cmp_ne_fr, cmp_eq_pt, cmp_ne_pt, cmp_eq_lpt, cmp_ne_lpt, cmp_eq_tpt, cmp_ne_tpt, SM_hcall, decide_true, decide_false, Bool.not_true, Bool.not_false, ixl_head hc, f_lless (n + 1) oh ox, h0, List.length_map, rng2_edges hc hl, h1]
      rw [hh]
      rfl
  · have hh : high c x = (headP c).2 := by
      cases c with
      | nil => exact absurd rfl hc
      | cons p c => cases c with
        | nil => rfl
        | cons q r =>
          show (if x ≤ p.1 then p.2 else _) = p.2
          rw [if_pos (by have : ¬ p.1 < x := h0; grind)]
    simp -implicitDefEqProofs only [b33, v33_0, v33_1, v33_2, iss_cons, iss_nil, ies_cons, ies_nil, evSs_cons, evSs_nil, evS_share, evS_asg, evS_asgF, evS_setF, evS_setI, evS_app, evS_pop, evS_expr, evS_ret, evS_retN, evS_if, evS_for, evS_while, evS_brk, evS_cont, evS_pass, evS_raise, evE_var, evE_lit, evE_glb, evE_tup, evE_lst, evE_bin, evE_neg, evE_not, evE_cmp, evE_chn, evE_boo, evB_one, evB_cons, evE_ite, evE_ix, evE_slc, evE_fld, evE_call, evE_callK, evE_callV, evE_makeK, evE_meth, evE_bi, evE_lcnt, evE_lidx, evE_isi, evE_isx, evE_comp, evEs_nil, evEs_cons, evT_nil, evT_one, evI_seq, evI_rng1, evI_rng2, evI_enum, evI_zip, bnd_ok, bnd_exc, sof_ok, sof_exc, sq_nx, sq_rt, sq_bk, sq_ct, sq_exc, trn_nx, trn_ct, trn_bk, trn_rt, trn_exc, endR_nx, endR_rt, endR_exc, vr_zero, vr_succ, tupD_0, tupD_1, tupD_2, tupD_3, tupD_4, tupD_5, lstD_0, lstD_1, lstD_2, lstD_3, lstD_4, lstD_5, truthD_bl, truthD_non, iteD_t, iteD_f, iteS_t, iteS_f, negD_int, chnD_t, chnD_f, and_t, and_f, or_t, or_f, asgFD_z, asgFD_cons, raiseD_ok, bindT_nm, bindT_tp, bindT_pt, bindTs_nil, bindTs_cons, wipe_nil, wipe_cons, List.set_cons_zero, List.set_cons_succ, bin_add, bin_sub, bin_mul, bin_fdiv, bin_mod, bin_pow, addD_int, subD_int, cmp_eq_int, cmp_ne_int, cmp_lt_int, cmp_le_int, cmp_gt_int, cmp_ge_int, cmp_is_non, cmp_isnot_non, isNone_non, isNone_tup, isNone_fr, isNone_pt, bi_len_lst, bi_len_tup, bi_len_scr, bi_int, bi_abs, bi_gcd, bi_list_lst, bi_list_tup, bi_tuple_lst, bi_tuple_tup, bi_max2, bi_min2, ofOpt_some, seq_lst, seq_tup, partD_nil, partD_int, ix_fr0, ix_fr1, ix_pt0, ix_pt1, ix_t2_0, ix_t2_1, ix_t3_0, ix_t3_1, ix_t3_2, ix_t4_0, ix_t4_1, ix_t4_2, ix_t4_3, SM_call, SM_made, cmp_eq_fr, cmp_ne_fr, cmp_eq_pt, cmp_ne_pt, cmp_eq_lpt, cmp_ne_lpt, cmp_eq_tpt, cmp_ne_tpt, SM_hcall, decide_true, decide_false, Bool.not_true, Bool.not_false, ixl_head hc, f_lless (n + 1) oh ox, h0, hh]
/-- in the lot, as a truth value -/
def inB (c : List Pt) (p : Pt) : Bool := decide (p.1 ≤ (lastP c).1) && decide (p.2 ≤ high c p.1)
theorem f_lin (n : Nat) {c : List Pt} (h : Ch c) (hl : c.length ≤ 1000) (hs : SzC 100 c) {p : Pt} {k : Nat} (hp : SzP k p) (hk : k ≤ 3000) : callN Pr (n + 4) 34 [.lst (c.map pt), pt p] = .ok (.bl (inB c p)) := by
  have hc := h.ne
  have o1 : Ok p.1 := .of hp.1 (by omega)
  have o2 : Ok p.2 := .of hp.2 (by omega)
  have o3 : Ok (lastP c).1 := .of (hs.last hc).1 (by decide)
  have o4 : Ok (high c p.1) := .of (high_sz hp.1 hc hs) (by omega)
  rw [e_law_in_chain]
  unfold inB
  by_cases h1 : (lastP c).1 < p.1
  · have : ¬ p.1 ≤ (lastP c).1 := by grind
    simp -implicitDefEqProofs only [b34, v34_0, v34_1, iss_cons, iss_nil, ies_cons, ies_nil, evSs_cons, evSs_nil, evS_share, evS_asg, evS_asgF, evS_setF, evS_setI, evS_app, evS_pop, evS_expr, evS_ret, evS_retN, evS_if, evS_for, evS_while, evS_brk, evS_cont, evS_pass, evS_raise, evE_var, evE_lit, evE_glb, evE_tup, evE_lst, evE_bin, evE_neg, evE_not, evE_cmp, evE_chn, evE_boo, evB_one, evB_cons, evE_ite, evE_ix, evE_slc, evE_fld, evE_call, evE_callK, evE_callV, evE_makeK, evE_meth, evE_bi, evE_lcnt, evE_lidx, evE_isi, evE_isx, evE_comp, evEs_nil, evEs_cons, evT_nil, evT_one, evI_seq, evI_rng1, evI_rng2, evI_enum, evI_zip, bnd_ok, bnd_exc, sof_ok, sof_exc, sq_nx, sq_rt, sq_bk, sq_ct, sq_exc, trn_nx, trn_ct, trn_bk, trn_rt, trn_exc, endR_nx, endR_rt, endR_exc, vr_zero, vr_succ, tupD_0, tupD_1, tupD_2, tupD_3, tupD_4, tupD_5, lstD_0, lstD_1, lstD_2, lstD_3, lstD_4, lstD_5, truthD_bl, truthD_non, iteD_t, iteD_f, iteS_t, iteS_f, negD_int, chnD_t, chnD_f, and_t, and_f, or_t, or_f, asgFD_z, asgFD_cons, raiseD_ok, bindT_nm, bindT_tp, bindT_pt, bindTs_nil, bindTs_cons, wipe_nil, wipe_cons, List.set_cons_zero, List.set_cons_succ, bin_add, bin_sub, bin_mul, bin_fdiv, bin_mod, bin_pow, addD_int, subD_int, cmp_eq_int, cmp_ne_int, cmp_lt_int, cmp_le_int, cmp_gt_int, cmp_ge_int, cmp_is_non, cmp_isnot_non, isNone_non, isNone_tup, isNone_fr, isNone_pt, bi_len_lst, bi_len_tup, bi_len_scr, bi_int, bi_abs, bi_gcd, bi_list_lst, bi_list_tup, bi_tuple_lst, bi_tuple_tup, bi_max2, bi_min2, ofOpt_some, seq_lst, seq_tup, partD_nil, partD_int, ix_fr0, ix_fr1, ix_pt0, ix_pt1, ix_t2_0, ix_t2_1, ix_t3_0, ix_t3_1, ix_t3_2, ix_t4_0, ix_t4_1, ix_t4_2, ix_t4_3, SM_call, SM_made, cmp_eq_fr, cmp_ne_fr, cmp_eq_pt, cmp_ne_pt, cmp_eq_lpt, cmp_ne_lpt, cmp_eq_tpt, cmp_ne_tpt, SM_hcall, decide_true, decide_false, Bool.not_true, Bool.not_false, ixl_last hc, f_lless (n + 2) o3 o1, h1, this, Bool.false_and]
  · have h2 : p.1 ≤ (lastP c).1 := by grind
    simp -implicitDefEqProofs only [b34, v34_0, v34_1, iss_cons, iss_nil, ies_cons, ies_nil, evSs_cons, evSs_nil, evS_share, evS_asg, evS_asgF, evS_setF, evS_setI, evS_app, evS_pop, evS_expr, evS_ret, evS_retN, evS_if, evS_for, evS_while, evS_brk, evS_cont, evS_pass, evS_raise, evE_var, evE_lit, evE_glb, evE_tup, evE_lst, evE_bin, evE_neg, evE_not, evE_cmp, evE_chn, evE_boo, evB_one, evB_cons, evE_ite, evE_ix, evE_slc, evE_fld, evE_call, evE_callK, evE_callV, evE_makeK, evE_meth, evE_bi, evE_lcnt, evE_lidx, evE_isi, evE_isx, evE_comp, evEs_nil, evEs_cons, evT_nil, evT_one, evI_seq, evI_rng1, evI_rng2, evI_enum, evI_zip, bnd_ok, bnd_exc, sof_ok, sof_exc, sq_nx, sq_rt, sq_bk, sq_ct, sq_exc, trn_nx, trn_ct, trn_bk, trn_rt, trn_exc, endR_nx, endR_rt, endR_exc, vr_zero, vr_succ, tupD_0, tupD_1, tupD_2, tupD_3, tupD_4, tupD_5, lstD_0, lstD_1, lstD_2, lstD_3, lstD_4, lstD_5, truthD_bl, truthD_non, iteD_t, iteD_f, iteS_t, iteS_f, negD_int, chnD_t, chnD_f, and_t, and_f, or_t, or_f, asgFD_z, asgFD_cons, raiseD_ok, bindT_nm, bindT_tp, bindT_pt, bindTs_nil, bindTs_cons, wipe_nil, wipe_cons, List.set_cons_zero, List.set_cons_succ, bin_add, bin_sub, bin_mul, bin_fdiv, bin_mod, bin_pow, addD_int, subD_int, cmp_eq_int, cmp_ne_int, cmp_lt_int, cmp_le_int, cmp_gt_int, cmp_ge_int, cmp_is_non, cmp_isnot_non, isNone_non, isNone_tup, isNone_fr, isNone_pt, bi_len_lst, bi_len_tup, bi_len_scr, bi_int, bi_abs, bi_gcd, bi_list_lst, bi_list_tup, bi_tuple_lst, bi_tuple_tup, bi_max2, bi_min2, ofOpt_some, seq_lst, seq_tup, partD_nil, partD_int, ix_fr0, ix_fr1, ix_pt0, ix_pt1, ix_t2_0, ix_t2_1, ix_t3_0, ix_t3_1, ix_t3_2, ix_t4_0, ix_t4_1, ix_t4_2, ix_t4_3, SM_call, SM_made, cmp_eq_fr, cmp_ne_fr, cmp_eq_pt, cmp_ne_pt, cmp_eq_lpt, cmp_ne_lpt, cmp_eq_tpt, cmp_ne_tpt, SM_hcall, decide_true, decide_false, Bool.not_true, Bool.not_false, ixl_last hc, f_lless (n + 2) o3 o1, h1, h2, f_lhigh n h hl hs hp.1 hk, f_lless (n + 2) o4 o2, Bool.true_and]
    congr 2
    rw [Bool.eq_iff_iff]
    simp only [Bool.not_eq_true', decide_eq_false_iff_not, decide_eq_true_eq]
    grind
theorem f_lin_none (n : Nat) (x : D) : callN Pr (n + 1) 34 [x, .non] = .ok (.bl false) := by
  rw [e_law_in_chain]
  simp -implicitDefEqProofs only [b34, v34_0, v34_1, iss_cons, iss_nil, ies_cons, ies_nil, evSs_cons, evSs_nil, evS_share, evS_asg, evS_asgF, evS_setF, evS_setI, evS_app, evS_pop, evS_expr, evS_ret, evS_retN, evS_if, evS_for, evS_while, evS_brk, evS_cont, evS_pass, evS_raise, evE_var, evE_lit, evE_glb, evE_tup, evE_lst, evE_bin, evE_neg, evE_not, evE_cmp, evE_chn, evE_boo, evB_one, evB_cons, evE_ite, evE_ix, evE_slc, evE_fld, evE_call, evE_callK, evE_callV, evE_makeK, evE_meth, evE_bi, evE_lcnt, evE_lidx, evE_isi, evE_isx, evE_comp, evEs_nil, evEs_cons, evT_nil, evT_one, evI_seq, evI_rng1, evI_rng2, evI_enum, evI_zip, bnd_ok, bnd_exc, sof_ok, sof_exc, sq_nx, sq_rt, sq_bk, sq_ct, sq_exc, trn_nx, trn_ct, trn_bk, trn_rt, trn_exc, endR_nx, endR_rt, endR_exc, vr_zero, vr_succ, tupD_0, tupD_1, tupD_2, tupD_3, tupD_4, tupD_5, lstD_0, lstD_1, lstD_2, lstD_3, lstD_4, lstD_5, truthD_bl, truthD_non, iteD_t, iteD_f, iteS_t, iteS_f, negD_int, chnD_t, chnD_f, and_t, and_f, or_t, or_f, asgFD_z, asgFD_cons, raiseD_ok, bindT_nm, bindT_tp, bindT_pt, bindTs_nil, bindTs_cons, wipe_nil, wipe_cons, List.set_cons_zero, List.set_cons_succ, bin_add, bin_sub, bin_mul, bin_fdiv, bin_mod, bin_pow, addD_int, subD_int, cmp_eq_int, cmp_ne_int, cmp_lt_int, cmp_le_int, cmp_gt_int, cmp_ge_int, cmp_is_non, cmp_isnot_non, isNone_non, isNone_tup, isNone_fr, isNone_pt, bi_len_lst, bi_len_tup, bi_len_scr, bi_int, bi_abs, bi_gcd, bi_list_lst, bi_list_tup, bi_tuple_lst, bi_tuple_tup, bi_max2, bi_min2, ofOpt_some, seq_lst, seq_tup, partD_nil, partD_int, ix_fr0, ix_fr1, ix_pt0, ix_pt1, ix_t2_0, ix_t2_1, ix_t3_0, ix_t3_1, ix_t3_2, ix_t4_0, ix_t4_1, ix_t4_2, ix_t4_3, SM_call, SM_made, cmp_eq_fr, cmp_ne_fr, cmp_eq_pt, cmp_ne_pt, cmp_eq_lpt, cmp_ne_lpt, cmp_eq_tpt, cmp_ne_tpt, SM_hcall, decide_true, decide_false, Bool.not_true, Bool.not_false]
/-- on the rim, as a truth value -/
def rimB (c : List Pt) (p : Pt) : Bool := inB c p && (decide (p.1 = (lastP c).1) || decide (p.2 = high c p.1))
theorem f_lrim (n : Nat) {c : List Pt} (h : Ch c) (hl : c.length ≤ 1000) (hs : SzC 100 c) {p : Pt} {k : Nat} (hp : SzP k p) (hk : k ≤ 3000) : callN Pr (n + 5) 35 [.lst (c.map pt), pt p] = .ok (.bl (rimB c p)) := by
  have hc := h.ne
  rw [e_law_on_rim]
  unfold rimB
  cases h1 : inB c p with
  | false => simp -implicitDefEqProofs only [b35, v35_0, v35_1, iss_cons, iss_nil, ies_cons, ies_nil, evSs_cons, evSs_nil, evS_share, evS_asg, evS_asgF, evS_setF, evS_setI, evS_app, evS_pop, evS_expr, evS_ret, evS_retN, evS_if, evS_for, evS_while, evS_brk, evS_cont, evS_pass, evS_raise, evE_var, evE_lit, evE_glb, evE_tup, evE_lst, evE_bin, evE_neg, evE_not, evE_cmp, evE_chn, evE_boo, evB_one, evB_cons, evE_ite, evE_ix, evE_slc, evE_fld, evE_call, evE_callK, evE_callV, evE_makeK, evE_meth, evE_bi, evE_lcnt, evE_lidx, evE_isi, evE_isx, evE_comp, evEs_nil, evEs_cons, evT_nil, evT_one, evI_seq, evI_rng1, evI_rng2, evI_enum, evI_zip, bnd_ok, bnd_exc, sof_ok, sof_exc, sq_nx, sq_rt, sq_bk, sq_ct, sq_exc, trn_nx, trn_ct, trn_bk, trn_rt, trn_exc, endR_nx, endR_rt, endR_exc, vr_zero, vr_succ, tupD_0, tupD_1, tupD_2, tupD_3, tupD_4, tupD_5, lstD_0, lstD_1, lstD_2, lstD_3, lstD_4, lstD_5, truthD_bl, truthD_non, iteD_t, iteD_f, iteS_t, iteS_f, negD_int, chnD_t, chnD_f, and_t, and_f, or_t, or_f, asgFD_z, asgFD_cons, raiseD_ok, bindT_nm, bindT_tp, bindT_pt, bindTs_nil, bindTs_cons, wipe_nil, wipe_cons, List.set_cons_zero, List.set_cons_succ, bin_add, bin_sub, bin_mul, bin_fdiv, bin_mod, bin_pow, addD_int, subD_int, cmp_eq_int, cmp_ne_int, cmp_lt_int, cmp_le_int, cmp_gt_int, cmp_ge_int, cmp_is_non, cmp_isnot_non, isNone_non, isNone_tup, isNone_fr, isNone_pt, bi_len_lst, bi_len_tup, bi_len_scr, bi_int, bi_abs, bi_gcd, bi_list_lst, bi_list_tup, bi_tuple_lst, bi_tuple_tup, bi_max2, bi_min2, ofOpt_some, seq_lst, seq_tup, partD_nil, partD_int, ix_fr0, ix_fr1, ix_pt0, ix_pt1, ix_t2_0, ix_t2_1, ix_t3_0, ix_t3_1, ix_t3_2, ix_t4_0, ix_t4_1, ix_t4_2, ix_t4_3, SM_call, SM_made, cmp_eq_fr, cmp_ne_fr, cmp_eq_pt, cmp_ne_pt, cmp_eq_lpt, cmp_ne_lpt, cmp_eq_tpt, cmp_ne_tpt, SM_hcall, decide_true, decide_false, Bool.not_true, Bool.not_false, f_lin n h hl hs hp hk, h1, Bool.false_and]
  | true =>
    by_cases h2 : p.1 = (lastP c).1
    · simp -implicitDefEqProofs only [b35, v35_0, v35_1, iss_cons, iss_nil, ies_cons, ies_nil, evSs_cons, evSs_nil, evS_share, evS_asg, evS_asgF, evS_setF, evS_setI, evS_app, evS_pop, evS_expr, evS_ret, evS_retN, evS_if, evS_for, evS_while, evS_brk, evS_cont, evS_pass, evS_raise, evE_var, evE_lit, evE_glb, evE_tup, evE_lst, evE_bin, evE_neg, evE_not, evE_cmp, evE_chn, evE_boo, evB_one, evB_cons, evE_ite, evE_ix, evE_slc, evE_fld, evE_call, evE_callK, evE_callV, evE_makeK, evE_meth, evE_bi, evE_lcnt, evE_lidx, evE_isi, evE_isx, evE_comp, evEs_nil, evEs_cons, evT_nil, evT_one, evI_seq, evI_rng1, evI_rng2, evI_enum, evI_zip, bnd_ok, bnd_exc, sof_ok, sof_exc, sq_nx, sq_rt, sq_bk, sq_ct, sq_exc, trn_nx, trn_ct, trn_bk, trn_rt, trn_exc, endR_nx, endR_rt, endR_exc, vr_zero, vr_succ, tupD_0, tupD_1, tupD_2, tupD_3, tupD_4, tupD_5, lstD_0, lstD_1, lstD_2, lstD_3, lstD_4, lstD_5, truthD_bl, truthD_non, iteD_t, iteD_f, iteS_t, iteS_f, negD_int, chnD_t, chnD_f, and_t, and_f, or_t, or_f, asgFD_z, asgFD_cons, raiseD_ok, bindT_nm, bindT_tp, bindT_pt, bindTs_nil, bindTs_cons, wipe_nil, wipe_cons, List.set_cons_zero, List.set_cons_succ, bin_add, bin_sub, bin_mul, bin_fdiv, bin_mod, bin_pow, addD_int, subD_int, cmp_eq_int, cmp_ne_int, cmp_lt_int, cmp_le_int, cmp_gt_int, cmp_ge_int, cmp_is_non, cmp_isnot_non, isNone_non, isNone_tup, isNone_fr, isNone_pt, bi_len_lst, bi_len_tup, bi_len_scr, bi_int, bi_abs, bi_gcd, bi_list_lst, bi_list_tup, bi_tuple_lst, bi_tuple_tup, bi_max2, bi_min2, ofOpt_some, seq_lst, seq_tup, partD_nil, partD_int, ix_fr0, ix_fr1, ix_pt0, ix_pt1, ix_t2_0, ix_t2_1, ix_t3_0, ix_t3_1, ix_t3_2, ix_t4_0, ix_t4_1, ix_t4_2, ix_t4_3, SM_call, SM_made, cmp_eq_fr, cmp_ne_fr, cmp_eq_pt, cmp_ne_pt, cmp_eq_lpt, cmp_ne_lpt, cmp_eq_tpt, cmp_ne_tpt, SM_hcall, decide_true, decide_false, Bool.not_true, Bool.not_false, f_lin n h hl hs hp hk, h1, ixl_last hc, h2, Bool.true_and, Bool.true_or]
    · simp -implicitDefEqProofs only [b35, v35_0, v35_1, iss_cons, iss_nil, ies_cons, ies_nil, evSs_cons, evSs_nil, evS_share, evS_asg, evS_asgF, evS_setF, evS_setI, evS_app, evS_pop, evS_expr, evS_ret, evS_retN, evS_if, evS_for, evS_while, evS_brk, evS_cont, evS_pass, evS_raise, evE_var, evE_lit, evE_glb, evE_tup, evE_lst, evE_bin, evE_neg, evE_not, evE_cmp, evE_chn, evE_boo, evB_one, evB_cons, evE_ite, evE_ix, evE_slc, evE_fld, evE_call, evE_callK, evE_callV, evE_makeK, evE_meth, evE_bi, evE_lcnt, evE_lidx, evE_isi, evE_isx, evE_comp, evEs_nil, evEs_cons, evT_nil, evT_one, evI_seq, evI_rng1, evI_rng2, evI_enum, evI_zip, bnd_ok, bnd_exc, sof_ok, sof_exc, sq_nx, sq_rt, sq_bk, sq_ct, sq_exc, trn_nx, trn_ct, trn_bk, trn_rt, trn_exc, endR_nx, endR_rt, endR_exc, vr_zero, vr_succ, tupD_0, tupD_1, tupD_2, tupD_3, tupD_4, tupD_5, lstD_0, lstD_1, lstD_2, lstD_3, lstD_4, lstD_5, truthD_bl, truthD_non, iteD_t, iteD_f, iteS_t, iteS_f, negD_int, chnD_t, chnD_f, and_t, and_f, or_t, or_f, asgFD_z, asgFD_cons, raiseD_ok, bindT_nm, bindT_tp, bindT_pt, bindTs_nil, bindTs_cons, wipe_nil, wipe_cons, List.set_cons_zero, List.set_cons_succ, bin_add, bin_sub, bin_mul, bin_fdiv, bin_mod, bin_pow, addD_int, subD_int, cmp_eq_int, cmp_ne_int, cmp_lt_int, cmp_le_int, cmp_gt_int, cmp_ge_int, cmp_is_non, cmp_isnot_non, isNone_non, isNone_tup, isNone_fr, isNone_pt, bi_len_lst, bi_len_tup, bi_len_scr, bi_int, bi_abs, bi_gcd, bi_list_lst, bi_list_tup, bi_tuple_lst, bi_tuple_tup, bi_max2, bi_min2, ofOpt_some, seq_lst, seq_tup, partD_nil, partD_int, ix_fr0, ix_fr1, ix_pt0, ix_pt1, ix_t2_0, ix_t2_1, ix_t3_0, ix_t3_1, ix_t3_2, ix_t4_0, ix_t4_1, ix_t4_2, ix_t4_3, SM_call, SM_made, cmp_eq_fr, cmp_ne_fr, cmp_eq_pt, cmp_ne_pt, cmp_eq_lpt, cmp_ne_lpt, cmp_eq_tpt, cmp_ne_tpt, SM_hcall, decide_true, decide_false, Bool.not_true, Bool.not_false, f_lin n h hl hs hp hk, h1, ixl_last hc, h2, f_lhigh (n + 1) h hl hs hp.1 hk, Bool.true_and, Bool.false_or]
theorem f_lloss (n : Nat) {c : List Pt} (h : Ch c) (hl : c.length ≤ 1000) (hs : SzC 100 c) {w : Rat} (hw : Wt w) (hz : Sz 100 w) : callN Pr (n + 4) 38 [.lst (c.map pt), fr w] = .ok (pt (lossPt c w)) := by
  have hc := h.ne
  have ow : Ok w := .of hz (by decide)
  have o1 : Ok (1 : Rat) := .of one_sz (by decide)
  have oway : Ok (1 - w) := .of (way_sz hz) (by decide)
  have ht := hs.topP hc
  have ot : OkP (topP c) := ⟨.of ht.1 (by decide), .of ht.2 (by decide)⟩
  have hone : (.tup [.int 1, .int 1] : D) = fr 1 := rfl
  have hzero : (.tup [.int 0, .int 1] : D) = fr 0 := rfl
  obtain ⟨ρ', h1, h2⟩ := forL_fold (t := .nm 5) (b := evSs (SM (n + 3)) b38_0) (fun e : Int × Pt × Pt => .int e.1) (fun (s : Rat) ρ => Sz 1410 s ∧ ∃ y0 y1 y2 y3 y4 y5, ρ = [some (.lst (c.map pt)), some (fr w), some (pt (topP c)), some (pt (w, 1 - w)), some (fr s), y0, y1, y2, y3, y4, y5]) (fun s e => maxR s (ratio c w e.2)) (edgesI c 1) (fun s e ρ he hi => by
    obtain ⟨hsz, y0, y1, y2, y3, y4, y5, rfl⟩ := hi
    obtain ⟨k1, k2, k3⟩ := edgesI_ix he
    generalize e.2 = g at *
    obtain ⟨s1, s2⟩ := hs.edge k3
    obtain ⟨n1, n2⟩ := nrm_sz hs k3
    have r1 := ratio_sz hc hs hz k3
    have g1 : Sz 201 ((topP c).1 - g.2.1) := ht.1.sub s2.1
    have g2 : Sz 201 ((topP c).2 - g.2.2) := ht.2.sub s2.2
    have m1 := n1.mul g1
    have m2 := n2.mul g2
    have m3 := n1.mul hz
    have m4 := n2.mul (way_sz hz)
    have hne : (g.1.2 - g.2.2) * w + (g.2.1 - g.1.1) * (1 - w) ≠ 0 := by have := den_pos_w (h.edge_falls k3) hw; grind
    have q1 := f_lback n ot (q := g.2) ⟨.of s2.1 (by decide), .of s2.2 (by decide)⟩
    have c1 := f_lminus (n + 1) (a := g.1.2) (b := g.2.2) (.of s1.2 (by decide)) (.of s2.2 (by decide))
    have c2 := f_lminus (n + 1) (a := g.2.1) (b := g.1.1) (.of s2.1 (by decide)) (.of s1.1 (by decide))
    have c3 := f_ltimes (n + 1) (.of n1 (by decide) : Ok (g.1.2 - g.2.2)) (.of g1 (by decide))
    have c4 := f_ltimes (n + 1) (.of n2 (by decide) : Ok (g.2.1 - g.1.1)) (.of g2 (by decide))
    have c5 := f_lplus (n + 1) (.of m1 (by decide)) (.of m2 (by decide))
    have c6 := f_ltimes (n + 1) (.of n1 (by decide) : Ok (g.1.2 - g.2.2)) ow
    have c7 := f_ltimes (n + 1) (.of n2 (by decide) : Ok (g.2.1 - g.1.1)) oway
    have c8 := f_lplus (n + 1) (.of m3 (by decide)) (.of m4 (by decide))
    have c9 := f_lover (n + 1) (.of (m1.add m2) (by decide)) (.of (m3.add m4) (by decide)) hne
    rw [ratio_right] at c9
    have q5 := f_lless (n + 2) (a := s) (b := ratio c w g) (.of hsz (by decide)) (.of r1 (by decide))
    by_cases hlt : s < ratio c w g
    · have hm : maxR s (ratio c w g) = ratio c w g := if_pos hlt
      refine ⟨_, ?_, maxR_sz hsz r1, some (.int e.1), some (fr (g.1.2 - g.2.2)), some (fr (g.2.1 - g.1.1)), some (pt ((topP c).1 - g.2.1, (topP c).2 - g.2.2)), some (fr ((g.1.2 - g.2.2) * ((topP c).1 - g.2.1) + (g.2.1 - g.1.1) * ((topP c).2 - g.2.2))), some (fr (ratio c w g)), rfl⟩
      simp -implicitDefEqProofs only [u38_0, iss_cons, iss_nil, ies_cons, ies_nil, evSs_cons, evSs_nil, evS_share, evS_asg, evS_asgF, evS_setF, evS_setI, evS_app, evS_pop, evS_expr, evS_ret, evS_retN, evS_if, evS_for, evS_while, evS_brk, evS_cont, evS_pass, evS_raise, evE_var, evE_lit, evE_glb, evE_tup, evE_lst, evE_bin, evE_neg, evE_not, evE_cmp, evE_chn, evE_boo, evB_one, evB_cons, evE_ite, evE_ix, evE_slc, evE_fld, evE_call, evE_callK, evE_callV, evE_makeK, evE_meth, evE_bi, evE_lcnt, evE_lidx, evE_isi, evE_isx, evE_comp, evEs_nil, evEs_cons, evT_nil, evT_one, evI_seq, evI_rng1, evI_rng2, evI_enum, evI_zip, bnd_ok, bnd_exc, sof_ok, sof_exc, sq_nx, sq_rt, sq_bk, sq_ct, sq_exc, trn_nx, trn_ct, trn_bk, trn_rt, trn_exc, endR_nx, endR_rt, endR_exc, vr_zero, vr_succ, tupD_0, tupD_1, tupD_2, tupD_3, tupD_4, tupD_5, lstD_0, lstD_1, lstD_2, lstD_3, lstD_4, lstD_5, truthD_bl, truthD_non, iteD_t, iteD_f, iteS_t, iteS_f, negD_int, chnD_t, chnD_f, and_t, and_f, or_t, or_f, asgFD_z, asgFD_cons, raiseD_ok, bindT_nm, bindT_tp, bindT_pt, bindTs_nil, bindTs_cons, wipe_nil, wipe_cons, List.set_cons_zero, List.set_cons_succ, bin_add, bin_sub, bin_mul, bin_fdiv, bin_mod, bin_pow, addD_int, subD_int, cmp_eq_int, cmp_ne_int, cmp_lt_int, cmp_le_int, cmp_gt_int, cmp_ge_int, cmp_is_non, cmp_isnot_non, isNone_non, isNone_tup, isNone_fr, isNone_pt, bi_len_lst, bi_len_tup, bi_len_scr, bi_int, bi_abs, bi_gcd, bi_list_lst, bi_list_tup, bi_tuple_lst, bi_tuple_tup, bi_max2, bi_min2, ofOpt_some, seq_lst, seq_tup, partD_nil, partD_int, ix_fr0, ix_fr1, ix_pt0, ix_pt1, ix_t2_0, ix_t2_1, ix_t3_0, ix_t3_1, ix_t3_2, ix_t4_0, ix_t4_1, ix_t4_2, ix_t4_3, SM_call, SM_made, cmp_eq_fr, cmp_ne_fr, cmp_eq_pt, cmp_ne_pt, cmp_eq_lpt, cmp_ne_lpt, cmp_eq_tpt, cmp_ne_tpt, SM_hcall, decide_true, decide_false, Bool.not_true, Bool.not_false, ixD_lst k1, ixD_lst k2, c1, c2, q1, c3, c4, c5, c6, c7, c8, c9, q5, hlt, hm]
    · have hm : maxR s (ratio c w g) = s := if_neg hlt
      refine ⟨_, ?_, maxR_sz hsz r1, some (.int e.1), some (fr (g.1.2 - g.2.2)), some (fr (g.2.1 - g.1.1)), some (pt ((topP c).1 - g.2.1, (topP c).2 - g.2.2)), some (fr ((g.1.2 - g.2.2) * ((topP c).1 - g.2.1) + (g.2.1 - g.1.1) * ((topP c).2 - g.2.2))), some (fr (ratio c w g)), rfl⟩
      simp -implicitDefEqProofs only [u38_0, iss_cons, iss_nil, ies_cons, ies_nil, evSs_cons, evSs_nil, evS_share, evS_asg, evS_asgF, evS_setF, evS_setI, evS_app, evS_pop, evS_expr, evS_ret, evS_retN, evS_if, evS_for, evS_while, evS_brk, evS_cont, evS_pass, evS_raise, evE_var, evE_lit, evE_glb, evE_tup, evE_lst, evE_bin, evE_neg, evE_not, evE_cmp, evE_chn, evE_boo, evB_one, evB_cons, evE_ite, evE_ix, evE_slc, evE_fld, evE_call, evE_callK, evE_callV, evE_makeK, evE_meth, evE_bi, evE_lcnt, evE_lidx, evE_isi, evE_isx, evE_comp, evEs_nil, evEs_cons, evT_nil, evT_one, evI_seq, evI_rng1, evI_rng2, evI_enum, evI_zip, bnd_ok, bnd_exc, sof_ok, sof_exc, sq_nx, sq_rt, sq_bk, sq_ct, sq_exc, trn_nx, trn_ct, trn_bk, trn_rt, trn_exc, endR_nx, endR_rt, endR_exc, vr_zero, vr_succ, tupD_0, tupD_1, tupD_2, tupD_3, tupD_4, tupD_5, lstD_0, lstD_1, lstD_2, lstD_3, lstD_4, lstD_5, truthD_bl, truthD_non, iteD_t, iteD_f, iteS_t, iteS_f, negD_int, chnD_t, chnD_f, and_t, and_f, or_t, or_f, asgFD_z, asgFD_cons, raiseD_ok, bindT_nm, bindT_tp, bindT_pt, bindTs_nil, bindTs_cons, wipe_nil, wipe_cons, List.set_cons_zero, List.set_cons_succ, bin_add, bin_sub, bin_mul, bin_fdiv, bin_mod, bin_pow, addD_int, subD_int, cmp_eq_int, cmp_ne_int, cmp_lt_int, cmp_le_int, cmp_gt_int, cmp_ge_int, cmp_is_non, cmp_isnot_non, isNone_non, isNone_tup, isNone_fr, isNone_pt, bi_len_lst, bi_len_tup, bi_len_scr, bi_int, bi_abs, bi_gcd, bi_list_lst, bi_list_tup, bi_tuple_lst, bi_tuple_tup, bi_max2, bi_min2, ofOpt_some, seq_lst, seq_tup, partD_nil, partD_int, ix_fr0, ix_fr1, ix_pt0, ix_pt1, ix_t2_0, ix_t2_1, ix_t3_0, ix_t3_1, ix_t3_2, ix_t4_0, ix_t4_1, ix_t4_2, ix_t4_3, SM_call, SM_made, cmp_eq_fr, cmp_ne_fr, cmp_eq_pt, cmp_ne_pt, cmp_eq_lpt, cmp_ne_lpt, cmp_eq_tpt, cmp_ne_tpt, SM_hcall, decide_true, decide_false, Bool.not_true, Bool.not_false, ixD_lst k1, ixD_lst k2, c1, c2, q1, c3, c4, c5, c6, c7, c8, c9, q5, hlt, hm]) 0 [some (.lst (c.map pt)), some (fr w), some (pt (topP c)), some (pt (w, 1 - w)), some (fr 0), none, none, none, none, none, none] ⟨zero_sz.mono (by decide), none, none, none, none, none, none, rfl⟩
  have hf : (edgesI c 1).foldl (fun s e => maxR s (ratio c w e.2)) 0 = far c w := by
    unfold far
    rw [← edgesI_edges c 1, List.map_map, List.foldl_map]
    rfl
  obtain ⟨_, y0, y1, y2, y3, y4, y5, rfl⟩ := h2
  rw [hf] at h1
  have f1 := far_sz hc hs hz
  have p1 := f1.mul hz
  have p2 := f1.mul (way_sz hz)
  have q6 := f_lback n ot (q := (far c w * w, far c w * (1 - w))) ⟨.of p1 (by decide), .of p2 (by decide)⟩
  rw [e_law_loss]
  simp -implicitDefEqProofs only [b38, v38_0, v38_1, v38_2, v38_3, v38_4, iss_cons, iss_nil, ies_cons, ies_nil, evSs_cons, evSs_nil, evS_share, evS_asg, evS_asgF, evS_setF, evS_setI, evS_app, evS_pop, evS_expr, evS_ret, evS_retN, evS_if, evS_for, evS_while, evS_brk, evS_cont, evS_pass, evS_raise, evE_var, evE_lit, evE_glb, evE_tup, evE_lst, evE_bin, evE_neg, evE_not, evE_cmp, evE_chn, evE_boo, evB_one, evB_cons, evE_ite, evE_ix, evE_slc, evE_fld, evE_call, evE_callK, evE_callV, evE_makeK, evE_meth, evE_bi, evE_lcnt, evE_lidx, evE_isi, evE_isx, evE_comp, evEs_nil, evEs_cons, evT_nil, evT_one, evI_seq, evI_rng1, evI_rng2, evI_enum, evI_zip, bnd_ok, bnd_exc, sof_ok, sof_exc, sq_nx, sq_rt, sq_bk, sq_ct, sq_exc, trn_nx, trn_ct, trn_bk, trn_rt, trn_exc, endR_nx, endR_rt, endR_exc, vr_zero, vr_succ, tupD_0, tupD_1, tupD_2, tupD_3, tupD_4, tupD_5, lstD_0, lstD_1, lstD_2, lstD_3, lstD_4, lstD_5, truthD_bl, truthD_non, iteD_t, iteD_f, iteS_t, iteS_f, negD_int, chnD_t, chnD_f, and_t, and_f, or_t, or_f, asgFD_z, asgFD_cons, raiseD_ok, bindT_nm, bindT_tp, bindT_pt, bindTs_nil, bindTs_cons, wipe_nil, wipe_cons, List.set_cons_zero, List.set_cons_succ, bin_add, bin_sub, bin_mul, bin_fdiv, bin_mod, bin_pow, addD_int, subD_int, cmp_eq_int, cmp_ne_int, cmp_lt_int, cmp_le_int, cmp_gt_int, cmp_ge_int, cmp_is_non, cmp_isnot_non, isNone_non, isNone_tup, isNone_fr, isNone_pt, bi_len_lst, bi_len_tup, bi_len_scr, bi_int, bi_abs, bi_gcd, bi_list_lst, bi_list_tup, bi_tuple_lst, bi_tuple_tup, bi_max2, bi_min2, ofOpt_some, seq_lst, seq_tup, partD_nil, partD_int, ix_fr0, ix_fr1, ix_pt0, ix_pt1, ix_t2_0, ix_t2_1, ix_t3_0, ix_t3_1, ix_t3_2, ix_t4_0, ix_t4_1, ix_t4_2, ix_t4_3, SM_call, SM_made, cmp_eq_fr, cmp_ne_fr, cmp_eq_pt, cmp_ne_pt, cmp_eq_lpt, cmp_ne_lpt, cmp_eq_tpt, cmp_ne_tpt, SM_hcall, decide_true, decide_false, Bool.not_true, Bool.not_false, f_ltop (n + 2) hc, hone, hzero, f_lminus (n + 1) o1 ow, pt_mk, List.length_map, rng2_edges hc hl, h1, f_ltimes (n + 1) (.of f1 (by decide) : Ok (far c w)) ow, f_ltimes (n + 1) (.of f1 (by decide) : Ok (far c w)) oway, q6]
  rfl
/-! ### the border of the hull of points -/
theorem f_turn (n : Nat) {W H : Nat} {a b c : IP} (ha : Com W H a) (hb : Com W H b) (hc : Com W H c) : callN Pr (n + 1) 12 [spD W H a, spD W H b, spD W H c] = .ok (.int (turnI W H a b c)) := by
  rw [e_turn]
  simp -implicitDefEqProofs only [b12, spD, iss_cons, iss_nil, ies_cons, ies_nil, evSs_cons, evSs_nil, evS_share, evS_asg, evS_asgF, evS_setF, evS_setI, evS_app, evS_pop, evS_expr, evS_ret, evS_retN, evS_if, evS_for, evS_while, evS_brk, evS_cont, evS_pass, evS_raise, evE_var, evE_lit, evE_glb, evE_tup, evE_lst, evE_bin, evE_neg, evE_not, evE_cmp, evE_chn, evE_boo, evB_one, evB_cons, evE_ite, evE_ix, evE_slc, evE_fld, evE_call, evE_callK, evE_callV, evE_makeK, evE_meth, evE_bi, evE_lcnt, evE_lidx, evE_isi, evE_isx, evE_comp, evEs_nil, evEs_cons, evT_nil, evT_one, evI_seq, evI_rng1, evI_rng2, evI_enum, evI_zip, bnd_ok, bnd_exc, sof_ok, sof_exc, sq_nx, sq_rt, sq_bk, sq_ct, sq_exc, trn_nx, trn_ct, trn_bk, trn_rt, trn_exc, endR_nx, endR_rt, endR_exc, vr_zero, vr_succ, tupD_0, tupD_1, tupD_2, tupD_3, tupD_4, tupD_5, lstD_0, lstD_1, lstD_2, lstD_3, lstD_4, lstD_5, truthD_bl, truthD_non, iteD_t, iteD_f, iteS_t, iteS_f, negD_int, chnD_t, chnD_f, and_t, and_f, or_t, or_f, asgFD_z, asgFD_cons, raiseD_ok, bindT_nm, bindT_tp, bindT_pt, bindTs_nil, bindTs_cons, wipe_nil, wipe_cons, List.set_cons_zero, List.set_cons_succ, bin_add, bin_sub, bin_mul, bin_fdiv, bin_mod, bin_pow, addD_int, subD_int, cmp_eq_int, cmp_ne_int, cmp_lt_int, cmp_le_int, cmp_gt_int, cmp_ge_int, cmp_is_non, cmp_isnot_non, isNone_non, isNone_tup, isNone_fr, isNone_pt, bi_len_lst, bi_len_tup, bi_len_scr, bi_int, bi_abs, bi_gcd, bi_list_lst, bi_list_tup, bi_tuple_lst, bi_tuple_tup, bi_max2, bi_min2, ofOpt_some, seq_lst, seq_tup, partD_nil, partD_int, ix_fr0, ix_fr1, ix_pt0, ix_pt1, ix_t2_0, ix_t2_1, ix_t3_0, ix_t3_1, ix_t3_2, ix_t4_0, ix_t4_1, ix_t4_2, ix_t4_3, SM_call, SM_made, cmp_eq_fr, cmp_ne_fr, cmp_eq_pt, cmp_ne_pt, cmp_eq_lpt, cmp_ne_lpt, cmp_eq_tpt, cmp_ne_tpt, SM_hcall, decide_true, decide_false, Bool.not_true, Bool.not_false, mulD_ok (mulOk_dif hb.xs ha.xs hc.ys ha.ys), mulD_ok (mulOk_dif hb.ys ha.ys hc.xs ha.xs)]
  rfl
theorem f_whole_spots (n : Nat) {ps : List Pt} {s : Nat} (hs : SzC s ps) (hl : s * ps.length < 5900) (hs2 : s ≤ 1000) (hlen : ps.length ≤ 1000) : callN Pr (n + 1) 13 [.lst (ps.map pt)] = .ok (.lst (ps.zipIdx.map (spD (lcmX ps) (lcmY ps)))) := by
  have hx : ∀ p ∈ ps, 0 < p.1.den ∧ p.1.den < 2 ^ s := fun p hp => ⟨p.1.den_pos, (hs p hp).1.2⟩
  have hy : ∀ p ∈ ps, 0 < p.2.den ∧ p.2.den < 2 ^ s := fun p hp => ⟨p.2.den_pos, (hs p hp).2.2⟩
  obtain ⟨ρ1, h1, x, y, rfl⟩ := forL_inv (t := .tp [.nm 3, .nm 4]) (b := evSs (SM n) b13_0) pt (fun done rest ρ => ∃ x y, ρ = [some (.lst (ps.map pt)), some (.int (lcmX done : Nat)), some (.int (lcmY done : Nat)), x, y, none, none]) ps [] (fun d p r ρ he hi => by
    obtain ⟨x, y, rfl⟩ := hi
    rw [List.nil_append] at he
    have hd : ∀ q ∈ d, q ∈ ps := fun q hq => by rw [← he]; exact List.mem_append_left _ hq
    have hp : p ∈ ps := by rw [← he]; simp
    have hdl : s * d.length < 5900 := by
      have : d.length ≤ ps.length := by rw [← he]; simp
      exact Nat.lt_of_le_of_lt (Nat.mul_le_mul_left _ this) hl
    have w1 : ((lcmX d : Nat) : Int).natAbs.log2 < 6000 := Nat.lt_trans (log2_lt (k := 5900) (lcm_lt (fun q hq => hx q (hd q hq)) hdl) (by decide)) (by decide)
    have w2 : ((lcmY d : Nat) : Int).natAbs.log2 < 6000 := Nat.lt_trans (log2_lt (k := 5900) (lcm_lt (fun q hq => hy q (hd q hq)) hdl) (by decide)) (by decide)
    have w3 : ((p.1.den : Nat) : Int).natAbs.log2 < 6000 := Nat.lt_trans (log2_lt (k := 1000) (hs.mono hs2 p hp).1.2 (by decide)) (by decide)
    have w4 : ((p.2.den : Nat) : Int).natAbs.log2 < 6000 := Nat.lt_trans (log2_lt (k := 1000) (hs.mono hs2 p hp).2.2 (by decide)) (by decide)
    have l1 : lcmI (lcmX d : Nat) (p.1.den : Nat) = (lcmX (d ++ [p]) : Nat) := by unfold lcmX; rw [List.foldl_append]; rfl
    have l2 : lcmI (lcmY d : Nat) (p.2.den : Nat) = (lcmY (d ++ [p]) : Nat) := by unfold lcmY; rw [List.foldl_append]; rfl
    refine ⟨_, ?_, some (fr p.1), some (fr p.2), rfl⟩
    simp -implicitDefEqProofs only [u13_0, iss_cons, iss_nil, ies_cons, ies_nil, evSs_cons, evSs_nil, evS_share, evS_asg, evS_asgF, evS_setF, evS_setI, evS_app, evS_pop, evS_expr, evS_ret, evS_retN, evS_if, evS_for, evS_while, evS_brk, evS_cont, evS_pass, evS_raise, evE_var, evE_lit, evE_glb, evE_tup, evE_lst, evE_bin, evE_neg, evE_not, evE_cmp, evE_chn, evE_boo, evB_one, evB_cons, evE_ite, evE_ix, evE_slc, evE_fld, evE_call, evE_callK, evE_callV, evE_makeK, evE_meth, evE_bi, evE_lcnt, evE_lidx, evE_isi, evE_isx, evE_comp, evEs_nil, evEs_cons, evT_nil, evT_one, evI_seq, evI_rng1, evI_rng2, evI_enum, evI_zip, bnd_ok, bnd_exc, sof_ok, sof_exc, sq_nx, sq_rt, sq_bk, sq_ct, sq_exc, trn_nx, trn_ct, trn_bk, trn_rt, trn_exc, endR_nx, endR_rt, endR_exc, vr_zero, vr_succ, tupD_0, tupD_1, tupD_2, tupD_3, tupD_4, tupD_5, lstD_0, lstD_1, lstD_2, lstD_3, lstD_4, lstD_5, truthD_bl, truthD_non, iteD_t, iteD_f, iteS_t, iteS_f, negD_int, chnD_t, chnD_f, and_t, and_f, or_t, or_f, asgFD_z, asgFD_cons, raiseD_ok, bindT_nm, bindT_tp, bindT_pt, bindTs_nil, bindTs_cons, wipe_nil, wipe_cons, List.set_cons_zero, List.set_cons_succ, bin_add, bin_sub, bin_mul, bin_fdiv, bin_mod, bin_pow, addD_int, subD_int, cmp_eq_int, cmp_ne_int, cmp_lt_int, cmp_le_int, cmp_gt_int, cmp_ge_int, cmp_is_non, cmp_isnot_non, isNone_non, isNone_tup, isNone_fr, isNone_pt, bi_len_lst, bi_len_tup, bi_len_scr, bi_int, bi_abs, bi_gcd, bi_list_lst, bi_list_tup, bi_tuple_lst, bi_tuple_tup, bi_max2, bi_min2, ofOpt_some, seq_lst, seq_tup, partD_nil, partD_int, ix_fr0, ix_fr1, ix_pt0, ix_pt1, ix_t2_0, ix_t2_1, ix_t3_0, ix_t3_1, ix_t3_2, ix_t4_0, ix_t4_1, ix_t4_2, ix_t4_3, SM_call, SM_made, cmp_eq_fr, cmp_ne_fr, cmp_eq_pt, cmp_ne_pt, cmp_eq_lpt, cmp_ne_lpt, cmp_eq_tpt, cmp_ne_tpt, SM_hcall, decide_true, decide_false, Bool.not_true, Bool.not_false, bi_lcm ⟨w1, w3⟩, bi_lcm ⟨w2, w4⟩, l1, l2]) [some (.lst (ps.map pt)), some (.int 1), some (.int 1), none, none, none, none] ⟨none, none, rfl⟩
  rw [List.nil_append] at h1
  have hz : enumD (ps.map pt) = ps.zipIdx.map fun q => .tup [.int (q.2 : Nat), pt q.1] := by
    unfold enumD
    rw [List.zipIdx_map, List.map_map]
    rfl
  obtain ⟨ρ2, h2, x', y', z', rfl⟩ := forL_inv (t := .tp [.nm 6, .tp [.nm 3, .nm 4]]) (b := evSs (SM n) b13_2) (fun q : IP => .tup [.int (q.2 : Nat), pt q.1]) (fun done rest ρ => ∃ x y z, ρ = [some (.lst (ps.map pt)), some (.int (lcmX ps : Nat)), some (.int (lcmY ps : Nat)), x, y, some (.lst (done.map (spD (lcmX ps) (lcmY ps)))), z]) ps.zipIdx [] (fun d q r ρ he hi => by
    obtain ⟨x, y, z, rfl⟩ := hi
    rw [List.nil_append] at he
    have hq : q.1 ∈ ps := by
      have : q ∈ ps.zipIdx := by rw [← he]; simp
      exact List.fst_mem_of_mem_zipIdx this
    have hc := com_of hs hl hs2 hq
    have hdl : (d.map (spD (lcmX ps) (lcmY ps))).length < maxLen := by
      have := congrArg List.length he
      rw [List.length_zipIdx, List.length_append, List.length_cons] at this
      rw [List.length_map]
      show d.length < 16777216
      omega
    have d1 : divOk (q.1.1.den : Int) := divOk_of (k := 1000) (den_ne _) hc.sz.1.2 (by decide) (by decide)
    have d2 : divOk (q.1.2.den : Int) := divOk_of (k := 1000) (den_ne _) hc.sz.2.2 (by decide) (by decide)
    have e1 : ((lcmX ps : Nat) : Int).fdiv (q.1.1.den : Int) = ((lcmX ps / q.1.1.den : Nat) : Int) := by rw [Int.fdiv_eq_ediv_of_nonneg _ (by omega)]; rfl
    have e2 : ((lcmY ps : Nat) : Int).fdiv (q.1.2.den : Int) = ((lcmY ps / q.1.2.den : Nat) : Int) := by rw [Int.fdiv_eq_ediv_of_nonneg _ (by omega)]; rfl
    have m1 : mulOk q.1.1.num ((lcmX ps / q.1.1.den : Nat) : Int) := mulOk_of (k := 1000) (l := 5900) hc.sz.1.1 (Nat.lt_of_le_of_lt (Nat.div_le_self _ _) hc.Ws) (by decide) (by decide) (by decide)
    have m2 : mulOk q.1.2.num ((lcmY ps / q.1.2.den : Nat) : Int) := mulOk_of (k := 1000) (l := 5900) hc.sz.2.1 (Nat.lt_of_le_of_lt (Nat.div_le_self _ _) hc.Hs) (by decide) (by decide) (by decide)
    refine ⟨_, ?_, some (fr q.1.1), some (fr q.1.2), some (.int (q.2 : Nat)), rfl⟩
    simp -implicitDefEqProofs only [u13_2, iss_cons, iss_nil, ies_cons, ies_nil, evSs_cons, evSs_nil, evS_share, evS_asg, evS_asgF, evS_setF, evS_setI, evS_app, evS_pop, evS_expr, evS_ret, evS_retN, evS_if, evS_for, evS_while, evS_brk, evS_cont, evS_pass, evS_raise, evE_var, evE_lit, evE_glb, evE_tup, evE_lst, evE_bin, evE_neg, evE_not, evE_cmp, evE_chn, evE_boo, evB_one, evB_cons, evE_ite, evE_ix, evE_slc, evE_fld, evE_call, evE_callK, evE_callV, evE_makeK, evE_meth, evE_bi, evE_lcnt, evE_lidx, evE_isi, evE_isx, evE_comp, evEs_nil, evEs_cons, evT_nil, evT_one, evI_seq, evI_rng1, evI_rng2, evI_enum, evI_zip, bnd_ok, bnd_exc, sof_ok, sof_exc, sq_nx, sq_rt, sq_bk, sq_ct, sq_exc, trn_nx, trn_ct, trn_bk, trn_rt, trn_exc, endR_nx, endR_rt, endR_exc, vr_zero, vr_succ, tupD_0, tupD_1, tupD_2, tupD_3, tupD_4, tupD_5, lstD_0, lstD_1, lstD_2, lstD_3, lstD_4, lstD_5, truthD_bl, truthD_non, iteD_t, iteD_f, iteS_t, iteS_f, negD_int, chnD_t, chnD_f, and_t, and_f, or_t, or_f, asgFD_z, asgFD_cons, raiseD_ok, bindT_nm, bindT_tp, bindT_pt, bindTs_nil, bindTs_cons, wipe_nil, wipe_cons, List.set_cons_zero, List.set_cons_succ, bin_add, bin_sub, bin_mul, bin_fdiv, bin_mod, bin_pow, addD_int, subD_int, cmp_eq_int, cmp_ne_int, cmp_lt_int, cmp_le_int, cmp_gt_int, cmp_ge_int, cmp_is_non, cmp_isnot_non, isNone_non, isNone_tup, isNone_fr, isNone_pt, bi_len_lst, bi_len_tup, bi_len_scr, bi_int, bi_abs, bi_gcd, bi_list_lst, bi_list_tup, bi_tuple_lst, bi_tuple_tup, bi_max2, bi_min2, ofOpt_some, seq_lst, seq_tup, partD_nil, partD_int, ix_fr0, ix_fr1, ix_pt0, ix_pt1, ix_t2_0, ix_t2_1, ix_t3_0, ix_t3_1, ix_t3_2, ix_t4_0, ix_t4_1, ix_t4_2, ix_t4_3, SM_call, SM_made, cmp_eq_fr, cmp_ne_fr, cmp_eq_pt, cmp_ne_pt, cmp_eq_lpt, cmp_ne_lpt, cmp_eq_tpt, cmp_ne_tpt, SM_hcall, decide_true, decide_false, Bool.not_true, Bool.not_false, fdivD_ok d1, fdivD_ok d2, e1, e2, mulD_ok m1, mulD_ok m2, appD_ok _ _ _ hdl, List.map_append, List.map_cons, List.map_nil]
    rfl) [some (.lst (ps.map pt)), some (.int (lcmX ps : Nat)), some (.int (lcmY ps : Nat)), x, y, some (.lst []), none] ⟨x, y, none, rfl⟩
  rw [List.nil_append] at h2
  have he : enum1D (.lst (ps.map pt)) = .ok (ps.zipIdx.map fun q => .tup [.int (q.2 : Nat), pt q.1]) := by rw [← hz]; rfl
  rw [e_whole_spots]
  simp -implicitDefEqProofs only [b13, v13_0, v13_1, v13_2, v13_3, v13_4, v13_5, iss_cons, iss_nil, ies_cons, ies_nil, evSs_cons, evSs_nil, evS_share, evS_asg, evS_asgF, evS_setF, evS_setI, evS_app, evS_pop, evS_expr, evS_ret, evS_retN, evS_if, evS_for, evS_while, evS_brk, evS_cont, evS_pass, evS_raise, evE_var, evE_lit, evE_glb, evE_tup, evE_lst, evE_bin, evE_neg, evE_not, evE_cmp, evE_chn, evE_boo, evB_one, evB_cons, evE_ite, evE_ix, evE_slc, evE_fld, evE_call, evE_callK, evE_callV, evE_makeK, evE_meth, evE_bi, evE_lcnt, evE_lidx, evE_isi, evE_isx, evE_comp, evEs_nil, evEs_cons, evT_nil, evT_one, evI_seq, evI_rng1, evI_rng2, evI_enum, evI_zip, bnd_ok, bnd_exc, sof_ok, sof_exc, sq_nx, sq_rt, sq_bk, sq_ct, sq_exc, trn_nx, trn_ct, trn_bk, trn_rt, trn_exc, endR_nx, endR_rt, endR_exc, vr_zero, vr_succ, tupD_0, tupD_1, tupD_2, tupD_3, tupD_4, tupD_5, lstD_0, lstD_1, lstD_2, lstD_3, lstD_4, lstD_5, truthD_bl, truthD_non, iteD_t, iteD_f, iteS_t, iteS_f, negD_int, chnD_t, chnD_f, and_t, and_f, or_t, or_f, asgFD_z, asgFD_cons, raiseD_ok, bindT_nm, bindT_tp, bindT_pt, bindTs_nil, bindTs_cons, wipe_nil, wipe_cons, List.set_cons_zero, List.set_cons_succ, bin_add, bin_sub, bin_mul, bin_fdiv, bin_mod, bin_pow, addD_int, subD_int, cmp_eq_int, cmp_ne_int, cmp_lt_int, cmp_le_int, cmp_gt_int, cmp_ge_int, cmp_is_non, cmp_isnot_non, isNone_non, isNone_tup, isNone_fr, isNone_pt, bi_len_lst, bi_len_tup, bi_len_scr, bi_int, bi_abs, bi_gcd, bi_list_lst, bi_list_tup, bi_tuple_lst, bi_tuple_tup, bi_max2, bi_min2, ofOpt_some, seq_lst, seq_tup, partD_nil, partD_int, ix_fr0, ix_fr1, ix_pt0, ix_pt1, ix_t2_0, ix_t2_1, ix_t3_0, ix_t3_1, ix_t3_2, ix_t4_0, ix_t4_1, ix_t4_2, ix_t4_3, SM_call, SM_made, cmp_eq_fr, cmp_ne_fr, cmp_eq_pt, cmp_ne_pt, cmp_eq_lpt, cmp_ne_lpt, cmp_eq_tpt, cmp_ne_tpt, SM_hcall, decide_true, decide_false, Bool.not_true, Bool.not_false, h1, he, h2]
theorem w_shrink (n : Nat) {W H : Nat} {s : IP} (hs : Com W H s) (x0 : Option D) : ∀ (st : List IP) (fuel : Nat), (∀ q ∈ st, Com W H q) → st.length < fuel → st.length ≤ 10000 → whileN (fun ρ => bnd (evE (SM (n + 1)) t14_3 ρ) truthD) (evSs (SM (n + 1)) b14_2) fuel [x0, some (.lst (st.reverse.map (spD W H))), some (spD W H s)] = .nx [x0, some (.lst ((shrink s st).reverse.map (spD W H))), some (spD W H s)]
  | st, 0, _, h, _ => absurd h (Nat.not_lt_zero _)
  | [], fuel + 1, _, _, _ => by
    rw [whileN_succ]
    simp -implicitDefEqProofs only [u14_3, iss_cons, iss_nil, ies_cons, ies_nil, evSs_cons, evSs_nil, evS_share, evS_asg, evS_asgF, evS_setF, evS_setI, evS_app, evS_pop, evS_expr, evS_ret, evS_retN, evS_if, evS_for, evS_while, evS_brk, evS_cont, evS_pass, evS_raise, evE_var, evE_lit, evE_glb, evE_tup, evE_lst, evE_bin, evE_neg, evE_not, evE_cmp, evE_chn, evE_boo, evB_one, evB_cons, evE_ite, evE_ix, evE_slc, evE_fld, evE_call, evE_callK, evE_callV, evE_makeK, evE_meth, evE_bi, evE_lcnt, evE_lidx, evE_isi, evE_isx, evE_comp, evEs_nil, evEs_cons, evT_nil, evT_one, evI_seq, evI_rng1, evI_rng2, evI_enum, evI_zip, bnd_ok, bnd_exc, sof_ok, sof_exc, sq_nx, sq_rt, sq_bk, sq_ct, sq_exc, trn_nx, trn_ct, trn_bk, trn_rt, trn_exc, endR_nx, endR_rt, endR_exc, vr_zero, vr_succ, tupD_0, tupD_1, tupD_2, tupD_3, tupD_4, tupD_5, lstD_0, lstD_1, lstD_2, lstD_3, lstD_4, lstD_5, truthD_bl, truthD_non, iteD_t, iteD_f, iteS_t, iteS_f, negD_int, chnD_t, chnD_f, and_t, and_f, or_t, or_f, asgFD_z, asgFD_cons, raiseD_ok, bindT_nm, bindT_tp, bindT_pt, bindTs_nil, bindTs_cons, wipe_nil, wipe_cons, List.set_cons_zero, List.set_cons_succ, bin_add, bin_sub, bin_mul, bin_fdiv, bin_mod, bin_pow, addD_int, subD_int, cmp_eq_int, cmp_ne_int, cmp_lt_int, cmp_le_int, cmp_gt_int, cmp_ge_int, cmp_is_non, cmp_isnot_non, isNone_non, isNone_tup, isNone_fr, isNone_pt, bi_len_lst, bi_len_tup, bi_len_scr, bi_int, bi_abs, bi_gcd, bi_list_lst, bi_list_tup, bi_tuple_lst, bi_tuple_tup, bi_max2, bi_min2, ofOpt_some, seq_lst, seq_tup, partD_nil, partD_int, ix_fr0, ix_fr1, ix_pt0, ix_pt1, ix_t2_0, ix_t2_1, ix_t3_0, ix_t3_1, ix_t3_2, ix_t4_0, ix_t4_1, ix_t4_2, ix_t4_3, SM_call, SM_made, cmp_eq_fr, cmp_ne_fr, cmp_eq_pt, cmp_ne_pt, cmp_eq_lpt, cmp_ne_lpt, cmp_eq_tpt, cmp_ne_tpt, SM_hcall, decide_true, decide_false, Bool.not_true, Bool.not_false, List.reverse_nil, List.map_nil, List.length_nil, show ¬ ((2 : Int) ≤ ((0 : Nat) : Int)) by decide]
    rfl
  | [b], fuel + 1, _, _, _ => by
    rw [whileN_succ]
    simp -implicitDefEqProofs only [u14_3, iss_cons, iss_nil, ies_cons, ies_nil, evSs_cons, evSs_nil, evS_share, evS_asg, evS_asgF, evS_setF, evS_setI, evS_app, evS_pop, evS_expr, evS_ret, evS_retN, evS_if, evS_for, evS_while, evS_brk, evS_cont, evS_pass, evS_raise, evE_var, evE_lit, evE_glb, evE_tup, evE_lst, evE_bin, evE_neg, evE_not, evE_cmp, evE_chn, evE_boo, evB_one, evB_cons, evE_ite, evE_ix, evE_slc, evE_fld, evE_call, evE_callK, evE_callV, evE_makeK, evE_meth, evE_bi, evE_lcnt, evE_lidx, evE_isi, evE_isx, evE_comp, evEs_nil, evEs_cons, evT_nil, evT_one, evI_seq, evI_rng1, evI_rng2, evI_enum, evI_zip, bnd_ok, bnd_exc, sof_ok, sof_exc, sq_nx, sq_rt, sq_bk, sq_ct, sq_exc, trn_nx, trn_ct, trn_bk, trn_rt, trn_exc, endR_nx, endR_rt, endR_exc, vr_zero, vr_succ, tupD_0, tupD_1, tupD_2, tupD_3, tupD_4, tupD_5, lstD_0, lstD_1, lstD_2, lstD_3, lstD_4, lstD_5, truthD_bl, truthD_non, iteD_t, iteD_f, iteS_t, iteS_f, negD_int, chnD_t, chnD_f, and_t, and_f, or_t, or_f, asgFD_z, asgFD_cons, raiseD_ok, bindT_nm, bindT_tp, bindT_pt, bindTs_nil, bindTs_cons, wipe_nil, wipe_cons, List.set_cons_zero, List.set_cons_succ, bin_add, bin_sub, bin_mul, bin_fdiv, bin_mod, bin_pow, addD_int, subD_int, cmp_eq_int, cmp_ne_int, cmp_lt_int, cmp_le_int, cmp_gt_int, cmp_ge_int, cmp_is_non, cmp_isnot_non, isNone_non, isNone_tup, isNone_fr, isNone_pt, bi_len_lst, bi_len_tup, bi_len_scr, bi_int, bi_abs, bi_gcd, bi_list_lst, bi_list_tup, bi_tuple_lst, bi_tuple_tup, bi_max2, bi_min2, ofOpt_some, seq_lst, seq_tup, partD_nil, partD_int, ix_fr0, ix_fr1, ix_pt0, ix_pt1, ix_t2_0, ix_t2_1, ix_t3_0, ix_t3_1, ix_t3_2, ix_t4_0, ix_t4_1, ix_t4_2, ix_t4_3, SM_call, SM_made, cmp_eq_fr, cmp_ne_fr, cmp_eq_pt, cmp_ne_pt, cmp_eq_lpt, cmp_ne_lpt, cmp_eq_tpt, cmp_ne_tpt, SM_hcall, decide_true, decide_false, Bool.not_true, Bool.not_false, List.reverse_cons, List.reverse_nil, List.nil_append, List.map_cons, List.map_nil, List.length_cons, List.length_nil, show ¬ ((2 : Int) ≤ ((0 + 1 : Nat) : Int)) by decide]
    rfl
  | b :: a :: r, fuel + 1, hc, hf, hl => by
    have ha := hc a (List.mem_cons_of_mem _ (List.mem_cons_self ..))
    have hb := hc b (List.mem_cons_self ..)
    have e1 : (b :: a :: r).reverse.map (spD W H) = r.reverse.map (spD W H) ++ [spD W H a, spD W H b] := by simp
    have hlen : (r.reverse.map (spD W H) ++ [spD W H a, spD W H b]).length = r.length + 2 := by simp
    have h2 : (2 : Int) ≤ ((r.length + 2 : Nat) : Int) := by omega
    have i1 : L2.atI (r.reverse.map (spD W H) ++ [spD W H a, spD W H b]) (-2) = some (spD W H a) := by
      rw [at_neg _ _ r.length (by decide) (by rw [hlen]; omega), List.getElem?_append_right (by simp)]
      simp
    have i2 : L2.atI (r.reverse.map (spD W H) ++ [spD W H a, spD W H b]) (-1) = some (spD W H b) := by
      rw [at_neg _ _ (r.length + 1) (by decide) (by rw [hlen]; omega), List.getElem?_append_right (by simp)]
      simp
    have hne : r.reverse.map (spD W H) ++ [spD W H a, spD W H b] ≠ [] := by simp
    have hdl : (r.reverse.map (spD W H) ++ [spD W H a, spD W H b]).dropLast = (a :: r).reverse.map (spD W H) := by
      rw [show r.reverse.map (spD W H) ++ [spD W H a, spD W H b] = (r.reverse.map (spD W H) ++ [spD W H a]) ++ [spD W H b] by simp, List.dropLast_concat]
      simp
    rw [whileN_succ, e1]
    by_cases ht : 0 ≤ turn a.1 b.1 s.1
    · have ht' := (turnI_nn ha hb hs).mpr ht
      have ih := w_shrink n hs x0 (a :: r) fuel (fun q hq => hc q (List.mem_cons_of_mem _ hq)) (by simp only [List.length_cons] at *; omega) (by simp only [List.length_cons] at *; omega)
      have es : shrink s (b :: a :: r) = shrink s (a :: r) := if_pos ht
      rw [es]
      simp -implicitDefEqProofs only [u14_3, u14_2, iss_cons, iss_nil, ies_cons, ies_nil, evSs_cons, evSs_nil, evS_share, evS_asg, evS_asgF, evS_setF, evS_setI, evS_app, evS_pop, evS_expr, evS_ret, evS_retN, evS_if, evS_for, evS_while, evS_brk, evS_cont, evS_pass, evS_raise, evE_var, evE_lit, evE_glb, evE_tup, evE_lst, evE_bin, evE_neg, evE_not, evE_cmp, evE_chn, evE_boo, evB_one, evB_cons, evE_ite, evE_ix, evE_slc, evE_fld, evE_call, evE_callK, evE_callV, evE_makeK, evE_meth, evE_bi, evE_lcnt, evE_lidx, evE_isi, evE_isx, evE_comp, evEs_nil, evEs_cons, evT_nil, evT_one, evI_seq, evI_rng1, evI_rng2, evI_enum, evI_zip, bnd_ok, bnd_exc, sof_ok, sof_exc, sq_nx, sq_rt, sq_bk, sq_ct, sq_exc, trn_nx, trn_ct, trn_bk, trn_rt, trn_exc, endR_nx, endR_rt, endR_exc, vr_zero, vr_succ, tupD_0, tupD_1, tupD_2, tupD_3, tupD_4, tupD_5, lstD_0, lstD_1, lstD_2, lstD_3, lstD_4, lstD_5, truthD_bl, truthD_non, iteD_t, iteD_f, iteS_t, iteS_f, negD_int, chnD_t, chnD_f, and_t, and_f, or_t, or_f, asgFD_z, asgFD_cons, raiseD_ok, bindT_nm, bindT_tp, bindT_pt, bindTs_nil, bindTs_cons, wipe_nil, wipe_cons, List.set_cons_zero, List.set_cons_succ, bin_add, bin_sub, bin_mul, bin_fdiv, bin_mod, bin_pow, addD_int, subD_int, cmp_eq_int, cmp_ne_int, cmp_lt_int, cmp_le_int, cmp_gt_int, cmp_ge_int, cmp_is_non, cmp_isnot_non, isNone_non, isNone_tup, isNone_fr, isNone_pt, bi_len_lst, bi_len_tup, bi_len_scr, bi_int, bi_abs, bi_gcd, bi_list_lst, bi_list_tup, bi_tuple_lst, bi_tuple_tup, bi_max2, bi_min2, ofOpt_some, seq_lst, seq_tup, partD_nil, partD_int, ix_fr0, ix_fr1, ix_pt0, ix_pt1, ix_t2_0, ix_t2_1, ix_t3_0, ix_t3_1, ix_t3_2, ix_t4_0, ix_t4_1, ix_t4_2, ix_t4_3, SM_call, SM_made, cmp_eq_fr, cmp_ne_fr, cmp_eq_pt, cmp_ne_pt, cmp_eq_lpt, cmp_ne_lpt, cmp_eq_tpt, cmp_ne_tpt, SM_hcall, decide_true, decide_false, Bool.not_true, Bool.not_false, hlen, h2, ixD_lst i1, ixD_lst i2, f_turn n ha hb hs, ht', if_true, popD_ok _ _ hne, hdl, ih]
    · have ht' : ¬ 0 ≤ turnI W H a b s := fun z => ht ((turnI_nn ha hb hs).mp z)
      have es : shrink s (b :: a :: r) = b :: a :: r := if_neg ht
      rw [es, e1]
      simp -implicitDefEqProofs only [u14_3, iss_cons, iss_nil, ies_cons, ies_nil, evSs_cons, evSs_nil, evS_share, evS_asg, evS_asgF, evS_setF, evS_setI, evS_app, evS_pop, evS_expr, evS_ret, evS_retN, evS_if, evS_for, evS_while, evS_brk, evS_cont, evS_pass, evS_raise, evE_var, evE_lit, evE_glb, evE_tup, evE_lst, evE_bin, evE_neg, evE_not, evE_cmp, evE_chn, evE_boo, evB_one, evB_cons, evE_ite, evE_ix, evE_slc, evE_fld, evE_call, evE_callK, evE_callV, evE_makeK, evE_meth, evE_bi, evE_lcnt, evE_lidx, evE_isi, evE_isx, evE_comp, evEs_nil, evEs_cons, evT_nil, evT_one, evI_seq, evI_rng1, evI_rng2, evI_enum, evI_zip, bnd_ok, bnd_exc, sof_ok, sof_exc, sq_nx, sq_rt, sq_bk, sq_ct, sq_exc, trn_nx, trn_ct, trn_bk, trn_rt, trn_exc, endR_nx, endR_rt, endR_exc, vr_zero, vr_succ, tupD_0, tupD_1, tupD_2, tupD_3, tupD_4, tupD_5, lstD_0, lstD_1, lstD_2, lstD_3, lstD_4, lstD_5, truthD_bl, truthD_non, iteD_t, iteD_f, iteS_t, iteS_f, negD_int, chnD_t, chnD_f, and_t, and_f, or_t, or_f, asgFD_z, asgFD_cons, raiseD_ok, bindT_nm, bindT_tp, bindT_pt, bindTs_nil, bindTs_cons, wipe_nil, wipe_cons, List.set_cons_zero, List.set_cons_succ, bin_add, bin_sub, bin_mul, bin_fdiv, bin_mod, bin_pow, addD_int, subD_int, cmp_eq_int, cmp_ne_int, cmp_lt_int, cmp_le_int, cmp_gt_int, cmp_ge_int, cmp_is_non, cmp_isnot_non, isNone_non, isNone_tup, isNone_fr, isNone_pt, bi_len_lst, bi_len_tup, bi_len_scr, bi_int, bi_abs, bi_gcd, bi_list_lst, bi_list_tup, bi_tuple_lst, bi_tuple_tup, bi_max2, bi_min2, ofOpt_some, seq_lst, seq_tup, partD_nil, partD_int, ix_fr0, ix_fr1, ix_pt0, ix_pt1, ix_t2_0, ix_t2_1, ix_t3_0, ix_t3_1, ix_t3_2, ix_t4_0, ix_t4_1, ix_t4_2, ix_t4_3, SM_call, SM_made, cmp_eq_fr, cmp_ne_fr, cmp_eq_pt, cmp_ne_pt, cmp_eq_lpt, cmp_ne_lpt, cmp_eq_tpt, cmp_ne_tpt, SM_hcall, decide_true, decide_false, Bool.not_true, Bool.not_false, hlen, h2, ixD_lst i1, ixD_lst i2, f_turn n ha hb hs, ht']
      rfl
theorem w_drop (n : Nat) {W H : Nat} (x0 x2 : Option D) : ∀ (l : List IP) (fuel : Nat), (∀ q ∈ l, Com W H q) → l.length < fuel → whileN (fun ρ => bnd (evE (SM n) t14_5 ρ) truthD) (evSs (SM n) b14_4) fuel [x0, some (.lst (l.map (spD W H))), x2] = .nx [x0, some (.lst ((dropRise l).map (spD W H))), x2]
  | l, 0, _, h => absurd h (Nat.not_lt_zero _)
  | [], fuel + 1, _, _ => by
    rw [whileN_succ]
    simp -implicitDefEqProofs only [u14_5, iss_cons, iss_nil, ies_cons, ies_nil, evSs_cons, evSs_nil, evS_share, evS_asg, evS_asgF, evS_setF, evS_setI, evS_app, evS_pop, evS_expr, evS_ret, evS_retN, evS_if, evS_for, evS_while, evS_brk, evS_cont, evS_pass, evS_raise, evE_var, evE_lit, evE_glb, evE_tup, evE_lst, evE_bin, evE_neg, evE_not, evE_cmp, evE_chn, evE_boo, evB_one, evB_cons, evE_ite, evE_ix, evE_slc, evE_fld, evE_call, evE_callK, evE_callV, evE_makeK, evE_meth, evE_bi, evE_lcnt, evE_lidx, evE_isi, evE_isx, evE_comp, evEs_nil, evEs_cons, evT_nil, evT_one, evI_seq, evI_rng1, evI_rng2, evI_enum, evI_zip, bnd_ok, bnd_exc, sof_ok, sof_exc, sq_nx, sq_rt, sq_bk, sq_ct, sq_exc, trn_nx, trn_ct, trn_bk, trn_rt, trn_exc, endR_nx, endR_rt, endR_exc, vr_zero, vr_succ, tupD_0, tupD_1, tupD_2, tupD_3, tupD_4, tupD_5, lstD_0, lstD_1, lstD_2, lstD_3, lstD_4, lstD_5, truthD_bl, truthD_non, iteD_t, iteD_f, iteS_t, iteS_f, negD_int, chnD_t, chnD_f, and_t, and_f, or_t, or_f, asgFD_z, asgFD_cons, raiseD_ok, bindT_nm, bindT_tp, bindT_pt, bindTs_nil, bindTs_cons, wipe_nil, wipe_cons, List.set_cons_zero, List.set_cons_succ, bin_add, bin_sub, bin_mul, bin_fdiv, bin_mod, bin_pow, addD_int, subD_int, cmp_eq_int, cmp_ne_int, cmp_lt_int, cmp_le_int, cmp_gt_int, cmp_ge_int, cmp_is_non, cmp_isnot_non, isNone_non, isNone_tup, isNone_fr, isNone_pt, bi_len_lst, bi_len_tup, bi_len_scr, bi_int, bi_abs, bi_gcd, bi_list_lst, bi_list_tup, bi_tuple_lst, bi_tuple_tup, bi_max2, bi_min2, ofOpt_some, seq_lst, seq_tup, partD_nil, partD_int, ix_fr0, ix_fr1, ix_pt0, ix_pt1, ix_t2_0, ix_t2_1, ix_t3_0, ix_t3_1, ix_t3_2, ix_t4_0, ix_t4_1, ix_t4_2, ix_t4_3, SM_call, SM_made, cmp_eq_fr, cmp_ne_fr, cmp_eq_pt, cmp_ne_pt, cmp_eq_lpt, cmp_ne_lpt, cmp_eq_tpt, cmp_ne_tpt, SM_hcall, decide_true, decide_false, Bool.not_true, Bool.not_false, List.map_nil, List.length_nil, show ¬ ((2 : Int) ≤ ((0 : Nat) : Int)) by decide]
    rfl
  | [b], fuel + 1, _, _ => by
    rw [whileN_succ]
    simp -implicitDefEqProofs only [u14_5, iss_cons, iss_nil, ies_cons, ies_nil, evSs_cons, evSs_nil, evS_share, evS_asg, evS_asgF, evS_setF, evS_setI, evS_app, evS_pop, evS_expr, evS_ret, evS_retN, evS_if, evS_for, evS_while, evS_brk, evS_cont, evS_pass, evS_raise, evE_var, evE_lit, evE_glb, evE_tup, evE_lst, evE_bin, evE_neg, evE_not, evE_cmp, evE_chn, evE_boo, evB_one, evB_cons, evE_ite, evE_ix, evE_slc, evE_fld, evE_call, evE_callK, evE_callV, evE_makeK, evE_meth, evE_bi, evE_lcnt, evE_lidx, evE_isi, evE_isx, evE_comp, evEs_nil, evEs_cons, evT_nil, evT_one, evI_seq, evI_rng1, evI_rng2, evI_enum, evI_zip, bnd_ok, bnd_exc, sof_ok, sof_exc, sq_nx, sq_rt, sq_bk, sq_ct, sq_exc, trn_nx, trn_ct, trn_bk, trn_rt, trn_exc, endR_nx, endR_rt, endR_exc, vr_zero, vr_succ, tupD_0, tupD_1, tupD_2, tupD_3, tupD_4, tupD_5, lstD_0, lstD_1, lstD_2, lstD_3, lstD_4, lstD_5, truthD_bl, truthD_non, iteD_t, iteD_f, iteS_t, iteS_f, negD_int, chnD_t, chnD_f, and_t, and_f, or_t, or_f, asgFD_z, asgFD_cons, raiseD_ok, bindT_nm, bindT_tp, bindT_pt, bindTs_nil, bindTs_cons, wipe_nil, wipe_cons, List.set_cons_zero, List.set_cons_succ, bin_add, bin_sub, bin_mul, bin_fdiv, bin_mod, bin_pow, addD_int, subD_int, cmp_eq_int, cmp_ne_int, cmp_lt_int, cmp_le_int, cmp_gt_int, cmp_ge_int, cmp_is_non, cmp_isnot_non, isNone_non, isNone_tup, isNone_fr, isNone_pt, bi_len_lst, bi_len_tup, bi_len_scr, bi_int, bi_abs, bi_gcd, bi_list_lst, bi_list_tup, bi_tuple_lst, bi_tuple_tup, bi_max2, bi_min2, ofOpt_some, seq_lst, seq_tup, partD_nil, partD_int, ix_fr0, ix_fr1, ix_pt0, ix_pt1, ix_t2_0, ix_t2_1, ix_t3_0, ix_t3_1, ix_t3_2, ix_t4_0, ix_t4_1, ix_t4_2, ix_t4_3, SM_call, SM_made, cmp_eq_fr, cmp_ne_fr, cmp_eq_pt, cmp_ne_pt, cmp_eq_lpt, cmp_ne_lpt, cmp_eq_tpt, cmp_ne_tpt, SM_hcall, decide_true, decide_false, Bool.not_true, Bool.not_false, List.map_cons, List.map_nil, List.length_cons, List.length_nil, show ¬ ((2 : Int) ≤ ((0 + 1 : Nat) : Int)) by decide]
    rfl
  | a :: b :: r, fuel + 1, hc, hf => by
    have ha := hc a (List.mem_cons_self ..)
    have hb := hc b (List.mem_cons_of_mem _ (List.mem_cons_self ..))
    have hlen : (spD W H a :: spD W H b :: r.map (spD W H)).length = r.length + 2 := by simp
    have h2 : (2 : Int) ≤ ((r.length + 2 : Nat) : Int) := by omega
    have i0 : L2.atI (spD W H a :: spD W H b :: r.map (spD W H)) 0 = some (spD W H a) := at_nat _ 0 0 rfl
    have i1 : L2.atI (spD W H a :: spD W H b :: r.map (spD W H)) 1 = some (spD W H b) := at_nat _ 1 1 rfl
    have j0 : ixD (spD W H a) (.int 1) = .ok (.int (sY H a)) := rfl
    have j1 : ixD (spD W H b) (.int 1) = .ok (.int (sY H b)) := rfl
    have hsl : slcD (.lst (spD W H a :: spD W H b :: r.map (spD W H))) (some 1) none = .ok (.lst ((b :: r).map (spD W H))) := by
      show R.ok (D.lst (cutL _ _ _)) = _
      rw [cut_tail]
      rfl
    rw [whileN_succ, List.map_cons, List.map_cons]
    by_cases ht : a.1.2 ≤ b.1.2
    · have ht' := (yle_iff ha hb).mpr ht
      have ih := w_drop n x0 x2 (b :: r) fuel (fun q hq => hc q (List.mem_cons_of_mem _ hq)) (by simp only [List.length_cons] at *; omega)
      have es : dropRise (a :: b :: r) = dropRise (b :: r) := if_pos ht
      rw [es]
      simp -implicitDefEqProofs only [u14_5, u14_4, iss_cons, iss_nil, ies_cons, ies_nil, evSs_cons, evSs_nil, evS_share, evS_asg, evS_asgF, evS_setF, evS_setI, evS_app, evS_pop, evS_expr, evS_ret, evS_retN, evS_if, evS_for, evS_while, evS_brk, evS_cont, evS_pass, evS_raise, evE_var, evE_lit, evE_glb, evE_tup, evE_lst, evE_bin, evE_neg, evE_not, evE_cmp, evE_chn, evE_boo, evB_one, evB_cons, evE_ite, evE_ix, evE_slc, evE_fld, evE_call, evE_callK, evE_callV, evE_makeK, evE_meth, evE_bi, evE_lcnt, evE_lidx, evE_isi, evE_isx, evE_comp, evEs_nil, evEs_cons, evT_nil, evT_one, evI_seq, evI_rng1, evI_rng2, evI_enum, evI_zip, bnd_ok, bnd_exc, sof_ok, sof_exc, sq_nx, sq_rt, sq_bk, sq_ct, sq_exc, trn_nx, trn_ct, trn_bk, trn_rt, trn_exc, endR_nx, endR_rt, endR_exc, vr_zero, vr_succ, tupD_0, tupD_1, tupD_2, tupD_3, tupD_4, tupD_5, lstD_0, lstD_1, lstD_2, lstD_3, lstD_4, lstD_5, truthD_bl, truthD_non, iteD_t, iteD_f, iteS_t, iteS_f, negD_int, chnD_t, chnD_f, and_t, and_f, or_t, or_f, asgFD_z, asgFD_cons, raiseD_ok, bindT_nm, bindT_tp, bindT_pt, bindTs_nil, bindTs_cons, wipe_nil, wipe_cons, List.set_cons_zero, List.set_cons_succ, bin_add, bin_sub, bin_mul, bin_fdiv, bin_mod, bin_pow, addD_int, subD_int, cmp_eq_int, cmp_ne_int, cmp_lt_int, cmp_le_int, cmp_gt_int, cmp_ge_int, cmp_is_non, cmp_isnot_non, isNone_non, isNone_tup, isNone_fr, isNone_pt, bi_len_lst, bi_len_tup, bi_len_scr, bi_int, bi_abs, bi_gcd, bi_list_lst, bi_list_tup, bi_tuple_lst, bi_tuple_tup, bi_max2, bi_min2, ofOpt_some, seq_lst, seq_tup, partD_nil, partD_int, ix_fr0, ix_fr1, ix_pt0, ix_pt1, ix_t2_0, ix_t2_1, ix_t3_0, ix_t3_1, ix_t3_2, ix_t4_0, ix_t4_1, ix_t4_2, ix_t4_3, SM_call, SM_made, cmp_eq_fr, cmp_ne_fr, cmp_eq_pt, cmp_ne_pt, cmp_eq_lpt, cmp_ne_lpt, cmp_eq_tpt, cmp_ne_tpt, SM_hcall, decide_true, decide_false, Bool.not_true, Bool.not_false, hlen, h2, ixD_lst i0, ixD_lst i1, j0, j1, ht', if_true, hsl, ih]
    · have ht' : ¬ sY H a ≤ sY H b := fun z => ht ((yle_iff ha hb).mp z)
      have es : dropRise (a :: b :: r) = a :: b :: r := if_neg ht
      rw [es]
      simp -implicitDefEqProofs only [u14_5, iss_cons, iss_nil, ies_cons, ies_nil, evSs_cons, evSs_nil, evS_share, evS_asg, evS_asgF, evS_setF, evS_setI, evS_app, evS_pop, evS_expr, evS_ret, evS_retN, evS_if, evS_for, evS_while, evS_brk, evS_cont, evS_pass, evS_raise, evE_var, evE_lit, evE_glb, evE_tup, evE_lst, evE_bin, evE_neg, evE_not, evE_cmp, evE_chn, evE_boo, evB_one, evB_cons, evE_ite, evE_ix, evE_slc, evE_fld, evE_call, evE_callK, evE_callV, evE_makeK, evE_meth, evE_bi, evE_lcnt, evE_lidx, evE_isi, evE_isx, evE_comp, evEs_nil, evEs_cons, evT_nil, evT_one, evI_seq, evI_rng1, evI_rng2, evI_enum, evI_zip, bnd_ok, bnd_exc, sof_ok, sof_exc, sq_nx, sq_rt, sq_bk, sq_ct, sq_exc, trn_nx, trn_ct, trn_bk, trn_rt, trn_exc, endR_nx, endR_rt, endR_exc, vr_zero, vr_succ, tupD_0, tupD_1, tupD_2, tupD_3, tupD_4, tupD_5, lstD_0, lstD_1, lstD_2, lstD_3, lstD_4, lstD_5, truthD_bl, truthD_non, iteD_t, iteD_f, iteS_t, iteS_f, negD_int, chnD_t, chnD_f, and_t, and_f, or_t, or_f, asgFD_z, asgFD_cons, raiseD_ok, bindT_nm, bindT_tp, bindT_pt, bindTs_nil, bindTs_cons, wipe_nil, wipe_cons, List.set_cons_zero, List.set_cons_succ, bin_add, bin_sub, bin_mul, bin_fdiv, bin_mod, bin_pow, addD_int, subD_int, cmp_eq_int, cmp_ne_int, cmp_lt_int, cmp_le_int, cmp_gt_int, cmp_ge_int, cmp_is_non, cmp_isnot_non, isNone_non, isNone_tup, isNone_fr, isNone_pt, bi_len_lst, bi_len_tup, bi_len_scr, bi_int, bi_abs, bi_gcd, bi_list_lst, bi_list_tup, bi_tuple_lst, bi_tuple_tup, bi_max2, bi_min2, ofOpt_some, seq_lst, seq_tup, partD_nil, partD_int, ix_fr0, ix_fr1, ix_pt0, ix_pt1, ix_t2_0, ix_t2_1, ix_t3_0, ix_t3_1, ix_t3_2, ix_t4_0, ix_t4_1, ix_t4_2, ix_t4_3, SM_call, SM_made, cmp_eq_fr, cmp_ne_fr, cmp_eq_pt, cmp_ne_pt, cmp_eq_lpt, cmp_ne_lpt, cmp_eq_tpt, cmp_ne_tpt, SM_hcall, decide_true, decide_false, Bool.not_true, Bool.not_false, hlen, h2, ixD_lst i0, ixD_lst i1, j0, j1, ht', List.map_cons]
      rfl
theorem f_upper_chain (n : Nat) {ps : List Pt} {s : Nat} (hs : SzC s ps) (hl : s * ps.length < 5900) (hs2 : s ≤ 1000) (hlen : ps.length ≤ 1000) : callN Pr (n + 3) 14 [.lst (ps.map pt)] = .ok (.lst ((upper ps).map pt)) := by
  have hcom : ∀ q ∈ ps.zipIdx, Com (lcmX ps) (lcmY ps) q := fun q hq => com_of hs hl hs2 (List.fst_mem_of_mem_zipIdx hq)
  have hcs : ∀ q ∈ sortIP ps.zipIdx, Com (lcmX ps) (lcmY ps) q := fun q hq => hcom q ((sortIP_perm _).mem_iff.mp hq)
  have hsl : (sortIP ps.zipIdx).length = ps.length := by rw [(sortIP_perm _).length_eq, List.length_zipIdx]
  obtain ⟨ρ1, h1, x, rfl⟩ := forL_inv (t := .nm 2) (b := evSs (SM (n + 2)) b14_0) (spD (lcmX ps) (lcmY ps)) (fun done rest ρ => ∃ x, ρ = [some (.lst (ps.map pt)), some (.lst ((done.foldl push []).reverse.map (spD (lcmX ps) (lcmY ps)))), x]) (sortIP ps.zipIdx) [] (fun d q r ρ he hi => by
    obtain ⟨x, rfl⟩ := hi
    rw [List.nil_append] at he
    have hd : ∀ q ∈ d.foldl push [], Com (lcmX ps) (lcmY ps) q := fun q hq => by
      have := stack_mem d [] [] (fun q hq => by cases hq) q hq
      rw [List.nil_append] at this
      exact hcs q (by rw [← he]; exact List.mem_append_left _ this)
    have hq : Com (lcmX ps) (lcmY ps) q := hcs q (by rw [← he]; simp)
    have hdl : d.length < ps.length := by
      have := congrArg List.length he
      rw [hsl, List.length_append, List.length_cons] at this
      omega
    have hst := stack_len d []
    rw [List.length_nil, Nat.zero_add] at hst
    have hw := w_shrink (n + 1) hq (some (.lst (ps.map pt))) (d.foldl push []) fuel0 hd (Nat.lt_of_le_of_lt (Nat.le_trans hst (by omega : d.length ≤ 1000)) fuel_small) (by omega)
    have hsh : ((shrink q (d.foldl push [])).reverse.map (spD (lcmX ps) (lcmY ps))).length < maxLen := by
      have := (shrink_suffix q (d.foldl push [])).sublist.length_le
      rw [List.length_map, List.length_reverse]
      show _ < 16777216
      omega
    have e : (d ++ [q]).foldl push [] = push (d.foldl push []) q := by rw [List.foldl_append]; rfl
    have e2 : (shrink q (d.foldl push [])).reverse.map (spD (lcmX ps) (lcmY ps)) ++ [spD (lcmX ps) (lcmY ps) q] = (push (d.foldl push []) q).reverse.map (spD (lcmX ps) (lcmY ps)) := by unfold push; simp
    refine ⟨_, ?_, some (spD (lcmX ps) (lcmY ps) q), rfl⟩
    rw [e]
    simp -implicitDefEqProofs only [u14_0, iss_cons, iss_nil, ies_cons, ies_nil, evSs_cons, evSs_nil, evS_share, evS_asg, evS_asgF, evS_setF, evS_setI, evS_app, evS_pop, evS_expr, evS_ret, evS_retN, evS_if, evS_for, evS_while, evS_brk, evS_cont, evS_pass, evS_raise, evE_var, evE_lit, evE_glb, evE_tup, evE_lst, evE_bin, evE_neg, evE_not, evE_cmp, evE_chn, evE_boo, evB_one, evB_cons, evE_ite, evE_ix, evE_slc, evE_fld, evE_call, evE_callK, evE_callV, evE_makeK, evE_meth, evE_bi, evE_lcnt, evE_lidx, evE_isi, evE_isx, evE_comp, evEs_nil, evEs_cons, evT_nil, evT_one, evI_seq, evI_rng1, evI_rng2, evI_enum, evI_zip, bnd_ok, bnd_exc, sof_ok, sof_exc, sq_nx, sq_rt, sq_bk, sq_ct, sq_exc, trn_nx, trn_ct, trn_bk, trn_rt, trn_exc, endR_nx, endR_rt, endR_exc, vr_zero, vr_succ, tupD_0, tupD_1, tupD_2, tupD_3, tupD_4, tupD_5, lstD_0, lstD_1, lstD_2, lstD_3, lstD_4, lstD_5, truthD_bl, truthD_non, iteD_t, iteD_f, iteS_t, iteS_f, negD_int, chnD_t, chnD_f, and_t, and_f, or_t, or_f, asgFD_z, asgFD_cons, raiseD_ok, bindT_nm, bindT_tp, bindT_pt, bindTs_nil, bindTs_cons, wipe_nil, wipe_cons, List.set_cons_zero, List.set_cons_succ, bin_add, bin_sub, bin_mul, bin_fdiv, bin_mod, bin_pow, addD_int, subD_int, cmp_eq_int, cmp_ne_int, cmp_lt_int, cmp_le_int, cmp_gt_int, cmp_ge_int, cmp_is_non, cmp_isnot_non, isNone_non, isNone_tup, isNone_fr, isNone_pt, bi_len_lst, bi_len_tup, bi_len_scr, bi_int, bi_abs, bi_gcd, bi_list_lst, bi_list_tup, bi_tuple_lst, bi_tuple_tup, bi_max2, bi_min2, ofOpt_some, seq_lst, seq_tup, partD_nil, partD_int, ix_fr0, ix_fr1, ix_pt0, ix_pt1, ix_t2_0, ix_t2_1, ix_t3_0, ix_t3_1, ix_t3_2, ix_t4_0, ix_t4_1, ix_t4_2, ix_t4_3, SM_call, SM_made, cmp_eq_fr, cmp_ne_fr, cmp_eq_pt, cmp_ne_pt, cmp_eq_lpt, cmp_ne_lpt, cmp_eq_tpt, cmp_ne_tpt, SM_hcall, decide_true, decide_false, Bool.not_true, Bool.not_false, SM_fuel, hw, appD_ok _ _ _ hsh, e2]) [some (.lst (ps.map pt)), some (.lst []), none] ⟨none, rfl⟩
  rw [List.nil_append] at h1
  have hd : ∀ q ∈ ((sortIP ps.zipIdx).foldl push []).reverse, q ∈ sortIP ps.zipIdx := fun q hq => by
    have := stack_mem (sortIP ps.zipIdx) [] [] (fun q hq => by cases hq) q (by simpa using hq)
    simpa using this
  have hst := stack_len (sortIP ps.zipIdx) []
  rw [List.length_nil, Nat.zero_add, hsl] at hst
  have h2 := w_drop (n + 2) (some (.lst (ps.map pt))) x ((sortIP ps.zipIdx).foldl push []).reverse fuel0 (fun q hq => hcs q (hd q hq)) (by rw [List.length_reverse]; exact Nat.lt_of_le_of_lt (by omega : _ ≤ 1000) fuel_small)
  have h3 := compL_map (g := cmpT (SM (n + 2)) [some (.lst (ps.map pt)), some (.lst ((dropRise ((sortIP ps.zipIdx).foldl push []).reverse).map (spD (lcmX ps) (lcmY ps)))), x] (.nm 2) [2] .nil k14_6) (spD (lcmX ps) (lcmY ps)) (fun q => pt q.1) (dropRise ((sortIP ps.zipIdx).foldl push []).reverse) (fun q hq => by
    have hm : q ∈ ps.zipIdx := (sortIP_perm _).mem_iff.mp (hd q ((dropRise_suffix _).subset hq))
    have hix : L2.atI (ps.map pt) ((q.2 : Nat) : Int) = some (pt q.1) := by
      rw [at_nat _ _ q.2 rfl, List.getElem?_map]
      have := List.mem_zipIdx_iff_getElem?.mp hm
      rw [this]
      rfl
    have j : ixD (spD (lcmX ps) (lcmY ps) q) (.int 2) = .ok (.int (q.2 : Int)) := rfl
    unfold cmpT
    simp -implicitDefEqProofs only [u14_6, iss_cons, iss_nil, ies_cons, ies_nil, evSs_cons, evSs_nil, evS_share, evS_asg, evS_asgF, evS_setF, evS_setI, evS_app, evS_pop, evS_expr, evS_ret, evS_retN, evS_if, evS_for, evS_while, evS_brk, evS_cont, evS_pass, evS_raise, evE_var, evE_lit, evE_glb, evE_tup, evE_lst, evE_bin, evE_neg, evE_not, evE_cmp, evE_chn, evE_boo, evB_one, evB_cons, evE_ite, evE_ix, evE_slc, evE_fld, evE_call, evE_callK, evE_callV, evE_makeK, evE_meth, evE_bi, evE_lcnt, evE_lidx, evE_isi, evE_isx, evE_comp, evEs_nil, evEs_cons, evT_nil, evT_one, evI_seq, evI_rng1, evI_rng2, evI_enum, evI_zip, bnd_ok, bnd_exc, sof_ok, sof_exc, sq_nx, sq_rt, sq_bk, sq_ct, sq_exc, trn_nx, trn_ct, trn_bk, trn_rt, trn_exc, endR_nx, endR_rt, endR_exc, vr_zero, vr_succ, tupD_0, tupD_1, tupD_2, tupD_3, tupD_4, tupD_5, lstD_0, lstD_1, lstD_2, lstD_3, lstD_4, lstD_5, truthD_bl, truthD_non, iteD_t, iteD_f, iteS_t, iteS_f, negD_int, chnD_t, chnD_f, and_t, and_f, or_t, or_f, asgFD_z, asgFD_cons, raiseD_ok, bindT_nm, bindT_tp, bindT_pt, bindTs_nil, bindTs_cons, wipe_nil, wipe_cons, List.set_cons_zero, List.set_cons_succ, bin_add, bin_sub, bin_mul, bin_fdiv, bin_mod, bin_pow, addD_int, subD_int, cmp_eq_int, cmp_ne_int, cmp_lt_int, cmp_le_int, cmp_gt_int, cmp_ge_int, cmp_is_non, cmp_isnot_non, isNone_non, isNone_tup, isNone_fr, isNone_pt, bi_len_lst, bi_len_tup, bi_len_scr, bi_int, bi_abs, bi_gcd, bi_list_lst, bi_list_tup, bi_tuple_lst, bi_tuple_tup, bi_max2, bi_min2, ofOpt_some, seq_lst, seq_tup, partD_nil, partD_int, ix_fr0, ix_fr1, ix_pt0, ix_pt1, ix_t2_0, ix_t2_1, ix_t3_0, ix_t3_1, ix_t3_2, ix_t4_0, ix_t4_1, ix_t4_2, ix_t4_3, SM_call, SM_made, cmp_eq_fr, cmp_ne_fr, cmp_eq_pt, cmp_ne_pt, cmp_eq_lpt, cmp_ne_lpt, cmp_eq_tpt, cmp_ne_tpt, SM_hcall, decide_true, decide_false, Bool.not_true, Bool.not_false, j, ixD_lst hix, if_true])
  have hlen2 : ((dropRise ((sortIP ps.zipIdx).foldl push []).reverse).map (fun q => pt q.1)).length ≤ maxLen := by
    have := (dropRise_suffix ((sortIP ps.zipIdx).foldl push []).reverse).sublist.length_le
    rw [List.length_reverse] at this
    rw [List.length_map]
    show _ ≤ 16777216
    omega
  rw [e_upper_chain]
  simp -implicitDefEqProofs only [b14, v14_0, v14_1, v14_2, v14_3, iss_cons, iss_nil, ies_cons, ies_nil, evSs_cons, evSs_nil, evS_share, evS_asg, evS_asgF, evS_setF, evS_setI, evS_app, evS_pop, evS_expr, evS_ret, evS_retN, evS_if, evS_for, evS_while, evS_brk, evS_cont, evS_pass, evS_raise, evE_var, evE_lit, evE_glb, evE_tup, evE_lst, evE_bin, evE_neg, evE_not, evE_cmp, evE_chn, evE_boo, evB_one, evB_cons, evE_ite, evE_ix, evE_slc, evE_fld, evE_call, evE_callK, evE_callV, evE_makeK, evE_meth, evE_bi, evE_lcnt, evE_lidx, evE_isi, evE_isx, evE_comp, evEs_nil, evEs_cons, evT_nil, evT_one, evI_seq, evI_rng1, evI_rng2, evI_enum, evI_zip, bnd_ok, bnd_exc, sof_ok, sof_exc, sq_nx, sq_rt, sq_bk, sq_ct, sq_exc, trn_nx, trn_ct, trn_bk, trn_rt, trn_exc, endR_nx, endR_rt, endR_exc, vr_zero, vr_succ, tupD_0, tupD_1, tupD_2, tupD_3, tupD_4, tupD_5, lstD_0, lstD_1, lstD_2, lstD_3, lstD_4, lstD_5, truthD_bl, truthD_non, iteD_t, iteD_f, iteS_t, iteS_f, negD_int, chnD_t, chnD_f, and_t, and_f, or_t, or_f, asgFD_z, asgFD_cons, raiseD_ok, bindT_nm, bindT_tp, bindT_pt, bindTs_nil, bindTs_cons, wipe_nil, wipe_cons, List.set_cons_zero, List.set_cons_succ, bin_add, bin_sub, bin_mul, bin_fdiv, bin_mod, bin_pow, addD_int, subD_int, cmp_eq_int, cmp_ne_int, cmp_lt_int, cmp_le_int, cmp_gt_int, cmp_ge_int, cmp_is_non, cmp_isnot_non, isNone_non, isNone_tup, isNone_fr, isNone_pt, bi_len_lst, bi_len_tup, bi_len_scr, bi_int, bi_abs, bi_gcd, bi_list_lst, bi_list_tup, bi_tuple_lst, bi_tuple_tup, bi_max2, bi_min2, ofOpt_some, seq_lst, seq_tup, partD_nil, partD_int, ix_fr0, ix_fr1, ix_pt0, ix_pt1, ix_t2_0, ix_t2_1, ix_t3_0, ix_t3_1, ix_t3_2, ix_t4_0, ix_t4_1, ix_t4_2, ix_t4_3, SM_call, SM_made, cmp_eq_fr, cmp_ne_fr, cmp_eq_pt, cmp_ne_pt, cmp_eq_lpt, cmp_ne_lpt, cmp_eq_tpt, cmp_ne_tpt, SM_hcall, decide_true, decide_false, Bool.not_true, Bool.not_false, SM_fuel, f_whole_spots (n + 1) hs hl hs2 hlen, bi_sort_sp hcom, h1, h2, h3, lstD_ok hlen2]
  unfold upper
  rw [List.map_map]
  rfl
theorem f_lot (n : Nat) {ps c : List Pt} {s : Nat} (hs : SzC s ps) (hl : s * ps.length < 5900) (hs2 : s ≤ 1000) (hlen : ps.length ≤ 1000) (hne : ps ≠ []) (hu : upper ps = c) : mkN Pr (n + 4) 1 [.lst (ps.map pt)] = .ok (lotD c) := by
  have h0 : ¬ (((ps.length : Nat) : Int) = 0) := by
    have := List.length_pos_iff.mpr hne
    omega
  rw [e_Lot_init]
  simp -implicitDefEqProofs only [b43, v43_0, v43_1, iss_cons, iss_nil, ies_cons, ies_nil, evSs_cons, evSs_nil, evS_share, evS_asg, evS_asgF, evS_setF, evS_setI, evS_app, evS_pop, evS_expr, evS_ret, evS_retN, evS_if, evS_for, evS_while, evS_brk, evS_cont, evS_pass, evS_raise, evE_var, evE_lit, evE_glb, evE_tup, evE_lst, evE_bin, evE_neg, evE_not, evE_cmp, evE_chn, evE_boo, evB_one, evB_cons, evE_ite, evE_ix, evE_slc, evE_fld, evE_call, evE_callK, evE_callV, evE_makeK, evE_meth, evE_bi, evE_lcnt, evE_lidx, evE_isi, evE_isx, evE_comp, evEs_nil, evEs_cons, evT_nil, evT_one, evI_seq, evI_rng1, evI_rng2, evI_enum, evI_zip, bnd_ok, bnd_exc, sof_ok, sof_exc, sq_nx, sq_rt, sq_bk, sq_ct, sq_exc, trn_nx, trn_ct, trn_bk, trn_rt, trn_exc, endR_nx, endR_rt, endR_exc, vr_zero, vr_succ, tupD_0, tupD_1, tupD_2, tupD_3, tupD_4, tupD_5, lstD_0, lstD_1, lstD_2, lstD_3, lstD_4, lstD_5, truthD_bl, truthD_non, iteD_t, iteD_f, iteS_t, iteS_f, negD_int, chnD_t, chnD_f, and_t, and_f, or_t, or_f, asgFD_z, asgFD_cons, raiseD_ok, bindT_nm, bindT_tp, bindT_pt, bindTs_nil, bindTs_cons, wipe_nil, wipe_cons, List.set_cons_zero, List.set_cons_succ, bin_add, bin_sub, bin_mul, bin_fdiv, bin_mod, bin_pow, addD_int, subD_int, cmp_eq_int, cmp_ne_int, cmp_lt_int, cmp_le_int, cmp_gt_int, cmp_ge_int, cmp_is_non, cmp_isnot_non, isNone_non, isNone_tup, isNone_fr, isNone_pt, bi_len_lst, bi_len_tup, bi_len_scr, bi_int, bi_abs, bi_gcd, bi_list_lst, bi_list_tup, bi_tuple_lst, bi_tuple_tup, bi_max2, bi_min2, ofOpt_some, seq_lst, seq_tup, partD_nil, partD_int, ix_fr0, ix_fr1, ix_pt0, ix_pt1, ix_t2_0, ix_t2_1, ix_t3_0, ix_t3_1, ix_t3_2, ix_t4_0, ix_t4_1, ix_t4_2, ix_t4_3, SM_call, SM_made, cmp_eq_fr, cmp_ne_fr, cmp_eq_pt, cmp_ne_pt, cmp_eq_lpt, cmp_ne_lpt, cmp_eq_tpt, cmp_ne_tpt, SM_hcall, decide_true, decide_false, Bool.not_true, Bool.not_false, List.length_map, h0, f_upper_chain n hs hl hs2 hlen, hu]
  rfl
/-! ### the law's worlds -/
theorem f_cell (n : Nat) (ns : List Int) (k : Nat) : callN Pr (n + 1) 15 [.scr ns, .int (k : Nat)] = .ok (.int (ns.getD k 0)) := by
  rw [e_law_cell]
  by_cases h : k < ns.length
  · have h1 : ((k : Nat) : Int) < ((ns.length : Nat) : Int) := by omega
    have h2 : ixD (.scr ns) (.int (k : Nat)) = .ok (.int (ns.getD k 0)) := by
      show R.ofOpt ((L2.atI ns ((k : Nat) : Int)).map D.int) = _
      rw [at_nat _ _ k rfl, List.getD_eq_getElem?_getD, List.getElem?_eq_getElem h]
      rfl
    simp -implicitDefEqProofs only [b15, v15_0, v15_1, iss_cons, iss_nil, ies_cons, ies_nil, evSs_cons, evSs_nil, evS_share, evS_asg, evS_asgF, evS_setF, evS_setI, evS_app, evS_pop, evS_expr, evS_ret, evS_retN, evS_if, evS_for, evS_while, evS_brk, evS_cont, evS_pass, evS_raise, evE_var, evE_lit, evE_glb, evE_tup, evE_lst, evE_bin, evE_neg, evE_not, evE_cmp, evE_chn, evE_boo, evB_one, evB_cons, evE_ite, evE_ix, evE_slc, evE_fld, evE_call, evE_callK, evE_callV, evE_makeK, evE_meth, evE_bi, evE_lcnt, evE_lidx, evE_isi, evE_isx, evE_comp, evEs_nil, evEs_cons, evT_nil, evT_one, evI_seq, evI_rng1, evI_rng2, evI_enum, evI_zip, bnd_ok, bnd_exc, sof_ok, sof_exc, sq_nx, sq_rt, sq_bk, sq_ct, sq_exc, trn_nx, trn_ct, trn_bk, trn_rt, trn_exc, endR_nx, endR_rt, endR_exc, vr_zero, vr_succ, tupD_0, tupD_1, tupD_2, tupD_3, tupD_4, tupD_5, lstD_0, lstD_1, lstD_2, lstD_3, lstD_4, lstD_5, truthD_bl, truthD_non, iteD_t, iteD_f, iteS_t, iteS_f, negD_int, chnD_t, chnD_f, and_t, and_f, or_t, or_f, asgFD_z, asgFD_cons, raiseD_ok, bindT_nm, bindT_tp, bindT_pt, bindTs_nil, bindTs_cons, wipe_nil, wipe_cons, List.set_cons_zero, List.set_cons_succ, bin_add, bin_sub, bin_mul, bin_fdiv, bin_mod, bin_pow, addD_int, subD_int, cmp_eq_int, cmp_ne_int, cmp_lt_int, cmp_le_int, cmp_gt_int, cmp_ge_int, cmp_is_non, cmp_isnot_non, isNone_non, isNone_tup, isNone_fr, isNone_pt, bi_len_lst, bi_len_tup, bi_len_scr, bi_int, bi_abs, bi_gcd, bi_list_lst, bi_list_tup, bi_tuple_lst, bi_tuple_tup, bi_max2, bi_min2, ofOpt_some, seq_lst, seq_tup, partD_nil, partD_int, ix_fr0, ix_fr1, ix_pt0, ix_pt1, ix_t2_0, ix_t2_1, ix_t3_0, ix_t3_1, ix_t3_2, ix_t4_0, ix_t4_1, ix_t4_2, ix_t4_3, SM_call, SM_made, cmp_eq_fr, cmp_ne_fr, cmp_eq_pt, cmp_ne_pt, cmp_eq_lpt, cmp_ne_lpt, cmp_eq_tpt, cmp_ne_tpt, SM_hcall, decide_true, decide_false, Bool.not_true, Bool.not_false, h1, h2]
  · have h1 : ¬ ((k : Nat) : Int) < ((ns.length : Nat) : Int) := by omega
    rw [List.getD_eq_getElem?_getD, List.getElem?_eq_none (by omega)]
    simp -implicitDefEqProofs only [b15, v15_0, v15_1, iss_cons, iss_nil, ies_cons, ies_nil, evSs_cons, evSs_nil, evS_share, evS_asg, evS_asgF, evS_setF, evS_setI, evS_app, evS_pop, evS_expr, evS_ret, evS_retN, evS_if, evS_for, evS_while, evS_brk, evS_cont, evS_pass, evS_raise, evE_var, evE_lit, evE_glb, evE_tup, evE_lst, evE_bin, evE_neg, evE_not, evE_cmp, evE_chn, evE_boo, evB_one, evB_cons, evE_ite, evE_ix, evE_slc, evE_fld, evE_call, evE_callK, evE_callV, evE_makeK, evE_meth, evE_bi, evE_lcnt, evE_lidx, evE_isi, evE_isx, evE_comp, evEs_nil, evEs_cons, evT_nil, evT_one, evI_seq, evI_rng1, evI_rng2, evI_enum, evI_zip, bnd_ok, bnd_exc, sof_ok, sof_exc, sq_nx, sq_rt, sq_bk, sq_ct, sq_exc, trn_nx, trn_ct, trn_bk, trn_rt, trn_exc, endR_nx, endR_rt, endR_exc, vr_zero, vr_succ, tupD_0, tupD_1, tupD_2, tupD_3, tupD_4, tupD_5, lstD_0, lstD_1, lstD_2, lstD_3, lstD_4, lstD_5, truthD_bl, truthD_non, iteD_t, iteD_f, iteS_t, iteS_f, negD_int, chnD_t, chnD_f, and_t, and_f, or_t, or_f, asgFD_z, asgFD_cons, raiseD_ok, bindT_nm, bindT_tp, bindT_pt, bindTs_nil, bindTs_cons, wipe_nil, wipe_cons, List.set_cons_zero, List.set_cons_succ, bin_add, bin_sub, bin_mul, bin_fdiv, bin_mod, bin_pow, addD_int, subD_int, cmp_eq_int, cmp_ne_int, cmp_lt_int, cmp_le_int, cmp_gt_int, cmp_ge_int, cmp_is_non, cmp_isnot_non, isNone_non, isNone_tup, isNone_fr, isNone_pt, bi_len_lst, bi_len_tup, bi_len_scr, bi_int, bi_abs, bi_gcd, bi_list_lst, bi_list_tup, bi_tuple_lst, bi_tuple_tup, bi_max2, bi_min2, ofOpt_some, seq_lst, seq_tup, partD_nil, partD_int, ix_fr0, ix_fr1, ix_pt0, ix_pt1, ix_t2_0, ix_t2_1, ix_t3_0, ix_t3_1, ix_t3_2, ix_t4_0, ix_t4_1, ix_t4_2, ix_t4_3, SM_call, SM_made, cmp_eq_fr, cmp_ne_fr, cmp_eq_pt, cmp_ne_pt, cmp_eq_lpt, cmp_ne_lpt, cmp_eq_tpt, cmp_ne_tpt, SM_hcall, decide_true, decide_false, Bool.not_true, Bool.not_false, h1]
    rfl
theorem pow_18 : powD (.int 10) (.int 18) = .ok (.int 1000000000000000000) := rfl
theorem pow_5 : powD (.int 10) (.int 5) = .ok (.int 100000) := rfl
theorem pow_30 : powD (.int 10) (.int 30) = .ok (.int 1000000000000000000000000000000) := rfl
theorem f_digits (n : Nat) (cell : Int) (base : Int) (k : Nat) (hb : 2 ≤ base) (hb2 : base ≤ 1000000) (hk : k ≤ 1000000) : ∃ ds, callN Pr (n + 1) 16 [.int cell, .int base, .int (k : Nat)] = .ok (.lst (ds.map .int)) ∧ Dig base k ds := by
  have hb0 : base ≠ 0 := by omega
  have hdb : divOk base := divOk_of (k := 64) hb0 (by show base.natAbs < 18446744073709551616; omega) (by decide) (by decide)
  by_cases hbig : (1000000000000000000 : Int) ≤ (cell.natAbs : Int)
  · obtain ⟨ρ', h1, r, ds, x, rfl, hr, hd⟩ := forL_inv (t := .nm 5) (b := evSs (SM n) b16_0) (fun i : Nat => .int ((i : Nat) : Int)) (fun done rest ρ => ∃ r ds x, ρ = [some (.int cell), some (.int base), some (.int (k : Nat)), some (.int r), some (.lst (ds.map .int)), x] ∧ 0 ≤ r ∧ Dig base done.length ds) (List.range k) [] (fun d i rs ρ he hi => by
      obtain ⟨r, ds, x, rfl, hr, hd⟩ := hi
      have hdl : (ds.map D.int).length < maxLen := by
        have := congrArg List.length he
        rw [List.nil_append, List.length_range, List.length_append, List.length_cons] at this
        rw [List.length_map, hd.len]
        show _ < 16777216
        omega
      obtain ⟨f1, f2⟩ := fmod_rng (a := r) (b := base) (by omega)
      refine ⟨_, ?_, r.fdiv base, ds ++ [r.fmod base], some (.int ((i : Nat) : Int)), rfl, fdiv_nn hr (by omega), ?_⟩
      · simp -implicitDefEqProofs only [u16_0, iss_cons, iss_nil, ies_cons, ies_nil, evSs_cons, evSs_nil, evS_share, evS_asg, evS_asgF, evS_setF, evS_setI, evS_app, evS_pop, evS_expr, evS_ret, evS_retN, evS_if, evS_for, evS_while, evS_brk, evS_cont, evS_pass, evS_raise, evE_var, evE_lit, evE_glb, evE_tup, evE_lst, evE_bin, evE_neg, evE_not, evE_cmp, evE_chn, evE_boo, evB_one, evB_cons, evE_ite, evE_ix, evE_slc, evE_fld, evE_call, evE_callK, evE_callV, evE_makeK, evE_meth, evE_bi, evE_lcnt, evE_lidx, evE_isi, evE_isx, evE_comp, evEs_nil, evEs_cons, evT_nil, evT_one, evI_seq, evI_rng1, evI_rng2, evI_enum, evI_zip, bnd_ok, bnd_exc, sof_ok, sof_exc, sq_nx, sq_rt, sq_bk, sq_ct, sq_exc, trn_nx, trn_ct, trn_bk, trn_rt, trn_exc, endR_nx, endR_rt, endR_exc, vr_zero, vr_succ, tupD_0, tupD_1, tupD_2, tupD_3, tupD_4, tupD_5, lstD_0, lstD_1, lstD_2, lstD_3, lstD_4, lstD_5, truthD_bl, truthD_non, iteD_t, iteD_f, iteS_t, iteS_f, negD_int, chnD_t, chnD_f, and_t, and_f, or_t, or_f, asgFD_z, asgFD_cons, raiseD_ok, bindT_nm, bindT_tp, bindT_pt, bindTs_nil, bindTs_cons, wipe_nil, wipe_cons, List.set_cons_zero, List.set_cons_succ, bin_add, bin_sub, bin_mul, bin_fdiv, bin_mod, bin_pow, addD_int, subD_int, cmp_eq_int, cmp_ne_int, cmp_lt_int, cmp_le_int, cmp_gt_int, cmp_ge_int, cmp_is_non, cmp_isnot_non, isNone_non, isNone_tup, isNone_fr, isNone_pt, bi_len_lst, bi_len_tup, bi_len_scr, bi_int, bi_abs, bi_gcd, bi_list_lst, bi_list_tup, bi_tuple_lst, bi_tuple_tup, bi_max2, bi_min2, ofOpt_some, seq_lst, seq_tup, partD_nil, partD_int, ix_fr0, ix_fr1, ix_pt0, ix_pt1, ix_t2_0, ix_t2_1, ix_t3_0, ix_t3_1, ix_t3_2, ix_t4_0, ix_t4_1, ix_t4_2, ix_t4_3, SM_call, SM_made, cmp_eq_fr, cmp_ne_fr, cmp_eq_pt, cmp_ne_pt, cmp_eq_lpt, cmp_ne_lpt, cmp_eq_tpt, cmp_ne_tpt, SM_hcall, decide_true, decide_false, Bool.not_true, Bool.not_false, modD_ok hb0, fdivD_ok hdb, appD_ok _ _ _ hdl, List.map_append, List.map_cons, List.map_nil]
      · rw [List.length_append]
        exact hd.snoc f1 f2) [some (.int cell), some (.int base), some (.int (k : Nat)), some (.int (cell.natAbs : Int)), some (.lst []), none] ⟨_, [], _, rfl, by omega, rfl, (fun x hx => by cases hx)⟩
    refine ⟨ds, ?_, by rw [List.nil_append, List.length_range] at hd; exact hd⟩
    rw [e_law_digits]
    simp -implicitDefEqProofs only [b16, v16_0, v16_1, v16_2, v16_3, v16_4, iss_cons, iss_nil, ies_cons, ies_nil, evSs_cons, evSs_nil, evS_share, evS_asg, evS_asgF, evS_setF, evS_setI, evS_app, evS_pop, evS_expr, evS_ret, evS_retN, evS_if, evS_for, evS_while, evS_brk, evS_cont, evS_pass, evS_raise, evE_var, evE_lit, evE_glb, evE_tup, evE_lst, evE_bin, evE_neg, evE_not, evE_cmp, evE_chn, evE_boo, evB_one, evB_cons, evE_ite, evE_ix, evE_slc, evE_fld, evE_call, evE_callK, evE_callV, evE_makeK, evE_meth, evE_bi, evE_lcnt, evE_lidx, evE_isi, evE_isx, evE_comp, evEs_nil, evEs_cons, evT_nil, evT_one, evI_seq, evI_rng1, evI_rng2, evI_enum, evI_zip, bnd_ok, bnd_exc, sof_ok, sof_exc, sq_nx, sq_rt, sq_bk, sq_ct, sq_exc, trn_nx, trn_ct, trn_bk, trn_rt, trn_exc, endR_nx, endR_rt, endR_exc, vr_zero, vr_succ, tupD_0, tupD_1, tupD_2, tupD_3, tupD_4, tupD_5, lstD_0, lstD_1, lstD_2, lstD_3, lstD_4, lstD_5, truthD_bl, truthD_non, iteD_t, iteD_f, iteS_t, iteS_f, negD_int, chnD_t, chnD_f, and_t, and_f, or_t, or_f, asgFD_z, asgFD_cons, raiseD_ok, bindT_nm, bindT_tp, bindT_pt, bindTs_nil, bindTs_cons, wipe_nil, wipe_cons, List.set_cons_zero, List.set_cons_succ, bin_add, bin_sub, bin_mul, bin_fdiv, bin_mod, bin_pow, addD_int, subD_int, cmp_eq_int, cmp_ne_int, cmp_lt_int, cmp_le_int, cmp_gt_int, cmp_ge_int, cmp_is_non, cmp_isnot_non, isNone_non, isNone_tup, isNone_fr, isNone_pt, bi_len_lst, bi_len_tup, bi_len_scr, bi_int, bi_abs, bi_gcd, bi_list_lst, bi_list_tup, bi_tuple_lst, bi_tuple_tup, bi_max2, bi_min2, ofOpt_some, seq_lst, seq_tup, partD_nil, partD_int, ix_fr0, ix_fr1, ix_pt0, ix_pt1, ix_t2_0, ix_t2_1, ix_t3_0, ix_t3_1, ix_t3_2, ix_t4_0, ix_t4_1, ix_t4_2, ix_t4_3, SM_call, SM_made, cmp_eq_fr, cmp_ne_fr, cmp_eq_pt, cmp_ne_pt, cmp_eq_lpt, cmp_ne_lpt, cmp_eq_tpt, cmp_ne_tpt, SM_hcall, decide_true, decide_false, Bool.not_true, Bool.not_false, pow_18, hbig, rng1_nat k hk, h1]
  · obtain ⟨ρ', h1, r, ds, x, rfl, hr, hr2, hd⟩ := forL_inv (t := .nm 5) (b := evSs (SM n) b16_2) (fun i : Nat => .int ((i : Nat) : Int)) (fun done rest ρ => ∃ r ds x, ρ = [some (.int cell), some (.int base), some (.int (k : Nat)), some (.int r), some (.lst (ds.map .int)), x] ∧ 0 ≤ r ∧ r < 1000000000000000000 ∧ Dig base done.length ds) (List.range k) [] (fun d i rs ρ he hi => by
      obtain ⟨r, ds, x, rfl, hr, hr2, hd⟩ := hi
      have hlen : d.length + (rs.length + 1) = k := by
        have := congrArg List.length he
        rw [List.nil_append, List.length_range, List.length_append, List.length_cons] at this
        exact this
      have hik : i < k := by
        have : i ∈ List.range k := by
          rw [← List.nil_append (List.range k), ← he]; simp
        exact List.mem_range.mp this
      have hdl : (ds.map D.int).length < maxLen := by
        rw [List.length_map, hd.len]
        show _ < 16777216
        omega
      have d64 : divOk (64 : Int) := by decide
      have m1 : mulD (.int r) (.int 48271) = .ok (.int (r * 48271)) := mul_sm (sm_of (by omega) (by omega)) (sm_of (by decide) (by decide))
      have m2 : mulD (.int ((i : Nat) : Int)) (.int 69621) = .ok (.int (((i : Nat) : Int) * 69621)) := mul_sm (sm_of (by omega) (by omega)) (sm_of (by decide) (by decide))
      generalize hr1 : (r * 48271 + ((i : Nat) : Int) * 69621 + 17).fmod 2147483647 = r1
      obtain ⟨g1, g2⟩ := fmod_rng (a := r * 48271 + ((i : Nat) : Int) * 69621 + 17) (b := 2147483647) (by decide)
      rw [hr1] at g1 g2
      have m3 : mulD (.int r1) (.int 16807) = .ok (.int (r1 * 16807)) := mul_sm (sm_of (by omega) (by omega)) (sm_of (by decide) (by decide))
      have m4 : mulD (.int 2) (.int ((i : Nat) : Int)) = .ok (.int (2 * ((i : Nat) : Int))) := mul_sm (sm_of (by decide) (by decide)) (sm_of (by omega) (by omega))
      generalize hr3 : (r1 * 16807 + 2 * ((i : Nat) : Int) + 5).fmod 2147483629 = r3
      obtain ⟨g3, g4⟩ := fmod_rng (a := r1 * 16807 + 2 * ((i : Nat) : Int) + 5) (b := 2147483629) (by decide)
      rw [hr3] at g3 g4
      obtain ⟨f1, f2⟩ := fmod_rng (a := r3.fdiv 64) (b := base) (by omega)
      refine ⟨_, ?_, r3, ds ++ [(r3.fdiv 64).fmod base], some (.int ((i : Nat) : Int)), rfl, g3, by omega, ?_⟩
      · simp -implicitDefEqProofs only [u16_2, iss_cons, iss_nil, ies_cons, ies_nil, evSs_cons, evSs_nil, evS_share, evS_asg, evS_asgF, evS_setF, evS_setI, evS_app, evS_pop, evS_expr, evS_ret, evS_retN, evS_if, evS_for, evS_while, evS_brk, evS_cont, evS_pass, evS_raise, evE_var, evE_lit, evE_glb, evE_tup, evE_lst, evE_bin, evE_neg, evE_not, evE_cmp, evE_chn, evE_boo, evB_one, evB_cons, evE_ite, evE_ix, evE_slc, evE_fld, evE_call, evE_callK, evE_callV, evE_makeK, evE_meth, evE_bi, evE_lcnt, evE_lidx, evE_isi, evE_isx, evE_comp, evEs_nil, evEs_cons, evT_nil, evT_one, evI_seq, evI_rng1, evI_rng2, evI_enum, evI_zip, bnd_ok, bnd_exc, sof_ok, sof_exc, sq_nx, sq_rt, sq_bk, sq_ct, sq_exc, trn_nx, trn_ct, trn_bk, trn_rt, trn_exc, endR_nx, endR_rt, endR_exc, vr_zero, vr_succ, tupD_0, tupD_1, tupD_2, tupD_3, tupD_4, tupD_5, lstD_0, lstD_1, lstD_2, lstD_3, lstD_4, lstD_5, truthD_bl, truthD_non, iteD_t, iteD_f, iteS_t, iteS_f, negD_int, chnD_t, chnD_f, and_t, and_f, or_t, or_f, asgFD_z, asgFD_cons, raiseD_ok, bindT_nm, bindT_tp, bindT_pt, bindTs_nil, bindTs_cons, wipe_nil, wipe_cons, List.set_cons_zero, List.set_cons_succ, bin_add, bin_sub, bin_mul, bin_fdiv, bin_mod, bin_pow, addD_int, subD_int, cmp_eq_int, cmp_ne_int, cmp_lt_int, cmp_le_int, cmp_gt_int, cmp_ge_int, cmp_is_non, cmp_isnot_non, isNone_non, isNone_tup, isNone_fr, isNone_pt, bi_len_lst, bi_len_tup, bi_len_scr, bi_int, bi_abs, bi_gcd, bi_list_lst, bi_list_tup, bi_tuple_lst, bi_tuple_tup, bi_max2, bi_min2, ofOpt_some, seq_lst, seq_tup, partD_nil, partD_int, ix_fr0, ix_fr1, ix_pt0, ix_pt1, ix_t2_0, ix_t2_1, ix_t3_0, ix_t3_1, ix_t3_2, ix_t4_0, ix_t4_1, ix_t4_2, ix_t4_3, SM_call, SM_made, cmp_eq_fr, cmp_ne_fr, cmp_eq_pt, cmp_ne_pt, cmp_eq_lpt, cmp_ne_lpt, cmp_eq_tpt, cmp_ne_tpt, SM_hcall, decide_true, decide_false, Bool.not_true, Bool.not_false, m1, m2, m3, m4, modD_ok (show (2147483647 : Int) ≠ 0 by decide), modD_ok (show (2147483629 : Int) ≠ 0 by decide), hr1, hr3, modD_ok hb0, fdivD_ok d64, appD_ok _ _ _ hdl, List.map_append, List.map_cons, List.map_nil]
      · rw [List.length_append]
        exact hd.snoc f1 f2) [some (.int cell), some (.int base), some (.int (k : Nat)), some (.int (cell.natAbs : Int)), some (.lst []), none] ⟨_, [], _, rfl, by omega, by omega, rfl, (fun x hx => by cases hx)⟩
    refine ⟨ds, ?_, by rw [List.nil_append, List.length_range] at hd; exact hd⟩
    rw [e_law_digits]
    simp -implicitDefEqProofs only [b16, v16_0, v16_1, v16_2, v16_3, v16_4, iss_cons, iss_nil, ies_cons, ies_nil, evSs_cons, evSs_nil, evS_share, evS_asg, evS_asgF, evS_setF, evS_setI, evS_app, evS_pop, evS_expr, evS_ret, evS_retN, evS_if, evS_for, evS_while, evS_brk, evS_cont, evS_pass, evS_raise, evE_var, evE_lit, evE_glb, evE_tup, evE_lst, evE_bin, evE_neg, evE_not, evE_cmp, evE_chn, evE_boo, evB_one, evB_cons, evE_ite, evE_ix, evE_slc, evE_fld, evE_call, evE_callK, evE_callV, evE_makeK, evE_meth, evE_bi, evE_lcnt, evE_lidx, evE_isi, evE_isx, evE_comp, evEs_nil, evEs_cons, evT_nil, evT_one, evI_seq, evI_rng1, evI_rng2, evI_enum, evI_zip, bnd_ok, bnd_exc, sof_ok, sof_exc, sq_nx, sq_rt, sq_bk, sq_ct, sq_exc, trn_nx, trn_ct, trn_bk, trn_rt, trn_exc, endR_nx, endR_rt, endR_exc, vr_zero, vr_succ, tupD_0, tupD_1, tupD_2, tupD_3, tupD_4, tupD_5, lstD_0, lstD_1, lstD_2, lstD_3, lstD_4, lstD_5, truthD_bl, truthD_non, iteD_t, iteD_f, iteS_t, iteS_f, negD_int, chnD_t, chnD_f, and_t, and_f, or_t, or_f, asgFD_z, asgFD_cons, raiseD_ok, bindT_nm, bindT_tp, bindT_pt, bindTs_nil, bindTs_cons, wipe_nil, wipe_cons, List.set_cons_zero, List.set_cons_succ, bin_add, bin_sub, bin_mul, bin_fdiv, bin_mod, bin_pow, addD_int, subD_int, cmp_eq_int, cmp_ne_int, cmp_lt_int, cmp_le_int, cmp_gt_int, cmp_ge_int, cmp_is_non, cmp_isnot_non, isNone_non, isNone_tup, isNone_fr, isNone_pt, bi_len_lst, bi_len_tup, bi_len_scr, bi_int, bi_abs, bi_gcd, bi_list_lst, bi_list_tup, bi_tuple_lst, bi_tuple_tup, bi_max2, bi_min2, ofOpt_some, seq_lst, seq_tup, partD_nil, partD_int, ix_fr0, ix_fr1, ix_pt0, ix_pt1, ix_t2_0, ix_t2_1, ix_t3_0, ix_t3_1, ix_t3_2, ix_t4_0, ix_t4_1, ix_t4_2, ix_t4_3, SM_call, SM_made, cmp_eq_fr, cmp_ne_fr, cmp_eq_pt, cmp_ne_pt, cmp_eq_lpt, cmp_ne_lpt, cmp_eq_tpt, cmp_ne_tpt, SM_hcall, decide_true, decide_false, Bool.not_true, Bool.not_false, pow_18, hbig, rng1_nat k hk, h1]
theorem w_place (n : Nat) {s : IPt} (hs : StepI s) (x0 x1 x3 : Option D) : ∀ (suf pre : List IPt) (fuel : Nat), (∀ t ∈ suf, StepI t) → suf.length < fuel → (∀ t ∈ pre, FlatI t s) → ∃ pre' suf', pre ++ suf = pre' ++ suf' ∧ (∀ t ∈ pre', FlatI t s) ∧ (∀ t r, suf' = t :: r → ¬ FlatI t s) ∧
    whileN (fun ρ => bnd (evE (SM n) t28_3 ρ) truthD) (evSs (SM n) b28_2) fuel [x0, x1, some (.lst ((pre ++ suf).map ipD)), x3, some (ipD s), some (.int (pre.length : Nat))] = .nx [x0, x1, some (.lst ((pre ++ suf).map ipD)), x3, some (ipD s), some (.int (pre'.length : Nat))]
  | suf, pre, 0, _, h, _ => absurd h (Nat.not_lt_zero _)
  | [], pre, fuel + 1, _, _, hp => by
    refine ⟨pre, [], rfl, hp, (fun t r e => by cases e), ?_⟩
    have h1 : ¬ ((pre.length : Nat) : Int) < (((pre ++ []).length : Nat) : Int) := by simp
    rw [whileN_succ]
    simp -implicitDefEqProofs only [u28_3, iss_cons, iss_nil, ies_cons, ies_nil, evSs_cons, evSs_nil, evS_share, evS_asg, evS_asgF, evS_setF, evS_setI, evS_app, evS_pop, evS_expr, evS_ret, evS_retN, evS_if, evS_for, evS_while, evS_brk, evS_cont, evS_pass, evS_raise, evE_var, evE_lit, evE_glb, evE_tup, evE_lst, evE_bin, evE_neg, evE_not, evE_cmp, evE_chn, evE_boo, evB_one, evB_cons, evE_ite, evE_ix, evE_slc, evE_fld, evE_call, evE_callK, evE_callV, evE_makeK, evE_meth, evE_bi, evE_lcnt, evE_lidx, evE_isi, evE_isx, evE_comp, evEs_nil, evEs_cons, evT_nil, evT_one, evI_seq, evI_rng1, evI_rng2, evI_enum, evI_zip, bnd_ok, bnd_exc, sof_ok, sof_exc, sq_nx, sq_rt, sq_bk, sq_ct, sq_exc, trn_nx, trn_ct, trn_bk, trn_rt, trn_exc, endR_nx, endR_rt, endR_exc, vr_zero, vr_succ, tupD_0, tupD_1, tupD_2, tupD_3, tupD_4, tupD_5, lstD_0, lstD_1, lstD_2, lstD_3, lstD_4, lstD_5, truthD_bl, truthD_non, iteD_t, iteD_f, iteS_t, iteS_f, negD_int, chnD_t, chnD_f, and_t, and_f, or_t, or_f, asgFD_z, asgFD_cons, raiseD_ok, bindT_nm, bindT_tp, bindT_pt, bindTs_nil, bindTs_cons, wipe_nil, wipe_cons, List.set_cons_zero, List.set_cons_succ, bin_add, bin_sub, bin_mul, bin_fdiv, bin_mod, bin_pow, addD_int, subD_int, cmp_eq_int, cmp_ne_int, cmp_lt_int, cmp_le_int, cmp_gt_int, cmp_ge_int, cmp_is_non, cmp_isnot_non, isNone_non, isNone_tup, isNone_fr, isNone_pt, bi_len_lst, bi_len_tup, bi_len_scr, bi_int, bi_abs, bi_gcd, bi_list_lst, bi_list_tup, bi_tuple_lst, bi_tuple_tup, bi_max2, bi_min2, ofOpt_some, seq_lst, seq_tup, partD_nil, partD_int, ix_fr0, ix_fr1, ix_pt0, ix_pt1, ix_t2_0, ix_t2_1, ix_t3_0, ix_t3_1, ix_t3_2, ix_t4_0, ix_t4_1, ix_t4_2, ix_t4_3, SM_call, SM_made, cmp_eq_fr, cmp_ne_fr, cmp_eq_pt, cmp_ne_pt, cmp_eq_lpt, cmp_ne_lpt, cmp_eq_tpt, cmp_ne_tpt, SM_hcall, decide_true, decide_false, Bool.not_true, Bool.not_false, List.length_map, h1]
    rfl
  | t :: suf, pre, fuel + 1, hst, hf, hp => by
    have h1 : ((pre.length : Nat) : Int) < (((pre ++ t :: suf).length : Nat) : Int) := by simp; omega
    have hix : L2.atI ((pre ++ t :: suf).map ipD) ((pre.length : Nat) : Int) = some (ipD t) := by
      rw [at_nat _ _ pre.length rfl, List.getElem?_map, List.getElem?_append_right (Nat.le_refl _)]
      simp
    have ht := hst t (List.mem_cons_self ..)
    have i0 : ixD (ipD t) (.int 0) = .ok (.int t.1) := rfl
    have i1 : ixD (ipD t) (.int 1) = .ok (.int t.2) := rfl
    have j0 : ixD (ipD s) (.int 0) = .ok (.int s.1) := rfl
    have j1 : ixD (ipD s) (.int 1) = .ok (.int s.2) := rfl
    have m1 : mulD (.int t.2) (.int s.1) = .ok (.int (t.2 * s.1)) := by unfold StepI at *; exact mul_sm (sm_of (by omega) (by omega)) (sm_of (by omega) (by omega))
    have m2 : mulD (.int s.2) (.int t.1) = .ok (.int (s.2 * t.1)) := by unfold StepI at *; exact mul_sm (sm_of (by omega) (by omega)) (sm_of (by omega) (by omega))
    by_cases hfl : FlatI t s
    · have hfl' : t.2 * s.1 < s.2 * t.1 := hfl
      obtain ⟨pre', suf', e, g1, g2, g3⟩ := w_place n hs x0 x1 x3 suf (pre ++ [t]) fuel (fun u hu => hst u (List.mem_cons_of_mem _ hu)) (by simp only [List.length_cons] at *; omega) (fun u hu => by
        rcases List.mem_append.mp hu with hu | hu
        · exact hp u hu
        · simp only [List.mem_singleton] at hu; subst hu; exact hfl)
      have ea : pre ++ [t] ++ suf = pre ++ t :: suf := by simp
      rw [ea] at e g3
      have el : (((pre ++ [t]).length : Nat) : Int) = ((pre.length : Nat) : Int) + 1 := by simp
      rw [el] at g3
      refine ⟨pre', suf', e, g1, g2, ?_⟩
      rw [whileN_succ]
      simp -implicitDefEqProofs only [u28_3, u28_2, iss_cons, iss_nil, ies_cons, ies_nil, evSs_cons, evSs_nil, evS_share, evS_asg, evS_asgF, evS_setF, evS_setI, evS_app, evS_pop, evS_expr, evS_ret, evS_retN, evS_if, evS_for, evS_while, evS_brk, evS_cont, evS_pass, evS_raise, evE_var, evE_lit, evE_glb, evE_tup, evE_lst, evE_bin, evE_neg, evE_not, evE_cmp, evE_chn, evE_boo, evB_one, evB_cons, evE_ite, evE_ix, evE_slc, evE_fld, evE_call, evE_callK, evE_callV, evE_makeK, evE_meth, evE_bi, evE_lcnt, evE_lidx, evE_isi, evE_isx, evE_comp, evEs_nil, evEs_cons, evT_nil, evT_one, evI_seq, evI_rng1, evI_rng2, evI_enum, evI_zip, bnd_ok, bnd_exc, sof_ok, sof_exc, sq_nx, sq_rt, sq_bk, sq_ct, sq_exc, trn_nx, trn_ct, trn_bk, trn_rt, trn_exc, endR_nx, endR_rt, endR_exc, vr_zero, vr_succ, tupD_0, tupD_1, tupD_2, tupD_3, tupD_4, tupD_5, lstD_0, lstD_1, lstD_2, lstD_3, lstD_4, lstD_5, truthD_bl, truthD_non, iteD_t, iteD_f, iteS_t, iteS_f, negD_int, chnD_t, chnD_f, and_t, and_f, or_t, or_f, asgFD_z, asgFD_cons, raiseD_ok, bindT_nm, bindT_tp, bindT_pt, bindTs_nil, bindTs_cons, wipe_nil, wipe_cons, List.set_cons_zero, List.set_cons_succ, bin_add, bin_sub, bin_mul, bin_fdiv, bin_mod, bin_pow, addD_int, subD_int, cmp_eq_int, cmp_ne_int, cmp_lt_int, cmp_le_int, cmp_gt_int, cmp_ge_int, cmp_is_non, cmp_isnot_non, isNone_non, isNone_tup, isNone_fr, isNone_pt, bi_len_lst, bi_len_tup, bi_len_scr, bi_int, bi_abs, bi_gcd, bi_list_lst, bi_list_tup, bi_tuple_lst, bi_tuple_tup, bi_max2, bi_min2, ofOpt_some, seq_lst, seq_tup, partD_nil, partD_int, ix_fr0, ix_fr1, ix_pt0, ix_pt1, ix_t2_0, ix_t2_1, ix_t3_0, ix_t3_1, ix_t3_2, ix_t4_0, ix_t4_1, ix_t4_2, ix_t4_3, SM_call, SM_made, cmp_eq_fr, cmp_ne_fr, cmp_eq_pt, cmp_ne_pt, cmp_eq_lpt, cmp_ne_lpt, cmp_eq_tpt, cmp_ne_tpt, SM_hcall, decide_true, decide_false, Bool.not_true, Bool.not_false, List.length_map, h1, ixD_lst hix, i0, i1, j0, j1, m1, m2, hfl', if_true, g3]
    · have hfl' : ¬ t.2 * s.1 < s.2 * t.1 := hfl
      refine ⟨pre, t :: suf, rfl, hp, (fun u r e => by cases e; exact hfl), ?_⟩
      rw [whileN_succ]
      simp -implicitDefEqProofs only [u28_3, iss_cons, iss_nil, ies_cons, ies_nil, evSs_cons, evSs_nil, evS_share, evS_asg, evS_asgF, evS_setF, evS_setI, evS_app, evS_pop, evS_expr, evS_ret, evS_retN, evS_if, evS_for, evS_while, evS_brk, evS_cont, evS_pass, evS_raise, evE_var, evE_lit, evE_glb, evE_tup, evE_lst, evE_bin, evE_neg, evE_not, evE_cmp, evE_chn, evE_boo, evB_one, evB_cons, evE_ite, evE_ix, evE_slc, evE_fld, evE_call, evE_callK, evE_callV, evE_makeK, evE_meth, evE_bi, evE_lcnt, evE_lidx, evE_isi, evE_isx, evE_comp, evEs_nil, evEs_cons, evT_nil, evT_one, evI_seq, evI_rng1, evI_rng2, evI_enum, evI_zip, bnd_ok, bnd_exc, sof_ok, sof_exc, sq_nx, sq_rt, sq_bk, sq_ct, sq_exc, trn_nx, trn_ct, trn_bk, trn_rt, trn_exc, endR_nx, endR_rt, endR_exc, vr_zero, vr_succ, tupD_0, tupD_1, tupD_2, tupD_3, tupD_4, tupD_5, lstD_0, lstD_1, lstD_2, lstD_3, lstD_4, lstD_5, truthD_bl, truthD_non, iteD_t, iteD_f, iteS_t, iteS_f, negD_int, chnD_t, chnD_f, and_t, and_f, or_t, or_f, asgFD_z, asgFD_cons, raiseD_ok, bindT_nm, bindT_tp, bindT_pt, bindTs_nil, bindTs_cons, wipe_nil, wipe_cons, List.set_cons_zero, List.set_cons_succ, bin_add, bin_sub, bin_mul, bin_fdiv, bin_mod, bin_pow, addD_int, subD_int, cmp_eq_int, cmp_ne_int, cmp_lt_int, cmp_le_int, cmp_gt_int, cmp_ge_int, cmp_is_non, cmp_isnot_non, isNone_non, isNone_tup, isNone_fr, isNone_pt, bi_len_lst, bi_len_tup, bi_len_scr, bi_int, bi_abs, bi_gcd, bi_list_lst, bi_list_tup, bi_tuple_lst, bi_tuple_tup, bi_max2, bi_min2, ofOpt_some, seq_lst, seq_tup, partD_nil, partD_int, ix_fr0, ix_fr1, ix_pt0, ix_pt1, ix_t2_0, ix_t2_1, ix_t3_0, ix_t3_1, ix_t3_2, ix_t4_0, ix_t4_1, ix_t4_2, ix_t4_3, SM_call, SM_made, cmp_eq_fr, cmp_ne_fr, cmp_eq_pt, cmp_ne_pt, cmp_eq_lpt, cmp_ne_lpt, cmp_eq_tpt, cmp_ne_tpt, SM_hcall, decide_true, decide_false, Bool.not_true, Bool.not_false, List.length_map, h1, ixD_lst hix, i0, i1, j0, j1, m1, m2, hfl']
      rfl
theorem f_steps (n : Nat) {ds : List Int} (hd : Dig 60 54 ds) (k : Nat) (hk : k ≤ 21) : ∃ l, callN Pr (n + 1) 28 [.lst (ds.map .int), .int (k : Nat)] = .ok (.lst (l.map ipD)) ∧ StI l ∧ l.length ≤ k := by
  obtain ⟨ρ', h1, l, x3, x4, x5, rfl, hl, hlen⟩ := forL_inv (t := .nm 3) (b := evSs (SM n) b28_0) (fun i : Nat => .int ((i : Nat) : Int)) (fun done rest ρ => ∃ l x3 x4 x5, ρ = [some (.lst (ds.map .int)), some (.int (k : Nat)), some (.lst (l.map ipD)), x3, x4, x5] ∧ StI l ∧ l.length ≤ done.length) (List.range k) [] (fun d i rs ρ he hi => by
    obtain ⟨l, x3, x4, x5, rfl, hl, hlen⟩ := hi
    have hdk : d.length + (rs.length + 1) = k := by
      have := congrArg List.length he
      rw [List.nil_append, List.length_range, List.length_append, List.length_cons] at this
      exact this
    have hik : i < k := by
      have : i ∈ List.range k := by
        rw [← List.nil_append (List.range k), ← he]; simp
      exact List.mem_range.mp this
    have m0 : mulD (.int 2) (.int ((i : Nat) : Int)) = .ok (.int (2 * ((i : Nat) : Int))) := mul_sm (sm_of (by decide) (by decide)) (sm_of (by omega) (by omega))
    have a1 : ixD (.lst (ds.map .int)) (.int (12 + 2 * ((i : Nat) : Int))) = .ok (.int (dg ds (12 + 2 * i))) := hd.at (12 + 2 * i) (by omega)
    have a2 : ixD (.lst (ds.map .int)) (.int (13 + 2 * ((i : Nat) : Int))) = .ok (.int (dg ds (13 + 2 * i))) := hd.at (13 + 2 * i) (by omega)
    have a3 : ixD (.lst (ds.map .int)) (.int 2) = .ok (.int (dg ds 2)) := hd.at 2 (by decide)
    have b1 := hd.le (12 + 2 * i) (by omega)
    have b2 := hd.le (13 + 2 * i) (by omega)
    have c1 := fmod_rng (a := dg ds (12 + 2 * i)) (b := 7) (by decide)
    have c2 := fmod_rng (a := dg ds (13 + 2 * i)) (b := 7) (by decide)
    -- the step
    have key : ∀ s : IPt, StepI s → (∀ ρ1, ρ1 = [some (.lst (ds.map .int)), some (.int (k : Nat)), some (.lst (l.map ipD)), some (.int ((i : Nat) : Int)), some (ipD s), some (.int 0)] → ∃ l' x5', sq (whileN (fun ρ => bnd (evE (SM n) t28_3 ρ) truthD) (evSs (SM n) b28_2) fuel0 ρ1) (evSs (SM n) (iss [.ifS (.boo false (ies [(.cmp .eq (.var 5) (.bi .len (ies [(.var 2)]))), (.cmp .gt (.bin .mul (.ix (.ix (.var 2) (.var 5)) (.lit (.int 1))) (.ix (.var 4) (.lit (.int 0)))) (.bin .mul (.ix (.var 4) (.lit (.int 1))) (.ix (.ix (.var 2) (.var 5)) (.lit (.int 0)))))])) (iss [.asg (.nm 2) (.bin .add (.bin .add (.slc (.var 2) .nil (ies [(.var 5)])) (.lst (ies [(.var 4)]))) (.slc (.var 2) (ies [(.var 5)]) .nil))]) .nil])) = .nx [some (.lst (ds.map .int)), some (.int (k : Nat)), some (.lst (l'.map ipD)), some (.int ((i : Nat) : Int)), some (ipD s), x5'] ∧ StI l' ∧ l'.length ≤ d.length + 1) := by
      intro s hs ρ1 hρ
      subst hρ
      obtain ⟨pre, suf, e, g1, g2, g3⟩ := w_place n hs (some (.lst (ds.map .int))) (some (.int (k : Nat))) (some (.int ((i : Nat) : Int))) l [] fuel0 hl.pos (Nat.lt_of_le_of_lt (by omega : l.length ≤ 1000) fuel_small) (fun t ht => by cases ht)
      rw [List.nil_append] at e g3
      have g4 : whileN (fun ρ => bnd (evE (SM n) t28_3 ρ) truthD) (evSs (SM n) b28_2) fuel0 [some (.lst (ds.map .int)), some (.int (k : Nat)), some (.lst (l.map ipD)), some (.int ((i : Nat) : Int)), some (ipD s), some (.int 0)] = _ := g3
      rw [g4]
      subst e
      have j0 : ixD (ipD s) (.int 0) = .ok (.int s.1) := rfl
      have j1 : ixD (ipD s) (.int 1) = .ok (.int s.2) := rfl
      have l1 : (pre.map ipD).length + ([ipD s] : List D).length ≤ maxLen := by
        simp only [List.length_map, List.length_cons, List.length_nil, List.length_append] at *
        show _ ≤ 16777216; omega
      have l2 : (pre.map ipD ++ [ipD s]).length + (suf.map ipD).length ≤ maxLen := by
        simp only [List.length_map, List.length_cons, List.length_nil, List.length_append] at *
        show _ ≤ 16777216; omega
      have sl1 : slcD (.lst ((pre ++ suf).map ipD)) none (some ((pre.length : Nat) : Int)) = .ok (.lst (pre.map ipD)) := by
        have := slc_take (pre.map ipD) (suf.map ipD)
        rw [List.length_map] at this
        rw [List.map_append]; exact this
      have sl2 : slcD (.lst ((pre ++ suf).map ipD)) (some ((pre.length : Nat) : Int)) none = .ok (.lst (suf.map ipD)) := by
        have := slc_drop (pre.map ipD) (suf.map ipD)
        rw [List.length_map] at this
        rw [List.map_append]; exact this
      have em : pre.map ipD ++ [ipD s] ++ suf.map ipD = (pre ++ [s] ++ suf).map ipD := by simp
      cases suf with
      | nil =>
        have hlen' : ((pre.length : Nat) : Int) = (((pre ++ []).length : Nat) : Int) := by simp
        refine ⟨pre ++ [s] ++ [], some (.int (pre.length : Nat)), ?_, hl.ins hs g1 (fun t r e => by cases e), by simp at *; omega⟩
        simp -implicitDefEqProofs only [iss_cons, iss_nil, ies_cons, ies_nil, evSs_cons, evSs_nil, evS_share, evS_asg, evS_asgF, evS_setF, evS_setI, evS_app, evS_pop, evS_expr, evS_ret, evS_retN, evS_if, evS_for, evS_while, evS_brk, evS_cont, evS_pass, evS_raise, evE_var, evE_lit, evE_glb, evE_tup, evE_lst, evE_bin, evE_neg, evE_not, evE_cmp, evE_chn, evE_boo, evB_one, evB_cons, evE_ite, evE_ix, evE_slc, evE_fld, evE_call, evE_callK, evE_callV, evE_makeK, evE_meth, evE_bi, evE_lcnt, evE_lidx, evE_isi, evE_isx, evE_comp, evEs_nil, evEs_cons, evT_nil, evT_one, evI_seq, evI_rng1, evI_rng2, evI_enum, evI_zip, bnd_ok, bnd_exc, sof_ok, sof_exc, sq_nx, sq_rt, sq_bk, sq_ct, sq_exc, trn_nx, trn_ct, trn_bk, trn_rt, trn_exc, endR_nx, endR_rt, endR_exc, vr_zero, vr_succ, tupD_0, tupD_1, tupD_2, tupD_3, tupD_4, tupD_5, lstD_0, lstD_1, lstD_2, lstD_3, lstD_4, lstD_5, truthD_bl, truthD_non, iteD_t, iteD_f, iteS_t, iteS_f, negD_int, chnD_t, chnD_f, and_t, and_f, or_t, or_f, asgFD_z, asgFD_cons, raiseD_ok, bindT_nm, bindT_tp, bindT_pt, bindTs_nil, bindTs_cons, wipe_nil, wipe_cons, List.set_cons_zero, List.set_cons_succ, bin_add, bin_sub, bin_mul, bin_fdiv, bin_mod, bin_pow, addD_int, subD_int, cmp_eq_int, cmp_ne_int, cmp_lt_int, cmp_le_int, cmp_gt_int, cmp_ge_int, cmp_is_non, cmp_isnot_non, isNone_non, isNone_tup, isNone_fr, isNone_pt, bi_len_lst, bi_len_tup, bi_len_scr, bi_int, bi_abs, bi_gcd, bi_list_lst, bi_list_tup, bi_tuple_lst, bi_tuple_tup, bi_max2, bi_min2, ofOpt_some, seq_lst, seq_tup, partD_nil, partD_int, ix_fr0, ix_fr1, ix_pt0, ix_pt1, ix_t2_0, ix_t2_1, ix_t3_0, ix_t3_1, ix_t3_2, ix_t4_0, ix_t4_1, ix_t4_2, ix_t4_3, SM_call, SM_made, cmp_eq_fr, cmp_ne_fr, cmp_eq_pt, cmp_ne_pt, cmp_eq_lpt, cmp_ne_lpt, cmp_eq_tpt, cmp_ne_tpt, SM_hcall, decide_true, decide_false, Bool.not_true, Bool.not_false, List.length_map, ← hlen', sl1, sl2, addD_lst l1, addD_lst l2, em]
      | cons t r =>
        have ht := hl.pos t (by simp)
        have hlen' : ¬ ((pre.length : Nat) : Int) = (((pre ++ t :: r).length : Nat) : Int) := by simp; omega
        have hix : L2.atI ((pre ++ t :: r).map ipD) ((pre.length : Nat) : Int) = some (ipD t) := by
          rw [at_nat _ _ pre.length rfl, List.getElem?_map, List.getElem?_append_right (Nat.le_refl _)]
          simp
        have i0 : ixD (ipD t) (.int 0) = .ok (.int t.1) := rfl
        have i1 : ixD (ipD t) (.int 1) = .ok (.int t.2) := rfl
        have m1 : mulD (.int t.2) (.int s.1) = .ok (.int (t.2 * s.1)) := by unfold StepI at *; exact mul_sm (sm_of (by omega) (by omega)) (sm_of (by omega) (by omega))
        have m2 : mulD (.int s.2) (.int t.1) = .ok (.int (s.2 * t.1)) := by unfold StepI at *; exact mul_sm (sm_of (by omega) (by omega)) (sm_of (by omega) (by omega))
        by_cases hst : s.2 * t.1 < t.2 * s.1
        · refine ⟨pre ++ [s] ++ t :: r, some (.int (pre.length : Nat)), ?_, hl.ins hs g1 (fun u r' e => by cases e; exact hst), by simp at *; omega⟩
          simp -implicitDefEqProofs only [iss_cons, iss_nil, ies_cons, ies_nil, evSs_cons, evSs_nil, evS_share, evS_asg, evS_asgF, evS_setF, evS_setI, evS_app, evS_pop, evS_expr, evS_ret, evS_retN, evS_if, evS_for, evS_while, evS_brk, evS_cont, evS_pass, evS_raise, evE_var, evE_lit, evE_glb, evE_tup, evE_lst, evE_bin, evE_neg, evE_not, evE_cmp, evE_chn, evE_boo, evB_one, evB_cons, evE_ite, evE_ix, evE_slc, evE_fld, evE_call, evE_callK, evE_callV, evE_makeK, evE_meth, evE_bi, evE_lcnt, evE_lidx, evE_isi, evE_isx, evE_comp, evEs_nil, evEs_cons, evT_nil, evT_one, evI_seq, evI_rng1, evI_rng2, evI_enum, evI_zip, bnd_ok, bnd_exc, sof_ok, sof_exc, sq_nx, sq_rt, sq_bk, sq_ct, sq_exc, trn_nx, trn_ct, trn_bk, trn_rt, trn_exc, endR_nx, endR_rt, endR_exc, vr_zero, vr_succ, tupD_0, tupD_1, tupD_2, tupD_3, tupD_4, tupD_5, lstD_0, lstD_1, lstD_2, lstD_3, lstD_4, lstD_5, truthD_bl, truthD_non, iteD_t, iteD_f, iteS_t, iteS_f, negD_int, chnD_t, chnD_f, and_t, and_f, or_t, or_f, asgFD_z, asgFD_cons, raiseD_ok, bindT_nm, bindT_tp, bindT_pt, bindTs_nil, bindTs_cons, wipe_nil, wipe_cons, List.set_cons_zero, List.set_cons_succ, bin_add, bin_sub, bin_mul, bin_fdiv, bin_mod, bin_pow, addD_int, subD_int, cmp_eq_int, cmp_ne_int, cmp_lt_int, cmp_le_int, cmp_gt_int, cmp_ge_int, cmp_is_non, cmp_isnot_non, isNone_non, isNone_tup, isNone_fr, isNone_pt, bi_len_lst, bi_len_tup, bi_len_scr, bi_int, bi_abs, bi_gcd, bi_list_lst, bi_list_tup, bi_tuple_lst, bi_tuple_tup, bi_max2, bi_min2, ofOpt_some, seq_lst, seq_tup, partD_nil, partD_int, ix_fr0, ix_fr1, ix_pt0, ix_pt1, ix_t2_0, ix_t2_1, ix_t3_0, ix_t3_1, ix_t3_2, ix_t4_0, ix_t4_1, ix_t4_2, ix_t4_3, SM_call, SM_made, cmp_eq_fr, cmp_ne_fr, cmp_eq_pt, cmp_ne_pt, cmp_eq_lpt, cmp_ne_lpt, cmp_eq_tpt, cmp_ne_tpt, SM_hcall, decide_true, decide_false, Bool.not_true, Bool.not_false, List.length_map, hlen', ixD_lst hix, i0, i1, j0, j1, m1, m2, hst, sl1, sl2, addD_lst l1, addD_lst l2, em]
        · refine ⟨pre ++ t :: r, some (.int (pre.length : Nat)), ?_, hl, by simp at *; omega⟩
          simp -implicitDefEqProofs only [iss_cons, iss_nil, ies_cons, ies_nil, evSs_cons, evSs_nil, evS_share, evS_asg, evS_asgF, evS_setF, evS_setI, evS_app, evS_pop, evS_expr, evS_ret, evS_retN, evS_if, evS_for, evS_while, evS_brk, evS_cont, evS_pass, evS_raise, evE_var, evE_lit, evE_glb, evE_tup, evE_lst, evE_bin, evE_neg, evE_not, evE_cmp, evE_chn, evE_boo, evB_one, evB_cons, evE_ite, evE_ix, evE_slc, evE_fld, evE_call, evE_callK, evE_callV, evE_makeK, evE_meth, evE_bi, evE_lcnt, evE_lidx, evE_isi, evE_isx, evE_comp, evEs_nil, evEs_cons, evT_nil, evT_one, evI_seq, evI_rng1, evI_rng2, evI_enum, evI_zip, bnd_ok, bnd_exc, sof_ok, sof_exc, sq_nx, sq_rt, sq_bk, sq_ct, sq_exc, trn_nx, trn_ct, trn_bk, trn_rt, trn_exc, endR_nx, endR_rt, endR_exc, vr_zero, vr_succ, tupD_0, tupD_1, tupD_2, tupD_3, tupD_4, tupD_5, lstD_0, lstD_1, lstD_2, lstD_3, lstD_4, lstD_5, truthD_bl, truthD_non, iteD_t, iteD_f, iteS_t, iteS_f, negD_int, chnD_t, chnD_f, and_t, and_f, or_t, or_f, asgFD_z, asgFD_cons, raiseD_ok, bindT_nm, bindT_tp, bindT_pt, bindTs_nil, bindTs_cons, wipe_nil, wipe_cons, List.set_cons_zero, List.set_cons_succ, bin_add, bin_sub, bin_mul, bin_fdiv, bin_mod, bin_pow, addD_int, subD_int, cmp_eq_int, cmp_ne_int, cmp_lt_int, cmp_le_int, cmp_gt_int, cmp_ge_int, cmp_is_non, cmp_isnot_non, isNone_non, isNone_tup, isNone_fr, isNone_pt, bi_len_lst, bi_len_tup, bi_len_scr, bi_int, bi_abs, bi_gcd, bi_list_lst, bi_list_tup, bi_tuple_lst, bi_tuple_tup, bi_max2, bi_min2, ofOpt_some, seq_lst, seq_tup, partD_nil, partD_int, ix_fr0, ix_fr1, ix_pt0, ix_pt1, ix_t2_0, ix_t2_1, ix_t3_0, ix_t3_1, ix_t3_2, ix_t4_0, ix_t4_1, ix_t4_2, ix_t4_3, SM_call, SM_made, cmp_eq_fr, cmp_ne_fr, cmp_eq_pt, cmp_ne_pt, cmp_eq_lpt, cmp_ne_lpt, cmp_eq_tpt, cmp_ne_tpt, SM_hcall, decide_true, decide_false, Bool.not_true, Bool.not_false, List.length_map, hlen', ixD_lst hix, i0, i1, j0, j1, m1, m2, hst]
    by_cases hpar : (dg ds 2).fmod 2 = 0
    · have hs : StepI (1 + (dg ds (12 + 2 * i)).fmod 7, 1 + (dg ds (13 + 2 * i)).fmod 7) := by unfold StepI; simp only []; omega
      obtain ⟨l', x5', g1, g2, g3⟩ := key _ hs _ rfl
      refine ⟨_, ?_, l', some (.int ((i : Nat) : Int)), some (ipD (1 + (dg ds (12 + 2 * i)).fmod 7, 1 + (dg ds (13 + 2 * i)).fmod 7)), x5', rfl, g2, by rw [List.length_append]; exact g3⟩
      rw [← g1]
      simp -implicitDefEqProofs only [u28_0, iss_cons, iss_nil, ies_cons, ies_nil, evSs_cons, evSs_nil, evS_share, evS_asg, evS_asgF, evS_setF, evS_setI, evS_app, evS_pop, evS_expr, evS_ret, evS_retN, evS_if, evS_for, evS_while, evS_brk, evS_cont, evS_pass, evS_raise, evE_var, evE_lit, evE_glb, evE_tup, evE_lst, evE_bin, evE_neg, evE_not, evE_cmp, evE_chn, evE_boo, evB_one, evB_cons, evE_ite, evE_ix, evE_slc, evE_fld, evE_call, evE_callK, evE_callV, evE_makeK, evE_meth, evE_bi, evE_lcnt, evE_lidx, evE_isi, evE_isx, evE_comp, evEs_nil, evEs_cons, evT_nil, evT_one, evI_seq, evI_rng1, evI_rng2, evI_enum, evI_zip, bnd_ok, bnd_exc, sof_ok, sof_exc, sq_nx, sq_rt, sq_bk, sq_ct, sq_exc, trn_nx, trn_ct, trn_bk, trn_rt, trn_exc, endR_nx, endR_rt, endR_exc, vr_zero, vr_succ, tupD_0, tupD_1, tupD_2, tupD_3, tupD_4, tupD_5, lstD_0, lstD_1, lstD_2, lstD_3, lstD_4, lstD_5, truthD_bl, truthD_non, iteD_t, iteD_f, iteS_t, iteS_f, negD_int, chnD_t, chnD_f, and_t, and_f, or_t, or_f, asgFD_z, asgFD_cons, raiseD_ok, bindT_nm, bindT_tp, bindT_pt, bindTs_nil, bindTs_cons, wipe_nil, wipe_cons, List.set_cons_zero, List.set_cons_succ, bin_add, bin_sub, bin_mul, bin_fdiv, bin_mod, bin_pow, addD_int, subD_int, cmp_eq_int, cmp_ne_int, cmp_lt_int, cmp_le_int, cmp_gt_int, cmp_ge_int, cmp_is_non, cmp_isnot_non, isNone_non, isNone_tup, isNone_fr, isNone_pt, bi_len_lst, bi_len_tup, bi_len_scr, bi_int, bi_abs, bi_gcd, bi_list_lst, bi_list_tup, bi_tuple_lst, bi_tuple_tup, bi_max2, bi_min2, ofOpt_some, seq_lst, seq_tup, partD_nil, partD_int, ix_fr0, ix_fr1, ix_pt0, ix_pt1, ix_t2_0, ix_t2_1, ix_t3_0, ix_t3_1, ix_t3_2, ix_t4_0, ix_t4_1, ix_t4_2, ix_t4_3, SM_call, SM_made, cmp_eq_fr, cmp_ne_fr, cmp_eq_pt, cmp_ne_pt, cmp_eq_lpt, cmp_ne_lpt, cmp_eq_tpt, cmp_ne_tpt, SM_hcall, decide_true, decide_false, Bool.not_true, Bool.not_false, m0, a1, a2, a3, modD_ok (show (2 : Int) ≠ 0 by decide), modD_ok (show (7 : Int) ≠ 0 by decide), hpar, SM_fuel]
      rfl
    · have hs : StepI (1 + dg ds (12 + 2 * i), 1 + dg ds (13 + 2 * i)) := by unfold StepI; simp only []; omega
      obtain ⟨l', x5', g1, g2, g3⟩ := key _ hs _ rfl
      refine ⟨_, ?_, l', some (.int ((i : Nat) : Int)), some (ipD (1 + dg ds (12 + 2 * i), 1 + dg ds (13 + 2 * i))), x5', rfl, g2, by rw [List.length_append]; exact g3⟩
      rw [← g1]
      simp -implicitDefEqProofs only [u28_0, iss_cons, iss_nil, ies_cons, ies_nil, evSs_cons, evSs_nil, evS_share, evS_asg, evS_asgF, evS_setF, evS_setI, evS_app, evS_pop, evS_expr, evS_ret, evS_retN, evS_if, evS_for, evS_while, evS_brk, evS_cont, evS_pass, evS_raise, evE_var, evE_lit, evE_glb, evE_tup, evE_lst, evE_bin, evE_neg, evE_not, evE_cmp, evE_chn, evE_boo, evB_one, evB_cons, evE_ite, evE_ix, evE_slc, evE_fld, evE_call, evE_callK, evE_callV, evE_makeK, evE_meth, evE_bi, evE_lcnt, evE_lidx, evE_isi, evE_isx, evE_comp, evEs_nil, evEs_cons, evT_nil, evT_one, evI_seq, evI_rng1, evI_rng2, evI_enum, evI_zip, bnd_ok, bnd_exc, sof_ok, sof_exc, sq_nx, sq_rt, sq_bk, sq_ct, sq_exc, trn_nx, trn_ct, trn_bk, trn_rt, trn_exc, endR_nx, endR_rt, endR_exc, vr_zero, vr_succ, tupD_0, tupD_1, tupD_2, tupD_3, tupD_4, tupD_5, lstD_0, lstD_1, lstD_2, lstD_3, lstD_4, lstD_5, truthD_bl, truthD_non, iteD_t, iteD_f, iteS_t, iteS_f, negD_int, chnD_t, chnD_f, and_t, and_f, or_t, or_f, asgFD_z, asgFD_cons, raiseD_ok, bindT_nm, bindT_tp, bindT_pt, bindTs_nil, bindTs_cons, wipe_nil, wipe_cons, List.set_cons_zero, List.set_cons_succ, bin_add, bin_sub, bin_mul, bin_fdiv, bin_mod, bin_pow, addD_int, subD_int, cmp_eq_int, cmp_ne_int, cmp_lt_int, cmp_le_int, cmp_gt_int, cmp_ge_int, cmp_is_non, cmp_isnot_non, isNone_non, isNone_tup, isNone_fr, isNone_pt, bi_len_lst, bi_len_tup, bi_len_scr, bi_int, bi_abs, bi_gcd, bi_list_lst, bi_list_tup, bi_tuple_lst, bi_tuple_tup, bi_max2, bi_min2, ofOpt_some, seq_lst, seq_tup, partD_nil, partD_int, ix_fr0, ix_fr1, ix_pt0, ix_pt1, ix_t2_0, ix_t2_1, ix_t3_0, ix_t3_1, ix_t3_2, ix_t4_0, ix_t4_1, ix_t4_2, ix_t4_3, SM_call, SM_made, cmp_eq_fr, cmp_ne_fr, cmp_eq_pt, cmp_ne_pt, cmp_eq_lpt, cmp_ne_lpt, cmp_eq_tpt, cmp_ne_tpt, SM_hcall, decide_true, decide_false, Bool.not_true, Bool.not_false, m0, a1, a2, a3, modD_ok (show (2 : Int) ≠ 0 by decide), modD_ok (show (7 : Int) ≠ 0 by decide), hpar, SM_fuel]
      rfl) [some (.lst (ds.map .int)), some (.int (k : Nat)), some (.lst []), none, none, none] ⟨[], none, none, none, rfl, ⟨(fun s hs => by cases hs), .nil⟩, Nat.le_refl _⟩
  refine ⟨l, ?_, hl, by rw [List.nil_append, List.length_range] at hlen; exact hlen⟩
  rw [e_law_steps]
  simp -implicitDefEqProofs only [b28, v28_0, v28_1, v28_2, iss_cons, iss_nil, ies_cons, ies_nil, evSs_cons, evSs_nil, evS_share, evS_asg, evS_asgF, evS_setF, evS_setI, evS_app, evS_pop, evS_expr, evS_ret, evS_retN, evS_if, evS_for, evS_while, evS_brk, evS_cont, evS_pass, evS_raise, evE_var, evE_lit, evE_glb, evE_tup, evE_lst, evE_bin, evE_neg, evE_not, evE_cmp, evE_chn, evE_boo, evB_one, evB_cons, evE_ite, evE_ix, evE_slc, evE_fld, evE_call, evE_callK, evE_callV, evE_makeK, evE_meth, evE_bi, evE_lcnt, evE_lidx, evE_isi, evE_isx, evE_comp, evEs_nil, evEs_cons, evT_nil, evT_one, evI_seq, evI_rng1, evI_rng2, evI_enum, evI_zip, bnd_ok, bnd_exc, sof_ok, sof_exc, sq_nx, sq_rt, sq_bk, sq_ct, sq_exc, trn_nx, trn_ct, trn_bk, trn_rt, trn_exc, endR_nx, endR_rt, endR_exc, vr_zero, vr_succ, tupD_0, tupD_1, tupD_2, tupD_3, tupD_4, tupD_5, lstD_0, lstD_1, lstD_2, lstD_3, lstD_4, lstD_5, truthD_bl, truthD_non, iteD_t, iteD_f, iteS_t, iteS_f, negD_int, chnD_t, chnD_f, and_t, and_f, or_t, or_f, asgFD_z, asgFD_cons, raiseD_ok, bindT_nm, bindT_tp, bindT_pt, bindTs_nil, bindTs_cons, wipe_nil, wipe_cons, List.set_cons_zero, List.set_cons_succ, bin_add, bin_sub, bin_mul, bin_fdiv, bin_mod, bin_pow, addD_int, subD_int, cmp_eq_int, cmp_ne_int, cmp_lt_int, cmp_le_int, cmp_gt_int, cmp_ge_int, cmp_is_non, cmp_isnot_non, isNone_non, isNone_tup, isNone_fr, isNone_pt, bi_len_lst, bi_len_tup, bi_len_scr, bi_int, bi_abs, bi_gcd, bi_list_lst, bi_list_tup, bi_tuple_lst, bi_tuple_tup, bi_max2, bi_min2, ofOpt_some, seq_lst, seq_tup, partD_nil, partD_int, ix_fr0, ix_fr1, ix_pt0, ix_pt1, ix_t2_0, ix_t2_1, ix_t3_0, ix_t3_1, ix_t3_2, ix_t4_0, ix_t4_1, ix_t4_2, ix_t4_3, SM_call, SM_made, cmp_eq_fr, cmp_ne_fr, cmp_eq_pt, cmp_ne_pt, cmp_eq_lpt, cmp_ne_lpt, cmp_eq_tpt, cmp_ne_tpt, SM_hcall, decide_true, decide_false, Bool.not_true, Bool.not_false, rng1_nat k (by omega), h1]

theorem f_bounds (n : Nat) {c : List IPt} (hc : c ≠ []) (hl : c.length ≤ 1000) (hs : ∀ q ∈ c, (0 ≤ q.1 ∧ q.1 ≤ 2000) ∧ (0 ≤ q.2 ∧ q.2 ≤ 2000)) : callN Pr (n + 1) 29 [.lst (c.map ipD)] = .ok (.lst ((bndI c).map triD)) := by
  have hlen : (edgesI c 1).length ≤ 1000 := Nat.le_trans (edgesI_len c 1) hl
  obtain ⟨ρ', h1, x, y, z, rfl⟩ := forL_inv (t := .nm 2) (b := evSs (SM n) b29_0) (fun e : Int × IPt × IPt => .int e.1) (fun done rest ρ => ∃ x y z, ρ = [some (.lst (c.map ipD)), some (.lst (([(1, 0, (lastI c).1), (0, 1, (headI c).2)] ++ done.map bndE).map triD)), x, y, z]) (edgesI c 1) [] (fun d e r ρ he hi => by
    obtain ⟨x, y, z, rfl⟩ := hi
    have hm : e ∈ edgesI c 1 := by rw [← List.nil_append (edgesI c 1), ← he]; simp
    obtain ⟨k1, k2, k3, k4⟩ := edgesI_ixg ipD hm
    have hlt : (([(1, 0, (lastI c).1), (0, 1, (headI c).2)] ++ d.map bndE).map triD).length < maxLen := by
      have := congrArg List.length he
      simp only [List.length_append, List.length_cons, List.length_nil, List.length_map] at *
      show _ < 16777216
      omega
    have s1 := hs _ k3
    have s2 := hs _ k4
    have i0 : ∀ t : IPt, ixD (ipD t) (.int 0) = .ok (.int t.1) := fun _ => rfl
    have i1 : ∀ t : IPt, ixD (ipD t) (.int 1) = .ok (.int t.2) := fun _ => rfl
    have m1 : mulD (.int (e.2.1.2 - e.2.2.2)) (.int e.2.2.1) = .ok (.int ((e.2.1.2 - e.2.2.2) * e.2.2.1)) := mul_sm (sm_of (by omega) (by omega)) (sm_of (by omega) (by omega))
    have m2 : mulD (.int (e.2.2.1 - e.2.1.1)) (.int e.2.2.2) = .ok (.int ((e.2.2.1 - e.2.1.1) * e.2.2.2)) := mul_sm (sm_of (by omega) (by omega)) (sm_of (by omega) (by omega))
    refine ⟨_, ?_, some (.int e.1), some (.int (e.2.1.2 - e.2.2.2)), some (.int (e.2.2.1 - e.2.1.1)), rfl⟩
    simp -implicitDefEqProofs only [u29_0, iss_cons, iss_nil, ies_cons, ies_nil, evSs_cons, evSs_nil, evS_share, evS_asg, evS_asgF, evS_setF, evS_setI, evS_app, evS_pop, evS_expr, evS_ret, evS_retN, evS_if, evS_for, evS_while, evS_brk, evS_cont, evS_pass, evS_raise, evE_var, evE_lit, evE_glb, evE_tup, evE_lst, evE_bin, evE_neg, evE_not, evE_cmp, evE_chn, evE_boo, evB_one, evB_cons, evE_ite, evE_ix, evE_slc, evE_fld, evE_call, evE_callK, evE_callV, evE_makeK, evE_meth, evE_bi, evE_lcnt, evE_lidx, evE_isi, evE_isx, evE_comp, evEs_nil, evEs_cons, evT_nil, evT_one, evI_seq, evI_rng1, evI_rng2, evI_enum, evI_zip, bnd_ok, bnd_exc, sof_ok, sof_exc, sq_nx, sq_rt, sq_bk, sq_ct, sq_exc, trn_nx, trn_ct, trn_bk, trn_rt, trn_exc, endR_nx, endR_rt, endR_exc, vr_zero, vr_succ, tupD_0, tupD_1, tupD_2, tupD_3, tupD_4, tupD_5, lstD_0, lstD_1, lstD_2, lstD_3, lstD_4, lstD_5, truthD_bl, truthD_non, iteD_t, iteD_f, iteS_t, iteS_f, negD_int, chnD_t, chnD_f, and_t, and_f, or_t, or_f, asgFD_z, asgFD_cons, raiseD_ok, bindT_nm, bindT_tp, bindT_pt, bindTs_nil, bindTs_cons, wipe_nil, wipe_cons, List.set_cons_zero, List.set_cons_succ, bin_add, bin_sub, bin_mul, bin_fdiv, bin_mod, bin_pow, addD_int, subD_int, cmp_eq_int, cmp_ne_int, cmp_lt_int, cmp_le_int, cmp_gt_int, cmp_ge_int, cmp_is_non, cmp_isnot_non, isNone_non, isNone_tup, isNone_fr, isNone_pt, bi_len_lst, bi_len_tup, bi_len_scr, bi_int, bi_abs, bi_gcd, bi_list_lst, bi_list_tup, bi_tuple_lst, bi_tuple_tup, bi_max2, bi_min2, ofOpt_some, seq_lst, seq_tup, partD_nil, partD_int, ix_fr0, ix_fr1, ix_pt0, ix_pt1, ix_t2_0, ix_t2_1, ix_t3_0, ix_t3_1, ix_t3_2, ix_t4_0, ix_t4_1, ix_t4_2, ix_t4_3, SM_call, SM_made, cmp_eq_fr, cmp_ne_fr, cmp_eq_pt, cmp_ne_pt, cmp_eq_lpt, cmp_ne_lpt, cmp_eq_tpt, cmp_ne_tpt, SM_hcall, decide_true, decide_false, Bool.not_true, Bool.not_false, ixD_lst k1, ixD_lst k2, i0, i1, m1, m2, appD_ok _ _ _ hlt]
    simp only [List.map_append, List.map_cons, List.map_nil, List.append_assoc]
    rfl) [some (.lst (c.map ipD)), some (.lst ([(1, 0, (lastI c).1), (0, 1, (headI c).2)].map triD)), none, none, none] ⟨none, none, none, rfl⟩
  have i0 : ∀ t : IPt, ixD (ipD t) (.int 0) = .ok (.int t.1) := fun _ => rfl
  have i1 : ∀ t : IPt, ixD (ipD t) (.int 1) = .ok (.int t.2) := fun _ => rfl
  have h1' : forL (.nm 2) (evSs (SM n) b29_0) ((edgesI c 1).map fun e : Int × IPt × IPt => .int e.1) [some (.lst (c.map ipD)), some (.lst [.tup [.int 1, .int 0, .int (lastI c).1], .tup [.int 0, .int 1, .int (headI c).2]]), none, none, none] = _ := h1
  rw [e_law_bounds]
  simp -implicitDefEqProofs only [b29, v29_0, v29_1, v29_2, iss_cons, iss_nil, ies_cons, ies_nil, evSs_cons, evSs_nil, evS_share, evS_asg, evS_asgF, evS_setF, evS_setI, evS_app, evS_pop, evS_expr, evS_ret, evS_retN, evS_if, evS_for, evS_while, evS_brk, evS_cont, evS_pass, evS_raise, evE_var, evE_lit, evE_glb, evE_tup, evE_lst, evE_bin, evE_neg, evE_not, evE_cmp, evE_chn, evE_boo, evB_one, evB_cons, evE_ite, evE_ix, evE_slc, evE_fld, evE_call, evE_callK, evE_callV, evE_makeK, evE_meth, evE_bi, evE_lcnt, evE_lidx, evE_isi, evE_isx, evE_comp, evEs_nil, evEs_cons, evT_nil, evT_one, evI_seq, evI_rng1, evI_rng2, evI_enum, evI_zip, bnd_ok, bnd_exc, sof_ok, sof_exc, sq_nx, sq_rt, sq_bk, sq_ct, sq_exc, trn_nx, trn_ct, trn_bk, trn_rt, trn_exc, endR_nx, endR_rt, endR_exc, vr_zero, vr_succ, tupD_0, tupD_1, tupD_2, tupD_3, tupD_4, tupD_5, lstD_0, lstD_1, lstD_2, lstD_3, lstD_4, lstD_5, truthD_bl, truthD_non, iteD_t, iteD_f, iteS_t, iteS_f, negD_int, chnD_t, chnD_f, and_t, and_f, or_t, or_f, asgFD_z, asgFD_cons, raiseD_ok, bindT_nm, bindT_tp, bindT_pt, bindTs_nil, bindTs_cons, wipe_nil, wipe_cons, List.set_cons_zero, List.set_cons_succ, bin_add, bin_sub, bin_mul, bin_fdiv, bin_mod, bin_pow, addD_int, subD_int, cmp_eq_int, cmp_ne_int, cmp_lt_int, cmp_le_int, cmp_gt_int, cmp_ge_int, cmp_is_non, cmp_isnot_non, isNone_non, isNone_tup, isNone_fr, isNone_pt, bi_len_lst, bi_len_tup, bi_len_scr, bi_int, bi_abs, bi_gcd, bi_list_lst, bi_list_tup, bi_tuple_lst, bi_tuple_tup, bi_max2, bi_min2, ofOpt_some, seq_lst, seq_tup, partD_nil, partD_int, ix_fr0, ix_fr1, ix_pt0, ix_pt1, ix_t2_0, ix_t2_1, ix_t3_0, ix_t3_1, ix_t3_2, ix_t4_0, ix_t4_1, ix_t4_2, ix_t4_3, SM_call, SM_made, cmp_eq_fr, cmp_ne_fr, cmp_eq_pt, cmp_ne_pt, cmp_eq_lpt, cmp_ne_lpt, cmp_eq_tpt, cmp_ne_tpt, SM_hcall, decide_true, decide_false, Bool.not_true, Bool.not_false, at_headI hc, at_lastI hc, i0, i1, List.length_map, rng2_edges hc hl, h1']
  rfl
theorem f_at (n : Nat) {w : Wld} (hw : WOk w) {x0 x1 y0 y1 : Int} (hx0 : x0.natAbs < 2 ^ 1000) (hx : 0 < x1) (hx1 : x1.natAbs < 2 ^ 1000) (hy0 : y0.natAbs < 2 ^ 1000) (hy : 0 < y1) (hy1 : y1.natAbs < 2 ^ 1000) : callN Pr (n + 2) 31 [wD w, .tup [.int x0, .int x1], .tup [.int y0, .int y1]] = .ok (pt (w.at ((x0 : Rat) / (x1 : Rat)) ((y0 : Rat) / (y1 : Rat)))) := by
  have key : ∀ (l : Rat) (u v a b : Int), Sz 8 l → UOk u → UOk v → a.natAbs < 2 ^ 1000 → 0 < b → b.natAbs < 2 ^ 1000 →
      mulD (.int l.num) (.int v) = .ok (.int (l.num * v)) ∧ mulD (.int (l.num * v)) (.int b) = .ok (.int (l.num * v * b)) ∧ mulD (.int (l.den : Int)) (.int u) = .ok (.int ((l.den : Int) * u)) ∧ mulD (.int ((l.den : Int) * u)) (.int a) = .ok (.int ((l.den : Int) * u * a)) ∧
      mulD (.int (l.den : Int)) (.int v) = .ok (.int ((l.den : Int) * v)) ∧ mulD (.int ((l.den : Int) * v)) (.int b) = .ok (.int ((l.den : Int) * v * b)) ∧
      callN Pr (n + 1) 17 [.int (l.num * v * b + (l.den : Int) * u * a), .int ((l.den : Int) * v * b)] = .ok (fr (l + (u : Rat) / (v : Rat) * ((a : Rat) / (b : Rat)))) := by
    intro l u v a b hl hu hv ha hb hb2
    have hu2 : u.natAbs < 2 ^ 20 := by unfold UOk at hu; show u.natAbs < 1048576; omega
    have hv2 : v.natAbs < 2 ^ 20 := by unfold UOk at hv; show v.natAbs < 1048576; omega
    have z1 : (l.num * v).natAbs < 2 ^ 28 := by rw [Int.natAbs_mul]; exact mul_lt_pow hl.1 hv2
    have z2 : ((l.den : Int) * u).natAbs < 2 ^ 28 := by rw [Int.natAbs_mul]; exact mul_lt_pow hl.2 hu2
    have z3 : ((l.den : Int) * v).natAbs < 2 ^ 28 := by rw [Int.natAbs_mul]; exact mul_lt_pow hl.2 hv2
    have z4 : (l.num * v * b).natAbs < 2 ^ 1028 := by rw [Int.natAbs_mul]; exact mul_lt_pow z1 hb2
    have z5 : ((l.den : Int) * u * a).natAbs < 2 ^ 1028 := by rw [Int.natAbs_mul]; exact mul_lt_pow z2 ha
    have z6 : ((l.den : Int) * v * b).natAbs < 2 ^ 1028 := by rw [Int.natAbs_mul]; exact mul_lt_pow z3 hb2
    have z7 := natAbs_add_lt z4 z5
    have hld : ((l.den : Nat) : Int).natAbs < 2 ^ 8 := hl.2
    have hp : 0 < (l.den : Int) * v * b := Int.mul_pos (Int.mul_pos (den_pos' l) hv.1) hb
    refine ⟨mulD_ok (mulOk_of hl.1 hv2 (by decide) (by decide) (by decide)), mulD_ok (mulOk_of z1 hb2 (by decide) (by decide) (by decide)), mulD_ok (mulOk_of hld hu2 (by decide) (by decide) (by decide)), mulD_ok (mulOk_of z2 ha (by decide) (by decide) (by decide)), mulD_ok (mulOk_of hld hv2 (by decide) (by decide) (by decide)), mulD_ok (mulOk_of z3 hb2 (by decide) (by decide) (by decide)), ?_⟩
    rw [f_low n _ _ hp (Nat.lt_of_lt_of_le z7 (Nat.pow_le_pow_right (by decide) (by decide))) (Nat.lt_of_lt_of_le z6 (Nat.pow_le_pow_right (by decide) (by decide)))]
    congr 2
    have hbq : (b : Rat) ≠ 0 := by have := Rat.intCast_pos.mpr hb; grind
    have hvq : (v : Rat) ≠ 0 := by have := hv.pos; grind
    have hlq : (((l.den : Nat) : Int) : Rat) ≠ 0 := by have := Rat.intCast_pos.mpr (den_pos' l); grind
    have hn := num_eq l
    have hn2 : (l.num : Rat) = l * (((l.den : Nat) : Int) : Rat) := hn
    rw [Rat.divInt_eq_div]
    simp only [Rat.intCast_add, Rat.intCast_mul]
    rw [hn2]
    generalize (((l.den : Nat) : Int) : Rat) = dl at *
    generalize (b : Rat) = bq at *
    generalize (v : Rat) = vq at *
    generalize (u : Rat) = uq at *
    generalize (a : Rat) = aq at *
    have hne : dl * vq * bq ≠ 0 := by
      intro z
      rcases Rat.mul_eq_zero.mp z with z | z
      · rcases Rat.mul_eq_zero.mp z with z | z
        · exact hlq z
        · exact hvq z
      · exact hbq z
    grind
  obtain ⟨a1, a2, a3, a4, a5, a6, a7⟩ := key w.left w.u0 w.u1 x0 x1 hw.left hw.u0 hw.u1 hx0 hx hx1
  obtain ⟨b1, b2, b3, b4, b5, b6, b7⟩ := key w.low w.u2 w.u3 y0 y1 hw.low hw.u2 hw.u3 hy0 hy hy1
  have i0 : ixD (.lst [.int w.u0, .int w.u1, .int w.u2, .int w.u3]) (.int 0) = .ok (.int w.u0) := rfl
  have i1 : ixD (.lst [.int w.u0, .int w.u1, .int w.u2, .int w.u3]) (.int 1) = .ok (.int w.u1) := rfl
  have i2 : ixD (.lst [.int w.u0, .int w.u1, .int w.u2, .int w.u3]) (.int 2) = .ok (.int w.u2) := rfl
  have i3 : ixD (.lst [.int w.u0, .int w.u1, .int w.u2, .int w.u3]) (.int 3) = .ok (.int w.u3) := rfl
  rw [e_law_at]
  simp -implicitDefEqProofs only [b31, v31_0, v31_1, v31_2, v31_3, v31_4, v31_5, wD, iss_cons, iss_nil, ies_cons, ies_nil, evSs_cons, evSs_nil, evS_share, evS_asg, evS_asgF, evS_setF, evS_setI, evS_app, evS_pop, evS_expr, evS_ret, evS_retN, evS_if, evS_for, evS_while, evS_brk, evS_cont, evS_pass, evS_raise, evE_var, evE_lit, evE_glb, evE_tup, evE_lst, evE_bin, evE_neg, evE_not, evE_cmp, evE_chn, evE_boo, evB_one, evB_cons, evE_ite, evE_ix, evE_slc, evE_fld, evE_call, evE_callK, evE_callV, evE_makeK, evE_meth, evE_bi, evE_lcnt, evE_lidx, evE_isi, evE_isx, evE_comp, evEs_nil, evEs_cons, evT_nil, evT_one, evI_seq, evI_rng1, evI_rng2, evI_enum, evI_zip, bnd_ok, bnd_exc, sof_ok, sof_exc, sq_nx, sq_rt, sq_bk, sq_ct, sq_exc, trn_nx, trn_ct, trn_bk, trn_rt, trn_exc, endR_nx, endR_rt, endR_exc, vr_zero, vr_succ, tupD_0, tupD_1, tupD_2, tupD_3, tupD_4, tupD_5, lstD_0, lstD_1, lstD_2, lstD_3, lstD_4, lstD_5, truthD_bl, truthD_non, iteD_t, iteD_f, iteS_t, iteS_f, negD_int, chnD_t, chnD_f, and_t, and_f, or_t, or_f, asgFD_z, asgFD_cons, raiseD_ok, bindT_nm, bindT_tp, bindT_pt, bindTs_nil, bindTs_cons, wipe_nil, wipe_cons, List.set_cons_zero, List.set_cons_succ, bin_add, bin_sub, bin_mul, bin_fdiv, bin_mod, bin_pow, addD_int, subD_int, cmp_eq_int, cmp_ne_int, cmp_lt_int, cmp_le_int, cmp_gt_int, cmp_ge_int, cmp_is_non, cmp_isnot_non, isNone_non, isNone_tup, isNone_fr, isNone_pt, bi_len_lst, bi_len_tup, bi_len_scr, bi_int, bi_abs, bi_gcd, bi_list_lst, bi_list_tup, bi_tuple_lst, bi_tuple_tup, bi_max2, bi_min2, ofOpt_some, seq_lst, seq_tup, partD_nil, partD_int, ix_fr0, ix_fr1, ix_pt0, ix_pt1, ix_t2_0, ix_t2_1, ix_t3_0, ix_t3_1, ix_t3_2, ix_t4_0, ix_t4_1, ix_t4_2, ix_t4_3, SM_call, SM_made, cmp_eq_fr, cmp_ne_fr, cmp_eq_pt, cmp_ne_pt, cmp_eq_lpt, cmp_ne_lpt, cmp_eq_tpt, cmp_ne_tpt, SM_hcall, decide_true, decide_false, Bool.not_true, Bool.not_false, i0, i1, i2, i3, a1, a2, a3, a4, a5, a6, a7, b1, b2, b3, b4, b5, b6, b7, pt_mk]
  rfl
theorem f_corners (n : Nat) {w : Wld} (hw : WOk w) : callN Pr (n + 3) 32 [wD w] = .ok (.lst (w.corners.map pt)) := by
  have h3 := compL_map (g := cmpT (SM (n + 2)) [some (wD w), none] (.nm 1) [1] .nil k32_0) ipD (fun q => pt (w.at q.1 q.2)) w.ch (fun q hq => by
    obtain ⟨s1, s2⟩ := hw.sm q hq
    have i0 : ixD (ipD q) (.int 0) = .ok (.int q.1) := rfl
    have i1 : ixD (ipD q) (.int 1) = .ok (.int q.2) := rfl
    have b0 : q.1.natAbs < 2 ^ 1000 := Nat.lt_of_lt_of_le (show q.1.natAbs < 2 ^ 11 by show q.1.natAbs < 2048; omega) (Nat.pow_le_pow_right (by decide) (by decide))
    have b1 : q.2.natAbs < 2 ^ 1000 := Nat.lt_of_lt_of_le (show q.2.natAbs < 2 ^ 11 by show q.2.natAbs < 2048; omega) (Nat.pow_le_pow_right (by decide) (by decide))
    have one : (1 : Int).natAbs < 2 ^ 1000 := Nat.lt_of_lt_of_le (show (1 : Int).natAbs < 2 ^ 11 by decide) (Nat.pow_le_pow_right (by decide) (by decide))
    have hat := f_at n hw (x0 := q.1) (x1 := 1) (y0 := q.2) (y1 := 1) b0 (by decide) one b1 (by decide) one
    have e1 : ((q.1 : Int) : Rat) / ((1 : Int) : Rat) = (q.1 : Rat) := by have : ((1 : Int) : Rat) = 1 := rfl; rw [this]; grind
    have e2 : ((q.2 : Int) : Rat) / ((1 : Int) : Rat) = (q.2 : Rat) := by have : ((1 : Int) : Rat) = 1 := rfl; rw [this]; grind
    rw [e1, e2] at hat
    unfold cmpT
    simp -implicitDefEqProofs only [u32_0, iss_cons, iss_nil, ies_cons, ies_nil, evSs_cons, evSs_nil, evS_share, evS_asg, evS_asgF, evS_setF, evS_setI, evS_app, evS_pop, evS_expr, evS_ret, evS_retN, evS_if, evS_for, evS_while, evS_brk, evS_cont, evS_pass, evS_raise, evE_var, evE_lit, evE_glb, evE_tup, evE_lst, evE_bin, evE_neg, evE_not, evE_cmp, evE_chn, evE_boo, evB_one, evB_cons, evE_ite, evE_ix, evE_slc, evE_fld, evE_call, evE_callK, evE_callV, evE_makeK, evE_meth, evE_bi, evE_lcnt, evE_lidx, evE_isi, evE_isx, evE_comp, evEs_nil, evEs_cons, evT_nil, evT_one, evI_seq, evI_rng1, evI_rng2, evI_enum, evI_zip, bnd_ok, bnd_exc, sof_ok, sof_exc, sq_nx, sq_rt, sq_bk, sq_ct, sq_exc, trn_nx, trn_ct, trn_bk, trn_rt, trn_exc, endR_nx, endR_rt, endR_exc, vr_zero, vr_succ, tupD_0, tupD_1, tupD_2, tupD_3, tupD_4, tupD_5, lstD_0, lstD_1, lstD_2, lstD_3, lstD_4, lstD_5, truthD_bl, truthD_non, iteD_t, iteD_f, iteS_t, iteS_f, negD_int, chnD_t, chnD_f, and_t, and_f, or_t, or_f, asgFD_z, asgFD_cons, raiseD_ok, bindT_nm, bindT_tp, bindT_pt, bindTs_nil, bindTs_cons, wipe_nil, wipe_cons, List.set_cons_zero, List.set_cons_succ, bin_add, bin_sub, bin_mul, bin_fdiv, bin_mod, bin_pow, addD_int, subD_int, cmp_eq_int, cmp_ne_int, cmp_lt_int, cmp_le_int, cmp_gt_int, cmp_ge_int, cmp_is_non, cmp_isnot_non, isNone_non, isNone_tup, isNone_fr, isNone_pt, bi_len_lst, bi_len_tup, bi_len_scr, bi_int, bi_abs, bi_gcd, bi_list_lst, bi_list_tup, bi_tuple_lst, bi_tuple_tup, bi_max2, bi_min2, ofOpt_some, seq_lst, seq_tup, partD_nil, partD_int, ix_fr0, ix_fr1, ix_pt0, ix_pt1, ix_t2_0, ix_t2_1, ix_t3_0, ix_t3_1, ix_t3_2, ix_t4_0, ix_t4_1, ix_t4_2, ix_t4_3, SM_call, SM_made, cmp_eq_fr, cmp_ne_fr, cmp_eq_pt, cmp_ne_pt, cmp_eq_lpt, cmp_ne_lpt, cmp_eq_tpt, cmp_ne_tpt, SM_hcall, decide_true, decide_false, Bool.not_true, Bool.not_false, i0, i1, hat, if_true])
  have hlen : (w.ch.map fun q => pt (w.at q.1 q.2)).length ≤ maxLen := by
    rw [List.length_map]
    have := hw.len
    show _ ≤ 16777216
    omega
  have i2 : ixD (wD w) (.int 2) = .ok (.lst (w.ch.map ipD)) := rfl
  rw [e_law_corners]
  simp -implicitDefEqProofs only [b32, iss_cons, iss_nil, ies_cons, ies_nil, evSs_cons, evSs_nil, evS_share, evS_asg, evS_asgF, evS_setF, evS_setI, evS_app, evS_pop, evS_expr, evS_ret, evS_retN, evS_if, evS_for, evS_while, evS_brk, evS_cont, evS_pass, evS_raise, evE_var, evE_lit, evE_glb, evE_tup, evE_lst, evE_bin, evE_neg, evE_not, evE_cmp, evE_chn, evE_boo, evB_one, evB_cons, evE_ite, evE_ix, evE_slc, evE_fld, evE_call, evE_callK, evE_callV, evE_makeK, evE_meth, evE_bi, evE_lcnt, evE_lidx, evE_isi, evE_isx, evE_comp, evEs_nil, evEs_cons, evT_nil, evT_one, evI_seq, evI_rng1, evI_rng2, evI_enum, evI_zip, bnd_ok, bnd_exc, sof_ok, sof_exc, sq_nx, sq_rt, sq_bk, sq_ct, sq_exc, trn_nx, trn_ct, trn_bk, trn_rt, trn_exc, endR_nx, endR_rt, endR_exc, vr_zero, vr_succ, tupD_0, tupD_1, tupD_2, tupD_3, tupD_4, tupD_5, lstD_0, lstD_1, lstD_2, lstD_3, lstD_4, lstD_5, truthD_bl, truthD_non, iteD_t, iteD_f, iteS_t, iteS_f, negD_int, chnD_t, chnD_f, and_t, and_f, or_t, or_f, asgFD_z, asgFD_cons, raiseD_ok, bindT_nm, bindT_tp, bindT_pt, bindTs_nil, bindTs_cons, wipe_nil, wipe_cons, List.set_cons_zero, List.set_cons_succ, bin_add, bin_sub, bin_mul, bin_fdiv, bin_mod, bin_pow, addD_int, subD_int, cmp_eq_int, cmp_ne_int, cmp_lt_int, cmp_le_int, cmp_gt_int, cmp_ge_int, cmp_is_non, cmp_isnot_non, isNone_non, isNone_tup, isNone_fr, isNone_pt, bi_len_lst, bi_len_tup, bi_len_scr, bi_int, bi_abs, bi_gcd, bi_list_lst, bi_list_tup, bi_tuple_lst, bi_tuple_tup, bi_max2, bi_min2, ofOpt_some, seq_lst, seq_tup, partD_nil, partD_int, ix_fr0, ix_fr1, ix_pt0, ix_pt1, ix_t2_0, ix_t2_1, ix_t3_0, ix_t3_1, ix_t3_2, ix_t4_0, ix_t4_1, ix_t4_2, ix_t4_3, SM_call, SM_made, cmp_eq_fr, cmp_ne_fr, cmp_eq_pt, cmp_ne_pt, cmp_eq_lpt, cmp_ne_lpt, cmp_eq_tpt, cmp_ne_tpt, SM_hcall, decide_true, decide_false, Bool.not_true, Bool.not_false, i2, h3, lstD_ok hlen]
  unfold Wld.corners
  rw [List.map_map]
  rfl
theorem f_world (n : Nat) (cell : Int) : ∃ w, callN Pr (n + 2) 30 [.int cell] = .ok (wD w) ∧ WOk w := by
  obtain ⟨ds, hds, hd⟩ := f_digits n cell 60 54 (by decide) (by decide) (by decide)
  have hds' : callN Pr (n + 1) 16 [.int cell, .int 60, .int 54] = .ok (.lst (ds.map .int)) := hds
  have hx : ∀ (i : Nat), i < 54 → ixD (.lst (ds.map .int)) (.int (i : Nat)) = .ok (.int (dg ds i)) := fun i hi => hd.at i hi
  have x0 : ixD (.lst (ds.map .int)) (.int 0) = .ok (.int (dg ds 0)) := hx 0 (by decide)
  have x1 : ixD (.lst (ds.map .int)) (.int 1) = .ok (.int (dg ds 1)) := hx 1 (by decide)
  have x2 : ixD (.lst (ds.map .int)) (.int 2) = .ok (.int (dg ds 2)) := hx 2 (by decide)
  have x3 : ixD (.lst (ds.map .int)) (.int 3) = .ok (.int (dg ds 3)) := hx 3 (by decide)
  have x4 : ixD (.lst (ds.map .int)) (.int 4) = .ok (.int (dg ds 4)) := hx 4 (by decide)
  have x5 : ixD (.lst (ds.map .int)) (.int 5) = .ok (.int (dg ds 5)) := hx 5 (by decide)
  have x6 : ixD (.lst (ds.map .int)) (.int 6) = .ok (.int (dg ds 6)) := hx 6 (by decide)
  have x7 : ixD (.lst (ds.map .int)) (.int 7) = .ok (.int (dg ds 7)) := hx 7 (by decide)
  have x8 : ixD (.lst (ds.map .int)) (.int 8) = .ok (.int (dg ds 8)) := hx 8 (by decide)
  have x9 : ixD (.lst (ds.map .int)) (.int 9) = .ok (.int (dg ds 9)) := hx 9 (by decide)
  have x10 : ixD (.lst (ds.map .int)) (.int 10) = .ok (.int (dg ds 10)) := hx 10 (by decide)
  have x11 : ixD (.lst (ds.map .int)) (.int 11) = .ok (.int (dg ds 11)) := hx 11 (by decide)
  have hmod : ∀ (i : Nat) (m : Int), m ≠ 0 → modD (.int (dg ds i)) (.int m) = .ok (.int ((dg ds i).fmod m)) := fun i m hm => modD_ok hm
  have r0 := hd.le 0 (by decide)
  have r9 := hd.le 9 (by decide)
  have r10 := hd.le 10 (by decide)
  have r11 := hd.le 11 (by decide)
  have f0 := fmod_rng (a := dg ds 0) (b := 6) (by decide)
  have f1 := fmod_rng (a := dg ds 1) (b := 16) (by decide)
  have f3 := fmod_rng (a := dg ds 3) (b := 8) (by decide)
  have f4 := fmod_rng (a := dg ds 4) (b := 8) (by decide)
  have f5 := fmod_rng (a := dg ds 5) (b := 6) (by decide)
  have f6 := fmod_rng (a := dg ds 6) (b := 6) (by decide)
  have f7 := fmod_rng (a := dg ds 7) (b := 6) (by decide)
  have f8 := fmod_rng (a := dg ds 8) (b := 6) (by decide)
  have f9 := fmod_rng (a := dg ds 9) (b := 6) (by decide)
  -- how many steps
  have hmany : ∃ k : Nat, k ≤ 21 ∧ (if (54 : Int) ≤ dg ds 0 then 6 + (dg ds 1).fmod 16 else (dg ds 0).fmod 6) = ((k : Nat) : Int) := by
    split
    · exact ⟨(6 + (dg ds 1).fmod 16).toNat, by omega, by omega⟩
    · exact ⟨((dg ds 0).fmod 6).toNat, by omega, by omega⟩
  obtain ⟨k, hk, hkm⟩ := hmany
  obtain ⟨l, hst, hl, hll⟩ := f_steps n hd k hk
  -- where the chain begins
  generalize hax : (if l = [] then max 0 ((dg ds 3).fmod 8 - 3) + 1 else max 0 ((dg ds 3).fmod 8 - 3)) = ax
  generalize hay : (if l = [] then max 0 ((dg ds 4).fmod 8 - 3) + 1 else max 0 ((dg ds 4).fmod 8 - 3)) = ay
  have hax1 : 0 ≤ ax ∧ ax ≤ 5 ∧ (l = [] → 1 ≤ ax) := by rw [← hax]; split <;> refine ⟨by omega, by omega, fun z => ?_⟩ <;> first | omega | contradiction
  have hay1 : 0 ≤ ay ∧ ay ≤ 5 ∧ (l = [] → 1 ≤ ay) := by rw [← hay]; split <;> refine ⟨by omega, by omega, fun z => ?_⟩ <;> first | omega | contradiction
  have i0 : ∀ t : IPt, ixD (ipD t) (.int 0) = .ok (.int t.1) := fun _ => rfl
  have i1 : ∀ t : IPt, ixD (ipD t) (.int 1) = .ok (.int t.2) := fun _ => rfl
  obtain ⟨ρ1, h1, x6', rfl⟩ := forL_inv (t := .nm 6) (b := evSs (SM (n + 1)) b30_0) ipD (fun done rest ρ => ∃ x, ρ = [some (.int cell), some (.lst (ds.map .int)), some (.int (k : Nat)), some (.lst (l.map ipD)), some (.int ax), some (.int (ay + sumY done)), x, none, none, none, none, none]) l [] (fun d s r ρ he hi => by
    obtain ⟨x, rfl⟩ := hi
    have e : ay + sumY d + s.2 = ay + sumY (d ++ [s]) := by unfold sumY; rw [List.map_append, List.sum_append]; simp; omega
    refine ⟨_, ?_, some (ipD s), rfl⟩
    simp -implicitDefEqProofs only [u30_0, iss_cons, iss_nil, ies_cons, ies_nil, evSs_cons, evSs_nil, evS_share, evS_asg, evS_asgF, evS_setF, evS_setI, evS_app, evS_pop, evS_expr, evS_ret, evS_retN, evS_if, evS_for, evS_while, evS_brk, evS_cont, evS_pass, evS_raise, evE_var, evE_lit, evE_glb, evE_tup, evE_lst, evE_bin, evE_neg, evE_not, evE_cmp, evE_chn, evE_boo, evB_one, evB_cons, evE_ite, evE_ix, evE_slc, evE_fld, evE_call, evE_callK, evE_callV, evE_makeK, evE_meth, evE_bi, evE_lcnt, evE_lidx, evE_isi, evE_isx, evE_comp, evEs_nil, evEs_cons, evT_nil, evT_one, evI_seq, evI_rng1, evI_rng2, evI_enum, evI_zip, bnd_ok, bnd_exc, sof_ok, sof_exc, sq_nx, sq_rt, sq_bk, sq_ct, sq_exc, trn_nx, trn_ct, trn_bk, trn_rt, trn_exc, endR_nx, endR_rt, endR_exc, vr_zero, vr_succ, tupD_0, tupD_1, tupD_2, tupD_3, tupD_4, tupD_5, lstD_0, lstD_1, lstD_2, lstD_3, lstD_4, lstD_5, truthD_bl, truthD_non, iteD_t, iteD_f, iteS_t, iteS_f, negD_int, chnD_t, chnD_f, and_t, and_f, or_t, or_f, asgFD_z, asgFD_cons, raiseD_ok, bindT_nm, bindT_tp, bindT_pt, bindTs_nil, bindTs_cons, wipe_nil, wipe_cons, List.set_cons_zero, List.set_cons_succ, bin_add, bin_sub, bin_mul, bin_fdiv, bin_mod, bin_pow, addD_int, subD_int, cmp_eq_int, cmp_ne_int, cmp_lt_int, cmp_le_int, cmp_gt_int, cmp_ge_int, cmp_is_non, cmp_isnot_non, isNone_non, isNone_tup, isNone_fr, isNone_pt, bi_len_lst, bi_len_tup, bi_len_scr, bi_int, bi_abs, bi_gcd, bi_list_lst, bi_list_tup, bi_tuple_lst, bi_tuple_tup, bi_max2, bi_min2, ofOpt_some, seq_lst, seq_tup, partD_nil, partD_int, ix_fr0, ix_fr1, ix_pt0, ix_pt1, ix_t2_0, ix_t2_1, ix_t3_0, ix_t3_1, ix_t3_2, ix_t4_0, ix_t4_1, ix_t4_2, ix_t4_3, SM_call, SM_made, cmp_eq_fr, cmp_ne_fr, cmp_eq_pt, cmp_ne_pt, cmp_eq_lpt, cmp_ne_lpt, cmp_eq_tpt, cmp_ne_tpt, SM_hcall, decide_true, decide_false, Bool.not_true, Bool.not_false, i1, e]) [some (.int cell), some (.lst (ds.map .int)), some (.int (k : Nat)), some (.lst (l.map ipD)), some (.int ax), some (.int ay), none, none, none, none, none, none] ⟨none, by rw [show sumY [] = 0 from rfl, Int.add_zero]⟩
  rw [List.nil_append] at h1
  obtain ⟨ρ2, h2, p, acc, x6'', rfl, hacc, _⟩ := forL_inv (t := .nm 6) (b := evSs (SM (n + 1)) b30_2) ipD (fun done rest ρ => ∃ p acc x, ρ = [some (.int cell), some (.lst (ds.map .int)), some (.int (k : Nat)), some (.lst (l.map ipD)), some (.int p.1), some (.int p.2), x, some (.lst (acc.map ipD)), none, none, none, none] ∧ acc ++ (walkI p rest).tail = walkI (ax, ay + sumY l) l ∧ acc.length ≤ done.length + 1) l [] (fun d s r ρ he hi => by
    obtain ⟨p, acc, x, rfl, ha, hal⟩ := hi
    have hdl : (acc.map ipD).length < maxLen := by
      have := congrArg List.length he
      simp only [List.length_append, List.length_cons, List.length_nil, List.length_map] at *
      show _ < 16777216
      omega
    refine ⟨_, ?_, (p.1 + s.1, p.2 - s.2), acc ++ [(p.1 + s.1, p.2 - s.2)], some (ipD s), rfl, ?_, by simp; omega⟩
    · simp -implicitDefEqProofs only [u30_2, iss_cons, iss_nil, ies_cons, ies_nil, evSs_cons, evSs_nil, evS_share, evS_asg, evS_asgF, evS_setF, evS_setI, evS_app, evS_pop, evS_expr, evS_ret, evS_retN, evS_if, evS_for, evS_while, evS_brk, evS_cont, evS_pass, evS_raise, evE_var, evE_lit, evE_glb, evE_tup, evE_lst, evE_bin, evE_neg, evE_not, evE_cmp, evE_chn, evE_boo, evB_one, evB_cons, evE_ite, evE_ix, evE_slc, evE_fld, evE_call, evE_callK, evE_callV, evE_makeK, evE_meth, evE_bi, evE_lcnt, evE_lidx, evE_isi, evE_isx, evE_comp, evEs_nil, evEs_cons, evT_nil, evT_one, evI_seq, evI_rng1, evI_rng2, evI_enum, evI_zip, bnd_ok, bnd_exc, sof_ok, sof_exc, sq_nx, sq_rt, sq_bk, sq_ct, sq_exc, trn_nx, trn_ct, trn_bk, trn_rt, trn_exc, endR_nx, endR_rt, endR_exc, vr_zero, vr_succ, tupD_0, tupD_1, tupD_2, tupD_3, tupD_4, tupD_5, lstD_0, lstD_1, lstD_2, lstD_3, lstD_4, lstD_5, truthD_bl, truthD_non, iteD_t, iteD_f, iteS_t, iteS_f, negD_int, chnD_t, chnD_f, and_t, and_f, or_t, or_f, asgFD_z, asgFD_cons, raiseD_ok, bindT_nm, bindT_tp, bindT_pt, bindTs_nil, bindTs_cons, wipe_nil, wipe_cons, List.set_cons_zero, List.set_cons_succ, bin_add, bin_sub, bin_mul, bin_fdiv, bin_mod, bin_pow, addD_int, subD_int, cmp_eq_int, cmp_ne_int, cmp_lt_int, cmp_le_int, cmp_gt_int, cmp_ge_int, cmp_is_non, cmp_isnot_non, isNone_non, isNone_tup, isNone_fr, isNone_pt, bi_len_lst, bi_len_tup, bi_len_scr, bi_int, bi_abs, bi_gcd, bi_list_lst, bi_list_tup, bi_tuple_lst, bi_tuple_tup, bi_max2, bi_min2, ofOpt_some, seq_lst, seq_tup, partD_nil, partD_int, ix_fr0, ix_fr1, ix_pt0, ix_pt1, ix_t2_0, ix_t2_1, ix_t3_0, ix_t3_1, ix_t3_2, ix_t4_0, ix_t4_1, ix_t4_2, ix_t4_3, SM_call, SM_made, cmp_eq_fr, cmp_ne_fr, cmp_eq_pt, cmp_ne_pt, cmp_eq_lpt, cmp_ne_lpt, cmp_eq_tpt, cmp_ne_tpt, SM_hcall, decide_true, decide_false, Bool.not_true, Bool.not_false, i0, i1, appD_ok _ _ _ hdl, List.map_append, List.map_cons, List.map_nil]
      rfl
    · rw [← ha]
      have e1 : (walkI p (s :: r)).tail = walkI (p.1 + s.1, p.2 - s.2) r := rfl
      rw [e1, List.append_assoc]
      congr 1
      cases r <;> rfl) [some (.int cell), some (.lst (ds.map .int)), some (.int (k : Nat)), some (.lst (l.map ipD)), some (.int ax), some (.int (ay + sumY l)), x6', some (.lst ([(ax, ay + sumY l)].map ipD)), none, none, none, none] ⟨(ax, ay + sumY l), [(ax, ay + sumY l)], x6', rfl, by cases l <;> rfl, Nat.le_refl _⟩
  have hacc : acc = walkI (ax, ay + sumY l) l := by rw [← hacc]; simp [walkI]
  have hlen : acc.length ≤ 22 := by rw [hacc, walkI_len]; omega
  have hne : acc ≠ [] := by rw [hacc]; exact walkI_ne _ _
  have hsum := sumY_le hl.pos
  have hsm : ∀ q ∈ acc, (0 ≤ q.1 ∧ q.1 ≤ 2000) ∧ (0 ≤ q.2 ∧ q.2 ≤ 2000) := fun q hq => by
    rw [hacc] at hq
    have := walkI_rng hl.pos q hq
    simp only [] at this
    omega
  have hgain : 1 ≤ (lastI acc).1 ∧ 1 ≤ (headI acc).2 := by
    rw [hacc]
    cases l with
    | nil =>
      have g1 := hax1.2.2 rfl
      have g2 := hay1.2.2 rfl
      show 1 ≤ ax ∧ 1 ≤ ay + 0
      omega
    | cons s r =>
      have hs := hl.pos s (List.mem_cons_self ..)
      have hsr := sumY_le (fun t ht => hl.pos t (List.mem_cons_of_mem _ ht) : ∀ t ∈ r, StepI t)
      have e : sumY (s :: r) = s.2 + sumY r := by unfold sumY; rw [List.map_cons, List.sum_cons]
      unfold StepI at hs
      constructor
      · have hm := mem_lastI (walkI_ne (ax + s.1, ay + sumY (s :: r) - s.2) r)
        have := walkI_rng (fun t ht => hl.pos t (List.mem_cons_of_mem _ ht)) _ hm
        have e2 : lastI (walkI (ax, ay + sumY (s :: r)) (s :: r)) = lastI (walkI (ax + s.1, ay + sumY (s :: r) - s.2) r) := by
          show lastI (_ :: walkI _ r) = _
          unfold lastI
          rw [List.getLast?_cons]
          cases hh : (walkI (ax + s.1, ay + sumY (s :: r) - s.2) r).getLast? with
          | none => exact absurd (List.getLast?_eq_none_iff.mp hh) (walkI_ne _ _)
          | some v => rfl
        rw [e2]
        simp only [] at this
        omega
      · show 1 ≤ ay + sumY (s :: r)
        omega
  -- the units
  have hunits : ∃ u0 u1 u2 u3, UOk u0 ∧ UOk u1 ∧ UOk u2 ∧ UOk u3 ∧ (if (dg ds 2).fmod 5 = 4 then [(1 + (dg ds 5).fmod 6) * 100000 + dg ds 9, (1 + (dg ds 6).fmod 6) * 100000 + dg ds 9, (1 + (dg ds 7).fmod 6) * 100000 + dg ds 9, (1 + (dg ds 8).fmod 6) * 100000 + dg ds 9] else [1 + (dg ds 5).fmod 6, 1 + (dg ds 6).fmod 6, 1 + (dg ds 7).fmod 6, 1 + (dg ds 8).fmod 6]) = [u0, u1, u2, u3] := by
    unfold UOk
    split
    · exact ⟨_, _, _, _, by omega, by omega, by omega, by omega, rfl⟩
    · exact ⟨_, _, _, _, by omega, by omega, by omega, by omega, rfl⟩
  obtain ⟨u0, u1, u2, u3, hu0, hu1, hu2, hu3, hun⟩ := hunits
  have hz1 : (dg ds 10 - 30).natAbs < 2 ^ 8 := by show _ < 256; omega
  have hz2 : (dg ds 11 - 30).natAbs < 2 ^ 8 := by show _ < 256; omega
  have hz3 : (1 + (dg ds 9).fmod 6).natAbs < 2 ^ 8 := by show _ < 256; omega
  have hz4 : (1 + (dg ds 8).fmod 6).natAbs < 2 ^ 8 := by show _ < 256; omega
  have up : ∀ {z : Nat} {m : Nat}, z < 2 ^ 8 → 8 ≤ m → z < 2 ^ m := fun h hm => Nat.lt_of_lt_of_le h (Nat.pow_le_pow_right (by decide) hm)
  have hl1 := f_low n (dg ds 10 - 30) (1 + (dg ds 9).fmod 6) (by omega) (up hz1 (by decide)) (up hz3 (by decide))
  have hl2 := f_low n (dg ds 11 - 30) (1 + (dg ds 8).fmod 6) (by omega) (up hz2 (by decide)) (up hz4 (by decide))
  refine ⟨⟨Rat.divInt (dg ds 10 - 30) (1 + (dg ds 9).fmod 6), Rat.divInt (dg ds 11 - 30) (1 + (dg ds 8).fmod 6), u0, u1, u2, u3, acc⟩, ?_, ⟨sz_divInt (by omega) hz1 hz3, sz_divInt (by omega) hz2 hz4, hu0, hu1, hu2, hu3, ⟨_, l, hacc, hl, by omega⟩, hsm, hgain⟩⟩
  have hbd := f_bounds n hne (by omega) hsm
  have ezl : cmpD .eq (.lst (l.map ipD)) (.lst []) = .ok (.bl (decide (l = []))) := cmp_eq_dt (α := List IPt) (by decide) l []
  have cm : ∀ z : Int, 1 ≤ z → z ≤ 6 → mulD (.int z) (.int 100000) = .ok (.int (z * 100000)) := fun z h1 h2 => mul_sm (sm_of (by omega) (by omega)) (sm_of (by decide) (by decide))
  have h1' : forL (.nm 6) (evSs (SM (n + 1)) b30_0) (l.map ipD) [some (.int cell), some (.lst (ds.map .int)), some (.int (k : Nat)), some (.lst (l.map ipD)), some (.int ax), some (.int ay), none, none, none, none, none, none] = _ := h1
  have h2' : forL (.nm 6) (evSs (SM (n + 1)) b30_2) (l.map ipD) [some (.int cell), some (.lst (ds.map .int)), some (.int (k : Nat)), some (.lst (l.map ipD)), some (.int ax), some (.int (ay + sumY l)), x6', some (.lst [.tup [.int ax, .int (ay + sumY l)]]), none, none, none, none] = _ := h2
  have hlong : ([1 + (dg ds 5).fmod 6, 1 + (dg ds 6).fmod 6, 1 + (dg ds 7).fmod 6, 1 + (dg ds 8).fmod 6].map fun z => D.int (z * 100000 + dg ds 9)).length ≤ maxLen := (by show 4 ≤ 16777216; decide)
  rw [e_law_world]
  generalize hb1 : decide ((54 : Int) ≤ dg ds 0) = b1
  generalize hb2 : decide (l = []) = b2 at ezl
  generalize hb3 : decide ((dg ds 2).fmod 5 = 4) = b3
  have hkm : (if b1 = true then 6 + (dg ds 1).fmod 16 else (dg ds 0).fmod 6) = ((k : Nat) : Int) := by rw [← hkm, ← hb1]; simp only [decide_eq_true_eq]
  have hax : (if b2 = true then max 0 ((dg ds 3).fmod 8 - 3) + 1 else max 0 ((dg ds 3).fmod 8 - 3)) = ax := by rw [← hax, ← hb2]; simp only [decide_eq_true_eq]
  have hay : (if b2 = true then max 0 ((dg ds 4).fmod 8 - 3) + 1 else max 0 ((dg ds 4).fmod 8 - 3)) = ay := by rw [← hay, ← hb2]; simp only [decide_eq_true_eq]
  have hun : (if b3 = true then [(1 + (dg ds 5).fmod 6) * 100000 + dg ds 9, (1 + (dg ds 6).fmod 6) * 100000 + dg ds 9, (1 + (dg ds 7).fmod 6) * 100000 + dg ds 9, (1 + (dg ds 8).fmod 6) * 100000 + dg ds 9] else [1 + (dg ds 5).fmod 6, 1 + (dg ds 6).fmod 6, 1 + (dg ds 7).fmod 6, 1 + (dg ds 8).fmod 6]) = [u0, u1, u2, u3] := by rw [← hun, ← hb3]; simp only [decide_eq_true_eq]
  have hcomp : ∀ (y4 y5 : D) (y6 : Option D) (y7 : D), compL (cmpT (SM (n + 1)) [some (.int cell), some (.lst (ds.map .int)), some (.int (k : Nat)), some (.lst (l.map ipD)), some y4, some y5, y6, some y7, some (.lst ([1 + (dg ds 5).fmod 6, 1 + (dg ds 6).fmod 6, 1 + (dg ds 7).fmod 6, 1 + (dg ds 8).fmod 6].map D.int)), none, none, none] (.nm 11) [11] .nil k30_4) ([1 + (dg ds 5).fmod 6, 1 + (dg ds 6).fmod 6, 1 + (dg ds 7).fmod 6, 1 + (dg ds 8).fmod 6].map D.int) = .ok ([1 + (dg ds 5).fmod 6, 1 + (dg ds 6).fmod 6, 1 + (dg ds 7).fmod 6, 1 + (dg ds 8).fmod 6].map fun z => .int (z * 100000 + dg ds 9)) := by
    intro y4 y5 y6 y7
    refine compL_map D.int _ _ fun z hz => ?_
    have hz' : 1 ≤ z ∧ z ≤ 6 := by
      simp only [List.mem_cons, List.not_mem_nil, or_false] at hz
      rcases hz with e | e | e | e <;> omega
    unfold cmpT
    simp -implicitDefEqProofs only [u30_4, iss_cons, iss_nil, ies_cons, ies_nil, evSs_cons, evSs_nil, evS_share, evS_asg, evS_asgF, evS_setF, evS_setI, evS_app, evS_pop, evS_expr, evS_ret, evS_retN, evS_if, evS_for, evS_while, evS_brk, evS_cont, evS_pass, evS_raise, evE_var, evE_lit, evE_glb, evE_tup, evE_lst, evE_bin, evE_neg, evE_not, evE_cmp, evE_chn, evE_boo, evB_one, evB_cons, evE_ite, evE_ix, evE_slc, evE_fld, evE_call, evE_callK, evE_callV, evE_makeK, evE_meth, evE_bi, evE_lcnt, evE_lidx, evE_isi, evE_isx, evE_comp, evEs_nil, evEs_cons, evT_nil, evT_one, evI_seq, evI_rng1, evI_rng2, evI_enum, evI_zip, bnd_ok, bnd_exc, sof_ok, sof_exc, sq_nx, sq_rt, sq_bk, sq_ct, sq_exc, trn_nx, trn_ct, trn_bk, trn_rt, trn_exc, endR_nx, endR_rt, endR_exc, vr_zero, vr_succ, tupD_0, tupD_1, tupD_2, tupD_3, tupD_4, tupD_5, lstD_0, lstD_1, lstD_2, lstD_3, lstD_4, lstD_5, truthD_bl, truthD_non, iteD_t, iteD_f, iteS_t, iteS_f, negD_int, chnD_t, chnD_f, and_t, and_f, or_t, or_f, asgFD_z, asgFD_cons, raiseD_ok, bindT_nm, bindT_tp, bindT_pt, bindTs_nil, bindTs_cons, wipe_nil, wipe_cons, List.set_cons_zero, List.set_cons_succ, bin_add, bin_sub, bin_mul, bin_fdiv, bin_mod, bin_pow, addD_int, subD_int, cmp_eq_int, cmp_ne_int, cmp_lt_int, cmp_le_int, cmp_gt_int, cmp_ge_int, cmp_is_non, cmp_isnot_non, isNone_non, isNone_tup, isNone_fr, isNone_pt, bi_len_lst, bi_len_tup, bi_len_scr, bi_int, bi_abs, bi_gcd, bi_list_lst, bi_list_tup, bi_tuple_lst, bi_tuple_tup, bi_max2, bi_min2, ofOpt_some, seq_lst, seq_tup, partD_nil, partD_int, ix_fr0, ix_fr1, ix_pt0, ix_pt1, ix_t2_0, ix_t2_1, ix_t3_0, ix_t3_1, ix_t3_2, ix_t4_0, ix_t4_1, ix_t4_2, ix_t4_3, SM_call, SM_made, cmp_eq_fr, cmp_ne_fr, cmp_eq_pt, cmp_ne_pt, cmp_eq_lpt, cmp_ne_lpt, cmp_eq_tpt, cmp_ne_tpt, SM_hcall, decide_true, decide_false, Bool.not_true, Bool.not_false, x9, pow_5, cm z hz'.1 hz'.2, if_true]
  have hcomp' : ∀ (y4 y5 : D) (y6 : Option D) (y7 : D), compL (cmpT (SM (n + 1)) [some (.int cell), some (.lst (ds.map .int)), some (.int (k : Nat)), some (.lst (l.map ipD)), some y4, some y5, y6, some y7, some (.lst [.int (1 + (dg ds 5).fmod 6), .int (1 + (dg ds 6).fmod 6), .int (1 + (dg ds 7).fmod 6), .int (1 + (dg ds 8).fmod 6)]), none, none, none] (.nm 11) [11] .nil k30_4) [.int (1 + (dg ds 5).fmod 6), .int (1 + (dg ds 6).fmod 6), .int (1 + (dg ds 7).fmod 6), .int (1 + (dg ds 8).fmod 6)] = .ok [.int ((1 + (dg ds 5).fmod 6) * 100000 + dg ds 9), .int ((1 + (dg ds 6).fmod 6) * 100000 + dg ds 9), .int ((1 + (dg ds 7).fmod 6) * 100000 + dg ds 9), .int ((1 + (dg ds 8).fmod 6) * 100000 + dg ds 9)] := hcomp
  clear hcomp hlong hds hx hmod
  cases b1 <;> cases b2 <;> cases b3 <;> simp -implicitDefEqProofs only [if_true, if_false, List.cons.injEq, and_true, Bool.false_eq_true] at hkm hax hay hun <;> obtain ⟨rfl, rfl, rfl, rfl⟩ := hun <;> simp -implicitDefEqProofs only [b30, v30_0, v30_1, v30_2, v30_3, v30_4, v30_5, v30_6, v30_7, v30_8, v30_9, v30_10, v30_11, v30_12, v30_13, v30_14, v30_15, iss_cons, iss_nil, ies_cons, ies_nil, evSs_cons, evSs_nil, evS_share, evS_asg, evS_asgF, evS_setF, evS_setI, evS_app, evS_pop, evS_expr, evS_ret, evS_retN, evS_if, evS_for, evS_while, evS_brk, evS_cont, evS_pass, evS_raise, evE_var, evE_lit, evE_glb, evE_tup, evE_lst, evE_bin, evE_neg, evE_not, evE_cmp, evE_chn, evE_boo, evB_one, evB_cons, evE_ite, evE_ix, evE_slc, evE_fld, evE_call, evE_callK, evE_callV, evE_makeK, evE_meth, evE_bi, evE_lcnt, evE_lidx, evE_isi, evE_isx, evE_comp, evEs_nil, evEs_cons, evT_nil, evT_one, evI_seq, evI_rng1, evI_rng2, evI_enum, evI_zip, bnd_ok, bnd_exc, sof_ok, sof_exc, sq_nx, sq_rt, sq_bk, sq_ct, sq_exc, trn_nx, trn_ct, trn_bk, trn_rt, trn_exc, endR_nx, endR_rt, endR_exc, vr_zero, vr_succ, tupD_0, tupD_1, tupD_2, tupD_3, tupD_4, tupD_5, lstD_0, lstD_1, lstD_2, lstD_3, lstD_4, lstD_5, truthD_bl, truthD_non, iteD_t, iteD_f, iteS_t, iteS_f, negD_int, chnD_t, chnD_f, and_t, and_f, or_t, or_f, asgFD_z, asgFD_cons, raiseD_ok, bindT_nm, bindT_tp, bindT_pt, bindTs_nil, bindTs_cons, wipe_nil, wipe_cons, List.set_cons_zero, List.set_cons_succ, bin_add, bin_sub, bin_mul, bin_fdiv, bin_mod, bin_pow, addD_int, subD_int, cmp_eq_int, cmp_ne_int, cmp_lt_int, cmp_le_int, cmp_gt_int, cmp_ge_int, cmp_is_non, cmp_isnot_non, isNone_non, isNone_tup, isNone_fr, isNone_pt, bi_len_lst, bi_len_tup, bi_len_scr, bi_int, bi_abs, bi_gcd, bi_list_lst, bi_list_tup, bi_tuple_lst, bi_tuple_tup, bi_max2, bi_min2, ofOpt_some, seq_lst, seq_tup, partD_nil, partD_int, ix_fr0, ix_fr1, ix_pt0, ix_pt1, ix_t2_0, ix_t2_1, ix_t3_0, ix_t3_1, ix_t3_2, ix_t4_0, ix_t4_1, ix_t4_2, ix_t4_3, SM_call, SM_made, cmp_eq_fr, cmp_ne_fr, cmp_eq_pt, cmp_ne_pt, cmp_eq_lpt, cmp_ne_lpt, cmp_eq_tpt, cmp_ne_tpt, SM_hcall, decide_true, decide_false, Bool.not_true, Bool.not_false, hds', x0, x1, x2, x3, x4, x5, x6, x7, x8, x9, x10, x11, modD_ok (show (6 : Int) ≠ 0 by decide), modD_ok (show (16 : Int) ≠ 0 by decide), modD_ok (show (8 : Int) ≠ 0 by decide), modD_ok (show (5 : Int) ≠ 0 by decide), hb1, hb3, hkm, hst, ezl, hax, hay, h1', h2', hcomp', hl1, hl2, hbd] <;> rfl
/-! ### the law's looks at numbers -/
theorem f_is_number (n : Nat) {q : Rat} (h : Ok q) : callN Pr (n + 2) 23 [fr q] = .ok (.bl true) := by
  have hl := f_low n q.num (q.den : Int) (den_pos' q) (Nat.lt_of_lt_of_le h.1 (Nat.pow_le_pow_right (by decide) (by decide))) (Nat.lt_of_lt_of_le (show ((q.den : Nat) : Int).natAbs < 2 ^ 4400 from h.2) (Nat.pow_le_pow_right (by decide) (by decide)))
  rw [Rat.num_divInt_den] at hl
  have hp := den_pos' q
  rw [e_law_is_number]
  simp -implicitDefEqProofs only [b23, v23_0, v23_1, v23_2, iss_cons, iss_nil, ies_cons, ies_nil, evSs_cons, evSs_nil, evS_share, evS_asg, evS_asgF, evS_setF, evS_setI, evS_app, evS_pop, evS_expr, evS_ret, evS_retN, evS_if, evS_for, evS_while, evS_brk, evS_cont, evS_pass, evS_raise, evE_var, evE_lit, evE_glb, evE_tup, evE_lst, evE_bin, evE_neg, evE_not, evE_cmp, evE_chn, evE_boo, evB_one, evB_cons, evE_ite, evE_ix, evE_slc, evE_fld, evE_call, evE_callK, evE_callV, evE_makeK, evE_meth, evE_bi, evE_lcnt, evE_lidx, evE_isi, evE_isx, evE_comp, evEs_nil, evEs_cons, evT_nil, evT_one, evI_seq, evI_rng1, evI_rng2, evI_enum, evI_zip, bnd_ok, bnd_exc, sof_ok, sof_exc, sq_nx, sq_rt, sq_bk, sq_ct, sq_exc, trn_nx, trn_ct, trn_bk, trn_rt, trn_exc, endR_nx, endR_rt, endR_exc, vr_zero, vr_succ, tupD_0, tupD_1, tupD_2, tupD_3, tupD_4, tupD_5, lstD_0, lstD_1, lstD_2, lstD_3, lstD_4, lstD_5, truthD_bl, truthD_non, iteD_t, iteD_f, iteS_t, iteS_f, negD_int, chnD_t, chnD_f, and_t, and_f, or_t, or_f, asgFD_z, asgFD_cons, raiseD_ok, bindT_nm, bindT_tp, bindT_pt, bindTs_nil, bindTs_cons, wipe_nil, wipe_cons, List.set_cons_zero, List.set_cons_succ, bin_add, bin_sub, bin_mul, bin_fdiv, bin_mod, bin_pow, addD_int, subD_int, cmp_eq_int, cmp_ne_int, cmp_lt_int, cmp_le_int, cmp_gt_int, cmp_ge_int, cmp_is_non, cmp_isnot_non, isNone_non, isNone_tup, isNone_fr, isNone_pt, bi_len_lst, bi_len_tup, bi_len_scr, bi_int, bi_abs, bi_gcd, bi_list_lst, bi_list_tup, bi_tuple_lst, bi_tuple_tup, bi_max2, bi_min2, ofOpt_some, seq_lst, seq_tup, partD_nil, partD_int, ix_fr0, ix_fr1, ix_pt0, ix_pt1, ix_t2_0, ix_t2_1, ix_t3_0, ix_t3_1, ix_t3_2, ix_t4_0, ix_t4_1, ix_t4_2, ix_t4_3, SM_call, SM_made, cmp_eq_fr, cmp_ne_fr, cmp_eq_pt, cmp_ne_pt, cmp_eq_lpt, cmp_ne_lpt, cmp_eq_tpt, cmp_ne_tpt, SM_hcall, decide_true, decide_false, Bool.not_true, Bool.not_false, isi_tup_fr, len_fr, seq_fr, forL_cons, forL_nil, u23_0, isi_int_int, isi_bool_int, hp, hl]
theorem f_is_point (n : Nat) {p : Pt} (h : OkP p) : callN Pr (n + 3) 24 [pt p] = .ok (.bl true) := by
  rw [e_law_is_point]
  simp -implicitDefEqProofs only [b24, v24_0, v24_1, iss_cons, iss_nil, ies_cons, ies_nil, evSs_cons, evSs_nil, evS_share, evS_asg, evS_asgF, evS_setF, evS_setI, evS_app, evS_pop, evS_expr, evS_ret, evS_retN, evS_if, evS_for, evS_while, evS_brk, evS_cont, evS_pass, evS_raise, evE_var, evE_lit, evE_glb, evE_tup, evE_lst, evE_bin, evE_neg, evE_not, evE_cmp, evE_chn, evE_boo, evB_one, evB_cons, evE_ite, evE_ix, evE_slc, evE_fld, evE_call, evE_callK, evE_callV, evE_makeK, evE_meth, evE_bi, evE_lcnt, evE_lidx, evE_isi, evE_isx, evE_comp, evEs_nil, evEs_cons, evT_nil, evT_one, evI_seq, evI_rng1, evI_rng2, evI_enum, evI_zip, bnd_ok, bnd_exc, sof_ok, sof_exc, sq_nx, sq_rt, sq_bk, sq_ct, sq_exc, trn_nx, trn_ct, trn_bk, trn_rt, trn_exc, endR_nx, endR_rt, endR_exc, vr_zero, vr_succ, tupD_0, tupD_1, tupD_2, tupD_3, tupD_4, tupD_5, lstD_0, lstD_1, lstD_2, lstD_3, lstD_4, lstD_5, truthD_bl, truthD_non, iteD_t, iteD_f, iteS_t, iteS_f, negD_int, chnD_t, chnD_f, and_t, and_f, or_t, or_f, asgFD_z, asgFD_cons, raiseD_ok, bindT_nm, bindT_tp, bindT_pt, bindTs_nil, bindTs_cons, wipe_nil, wipe_cons, List.set_cons_zero, List.set_cons_succ, bin_add, bin_sub, bin_mul, bin_fdiv, bin_mod, bin_pow, addD_int, subD_int, cmp_eq_int, cmp_ne_int, cmp_lt_int, cmp_le_int, cmp_gt_int, cmp_ge_int, cmp_is_non, cmp_isnot_non, isNone_non, isNone_tup, isNone_fr, isNone_pt, bi_len_lst, bi_len_tup, bi_len_scr, bi_int, bi_abs, bi_gcd, bi_list_lst, bi_list_tup, bi_tuple_lst, bi_tuple_tup, bi_max2, bi_min2, ofOpt_some, seq_lst, seq_tup, partD_nil, partD_int, ix_fr0, ix_fr1, ix_pt0, ix_pt1, ix_t2_0, ix_t2_1, ix_t3_0, ix_t3_1, ix_t3_2, ix_t4_0, ix_t4_1, ix_t4_2, ix_t4_3, SM_call, SM_made, cmp_eq_fr, cmp_ne_fr, cmp_eq_pt, cmp_ne_pt, cmp_eq_lpt, cmp_ne_lpt, cmp_eq_tpt, cmp_ne_tpt, SM_hcall, decide_true, decide_false, Bool.not_true, Bool.not_false, isi_tup_pt, len_pt, f_is_number n h.1, f_is_number n h.2]
theorem w_asc (n : Nat) {x : Rat} (hx : Ok x) (x0 : Option D) : ∀ (suf pre : List Rat) (fuel : Nat), (∀ t ∈ suf, Ok t) → suf.length < fuel → (∀ t ∈ pre, t ≤ x) → ∃ pre' suf', pre ++ suf = pre' ++ suf' ∧ (∀ t ∈ pre', t ≤ x) ∧ (∀ t r, suf' = t :: r → x < t) ∧
    whileN (fun ρ => bnd (evE (SM (n + 1)) t25_3 ρ) truthD) (evSs (SM (n + 1)) b25_2) fuel [x0, some (.lst ((pre ++ suf).map fr)), some (fr x), some (.int (pre.length : Nat))] = .nx [x0, some (.lst ((pre ++ suf).map fr)), some (fr x), some (.int (pre'.length : Nat))]
  | suf, pre, 0, _, h, _ => absurd h (Nat.not_lt_zero _)
  | [], pre, fuel + 1, _, _, hp => by
    refine ⟨pre, [], rfl, hp, (fun t r e => by cases e), ?_⟩
    have h1 : ¬ ((pre.length : Nat) : Int) < (((pre ++ []).length : Nat) : Int) := by simp
    rw [whileN_succ]
    simp -implicitDefEqProofs only [u25_3, iss_cons, iss_nil, ies_cons, ies_nil, evSs_cons, evSs_nil, evS_share, evS_asg, evS_asgF, evS_setF, evS_setI, evS_app, evS_pop, evS_expr, evS_ret, evS_retN, evS_if, evS_for, evS_while, evS_brk, evS_cont, evS_pass, evS_raise, evE_var, evE_lit, evE_glb, evE_tup, evE_lst, evE_bin, evE_neg, evE_not, evE_cmp, evE_chn, evE_boo, evB_one, evB_cons, evE_ite, evE_ix, evE_slc, evE_fld, evE_call, evE_callK, evE_callV, evE_makeK, evE_meth, evE_bi, evE_lcnt, evE_lidx, evE_isi, evE_isx, evE_comp, evEs_nil, evEs_cons, evT_nil, evT_one, evI_seq, evI_rng1, evI_rng2, evI_enum, evI_zip, bnd_ok, bnd_exc, sof_ok, sof_exc, sq_nx, sq_rt, sq_bk, sq_ct, sq_exc, trn_nx, trn_ct, trn_bk, trn_rt, trn_exc, endR_nx, endR_rt, endR_exc, vr_zero, vr_succ, tupD_0, tupD_1, tupD_2, tupD_3, tupD_4, tupD_5, lstD_0, lstD_1, lstD_2, lstD_3, lstD_4, lstD_5, truthD_bl, truthD_non, iteD_t, iteD_f, iteS_t, iteS_f, negD_int, chnD_t, chnD_f, and_t, and_f, or_t, or_f, asgFD_z, asgFD_cons, raiseD_ok, bindT_nm, bindT_tp, bindT_pt, bindTs_nil, bindTs_cons, wipe_nil, wipe_cons, List.set_cons_zero, List.set_cons_succ, bin_add, bin_sub, bin_mul, bin_fdiv, bin_mod, bin_pow, addD_int, subD_int, cmp_eq_int, cmp_ne_int, cmp_lt_int, cmp_le_int, cmp_gt_int, cmp_ge_int, cmp_is_non, cmp_isnot_non, isNone_non, isNone_tup, isNone_fr, isNone_pt, bi_len_lst, bi_len_tup, bi_len_scr, bi_int, bi_abs, bi_gcd, bi_list_lst, bi_list_tup, bi_tuple_lst, bi_tuple_tup, bi_max2, bi_min2, ofOpt_some, seq_lst, seq_tup, partD_nil, partD_int, ix_fr0, ix_fr1, ix_pt0, ix_pt1, ix_t2_0, ix_t2_1, ix_t3_0, ix_t3_1, ix_t3_2, ix_t4_0, ix_t4_1, ix_t4_2, ix_t4_3, SM_call, SM_made, cmp_eq_fr, cmp_ne_fr, cmp_eq_pt, cmp_ne_pt, cmp_eq_lpt, cmp_ne_lpt, cmp_eq_tpt, cmp_ne_tpt, SM_hcall, decide_true, decide_false, Bool.not_true, Bool.not_false, List.length_map, h1]
    rfl
  | t :: suf, pre, fuel + 1, hst, hf, hp => by
    have h1 : ((pre.length : Nat) : Int) < (((pre ++ t :: suf).length : Nat) : Int) := by simp; omega
    have hix : L2.atI ((pre ++ t :: suf).map fr) ((pre.length : Nat) : Int) = some (fr t) := by
      rw [at_nat _ _ pre.length rfl, List.getElem?_map, List.getElem?_append_right (Nat.le_refl _)]
      simp
    have ht := hst t (List.mem_cons_self ..)
    by_cases hfl : x < t
    · refine ⟨pre, t :: suf, rfl, hp, (fun u r e => by cases e; exact hfl), ?_⟩
      rw [whileN_succ]
      simp -implicitDefEqProofs only [u25_3, iss_cons, iss_nil, ies_cons, ies_nil, evSs_cons, evSs_nil, evS_share, evS_asg, evS_asgF, evS_setF, evS_setI, evS_app, evS_pop, evS_expr, evS_ret, evS_retN, evS_if, evS_for, evS_while, evS_brk, evS_cont, evS_pass, evS_raise, evE_var, evE_lit, evE_glb, evE_tup, evE_lst, evE_bin, evE_neg, evE_not, evE_cmp, evE_chn, evE_boo, evB_one, evB_cons, evE_ite, evE_ix, evE_slc, evE_fld, evE_call, evE_callK, evE_callV, evE_makeK, evE_meth, evE_bi, evE_lcnt, evE_lidx, evE_isi, evE_isx, evE_comp, evEs_nil, evEs_cons, evT_nil, evT_one, evI_seq, evI_rng1, evI_rng2, evI_enum, evI_zip, bnd_ok, bnd_exc, sof_ok, sof_exc, sq_nx, sq_rt, sq_bk, sq_ct, sq_exc, trn_nx, trn_ct, trn_bk, trn_rt, trn_exc, endR_nx, endR_rt, endR_exc, vr_zero, vr_succ, tupD_0, tupD_1, tupD_2, tupD_3, tupD_4, tupD_5, lstD_0, lstD_1, lstD_2, lstD_3, lstD_4, lstD_5, truthD_bl, truthD_non, iteD_t, iteD_f, iteS_t, iteS_f, negD_int, chnD_t, chnD_f, and_t, and_f, or_t, or_f, asgFD_z, asgFD_cons, raiseD_ok, bindT_nm, bindT_tp, bindT_pt, bindTs_nil, bindTs_cons, wipe_nil, wipe_cons, List.set_cons_zero, List.set_cons_succ, bin_add, bin_sub, bin_mul, bin_fdiv, bin_mod, bin_pow, addD_int, subD_int, cmp_eq_int, cmp_ne_int, cmp_lt_int, cmp_le_int, cmp_gt_int, cmp_ge_int, cmp_is_non, cmp_isnot_non, isNone_non, isNone_tup, isNone_fr, isNone_pt, bi_len_lst, bi_len_tup, bi_len_scr, bi_int, bi_abs, bi_gcd, bi_list_lst, bi_list_tup, bi_tuple_lst, bi_tuple_tup, bi_max2, bi_min2, ofOpt_some, seq_lst, seq_tup, partD_nil, partD_int, ix_fr0, ix_fr1, ix_pt0, ix_pt1, ix_t2_0, ix_t2_1, ix_t3_0, ix_t3_1, ix_t3_2, ix_t4_0, ix_t4_1, ix_t4_2, ix_t4_3, SM_call, SM_made, cmp_eq_fr, cmp_ne_fr, cmp_eq_pt, cmp_ne_pt, cmp_eq_lpt, cmp_ne_lpt, cmp_eq_tpt, cmp_ne_tpt, SM_hcall, decide_true, decide_false, Bool.not_true, Bool.not_false, List.length_map, h1, ixD_lst hix, f_lless n hx ht, hfl]
      rfl
    · obtain ⟨pre', suf', e, g1, g2, g3⟩ := w_asc n hx x0 suf (pre ++ [t]) fuel (fun u hu => hst u (List.mem_cons_of_mem _ hu)) (by simp only [List.length_cons] at *; omega) (fun u hu => by
        rcases List.mem_append.mp hu with hu | hu
        · exact hp u hu
        · simp only [List.mem_singleton] at hu; subst hu; exact Rat.not_lt.mp hfl)
      have ea : pre ++ [t] ++ suf = pre ++ t :: suf := by simp
      rw [ea] at e g3
      have el : (((pre ++ [t]).length : Nat) : Int) = ((pre.length : Nat) : Int) + 1 := by simp
      rw [el] at g3
      refine ⟨pre', suf', e, g1, g2, ?_⟩
      rw [whileN_succ]
      simp -implicitDefEqProofs only [u25_3, u25_2, iss_cons, iss_nil, ies_cons, ies_nil, evSs_cons, evSs_nil, evS_share, evS_asg, evS_asgF, evS_setF, evS_setI, evS_app, evS_pop, evS_expr, evS_ret, evS_retN, evS_if, evS_for, evS_while, evS_brk, evS_cont, evS_pass, evS_raise, evE_var, evE_lit, evE_glb, evE_tup, evE_lst, evE_bin, evE_neg, evE_not, evE_cmp, evE_chn, evE_boo, evB_one, evB_cons, evE_ite, evE_ix, evE_slc, evE_fld, evE_call, evE_callK, evE_callV, evE_makeK, evE_meth, evE_bi, evE_lcnt, evE_lidx, evE_isi, evE_isx, evE_comp, evEs_nil, evEs_cons, evT_nil, evT_one, evI_seq, evI_rng1, evI_rng2, evI_enum, evI_zip, bnd_ok, bnd_exc, sof_ok, sof_exc, sq_nx, sq_rt, sq_bk, sq_ct, sq_exc, trn_nx, trn_ct, trn_bk, trn_rt, trn_exc, endR_nx, endR_rt, endR_exc, vr_zero, vr_succ, tupD_0, tupD_1, tupD_2, tupD_3, tupD_4, tupD_5, lstD_0, lstD_1, lstD_2, lstD_3, lstD_4, lstD_5, truthD_bl, truthD_non, iteD_t, iteD_f, iteS_t, iteS_f, negD_int, chnD_t, chnD_f, and_t, and_f, or_t, or_f, asgFD_z, asgFD_cons, raiseD_ok, bindT_nm, bindT_tp, bindT_pt, bindTs_nil, bindTs_cons, wipe_nil, wipe_cons, List.set_cons_zero, List.set_cons_succ, bin_add, bin_sub, bin_mul, bin_fdiv, bin_mod, bin_pow, addD_int, subD_int, cmp_eq_int, cmp_ne_int, cmp_lt_int, cmp_le_int, cmp_gt_int, cmp_ge_int, cmp_is_non, cmp_isnot_non, isNone_non, isNone_tup, isNone_fr, isNone_pt, bi_len_lst, bi_len_tup, bi_len_scr, bi_int, bi_abs, bi_gcd, bi_list_lst, bi_list_tup, bi_tuple_lst, bi_tuple_tup, bi_max2, bi_min2, ofOpt_some, seq_lst, seq_tup, partD_nil, partD_int, ix_fr0, ix_fr1, ix_pt0, ix_pt1, ix_t2_0, ix_t2_1, ix_t3_0, ix_t3_1, ix_t3_2, ix_t4_0, ix_t4_1, ix_t4_2, ix_t4_3, SM_call, SM_made, cmp_eq_fr, cmp_ne_fr, cmp_eq_pt, cmp_ne_pt, cmp_eq_lpt, cmp_ne_lpt, cmp_eq_tpt, cmp_ne_tpt, SM_hcall, decide_true, decide_false, Bool.not_true, Bool.not_false, List.length_map, h1, ixD_lst hix, f_lless n hx ht, hfl, if_true, g3]
theorem f_ascending (n : Nat) {l : List Rat} (hl : ∀ x ∈ l, Ok x) (hlen : l.length ≤ 900) : ∃ l' : List Rat, callN Pr (n + 2) 25 [.lst (l.map fr)] = .ok (.lst (l'.map fr)) ∧ l'.Perm l ∧ l'.Pairwise (· ≤ ·) := by
  obtain ⟨ρ', h1, l', x2, x3, rfl, hp, hs⟩ := forL_inv (t := .nm 2) (b := evSs (SM (n + 1)) b25_0) fr (fun done rest ρ => ∃ l' x2 x3, ρ = [some (.lst (l.map fr)), some (.lst (l'.map fr)), x2, x3] ∧ l'.Perm done ∧ l'.Pairwise (· ≤ ·)) l [] (fun d x r ρ he hi => by
    obtain ⟨l', x2, x3, rfl, hp, hs⟩ := hi
    rw [List.nil_append] at he
    have hdl : l'.length + 1 ≤ l.length := by
      have := congrArg List.length he
      rw [List.length_append, List.length_cons] at this
      rw [hp.length_eq]; omega
    have hx : Ok x := hl x (by rw [← he]; simp)
    obtain ⟨pre, suf, e, g1, g2, g3⟩ := w_asc n hx (some (.lst (l.map fr))) l' [] fuel0 (fun t ht => hl t (by rw [← he]; exact List.mem_append_left _ (hp.mem_iff.mp ht))) (Nat.lt_of_le_of_lt (by omega : l'.length ≤ 1000) fuel_small) (fun t ht => by cases ht)
    rw [List.nil_append] at e g3
    have g4 : whileN (fun ρ => bnd (evE (SM (n + 1)) t25_3 ρ) truthD) (evSs (SM (n + 1)) b25_2) fuel0 [some (.lst (l.map fr)), some (.lst (l'.map fr)), some (fr x), some (.int 0)] = _ := g3
    subst e
    have l1 : (pre.map fr).length + ([fr x] : List D).length ≤ maxLen := by
      simp only [List.length_map, List.length_cons, List.length_nil, List.length_append] at *
      show _ ≤ 16777216; omega
    have l2 : (pre.map fr ++ [fr x]).length + (suf.map fr).length ≤ maxLen := by
      simp only [List.length_map, List.length_cons, List.length_nil, List.length_append] at *
      show _ ≤ 16777216; omega
    have sl1 : slcD (.lst ((pre ++ suf).map fr)) none (some ((pre.length : Nat) : Int)) = .ok (.lst (pre.map fr)) := by
      have := slc_take (pre.map fr) (suf.map fr)
      rw [List.length_map] at this
      rw [List.map_append]; exact this
    have sl2 : slcD (.lst ((pre ++ suf).map fr)) (some ((pre.length : Nat) : Int)) none = .ok (.lst (suf.map fr)) := by
      have := slc_drop (pre.map fr) (suf.map fr)
      rw [List.length_map] at this
      rw [List.map_append]; exact this
    have em : pre.map fr ++ [fr x] ++ suf.map fr = (pre ++ [x] ++ suf).map fr := by simp
    refine ⟨_, ?_, pre ++ [x] ++ suf, some (fr x), some (.int (pre.length : Nat)), rfl, ?_, ins_sorted hs g1 g2⟩
    · simp -implicitDefEqProofs only [u25_0, iss_cons, iss_nil, ies_cons, ies_nil, evSs_cons, evSs_nil, evS_share, evS_asg, evS_asgF, evS_setF, evS_setI, evS_app, evS_pop, evS_expr, evS_ret, evS_retN, evS_if, evS_for, evS_while, evS_brk, evS_cont, evS_pass, evS_raise, evE_var, evE_lit, evE_glb, evE_tup, evE_lst, evE_bin, evE_neg, evE_not, evE_cmp, evE_chn, evE_boo, evB_one, evB_cons, evE_ite, evE_ix, evE_slc, evE_fld, evE_call, evE_callK, evE_callV, evE_makeK, evE_meth, evE_bi, evE_lcnt, evE_lidx, evE_isi, evE_isx, evE_comp, evEs_nil, evEs_cons, evT_nil, evT_one, evI_seq, evI_rng1, evI_rng2, evI_enum, evI_zip, bnd_ok, bnd_exc, sof_ok, sof_exc, sq_nx, sq_rt, sq_bk, sq_ct, sq_exc, trn_nx, trn_ct, trn_bk, trn_rt, trn_exc, endR_nx, endR_rt, endR_exc, vr_zero, vr_succ, tupD_0, tupD_1, tupD_2, tupD_3, tupD_4, tupD_5, lstD_0, lstD_1, lstD_2, lstD_3, lstD_4, lstD_5, truthD_bl, truthD_non, iteD_t, iteD_f, iteS_t, iteS_f, negD_int, chnD_t, chnD_f, and_t, and_f, or_t, or_f, asgFD_z, asgFD_cons, raiseD_ok, bindT_nm, bindT_tp, bindT_pt, bindTs_nil, bindTs_cons, wipe_nil, wipe_cons, List.set_cons_zero, List.set_cons_succ, bin_add, bin_sub, bin_mul, bin_fdiv, bin_mod, bin_pow, addD_int, subD_int, cmp_eq_int, cmp_ne_int, cmp_lt_int, cmp_le_int, cmp_gt_int, cmp_ge_int, cmp_is_non, cmp_isnot_non, isNone_non, isNone_tup, isNone_fr, isNone_pt, bi_len_lst, bi_len_tup, bi_len_scr, bi_int, bi_abs, bi_gcd, bi_list_lst, bi_list_tup, bi_tuple_lst, bi_tuple_tup, bi_max2, bi_min2, ofOpt_some, seq_lst, seq_tup, partD_nil, partD_int, ix_fr0, ix_fr1, ix_pt0, ix_pt1, ix_t2_0, ix_t2_1, ix_t3_0, ix_t3_1, ix_t3_2, ix_t4_0, ix_t4_1, ix_t4_2, ix_t4_3, SM_call, SM_made, cmp_eq_fr, cmp_ne_fr, cmp_eq_pt, cmp_ne_pt, cmp_eq_lpt, cmp_ne_lpt, cmp_eq_tpt, cmp_ne_tpt, SM_hcall, decide_true, decide_false, Bool.not_true, Bool.not_false, SM_fuel, g4, sl1, sl2, addD_lst l1, addD_lst l2, em]
    · have : (pre ++ [x] ++ suf).Perm (x :: (pre ++ suf)) := by rw [List.append_assoc]; exact List.perm_middle
      exact this.trans ((hp.cons x).trans (List.perm_append_singleton x d).symm)) [some (.lst (l.map fr)), some (.lst []), none, none] ⟨[], none, none, rfl, .refl _, .nil⟩
  refine ⟨l', ?_, by rw [List.nil_append] at hp; exact hp, hs⟩
  rw [e_law_ascending]
  simp -implicitDefEqProofs only [b25, v25_0, v25_1, v25_2, iss_cons, iss_nil, ies_cons, ies_nil, evSs_cons, evSs_nil, evS_share, evS_asg, evS_asgF, evS_setF, evS_setI, evS_app, evS_pop, evS_expr, evS_ret, evS_retN, evS_if, evS_for, evS_while, evS_brk, evS_cont, evS_pass, evS_raise, evE_var, evE_lit, evE_glb, evE_tup, evE_lst, evE_bin, evE_neg, evE_not, evE_cmp, evE_chn, evE_boo, evB_one, evB_cons, evE_ite, evE_ix, evE_slc, evE_fld, evE_call, evE_callK, evE_callV, evE_makeK, evE_meth, evE_bi, evE_lcnt, evE_lidx, evE_isi, evE_isx, evE_comp, evEs_nil, evEs_cons, evT_nil, evT_one, evI_seq, evI_rng1, evI_rng2, evI_enum, evI_zip, bnd_ok, bnd_exc, sof_ok, sof_exc, sq_nx, sq_rt, sq_bk, sq_ct, sq_exc, trn_nx, trn_ct, trn_bk, trn_rt, trn_exc, endR_nx, endR_rt, endR_exc, vr_zero, vr_succ, tupD_0, tupD_1, tupD_2, tupD_3, tupD_4, tupD_5, lstD_0, lstD_1, lstD_2, lstD_3, lstD_4, lstD_5, truthD_bl, truthD_non, iteD_t, iteD_f, iteS_t, iteS_f, negD_int, chnD_t, chnD_f, and_t, and_f, or_t, or_f, asgFD_z, asgFD_cons, raiseD_ok, bindT_nm, bindT_tp, bindT_pt, bindTs_nil, bindTs_cons, wipe_nil, wipe_cons, List.set_cons_zero, List.set_cons_succ, bin_add, bin_sub, bin_mul, bin_fdiv, bin_mod, bin_pow, addD_int, subD_int, cmp_eq_int, cmp_ne_int, cmp_lt_int, cmp_le_int, cmp_gt_int, cmp_ge_int, cmp_is_non, cmp_isnot_non, isNone_non, isNone_tup, isNone_fr, isNone_pt, bi_len_lst, bi_len_tup, bi_len_scr, bi_int, bi_abs, bi_gcd, bi_list_lst, bi_list_tup, bi_tuple_lst, bi_tuple_tup, bi_max2, bi_min2, ofOpt_some, seq_lst, seq_tup, partD_nil, partD_int, ix_fr0, ix_fr1, ix_pt0, ix_pt1, ix_t2_0, ix_t2_1, ix_t3_0, ix_t3_1, ix_t3_2, ix_t4_0, ix_t4_1, ix_t4_2, ix_t4_3, SM_call, SM_made, cmp_eq_fr, cmp_ne_fr, cmp_eq_pt, cmp_ne_pt, cmp_eq_lpt, cmp_ne_lpt, cmp_eq_tpt, cmp_ne_tpt, SM_hcall, decide_true, decide_false, Bool.not_true, Bool.not_false, h1]
/-! ### the losses rule as an object; what is refused -/
def ruleD (w : Rat) : D := .ins 0 [(8, fr w)]
theorem fld_rule_weight (n : Nat) (w : Rat) : fldD (SM n) 8 (ruleD w) = .ok (fr w) := rfl
theorem callOf_rule (n : Nat) (w : Rat) : callOf (SM n) (ruleD w) = .ok 42 := rfl
theorem set_rule (n : Nat) (ρ : Vm.Env) (d : D) : setFD (SM n) ρ 0 8 d (.ins 0 []) = .nx (ρ.set 0 (some (.ins 0 [(8, d)]))) := rfl
theorem f_rule (n : Nat) {w : Rat} (hw : Wt w) (h : Ok w) : mkN Pr (n + 3) 0 [fr w] = .ok (ruleD w) := by
  rw [e_LossRule_init]
  simp -implicitDefEqProofs only [b41, v41_0, v41_1, iss_cons, iss_nil, ies_cons, ies_nil, evSs_cons, evSs_nil, evS_share, evS_asg, evS_asgF, evS_setF, evS_setI, evS_app, evS_pop, evS_expr, evS_ret, evS_retN, evS_if, evS_for, evS_while, evS_brk, evS_cont, evS_pass, evS_raise, evE_var, evE_lit, evE_glb, evE_tup, evE_lst, evE_bin, evE_neg, evE_not, evE_cmp, evE_chn, evE_boo, evB_one, evB_cons, evE_ite, evE_ix, evE_slc, evE_fld, evE_call, evE_callK, evE_callV, evE_makeK, evE_meth, evE_bi, evE_lcnt, evE_lidx, evE_isi, evE_isx, evE_comp, evEs_nil, evEs_cons, evT_nil, evT_one, evI_seq, evI_rng1, evI_rng2, evI_enum, evI_zip, bnd_ok, bnd_exc, sof_ok, sof_exc, sq_nx, sq_rt, sq_bk, sq_ct, sq_exc, trn_nx, trn_ct, trn_bk, trn_rt, trn_exc, endR_nx, endR_rt, endR_exc, vr_zero, vr_succ, tupD_0, tupD_1, tupD_2, tupD_3, tupD_4, tupD_5, lstD_0, lstD_1, lstD_2, lstD_3, lstD_4, lstD_5, truthD_bl, truthD_non, iteD_t, iteD_f, iteS_t, iteS_f, negD_int, chnD_t, chnD_f, and_t, and_f, or_t, or_f, asgFD_z, asgFD_cons, raiseD_ok, bindT_nm, bindT_tp, bindT_pt, bindTs_nil, bindTs_cons, wipe_nil, wipe_cons, List.set_cons_zero, List.set_cons_succ, bin_add, bin_sub, bin_mul, bin_fdiv, bin_mod, bin_pow, addD_int, subD_int, cmp_eq_int, cmp_ne_int, cmp_lt_int, cmp_le_int, cmp_gt_int, cmp_ge_int, cmp_is_non, cmp_isnot_non, isNone_non, isNone_tup, isNone_fr, isNone_pt, bi_len_lst, bi_len_tup, bi_len_scr, bi_int, bi_abs, bi_gcd, bi_list_lst, bi_list_tup, bi_tuple_lst, bi_tuple_tup, bi_max2, bi_min2, ofOpt_some, seq_lst, seq_tup, partD_nil, partD_int, ix_fr0, ix_fr1, ix_pt0, ix_pt1, ix_t2_0, ix_t2_1, ix_t3_0, ix_t3_1, ix_t3_2, ix_t4_0, ix_t4_1, ix_t4_2, ix_t4_3, SM_call, SM_made, cmp_eq_fr, cmp_ne_fr, cmp_eq_pt, cmp_ne_pt, cmp_eq_lpt, cmp_ne_lpt, cmp_eq_tpt, cmp_ne_tpt, SM_hcall, decide_true, decide_false, Bool.not_true, Bool.not_false, f_check n hw h, set_rule]
  rfl
theorem f_rule_bad (n : Nat) {w : Rat} (hw : ¬ Wt w) (h : Ok w) : mkN Pr (n + 3) 0 [fr w] = .exc 4 none := by
  rw [e_LossRule_init]
  simp -implicitDefEqProofs only [b41, v41_0, v41_1, iss_cons, iss_nil, ies_cons, ies_nil, evSs_cons, evSs_nil, evS_share, evS_asg, evS_asgF, evS_setF, evS_setI, evS_app, evS_pop, evS_expr, evS_ret, evS_retN, evS_if, evS_for, evS_while, evS_brk, evS_cont, evS_pass, evS_raise, evE_var, evE_lit, evE_glb, evE_tup, evE_lst, evE_bin, evE_neg, evE_not, evE_cmp, evE_chn, evE_boo, evB_one, evB_cons, evE_ite, evE_ix, evE_slc, evE_fld, evE_call, evE_callK, evE_callV, evE_makeK, evE_meth, evE_bi, evE_lcnt, evE_lidx, evE_isi, evE_isx, evE_comp, evEs_nil, evEs_cons, evT_nil, evT_one, evI_seq, evI_rng1, evI_rng2, evI_enum, evI_zip, bnd_ok, bnd_exc, sof_ok, sof_exc, sq_nx, sq_rt, sq_bk, sq_ct, sq_exc, trn_nx, trn_ct, trn_bk, trn_rt, trn_exc, endR_nx, endR_rt, endR_exc, vr_zero, vr_succ, tupD_0, tupD_1, tupD_2, tupD_3, tupD_4, tupD_5, lstD_0, lstD_1, lstD_2, lstD_3, lstD_4, lstD_5, truthD_bl, truthD_non, iteD_t, iteD_f, iteS_t, iteS_f, negD_int, chnD_t, chnD_f, and_t, and_f, or_t, or_f, asgFD_z, asgFD_cons, raiseD_ok, bindT_nm, bindT_tp, bindT_pt, bindTs_nil, bindTs_cons, wipe_nil, wipe_cons, List.set_cons_zero, List.set_cons_succ, bin_add, bin_sub, bin_mul, bin_fdiv, bin_mod, bin_pow, addD_int, subD_int, cmp_eq_int, cmp_ne_int, cmp_lt_int, cmp_le_int, cmp_gt_int, cmp_ge_int, cmp_is_non, cmp_isnot_non, isNone_non, isNone_tup, isNone_fr, isNone_pt, bi_len_lst, bi_len_tup, bi_len_scr, bi_int, bi_abs, bi_gcd, bi_list_lst, bi_list_tup, bi_tuple_lst, bi_tuple_tup, bi_max2, bi_min2, ofOpt_some, seq_lst, seq_tup, partD_nil, partD_int, ix_fr0, ix_fr1, ix_pt0, ix_pt1, ix_t2_0, ix_t2_1, ix_t3_0, ix_t3_1, ix_t3_2, ix_t4_0, ix_t4_1, ix_t4_2, ix_t4_3, SM_call, SM_made, cmp_eq_fr, cmp_ne_fr, cmp_eq_pt, cmp_ne_pt, cmp_eq_lpt, cmp_ne_lpt, cmp_eq_tpt, cmp_ne_tpt, SM_hcall, decide_true, decide_false, Bool.not_true, Bool.not_false, f_check_bad n hw h]
  rfl
theorem f_rule_call (n : Nat) {c : List Pt} (h : Ch c) (hl : c.length ≤ 1000) (hs : SzC 100 c) {w : Rat} (hw : Wt w) (hz : Sz 100 w) : callN Pr (n + 6) 42 [ruleD w, lotD c] = .ok (pt (lossPt c w)) := by
  rw [e_LossRule_call]
  simp -implicitDefEqProofs only [b42, iss_cons, iss_nil, ies_cons, ies_nil, evSs_cons, evSs_nil, evS_share, evS_asg, evS_asgF, evS_setF, evS_setI, evS_app, evS_pop, evS_expr, evS_ret, evS_retN, evS_if, evS_for, evS_while, evS_brk, evS_cont, evS_pass, evS_raise, evE_var, evE_lit, evE_glb, evE_tup, evE_lst, evE_bin, evE_neg, evE_not, evE_cmp, evE_chn, evE_boo, evB_one, evB_cons, evE_ite, evE_ix, evE_slc, evE_fld, evE_call, evE_callK, evE_callV, evE_makeK, evE_meth, evE_bi, evE_lcnt, evE_lidx, evE_isi, evE_isx, evE_comp, evEs_nil, evEs_cons, evT_nil, evT_one, evI_seq, evI_rng1, evI_rng2, evI_enum, evI_zip, bnd_ok, bnd_exc, sof_ok, sof_exc, sq_nx, sq_rt, sq_bk, sq_ct, sq_exc, trn_nx, trn_ct, trn_bk, trn_rt, trn_exc, endR_nx, endR_rt, endR_exc, vr_zero, vr_succ, tupD_0, tupD_1, tupD_2, tupD_3, tupD_4, tupD_5, lstD_0, lstD_1, lstD_2, lstD_3, lstD_4, lstD_5, truthD_bl, truthD_non, iteD_t, iteD_f, iteS_t, iteS_f, negD_int, chnD_t, chnD_f, and_t, and_f, or_t, or_f, asgFD_z, asgFD_cons, raiseD_ok, bindT_nm, bindT_tp, bindT_pt, bindTs_nil, bindTs_cons, wipe_nil, wipe_cons, List.set_cons_zero, List.set_cons_succ, bin_add, bin_sub, bin_mul, bin_fdiv, bin_mod, bin_pow, addD_int, subD_int, cmp_eq_int, cmp_ne_int, cmp_lt_int, cmp_le_int, cmp_gt_int, cmp_ge_int, cmp_is_non, cmp_isnot_non, isNone_non, isNone_tup, isNone_fr, isNone_pt, bi_len_lst, bi_len_tup, bi_len_scr, bi_int, bi_abs, bi_gcd, bi_list_lst, bi_list_tup, bi_tuple_lst, bi_tuple_tup, bi_max2, bi_min2, ofOpt_some, seq_lst, seq_tup, partD_nil, partD_int, ix_fr0, ix_fr1, ix_pt0, ix_pt1, ix_t2_0, ix_t2_1, ix_t3_0, ix_t3_1, ix_t3_2, ix_t4_0, ix_t4_1, ix_t4_2, ix_t4_3, SM_call, SM_made, cmp_eq_fr, cmp_ne_fr, cmp_eq_pt, cmp_ne_pt, cmp_eq_lpt, cmp_ne_lpt, cmp_eq_tpt, cmp_ne_tpt, SM_hcall, decide_true, decide_false, Bool.not_true, Bool.not_false, shp_0, shp_1, shp_2, shp_3, shp_4, fld_rule_weight, f_loss_point n h hl hs hw hz]
theorem half_wt : Wt half := ⟨by decide, by decide⟩
theorem half_sz : Sz 2 half := ⟨by decide, by decide⟩
theorem word_weight (n : Nat) : callN (hotP Pr) (n + 1) 27 [.exn 4 none] = .ok (.tup [.str "weight", .int 0]) := rfl
theorem ref_weight (n f : Nat) (hf : f = 46) : refD (SM (n + 1)) f (.exc 4 none) = .ok (.tup [.str "weight", .int 0]) := by
  subst hf
  exact refD_exc rfl (List.mem_range.mpr (show 4 < xcL.length by decide)) (word_weight n) rfl
theorem ne_weight : cmpD .ne (.tup [.str "weight", .int 0]) (.tup [.str "weight", .int 0]) = .ok (.bl false) := by
  rw [cmp_ne, eqD_ok (p := .tuple [.str "weight", .int 0]) (q := .tuple [.str "weight", .int 0]) rfl rfl (by decide +kernel) (by decide +kernel), show PyData.eqv (.tuple [.str "weight", .int 0]) (.tuple [.str "weight", .int 0]) = true by decide +kernel]
  rfl
/-! ### the law k59 -/
theorem meth_losses (n : Nat) (c : List Pt) : methOf (SM n) 7 (lotD c) = .ok 45 := rfl
theorem f_right (n : Nat) {c : List Pt} (h : Ch c) (hl : c.length ≤ 1000) (hs : SzC 100 c) {w : Rat} (hw : Wt w) (hz : Sz 100 w) : callN Pr (n + 6) 39 [lotD c, .lst (c.map pt), fr w, pt (lossPt c w)] = .ok (.bl true) := by
  have hc := h.ne
  have ow : Ok w := .of hz (by decide)
  have o1 : Ok (1 : Rat) := .of one_sz (by decide)
  have oway : Ok (1 - w) := .of (way_sz hz) (by decide)
  have ht := hs.topP hc
  have ot : OkP (topP c) := ⟨.of ht.1 (by decide), .of ht.2 (by decide)⟩
  have lsz := loss_sz hc hs hz
  have ol : OkP (lossPt c w) := ⟨.of lsz.1 (by decide), .of lsz.2 (by decide)⟩
  have hin := (h.in_iff _).mpr (h.loss_in hw)
  have hrim : rimB c (lossPt c w) = true := by
    unfold rimB inB
    rw [decide_eq_true hin.1, decide_eq_true hin.2]
    rcases h.loss_rim hw with e | e
    · rw [decide_eq_true e]; rfl
    · rw [decide_eq_true e, Bool.or_true]; rfl
  have e1 : (topP c).1 - (lossPt c w).1 = far c w * w := by show (topP c).1 - ((topP c).1 - far c w * w) = _; grind
  have e2 : (topP c).2 - (lossPt c w).2 = far c w * (1 - w) := by show (topP c).2 - ((topP c).2 - far c w * (1 - w)) = _; grind
  have fz := far_sz hc hs hz
  have p1 := fz.mul hz
  have p2 := fz.mul (way_sz hz)
  have n1 : ¬ (far c w * w).num < 0 := by
    have := Rat.num_nonneg.mpr (mul_nn (far_nn c w) (Rat.le_of_lt hw.lo)); omega
  have n2 : ¬ (far c w * (1 - w)).num < 0 := by
    have := Rat.num_nonneg.mpr (mul_nn (far_nn c w) (show 0 ≤ 1 - w by have := hw.hi; grind)); omega
  have e3 : far c w * w * (1 - w) = far c w * (1 - w) * w := by grind
  have hone : (.tup [.int 1, .int 1] : D) = fr 1 := rfl
  have q1 := f_lback (n + 2) (p := topP c) (q := lossPt c w) ot ol
  have q2 := f_losses (n + 1) hc (hs.mono (by decide)) (p := lossPt c w) ol
  rw [e1, e2] at q1 q2
  rw [e_law_right]
  simp -implicitDefEqProofs only [b39, v39_0, v39_1, v39_2, v39_3, v39_4, iss_cons, iss_nil, ies_cons, ies_nil, evSs_cons, evSs_nil, evS_share, evS_asg, evS_asgF, evS_setF, evS_setI, evS_app, evS_pop, evS_expr, evS_ret, evS_retN, evS_if, evS_for, evS_while, evS_brk, evS_cont, evS_pass, evS_raise, evE_var, evE_lit, evE_glb, evE_tup, evE_lst, evE_bin, evE_neg, evE_not, evE_cmp, evE_chn, evE_boo, evB_one, evB_cons, evE_ite, evE_ix, evE_slc, evE_fld, evE_call, evE_callK, evE_callV, evE_makeK, evE_meth, evE_bi, evE_lcnt, evE_lidx, evE_isi, evE_isx, evE_comp, evEs_nil, evEs_cons, evT_nil, evT_one, evI_seq, evI_rng1, evI_rng2, evI_enum, evI_zip, bnd_ok, bnd_exc, sof_ok, sof_exc, sq_nx, sq_rt, sq_bk, sq_ct, sq_exc, trn_nx, trn_ct, trn_bk, trn_rt, trn_exc, endR_nx, endR_rt, endR_exc, vr_zero, vr_succ, tupD_0, tupD_1, tupD_2, tupD_3, tupD_4, tupD_5, lstD_0, lstD_1, lstD_2, lstD_3, lstD_4, lstD_5, truthD_bl, truthD_non, iteD_t, iteD_f, iteS_t, iteS_f, negD_int, chnD_t, chnD_f, and_t, and_f, or_t, or_f, asgFD_z, asgFD_cons, raiseD_ok, bindT_nm, bindT_tp, bindT_pt, bindTs_nil, bindTs_cons, wipe_nil, wipe_cons, List.set_cons_zero, List.set_cons_succ, bin_add, bin_sub, bin_mul, bin_fdiv, bin_mod, bin_pow, addD_int, subD_int, cmp_eq_int, cmp_ne_int, cmp_lt_int, cmp_le_int, cmp_gt_int, cmp_ge_int, cmp_is_non, cmp_isnot_non, isNone_non, isNone_tup, isNone_fr, isNone_pt, bi_len_lst, bi_len_tup, bi_len_scr, bi_int, bi_abs, bi_gcd, bi_list_lst, bi_list_tup, bi_tuple_lst, bi_tuple_tup, bi_max2, bi_min2, ofOpt_some, seq_lst, seq_tup, partD_nil, partD_int, ix_fr0, ix_fr1, ix_pt0, ix_pt1, ix_t2_0, ix_t2_1, ix_t3_0, ix_t3_1, ix_t3_2, ix_t4_0, ix_t4_1, ix_t4_2, ix_t4_3, SM_call, SM_made, cmp_eq_fr, cmp_ne_fr, cmp_eq_pt, cmp_ne_pt, cmp_eq_lpt, cmp_ne_lpt, cmp_eq_tpt, cmp_ne_tpt, SM_hcall, decide_true, decide_false, Bool.not_true, Bool.not_false, f_is_point (n + 2) ol, f_lrim n h hl hs lsz (by decide), hrim, f_ltop (n + 4) hc, q1, n1, n2, hone, f_lminus (n + 3) o1 ow, f_ltimes (n + 3) (.of p1 (by decide) : Ok (far c w * w)) oway, f_ltimes (n + 3) (.of p2 (by decide) : Ok (far c w * (1 - w))) ow, e3, f_lloss (n + 1) h hl hs hw hz, meth_losses, q2]
theorem f_law (n : Nat) (ns : List Int) : callN Pr (n + 8) 40 [.scr ns] = .ok (.bl true) := by
  obtain ⟨w, hw, wok⟩ := f_world (n + 5) (ns.getD 0 0)
  have hch := wok.chain
  have hsz := wok.sz
  have hlen := wok.clen
  have hl : w.corners.length ≤ 1000 := by omega
  have hc := hch.ne
  generalize hcs : w.corners = c at *
  -- the drawn weights
  have r1 := fmod_rng (a := ns.getD 1 0) (b := 11) (by decide)
  have r2 := fmod_rng (a := ns.getD 2 0) (b := 1000000000000000000000000000000) (by decide)
  generalize hd : 2 + (ns.getD 2 0).fmod 1000000000000000000000000000000 = d at *
  have hd1 : 0 < d - 1 := by omega
  have r3 := fmod_rng (a := ns.getD 3 0) (b := d - 1) hd1
  have up : ∀ {z : Nat} {m : Nat}, z < 2 ^ 100 → 100 ≤ m → z < 2 ^ m := fun h hm => Nat.lt_of_lt_of_le h (Nat.pow_le_pow_right (by decide) hm)
  have a1 : (1 + (ns.getD 1 0).fmod 11).natAbs < 2 ^ 100 := by show _ < 1267650600228229401496703205376; omega
  have a2 : (12 : Int).natAbs < 2 ^ 100 := by decide
  have a3 : (1 + (ns.getD 3 0).fmod (d - 1)).natAbs < 2 ^ 100 := by show _ < 1267650600228229401496703205376; omega
  have a4 : d.natAbs < 2 ^ 100 := by show _ < 1267650600228229401496703205376; omega
  generalize hw1 : Rat.divInt (1 + (ns.getD 1 0).fmod 11) 12 = w1
  generalize hw2 : Rat.divInt (1 + (ns.getD 3 0).fmod (d - 1)) d = w2
  have k1 : Wt w1 := hw1 ▸ wt_divInt (by omega) (by omega)
  have k2 : Wt w2 := hw2 ▸ wt_divInt (by omega) (by omega)
  have z1 : Sz 100 w1 := hw1 ▸ sz_divInt (by decide) a1 a2
  have z2 : Sz 100 w2 := hw2 ▸ sz_divInt (by omega) a3 a4
  have l1 := f_low (n + 6) (1 + (ns.getD 1 0).fmod 11) 12 (by decide) (up a1 (by decide)) (up a2 (by decide))
  have l2 := f_low (n + 6) (1 + (ns.getD 3 0).fmod (d - 1)) d (by omega) (up a3 (by decide)) (up a4 (by decide))
  rw [hw1] at l1
  rw [hw2] at l2
  let v1 : Rat := ⟨1, 99, by decide, by decide⟩
  let v2 : Rat := ⟨98, 99, by decide, by decide⟩
  have hall : ∀ x ∈ [w1, w2, half, v1, v2], Wt x ∧ Sz 100 x := fun x hx => by
    simp only [List.mem_cons, List.not_mem_nil, or_false] at hx
    rcases hx with e | e | e | e | e
    · exact e ▸ ⟨k1, z1⟩
    · exact e ▸ ⟨k2, z2⟩
    · exact e ▸ ⟨half_wt, half_sz.mono (by decide)⟩
    · exact e ▸ ⟨⟨by decide, by decide⟩, ⟨by decide, by decide⟩⟩
    · exact e ▸ ⟨⟨by decide, by decide⟩, ⟨by decide, by decide⟩⟩
  obtain ⟨l', hasc, hperm, hsort⟩ := f_ascending (n + 5) (l := [w1, w2, half, v1, v2]) (fun x hx => .of (hall x hx).2 (by decide)) (by show 5 ≤ 900; decide)
  have hasc' : callN Pr (n + 7) 25 [.lst [fr w1, fr w2, .tup [.int 1, .int 2], .tup [.int 1, .int 99], .tup [.int 98, .int 99]]] = .ok (.lst (l'.map fr)) := hasc
  have hall' : ∀ x ∈ l', Wt x ∧ Sz 100 x := fun x hx => hall x (hperm.mem_iff.mp hx)
  -- the loop over the weights
  obtain ⟨ρ1, h1, lastD, y6, y7, y8, rfl, _⟩ := forL_inv (t := .nm 6) (b := evSs (SM (n + 7)) b40_0) fr (fun done rest ρ => ∃ lastD y6 y7 y8, ρ = [some (.scr ns), some (.lst (c.map pt)), some (lotD c), some (.lst [fr w1, fr w2]), some (.int d), some lastD, y6, y7, y8, none, none] ∧ ((done = [] ∧ lastD = .non) ∨ ∃ v, v ∈ done ∧ lastD = pt (lossPt c v))) l' [] (fun dn x r ρ he hi => by
    obtain ⟨lastD, y6, y7, y8, rfl, hlast⟩ := hi
    rw [List.nil_append] at he
    have hx := hall' x (by rw [← he]; simp)
    have ox : Ok x := .of hx.2 (by decide)
    have lsz := loss_sz hc hsz hx.2
    have ol : OkP (lossPt c x) := ⟨.of lsz.1 (by decide), .of lsz.2 (by decide)⟩
    refine ⟨_, ?_, pt (lossPt c x), some (fr x), some (pt (lossPt c x)), some (ruleD x), rfl, .inr ⟨x, by simp, rfl⟩⟩
    rcases hlast with ⟨_, e⟩ | ⟨v, hv, e⟩
    · subst e
      simp -implicitDefEqProofs only [u40_0, iss_cons, iss_nil, ies_cons, ies_nil, evSs_cons, evSs_nil, evS_share, evS_asg, evS_asgF, evS_setF, evS_setI, evS_app, evS_pop, evS_expr, evS_ret, evS_retN, evS_if, evS_for, evS_while, evS_brk, evS_cont, evS_pass, evS_raise, evE_var, evE_lit, evE_glb, evE_tup, evE_lst, evE_bin, evE_neg, evE_not, evE_cmp, evE_chn, evE_boo, evB_one, evB_cons, evE_ite, evE_ix, evE_slc, evE_fld, evE_call, evE_callK, evE_callV, evE_makeK, evE_meth, evE_bi, evE_lcnt, evE_lidx, evE_isi, evE_isx, evE_comp, evEs_nil, evEs_cons, evT_nil, evT_one, evI_seq, evI_rng1, evI_rng2, evI_enum, evI_zip, bnd_ok, bnd_exc, sof_ok, sof_exc, sq_nx, sq_rt, sq_bk, sq_ct, sq_exc, trn_nx, trn_ct, trn_bk, trn_rt, trn_exc, endR_nx, endR_rt, endR_exc, vr_zero, vr_succ, tupD_0, tupD_1, tupD_2, tupD_3, tupD_4, tupD_5, lstD_0, lstD_1, lstD_2, lstD_3, lstD_4, lstD_5, truthD_bl, truthD_non, iteD_t, iteD_f, iteS_t, iteS_f, negD_int, chnD_t, chnD_f, and_t, and_f, or_t, or_f, asgFD_z, asgFD_cons, raiseD_ok, bindT_nm, bindT_tp, bindT_pt, bindTs_nil, bindTs_cons, wipe_nil, wipe_cons, List.set_cons_zero, List.set_cons_succ, bin_add, bin_sub, bin_mul, bin_fdiv, bin_mod, bin_pow, addD_int, subD_int, cmp_eq_int, cmp_ne_int, cmp_lt_int, cmp_le_int, cmp_gt_int, cmp_ge_int, cmp_is_non, cmp_isnot_non, isNone_non, isNone_tup, isNone_fr, isNone_pt, bi_len_lst, bi_len_tup, bi_len_scr, bi_int, bi_abs, bi_gcd, bi_list_lst, bi_list_tup, bi_tuple_lst, bi_tuple_tup, bi_max2, bi_min2, ofOpt_some, seq_lst, seq_tup, partD_nil, partD_int, ix_fr0, ix_fr1, ix_pt0, ix_pt1, ix_t2_0, ix_t2_1, ix_t3_0, ix_t3_1, ix_t3_2, ix_t4_0, ix_t4_1, ix_t4_2, ix_t4_3, SM_call, SM_made, cmp_eq_fr, cmp_ne_fr, cmp_eq_pt, cmp_ne_pt, cmp_eq_lpt, cmp_ne_lpt, cmp_eq_tpt, cmp_ne_tpt, SM_hcall, decide_true, decide_false, Bool.not_true, Bool.not_false, shp_0, shp_1, shp_2, shp_3, shp_4, f_loss_point (n + 2) hch hl hsz hx.1 hx.2, f_rule (n + 4) hx.1 ox, f_right (n + 1) hch hl hsz hx.1 hx.2, fld_rule_weight, callOf_rule, f_rule_call (n + 1) hch hl hsz hx.1 hx.2]
    · subst e
      have hvx : v ≤ x := by
        have := List.pairwise_append.mp (he ▸ hsort)
        exact this.2.2 v hv x (List.mem_cons_self ..)
      have hv' := hall' v (by rw [← he]; exact List.mem_append_left _ hv)
      have vsz := loss_sz hc hsz hv'.2
      have ov : OkP (lossPt c v) := ⟨.of vsz.1 (by decide), .of vsz.2 (by decide)⟩
      obtain ⟨m1, m2⟩ := hch.loss_mono hv'.1 hx.1 hvx
      have m1' : ¬ (lossPt c v).1 < (lossPt c x).1 := Rat.not_lt.mpr m1
      have m2' : ¬ (lossPt c x).2 < (lossPt c v).2 := Rat.not_lt.mpr m2
      simp -implicitDefEqProofs only [u40_0, iss_cons, iss_nil, ies_cons, ies_nil, evSs_cons, evSs_nil, evS_share, evS_asg, evS_asgF, evS_setF, evS_setI, evS_app, evS_pop, evS_expr, evS_ret, evS_retN, evS_if, evS_for, evS_while, evS_brk, evS_cont, evS_pass, evS_raise, evE_var, evE_lit, evE_glb, evE_tup, evE_lst, evE_bin, evE_neg, evE_not, evE_cmp, evE_chn, evE_boo, evB_one, evB_cons, evE_ite, evE_ix, evE_slc, evE_fld, evE_call, evE_callK, evE_callV, evE_makeK, evE_meth, evE_bi, evE_lcnt, evE_lidx, evE_isi, evE_isx, evE_comp, evEs_nil, evEs_cons, evT_nil, evT_one, evI_seq, evI_rng1, evI_rng2, evI_enum, evI_zip, bnd_ok, bnd_exc, sof_ok, sof_exc, sq_nx, sq_rt, sq_bk, sq_ct, sq_exc, trn_nx, trn_ct, trn_bk, trn_rt, trn_exc, endR_nx, endR_rt, endR_exc, vr_zero, vr_succ, tupD_0, tupD_1, tupD_2, tupD_3, tupD_4, tupD_5, lstD_0, lstD_1, lstD_2, lstD_3, lstD_4, lstD_5, truthD_bl, truthD_non, iteD_t, iteD_f, iteS_t, iteS_f, negD_int, chnD_t, chnD_f, and_t, and_f, or_t, or_f, asgFD_z, asgFD_cons, raiseD_ok, bindT_nm, bindT_tp, bindT_pt, bindTs_nil, bindTs_cons, wipe_nil, wipe_cons, List.set_cons_zero, List.set_cons_succ, bin_add, bin_sub, bin_mul, bin_fdiv, bin_mod, bin_pow, addD_int, subD_int, cmp_eq_int, cmp_ne_int, cmp_lt_int, cmp_le_int, cmp_gt_int, cmp_ge_int, cmp_is_non, cmp_isnot_non, isNone_non, isNone_tup, isNone_fr, isNone_pt, bi_len_lst, bi_len_tup, bi_len_scr, bi_int, bi_abs, bi_gcd, bi_list_lst, bi_list_tup, bi_tuple_lst, bi_tuple_tup, bi_max2, bi_min2, ofOpt_some, seq_lst, seq_tup, partD_nil, partD_int, ix_fr0, ix_fr1, ix_pt0, ix_pt1, ix_t2_0, ix_t2_1, ix_t3_0, ix_t3_1, ix_t3_2, ix_t4_0, ix_t4_1, ix_t4_2, ix_t4_3, SM_call, SM_made, cmp_eq_fr, cmp_ne_fr, cmp_eq_pt, cmp_ne_pt, cmp_eq_lpt, cmp_ne_lpt, cmp_eq_tpt, cmp_ne_tpt, SM_hcall, decide_true, decide_false, Bool.not_true, Bool.not_false, shp_0, shp_1, shp_2, shp_3, shp_4, f_loss_point (n + 2) hch hl hsz hx.1 hx.2, f_rule (n + 4) hx.1 ox, f_right (n + 1) hch hl hsz hx.1 hx.2, fld_rule_weight, callOf_rule, f_rule_call (n + 1) hch hl hsz hx.1 hx.2, f_lless (n + 6) ov.1 ol.1, f_lless (n + 6) ol.2 ov.2, m1', m2']) [some (.scr ns), some (.lst (c.map pt)), some (lotD c), some (.lst [fr w1, fr w2]), some (.int d), some .non, none, none, none, none, none] ⟨.non, none, none, none, rfl, .inl ⟨rfl, rfl⟩⟩
  -- the bad weights
  let b1 : Rat := ⟨-1, 3, by decide, by decide⟩
  let b2 : Rat := ⟨4, 3, by decide, by decide⟩
  obtain ⟨ρ2, h2, y10, rfl⟩ := forL_fold (σ := Unit) (t := .nm 10) (b := evSs (SM (n + 7)) b40_2) fr (fun _ ρ => ∃ y, ρ = [some (.scr ns), some (.lst (c.map pt)), some (lotD c), some (.lst [fr w1, fr w2]), some (.int d), some lastD, y6, y7, y8, some (ruleD half), y]) (fun _ _ => ()) [0, 1, b1, b2] (fun _ x ρ hx hi => by
    obtain ⟨y, rfl⟩ := hi
    have hb : ¬ Wt x ∧ Ok x := by
      simp only [List.mem_cons, List.not_mem_nil, or_false] at hx
      rcases hx with e | e | e | e
      · exact e ▸ ⟨fun z => absurd z.lo (by decide), .of zero_sz (by decide)⟩
      · exact e ▸ ⟨fun z => absurd z.hi (by decide), .of one_sz (by decide)⟩
      · exact e ▸ ⟨fun z => absurd z.lo (by decide), .of (k := 10) ⟨by decide, by decide⟩ (by decide)⟩
      · exact e ▸ ⟨fun z => absurd z.hi (by decide), .of (k := 10) ⟨by decide, by decide⟩ (by decide)⟩
    have ne : cmpD .ne (.tup [.str "weight", .int 0]) (.tup [.str "weight", .int 0]) = .ok (.bl false) := ne_weight
    refine ⟨_, ?_, some (fr x), rfl⟩
    simp -implicitDefEqProofs only [u40_2, iss_cons, iss_nil, ies_cons, ies_nil, evSs_cons, evSs_nil, evS_share, evS_asg, evS_asgF, evS_setF, evS_setI, evS_app, evS_pop, evS_expr, evS_ret, evS_retN, evS_if, evS_for, evS_while, evS_brk, evS_cont, evS_pass, evS_raise, evE_var, evE_lit, evE_glb, evE_tup, evE_lst, evE_bin, evE_neg, evE_not, evE_cmp, evE_chn, evE_boo, evB_one, evB_cons, evE_ite, evE_ix, evE_slc, evE_fld, evE_call, evE_callK, evE_callV, evE_makeK, evE_meth, evE_bi, evE_lcnt, evE_lidx, evE_isi, evE_isx, evE_comp, evEs_nil, evEs_cons, evT_nil, evT_one, evI_seq, evI_rng1, evI_rng2, evI_enum, evI_zip, bnd_ok, bnd_exc, sof_ok, sof_exc, sq_nx, sq_rt, sq_bk, sq_ct, sq_exc, trn_nx, trn_ct, trn_bk, trn_rt, trn_exc, endR_nx, endR_rt, endR_exc, vr_zero, vr_succ, tupD_0, tupD_1, tupD_2, tupD_3, tupD_4, tupD_5, lstD_0, lstD_1, lstD_2, lstD_3, lstD_4, lstD_5, truthD_bl, truthD_non, iteD_t, iteD_f, iteS_t, iteS_f, negD_int, chnD_t, chnD_f, and_t, and_f, or_t, or_f, asgFD_z, asgFD_cons, raiseD_ok, bindT_nm, bindT_tp, bindT_pt, bindTs_nil, bindTs_cons, wipe_nil, wipe_cons, List.set_cons_zero, List.set_cons_succ, bin_add, bin_sub, bin_mul, bin_fdiv, bin_mod, bin_pow, addD_int, subD_int, cmp_eq_int, cmp_ne_int, cmp_lt_int, cmp_le_int, cmp_gt_int, cmp_ge_int, cmp_is_non, cmp_isnot_non, isNone_non, isNone_tup, isNone_fr, isNone_pt, bi_len_lst, bi_len_tup, bi_len_scr, bi_int, bi_abs, bi_gcd, bi_list_lst, bi_list_tup, bi_tuple_lst, bi_tuple_tup, bi_max2, bi_min2, ofOpt_some, seq_lst, seq_tup, partD_nil, partD_int, ix_fr0, ix_fr1, ix_pt0, ix_pt1, ix_t2_0, ix_t2_1, ix_t3_0, ix_t3_1, ix_t3_2, ix_t4_0, ix_t4_1, ix_t4_2, ix_t4_3, SM_call, SM_made, cmp_eq_fr, cmp_ne_fr, cmp_eq_pt, cmp_ne_pt, cmp_eq_lpt, cmp_ne_lpt, cmp_eq_tpt, cmp_ne_tpt, SM_hcall, decide_true, decide_false, Bool.not_true, Bool.not_false, shp_0, shp_1, shp_2, shp_3, shp_4, evE_refused, f_loss_point_bad (n + 4) _ hb.1 hb.2, f_rule_bad (n + 4) hb.1 hb.2, ref_weight (n + 6) 46 rfl, ne]) () [some (.scr ns), some (.lst (c.map pt)), some (lotD c), some (.lst [fr w1, fr w2]), some (.int d), some lastD, y6, y7, y8, some (ruleD half), none] ⟨none, rfl⟩
  have h2' : forL (.nm 10) (evSs (SM (n + 7)) b40_2) [.tup [.int 0, .int 1], .tup [.int 1, .int 1], .tup [.int (-1), .int 3], .tup [.int 4, .int 3]] [some (.scr ns), some (.lst (c.map pt)), some (lotD c), some (.lst [fr w1, fr w2]), some (.int d), some lastD, y6, y7, y8, some (ruleD half), none] = _ := h2
  have c0 : callN Pr (n + 7) 15 [.scr ns, .int 0] = .ok (.int (ns.getD 0 0)) := f_cell (n + 6) ns 0
  have c1 : callN Pr (n + 7) 15 [.scr ns, .int 1] = .ok (.int (ns.getD 1 0)) := f_cell (n + 6) ns 1
  have c2 : callN Pr (n + 7) 15 [.scr ns, .int 2] = .ok (.int (ns.getD 2 0)) := f_cell (n + 6) ns 2
  have c3 : callN Pr (n + 7) 15 [.scr ns, .int 3] = .ok (.int (ns.getD 3 0)) := f_cell (n + 6) ns 3
  have hcor := f_corners (n + 4) wok
  rw [hcs] at hcor
  have hlot := f_lot (n + 3) (s := 100) hsz (by omega) (by decide) hl hc (upper_self hch)
  have hcat : addD (.lst [fr w1, fr w2]) (.lst [.tup [.int 1, .int 2], .tup [.int 1, .int 99], .tup [.int 98, .int 99]]) = .ok (.lst [fr w1, fr w2, .tup [.int 1, .int 2], .tup [.int 1, .int 99], .tup [.int 98, .int 99]]) := rfl
  have happ : ∀ ρ : Vm.Env, appD ρ (.lst [fr w1]) 3 (.ok (fr w2)) = .nx (ρ.set 3 (some (.lst [fr w1, fr w2]))) := fun ρ => rfl
  have hhalf : (.tup [.int 1, .int 2] : D) = fr half := rfl
  have hlh := f_loss_point (n + 2) hch hl hsz half_wt (half_sz.mono (by decide))
  have hch2 := f_lloss (n + 3) hch hl hsz half_wt (half_sz.mono (by decide))
  have hrc := f_rule_call (n + 1) hch hl hsz half_wt (half_sz.mono (by decide))
  have hrh := f_rule (n + 4) half_wt (.of half_sz (by decide))
  have hrh' : mkN Pr (n + 7) 0 [.tup [.int 1, .int 2]] = .ok (ruleD half) := hrh
  have hlh' : callN Pr (n + 7) 11 [lotD c, .tup [.int 1, .int 2]] = .ok (pt (lossPt c half)) := hlh
  have hch2' : callN Pr (n + 7) 38 [.lst (c.map pt), .tup [.int 1, .int 2]] = .ok (pt (lossPt c half)) := hch2
  have hcmp : cmpD .ne (fr half) (.tup [.int 1, .int 2]) = .ok (.bl false) := (cmp_ne_fr half half).trans (by rw [decide_eq_true rfl]; rfl)
  rw [e_law]
  simp -implicitDefEqProofs only [b40, v40_0, v40_1, v40_2, v40_3, v40_4, v40_5, v40_6, v40_7, v40_8, v40_9, v40_10, iss_cons, iss_nil, ies_cons, ies_nil, evSs_cons, evSs_nil, evS_share, evS_asg, evS_asgF, evS_setF, evS_setI, evS_app, evS_pop, evS_expr, evS_ret, evS_retN, evS_if, evS_for, evS_while, evS_brk, evS_cont, evS_pass, evS_raise, evE_var, evE_lit, evE_glb, evE_tup, evE_lst, evE_bin, evE_neg, evE_not, evE_cmp, evE_chn, evE_boo, evB_one, evB_cons, evE_ite, evE_ix, evE_slc, evE_fld, evE_call, evE_callK, evE_callV, evE_makeK, evE_meth, evE_bi, evE_lcnt, evE_lidx, evE_isi, evE_isx, evE_comp, evEs_nil, evEs_cons, evT_nil, evT_one, evI_seq, evI_rng1, evI_rng2, evI_enum, evI_zip, bnd_ok, bnd_exc, sof_ok, sof_exc, sq_nx, sq_rt, sq_bk, sq_ct, sq_exc, trn_nx, trn_ct, trn_bk, trn_rt, trn_exc, endR_nx, endR_rt, endR_exc, vr_zero, vr_succ, tupD_0, tupD_1, tupD_2, tupD_3, tupD_4, tupD_5, lstD_0, lstD_1, lstD_2, lstD_3, lstD_4, lstD_5, truthD_bl, truthD_non, iteD_t, iteD_f, iteS_t, iteS_f, negD_int, chnD_t, chnD_f, and_t, and_f, or_t, or_f, asgFD_z, asgFD_cons, raiseD_ok, bindT_nm, bindT_tp, bindT_pt, bindTs_nil, bindTs_cons, wipe_nil, wipe_cons, List.set_cons_zero, List.set_cons_succ, bin_add, bin_sub, bin_mul, bin_fdiv, bin_mod, bin_pow, addD_int, subD_int, cmp_eq_int, cmp_ne_int, cmp_lt_int, cmp_le_int, cmp_gt_int, cmp_ge_int, cmp_is_non, cmp_isnot_non, isNone_non, isNone_tup, isNone_fr, isNone_pt, bi_len_lst, bi_len_tup, bi_len_scr, bi_int, bi_abs, bi_gcd, bi_list_lst, bi_list_tup, bi_tuple_lst, bi_tuple_tup, bi_max2, bi_min2, ofOpt_some, seq_lst, seq_tup, partD_nil, partD_int, ix_fr0, ix_fr1, ix_pt0, ix_pt1, ix_t2_0, ix_t2_1, ix_t3_0, ix_t3_1, ix_t3_2, ix_t4_0, ix_t4_1, ix_t4_2, ix_t4_3, SM_call, SM_made, cmp_eq_fr, cmp_ne_fr, cmp_eq_pt, cmp_ne_pt, cmp_eq_lpt, cmp_ne_lpt, cmp_eq_tpt, cmp_ne_tpt, SM_hcall, decide_true, decide_false, Bool.not_true, Bool.not_false, shp_0, shp_1, shp_2, shp_3, shp_4, c0, c1, c2, c3, hw, hcor, hlot, pow_30, modD_ok (show (11 : Int) ≠ 0 by decide), modD_ok (show (1000000000000000000000000000000 : Int) ≠ 0 by decide), hd, modD_ok (show d - 1 ≠ 0 by omega), l1, l2, happ, hcat, hasc', h1, hrh', fld_rule_weight, hcmp, callOf_rule, hrc, hlh', hch2', h2']


end K59
set_option maxRecDepth 1000000
set_option maxHeartbeats 0
namespace K59
open PySem PySem.Spec PyProof.Rows L2 Vm
/-! ### the head, the end -/
def dRef : He5.DefA := d46
abbrev R : PySem.W.OpenRow := PySem.W.OpenLaw.row PySem.Challenge.rw_dealsformany_k59_equal_and_weighted_loss
def fnD : List He5.DefA := law.rows.map (·.d) ++ [dRef]
def exB (K : PySem.W.Frag) : Bool := law.ex K && (law.tabNd K && refEx law K dRef "_law_refused" 0)
def places : List Addr := [3, 6, 4, 49, 59, 72, 84, 96, 108, 120, 141, 153, 165, 186, 207, 228, 249, 270, 291, 303, 324, 336, 348, 360, 363, 364, 365, 373, 380, 387, 394, 401, 408, 415, 422, 429, 436, 443, 450, 458, 483, 494, 501, 506, 513, 520, 580, 591, 598, 605, 612, 619, 626, 633, 640, 647, 654, 661, 668, 675, 682, 689, 696, 701, 708, 713, 720, 727, 734, 741, 748, 755, 762, 769, 0, 48, 58, 71, 83, 95, 107, 119, 140, 152, 164, 185, 206, 227, 248, 269, 290, 302, 323, 335, 347, 359, 372, 366, 379, 386, 393, 400, 407, 414, 421, 428, 435, 442, 449, 457, 451, 482, 493, 500, 505, 512, 519, 579, 590, 597, 604, 611, 618, 625, 632, 639, 646, 653, 660, 667, 674, 681, 688, 695, 700, 707, 712, 719, 726, 733, 740, 747, 754, 761, 768, 43, 44, 45, 46, 47, 57, 60, 70, 82, 94, 106, 118, 138, 139, 151, 163, 183, 184, 204, 205, 225, 226, 246, 247, 267, 268, 288, 289, 301, 321, 322, 334, 346, 358, 367, 368, 369, 370, 371, 374, 375, 376, 377, 378, 381, 382, 383, 384, 385, 388, 389, 390, 391, 392, 395, 396, 397, 398, 399, 402, 403, 404, 405, 406, 409, 410, 411, 412, 413, 416, 417, 418, 419, 420, 423, 424, 425, 426, 427, 430, 431, 432, 433, 434, 437, 438, 439, 440, 441, 444, 445, 446, 447, 448, 452, 453, 454, 455, 456, 473, 480, 481, 484, 485, 488, 489, 490, 491, 492, 495, 496, 497, 498, 499, 502, 503, 504, 507, 508, 509, 510, 511, 514, 515, 516, 517, 518, 534, 541, 548, 555, 563, 570, 577, 578, 581, 582, 585, 586, 587, 588, 589, 592, 593, 594, 595, 596, 599, 600, 601, 602, 603, 606, 607, 608, 609, 610, 613, 614, 615, 616, 617, 620, 621, 622, 623, 624, 627, 628, 629, 630, 631, 634, 635, 636, 637, 638, 641, 642, 643, 644, 645, 648, 649, 650, 651, 652, 655, 656, 657, 658, 659, 662, 663, 664, 665, 666, 669, 670, 671, 672, 673, 676, 677, 678, 679, 680, 683, 684, 685, 686, 687, 690, 691, 692, 693, 694, 697, 698, 699, 702, 703, 704, 705, 706, 709, 710, 711, 714, 715, 716, 717, 718, 721, 722, 723, 724, 725, 728, 729, 730, 731, 732, 735, 736, 737, 738, 739, 742, 743, 744, 745, 746, 749, 750, 751, 752, 753, 756, 757, 758, 759, 760, 763, 764, 765, 766, 767, 137, 126, 182, 171, 203, 192, 224, 213, 245, 234, 266, 255, 287, 276, 320, 309, 472, 466, 479, 533, 540, 547, 554, 562, 569, 576, 132, 133, 134, 135, 136, 177, 178, 179, 180, 181, 198, 199, 200, 201, 202, 219, 220, 221, 222, 223, 240, 241, 242, 243, 244, 261, 262, 263, 264, 265, 282, 283, 284, 285, 286, 315, 316, 317, 318, 319, 467, 468, 469, 470, 471, 474, 475, 476, 477, 478, 528, 529, 530, 531, 532, 535, 536, 537, 538, 539, 542, 543, 544, 545, 546, 549, 550, 551, 552, 553, 561, 564, 565, 566, 567, 568, 571, 572, 573, 574, 575, 556, 557, 558, 559, 560]

abbrev hk : PySem.W.Hook := hookV places fnD law.tf exB
def ob (s : PySem.W.SharedT) : AlV := obsV places fnD law.tf exB (HandSHeadRun.getT s)
theorem ob_eq (s : PySem.W.SharedT) : ob s = hk.obs s.abs := obsV_eq (HandSHeadRun.getT_eq s)
def loose : List PySem.Str := (["_wall", "SettleError", "BadNumber", "NoGain", "Outside", "BadWeight", "BadTable", "BadRows", "BadEstate", "NothingSeen", "UnknownName", "TooMany", "BadText", "NoSuchName", "NameTaken", "BadDeed", "NothingToUndo", "BadTie", "BadPairing", "BadTypes", "NoCorner", "ZERO", "ONE", "HALF", "frac", "plus", "minus", "times", "over", "below"] : List PySem.Str) ++ (["at_most", "larger", "gap", "check_weight", "weighed", "lot_edges", "loss_point", "LossRule", "turn", "whole_spots", "upper_chain", "y_at", "height_on", "Lot", "_law_cell", "_law_digits", "_law_lowest", "_law_plus", "_law_minus", "_law_times", "_law_over", "_law_less", "_law_is_number", "_law_is_point", "_law_ascending", "_law_whole", "_law_word", "_law_refused", "_law_steps", "_law_bounds"] : List PySem.Str) ++ (["_law_world", "_law_at", "_law_corners", "_law_high", "_law_in_chain", "_law_on_rim", "_law_top_point", "_law_back", "_law_loss", "_law_right"] : List PySem.Str)
theorem run0 (w : World) : SeenAll R (PySem.W.view R.prog [0, 79]) 40000 loose w (fun _ => ()) () := by
  unfold SeenAll
  kernel_rfl
def fn1 : List He5.DefA := fnD.take (fnD.length / 2)
def fn2 : List He5.DefA := fnD.drop (fnD.length / 2)
theorem run1a (w : World) : SeenBy R 40000 w (fun s => (obsV places fn1 law.tf (fun _ => true) (HandSHeadRun.getT s)).1) (true, fn1.map He5.DefA.val) := by
  unfold SeenBy
  kernel_rfl
theorem run1b (w : World) : SeenBy R 40000 w (fun s => (obsV places fn2 law.tf (fun _ => true) (HandSHeadRun.getT s)).1) (true, fn2.map He5.DefA.val) := by
  unfold SeenBy
  kernel_rfl
theorem run1 (w : World) : SeenBy R 40000 w (fun s => (obsV places fnD law.tf (fun _ => true) (HandSHeadRun.getT s)).1) (true, fnD.map He5.DefA.val) := by
  have := seen_app (run1a w) (run1b w)
  rwa [show fn1 ++ fn2 = fnD from List.take_append_drop _ _] at this
theorem run2 (w : World) : SeenBy R 40000 w (fun s => (obsV places [] law.tf (fun K => law.ex K) (HandSHeadRun.getT s)).2) true := by
  unfold SeenBy
  kernel_rfl
theorem run3 (w : World) : SeenBy R 40000 w (fun s => (fun K => law.tabNd K && refEx law K dRef "_law_refused" 0) (KV places (HandSHeadRun.getT s))) true := by
  unfold SeenBy
  kernel_rfl
theorem run (w : World) : HandSHeadRun.RunEqI R (PySem.W.view R.prog [0, 79]) hk ob 40000 loose w := run_join (run0 w) (run1 w) (seen_and (run2 w) (run3 w))
theorem ckHotR : ∀ f r, law.hotL.contains f = true → law.rows[f]? = some r → ckRow law.G false f r = true := fun f r h e => by
  have := List.all_eq_true.mp ckHot f (List.contains_iff_mem.mp h)
  rw [e] at this
  exact this
section
variable {K : PySem.W.Frag} {w : World} {mg : Str → Option Value} {base : Heap} {prog : Program}
theorem bindAll (ex : law.Ex K) (X : K.In base) (N : base.Ns mainGlobals mg) (F : ∀ r ∈ law.rows, FunR K r.d) (FR : FunR K dRef) (hrx : refEx law K dRef "_law_refused" 0 = true) : law.Bind wf prog w K mg base := by
  refine ⟨fun hot => bindP F, fun hot => bindS ex F, fun hot => bindI ex F, fun call made hc j h4 f x h => ?_⟩
  have h' : (if f = 46 then some ("_law_refused" : Str) else none) = some x := h
  split at h'
  · rename_i ef
    subst ef
    cases h'
    exact ref_of wf ex X N FR (s := 0) (wF := 27) (r := r27) (a := "call") (n := "e") (e := "SettleError") (wn := "_law_word") rfl rfl rfl
      (fun fd F => F.bindsN fun _ _ _ _ _ _ us hl => match us, hl with | [_], _ => rfl)
      ⟨rfl, rfl, rfl, by decide +kernel, rfl, by decide +kernel, by decide +kernel⟩ (.inl (by decide +kernel)) (by decide +kernel) (by decide +kernel) (by decide +kernel) hrx rfl rfl rfl (by decide +kernel) (by decide +kernel) (by decide +kernel) (by decide +kernel) (by decide +kernel) rfl (bindP F) h4
  · cases h'
end
theorem fin_at {w : World} {mg : Str → Option Value} {fa : Addr} {h : Heap} {K : PySem.W.Frag} (X : K.In h) (G : h.Ns mainGlobals mg) (c : SaysV fnD law.tf exB h K) (hfa : mg ("law" : Str) = some (.ref fa)) :
    LamX.LawAtS PySem.Challenge.rw_dealsformany_k59_equal_and_weighted_loss w K (L2.CX (PySem.Challenge.rw_dealsformany_k59_equal_and_weighted_loss).prog w) (4 * 8) 63 "script" mg fa h := by
  have hm : exB K = true := c.more
  unfold exB at hm
  rw [Bool.and_eq_true, Bool.and_eq_true] at hm
  obtain ⟨hex, hnd, hrx⟩ := hm
  have ex := Law.ex_out hex
  have F : ∀ r ∈ law.rows, FunR K r.d := fun r hr => c.d r.d (List.mem_append_left _ (List.mem_map.mpr ⟨r, hr, rfl⟩))
  have FR : FunR K dRef := c.d dRef (List.mem_append_right _ (List.mem_singleton.mpr rfl))
  have hrow := ex.row r40 (List.mem_of_getElem? (i := 40) rfl)
  have hml : mgB K "law" (some (.ref (r40.d.at_ K))) = true := by
    have := hrow.1
    rw [Bool.or_eq_true, Bool.and_eq_true] at this
    rcases this with z | z
    · cases z
    · exact z.1
  have hat : fa = r40.d.at_ K := by
    have := hfa.symm.trans (mgB_some X G hml)
    cases this
    rfl
  refine law_at (wf := wf) (r := r40) (f := 40) (x := "script") (dep := 8) ex X F hnd c.empty c.out (fun p hp => PySem.W.codeHd_of_K X (c.hd p hp)) ckCold ckHotR (fun base Xb Nb => bindAll ex Xb Nb F FR hrx) rfl rfl rfl hat (fun s u => ?_) (fun ns _ _ => f_law 0 ns)
  · obtain ⟨fd, Fl⟩ := F r40 (List.mem_of_getElem? (i := 40) rfl)
    rw [fd_at (L := law) (r := r40) rfl Fl]
    exact FunD.bindsA (ps := ["script"]) Fl (fun _ _ _ _ _ _ us hl => match us, hl with | [_], _ => rfl) s [u] rfl


end K59
open PySem PySem.W PySem.Calls PyProof.Rows
theorem PySem.Challenge.cw_dealsformany_k59_equal_and_weighted_loss_holds : PySem.Challenge.rw_dealsformany_k59_equal_and_weighted_loss.Holds := by
  w_on; o_law
  refine HandSHeadRun.head_imp (r := OpenLaw.row PySem.Challenge.rw_dealsformany_k59_equal_and_weighted_loss) (q := view (OpenLaw.row PySem.Challenge.rw_dealsformany_k59_equal_and_weighted_loss).prog [0, 79]) (H := K59.hk) (ob := K59.ob) (M := 40000) (loose := K59.loose) (d := HandSHeadRun.topDef (OpenLaw.row PySem.Challenge.rw_dealsformany_k59_equal_and_weighted_loss).prog 79) (kwd := []) K59.ob_eq K59.run
    (by kernel_rfl) (by kernel_rfl) (by kernel_rfl) (by rfl) (by first | assumption | decide +kernel) (by decide +kernel) ⟨rfl, rfl, rfl, rfl, rfl, by decide +kernel⟩ ?hw ?hc
  case hw => w_witness2
  case hc =>
    refine LamX.walk_ofTsE (l := PySem.Challenge.rw_dealsformany_k59_equal_and_weighted_loss) (n := 63) (k := 4 * 8) (x := "script") (CX := fun w => L2.CX (PySem.Challenge.rw_dealsformany_k59_equal_and_weighted_loss).prog w) rfl (by decide) (by kernel_rfl) ⟨rfl, by decide, by decide⟩ ?F (fun _ _ _ _ _ z => by obtain ⟨_, _, _, _, _, _, _, _, _, _, _, _, z⟩ := z; exact z)
    intro w mg fa h Y G hmg0
    obtain ⟨K, KX, c⟩ := Y
    have hmg : mg ("law" : PySem.Str) = some (.ref fa) := by
      have e : (HandSHeadRun.topDef (OpenLaw.row PySem.Challenge.rw_dealsformany_k59_equal_and_weighted_loss).prog 79).name = ("law" : PySem.Str) := by kernel_rfl
      rw [← e]
      exact hmg0
    exact ⟨K, KX, K59.fin_at KX G c hmg⟩


