import PyProof.Rows.All
import Wide.All
import OpenK.AllK
import Wide.FinOn
import HandS.ForMost
import HandS.ForExc
import HandS.IsInst
import HandS.Deep
import HandS.More
import HandS.Walk
import HandS.Style
import HandS.ExcInit
import KE.GoesMore
import KE.GoesEnum
import PyProof.SumAny
import PyProof.ReprRoads
import PyProof.ZipIter
import PyProof.ListNew
import HandS.Ends
import HandS.ExcField
import HandS.ForList
import PySem.Challenge.RW_twinforks_k27_whole_tables
section
set_option Elab.async false
set_option linter.all false
set_option maxRecDepth 100000
/-! DI: a small language of data, and what its terms do: pure Lean, no program in sight. -/
namespace DI
open PySem L2

/-- data, without addresses -/
inductive D where
  | non | bl (b : Bool) | int (i : Int) | str (s : Str) | lst (xs : List D) | tup (xs : List D) | dic (kvs : List (Key × D)) | strm
  deriving Inhabited

/-- the spring of draws -/
structure Sd where
  cells : List Int
  big : Int
  cnt : Int
  mix : Int

/-- a slot: nothing, frozen data, a list of the slot's own -/
inductive Sl where
  | un | fz (d : D) | ow (xs : List D)
  deriving Inhabited
/-- what an expression gives: data, a list just made, the own list of a slot -/
inductive Rs where
  | fz (d : D) | nw (xs : List D) | sl (i : Nat)
  deriving Inhabited
abbrev Ga := List Sl
inductive Out (α : Type) where
  | ok (a : α) (g : Ga) (s : Sd)
  | ex (c : Nat) (d : D) (g : Ga) (s : Sd)
  | bad
inductive Flow where
  | nx | brk | cnt | ret (r : Rs)
inductive FOut where
  | ok (d : D) (fresh : Bool) (s : Sd)
  | ex (c : Nat) (d : D) (s : Sd)
  | bad

def Out.bind {α β : Type} (o : Out α) (f : α → Ga → Sd → Out β) : Out β :=
  match o with
  | .ok a g s => f a g s
  | .ex c d g s => .ex c d g s
  | .bad => .bad

inductive Bop where
  | add | sub | mul | fdiv | mod | pow
  deriving DecidableEq
inductive Cop where
  | eq | ne | lt | le | gt | ge | isIn | notIn | isN | notN
  deriving DecidableEq
/-- built-ins on values -/
inductive Bi where
  | len | list | tuple | int | all | any | sumL | repr | zipL | dictL | min2 | max2 | strI
  deriving DecidableEq
/-- kinds that isinstance is asked for -/
inductive Ty where
  | int | bool | str | list | tuple | dict
  deriving DecidableEq
/-- methods on a slot's own list -/
inductive Mt where
  | append | extend | pop | popAt | insert
  deriving DecidableEq

/-- targets -/
inductive Tg where
  | nm (i : Nat) | nil | cons (t u : Tg)

/-- terms: expressions, argument lists, what is walked, statements -/
inductive T where
  -- expressions
  | var (i : Nat)
  | con (d : D)
  | gl (g : Nat)
  | bin (o : Bop) (a b : T)
  | cmp (o : Cop) (a b : T)
  | neg (a : T)
  | not (a : T)
  | and (a b : T)
  | or (a b : T)
  | ite (c a b : T)
  | call (f : Nat) (as : T)
  | callK (f : Nat) (ks : List Nat) (as : T)
  | bi (b : Bi) (as : T)
  | isi (tys : List Ty) (a : T)
  | sub (a i : T)
  | slc (a lo hi : T)
  | lst (es : T)
  | tup (es : T)
  | dic0
  | lc (own : List Nat) (it : T) (tg : Tg) (c : T) (e : T)
  | mth (m : Mt) (i : Nat) (as : T)
  | fld (i : Nat)
  -- argument lists; no part of a slice; no test
  | nil
  | cons (e es : T)
  | none
  -- what is walked
  | iSeq (e : T)
  | iRng1 (as : T)
  | iRng2 (as : T)
  | iEnum (e : T)
  | iZip (as : T)
  -- statements
  | asg (t : Tg) (e : T)
  | par (is : List Nat) (es : T)
  | sto (i : Nat) (k e : T)
  | exp (e : T)
  | ret (e : T)
  | iff (c t e : T)
  | for_ (tg : Tg) (it b : T)
  | whl (c b : T)
  | brk | cnt | pass
  | rais (c : Nat) (e : T)
  | try1 (b : T) (c : Nat) (i : Nat) (su : T)
  | seq (a b : T)
  | done
  deriving Inhabited

/-- an own list just made is data when it is used as an operand -/
def settle : Rs → Rs
  | .nw xs => .fz (.lst xs)
  | r => r
/-- the data that a value is now -/
def peekS : Option Sl → Option D
  | some (.ow xs) => some (.lst xs)
  | some (.fz d) => some d
  | _ => none
def peek (g : Ga) : Rs → Option D
  | .fz d => some d
  | .nw xs => some (.lst xs)
  | .sl i => peekS g[i]?
/-- a value kept: an own list becomes data -/
def keepS (g : Ga) (i : Nat) : Option Sl → Option (D × Ga)
  | some (.ow xs) => some (.lst xs, g.set i (.fz (.lst xs)))
  | some (.fz d) => some (d, g)
  | _ => none
def keep (g : Ga) : Rs → Option (D × Ga)
  | .fz d => some (d, g)
  | .nw xs => some (.lst xs, g)
  | .sl i => keepS g i g[i]?
def peeks (g : Ga) : List Rs → Option (List D)
  | [] => some []
  | r :: rs => match peek g r, peeks g rs with
    | some d, some ds => some (d :: ds)
    | _, _ => none
def Out.settle (o : Out Rs) : Out Rs := o.bind fun r g s => .ok (DI.settle r) g s
def kept (s : Sd) : Option (D × Ga) → Out D
  | some (d, g') => .ok d g' s
  | none => .bad
def Out.keep (o : Out Rs) : Out D := o.bind fun r g s => kept s (DI.keep g r)
/-- data that is not kept -/
def Out.look (o : Out Rs) : Out D := o.bind fun r g s => match peek g r with
  | some d => .ok d g s
  | none => .bad

/-! ### operations on data -/
def D.isTy : Ty → D → Bool
  | .int, .int _ => true
  | .int, .bl _ => true
  | .bool, .bl _ => true
  | .str, .str _ => true
  | .list, .lst _ => true
  | .tuple, .tup _ => true
  | .dict, .dic _ => true
  | _, _ => false
/-! lists, tuples, numbers, texts: as the model's data -/
mutual
def D.pd : D → Option PyData
  | .non => some .none
  | .bl b => some (.bool b)
  | .int i => some (.int i)
  | .str s => some (.str s)
  | .lst xs => match D.pdAll xs with
    | some ds => some (.list ds)
    | none => none
  | .tup xs => match D.pdAll xs with
    | some ds => some (.tuple ds)
    | none => none
  | .dic _ => none
  | .strm => none
def D.pdAll : List D → Option (List PyData)
  | [] => some []
  | x :: xs => match D.pd x with
    | some d => match D.pdAll xs with
      | some ds => some (d :: ds)
      | none => none
    | none => none
end
def D.truth : D → Option Bool
  | .bl b => some b
  | _ => none
def D.seq : D → Option (List D)
  | .lst xs => some xs
  | .tup xs => some xs
  | _ => none
def small (i : Int) : Bool := decide (-(2 ^ 62) ≤ i) && decide (i < 2 ^ 62)
def lineOk (n : Nat) : Bool := decide (n ≤ sizeLine)

def binF : Bop → D → D → Option Rs
  | .add, .int i, .int j => some (.fz (.int (i + j)))
  | .add, .str a, .str b => if lineOk (a.length + b.length) then some (.fz (.str (a ++ b))) else none
  | .add, .lst xs, .lst ys => if lineOk (xs.length + ys.length) then some (.nw (xs ++ ys)) else none
  | .sub, .int i, .int j => some (.fz (.int (i - j)))
  | .mul, .int i, .int j => if small i && small j then some (.fz (.int (i * j))) else none
  | .mul, .lst xs, .int k => if small k && lineOk (xs.length * k.toNat) then some (.nw (List.replicate k.toNat xs).flatten) else none
  | .fdiv, .int i, .int j => if decide (0 < j) && decide (j < 1073741824) then some (.fz (.int (i / j))) else none
  | .mod, .int i, .int j => if decide (0 < j) then some (.fz (.int (i % j))) else none
  | .pow, .int i, .int j => if decide (0 ≤ j) && decide (j ≤ 1000) && small i then some (.fz (.int (i ^ j.toNat))) else none
  | _, _, _ => none

def eqP : Option PyData → Option PyData → Option Bool
  | some x, some y => if SeqAt.shaped x && SeqAt.shaped y then some (PyData.eqv x y) else none
  | _, _ => none
def eqF (a b : D) : Option Bool := eqP a.pd b.pd
def flatD : D → Bool
  | .non => true
  | .bl _ => true
  | .int _ => true
  | .str _ => true
  | _ => false
def eqD : D → D → Bool
  | .non, .non => true
  | .bl a, .bl b => a == b
  | .bl a, .int b => (if a then 1 else 0) == b
  | .int a, .bl b => a == (if b then 1 else 0)
  | .int a, .int b => a == b
  | .str a, .str b => a == b
  | _, _ => false
def inL : Option PyData → Option (List PyData) → Option Bool
  | some x, some zs => if SeqAt.shaped x && SeqAt.shaped (.list zs) then some (zs.any fun z => PyData.eqv z x) else none
  | _, _ => none
def inF (a b : D) : Option Bool := match b with
  | .str z => match a with
    | .str y => some (!(Builtin.Str.occurrences z y 0 z.length 1).isEmpty)
    | _ => none
  | .lst ys => inL a.pd (D.pdAll ys)
  | .tup ys => if flatD a && ys.all flatD then some (ys.any fun y => eqD y a) else none
  | _ => none
def D.isNon : D → Bool
  | .non => true
  | _ => false
def cmpF : Cop → D → D → Option Bool
  | .eq, a, b => eqF a b
  | .ne, a, b => (eqF a b).map (!·)
  | .lt, .int i, .int j => some (decide (i < j))
  | .le, .int i, .int j => some (decide (i ≤ j))
  | .gt, .int i, .int j => some (decide (j < i))
  | .ge, .int i, .int j => some (decide (j ≤ i))
  | .isIn, a, b => inF a b
  | .notIn, a, b => (inF a b).map (!·)
  | .isN, a, .non => some a.isNon
  | .notN, a, .non => some (!a.isNon)
  | _, _, _ => none
def bools : List D → Option (List Bool)
  | [] => some []
  | .bl b :: r => (bools r).map (b :: ·)
  | _ :: _ => none
def lsts : List D → Option (List (List D))
  | [] => some []
  | .lst x :: r => (lsts r).map (x :: ·)
  | _ :: _ => none
def pairsK : List D → Option (List (Key × D))
  | [] => some []
  | .tup [.str k, v] :: r => (pairsK r).map ((.inr k, v) :: ·)
  | .tup [.int k, v] :: r => (pairsK r).map ((.inl k, v) :: ·)
  | _ :: _ => none
def subF : D → D → Option D
  | .lst xs, .int i => atI xs i
  | .tup xs, .int i => atI xs i
  | .str z, .int i => if lineOk z.length then (atI z.cps.toList i).map (fun c => .str ⟨#[c]⟩) else none
  | _, _ => none
def cutL (xs : List D) (lo hi : Option Int) : List D := (xs.drop (HT.sIx xs.length 0 lo)).take (HT.sIx xs.length xs.length hi - HT.sIx xs.length 0 lo)
def partF : Option D → Option (Option Int)
  | none => some none
  | some (.int i) => some (some i)
  | _ => none
def slcF (a : D) (lo hi : Option Int) : Option Rs := match a with
  | .lst xs => some (.nw (cutL xs lo hi))
  | .tup xs => if HT.sIx xs.length 0 lo = 0 ∧ HT.sIx xs.length xs.length hi = xs.length then none else some (.fz (.tup (cutL xs lo hi)))
  | _ => none
/-- where a target's parts go: of one thing, of a row of things -/
structure Bnd where
  one : D → Ga → Option Ga
  many : List D → Ga → Option Ga
def bndM (a b : Bnd) : List D → Ga → Option Ga
  | [], _ => none
  | x :: xs, g => match a.one x g with
    | some g' => b.many xs g'
    | none => none
def bnd0 : List D → Ga → Option Ga
  | [], g => some g
  | _ :: _, _ => none
def bndT (m : List D → Ga → Option Ga) : D → Ga → Option Ga
  | .tup xs, g => m xs g
  | _, _ => none
def bnd : Tg → Bnd
  | .nm i => ⟨fun d g => if i < g.length then some (g.set i (.fz d)) else none, fun _ _ => none⟩
  | .nil => ⟨bndT bnd0, bnd0⟩
  | .cons t u => ⟨bndT (bndM (bnd t) (bnd u)), bndM (bnd t) (bnd u)⟩
def bindT (t : Tg) : D → Ga → Option Ga := (bnd t).one

/-! ### what is walked, folded -/
def itemsOf : D → Option (List D)
  | .lst xs => some xs
  | .tup xs => some xs
  | .str z => some (z.cps.toList.map fun c => .str ⟨#[c]⟩)
  | _ => none
def rngF1 : List D → Option (List D)
  | [.int j] => if small j then some ((List.range j.toNat).map fun (k : Nat) => .int (0 + (k : Int))) else none
  | _ => none
def rngF2 : List D → Option (List D)
  | [.int i, .int j] => if small i && small j then some ((List.range (j - i).toNat).map fun (k : Nat) => .int (i + (k : Int))) else none
  | _ => none
def enumD : Nat → List D → List D
  | _, [] => []
  | i, x :: xs => .tup [.int (i : Nat), x] :: enumD (i + 1) xs
def zipD : List D → List D → List D
  | x :: xs, y :: ys => .tup [x, y] :: zipD xs ys
  | _, _ => []
/-- a for over items -/
def forL (f : D → Ga → Sd → Out Flow) : List D → Ga → Sd → Out Flow
  | [], g, s => .ok .nx g s
  | x :: xs, g, s => match f x g s with
    | .ok .nx g' s' => forL f xs g' s'
    | .ok .cnt g' s' => forL f xs g' s'
    | .ok .brk g' s' => .ok .nx g' s'
    | .ok (.ret r) g' s' => .ok (.ret r) g' s'
    | .ex c d g' s' => .ex c d g' s'
    | .bad => .bad
def whlL (c : Ga → Sd → Out Bool) (b : Ga → Sd → Out Flow) : Nat → Ga → Sd → Out Flow
  | 0, _, _ => .bad
  | n + 1, g, s => match c g s with
    | .ok true g1 s1 => match b g1 s1 with
      | .ok .nx g' s' => whlL c b n g' s'
      | .ok .cnt g' s' => whlL c b n g' s'
      | .ok .brk g' s' => .ok .nx g' s'
      | .ok (.ret r) g' s' => .ok (.ret r) g' s'
      | .ex c d g' s' => .ex c d g' s'
      | .bad => .bad
    | .ok false g1 s1 => .ok .nx g1 s1
    | .ex c d g' s' => .ex c d g' s'
    | .bad => .bad
/-- a comprehension: f gives what is appended, or none -/
def lcL (f : D → Ga → Sd → Out (Option D)) : List D → List D → Ga → Sd → Out (List D)
  | [], acc, g, s => .ok acc g s
  | x :: xs, acc, g, s => match f x g s with
    | .ok (some d) g' s' => if acc.length < sizeLine then lcL f xs (acc ++ [d]) g' s' else .bad
    | .ok none g' s' => lcL f xs acc g' s'
    | _ => .bad
def wipeG (g : Ga) : List Nat → Ga
  | [] => g
  | v :: vs => (wipeG g vs).set v .un
def gives (ds : List D) : Out D → Out D
  | o => o

/-! ### built-ins -/
def D.shown : D → Option Str
  | _ => none
def biF : Bi → List D → Option Rs
  | .len, [.lst xs] => some (.fz (.int xs.length))
  | .len, [.tup xs] => some (.fz (.int xs.length))
  | .len, [.str z] => if lineOk z.length then some (.fz (.int z.length)) else none
  | .list, [.lst xs] => some (.nw xs)
  | .list, [.tup xs] => some (.nw xs)
  | .tuple, [.lst xs] => some (.fz (.tup xs))
  | .tuple, [.tup xs] => some (.fz (.tup xs))
  | .int, [.int i] => some (.fz (.int i))
  | .all, [.lst xs] => (bools xs).map fun bs => .fz (.bl (bs.all id))
  | .any, [.lst xs] => (bools xs).map fun bs => .fz (.bl (bs.any id))
  | .max2, [.int i, .int j] => some (.fz (.int (if j > i then j else i)))
  | .sumL, [.lst xs, .lst zs] => match lsts xs with
    | some yss => if lineOk (zs ++ yss.flatten).length then some (.fz (.lst (zs ++ yss.flatten))) else none
    | none => none
  | .dictL, [.lst []] => some (.fz (.dic []))
  | .list, [.dic []] => some (.nw [])
  | .min2, [.int i, .int j] => some (.fz (.int (if j < i then j else i)))
  | _, _ => none
/-- methods of an own list: what is given, the list behind -/
def mtF : Mt → List D → List D → Option (D × List D)
  | .append, xs, [y] => if xs.length < sizeLine then some (.non, xs ++ [y]) else none
  | .extend, xs, [.lst ys] => if xs.length + ys.length ≤ sizeLine then some (.non, xs ++ ys) else none
  | .pop, xs, [] => (xs[xs.length - 1]?).map fun y => (y, xs.dropLast)
  | .popAt, xs, [.int i] => if small i then (seqIndex? i xs.length).bind fun k => (xs[k]?).map fun y => (y, xs.eraseIdx k) else none
  | .insert, xs, [.int i, y] => if xs.length < sizeLine ∧ 0 ≤ i ∧ i < 2 ^ 62 then some (.non, xs.take i.toNat ++ [y] ++ xs.drop i.toNat) else none
  | _, _, _ => none

/-! ### the evaluator -/
section
variable (φ : Nat → List D → Sd → FOut) (perm : List Nat → List D → List D) (glob : Nat → Option D) (fuel : Nat)
def call1 (f : Nat) (ds : List D) (g : Ga) (s : Sd) : Out Rs := match φ f ds s with
  | .ok (.lst xs) true s' => .ok (.nw xs) g s'
  | .ok d _ s' => .ok (.fz d) g s'
  | .ex c d s' => .ex c d g s'
  | .bad => .bad
def optR (o : Option Rs) (g : Ga) (s : Sd) : Out Rs := match o with
  | some r => .ok r g s
  | none => .bad
def optD {α : Type} (o : Option α) (g : Ga) (s : Sd) : Out α := match o with
  | some r => .ok r g s
  | none => .bad
/-- what a term does: as an expression, a test, a comprehension's test, arguments kept, arguments looked at, a part of a slice, what is walked, a statement -/
structure Sm where
  e : Ga → Sd → Out Rs
  t : Ga → Sd → Out Bool
  c : Ga → Sd → Out Bool
  a : Ga → Sd → Out (List D)
  l : Ga → Sd → Out (List Rs)
  p : Ga → Sd → Out (Option Int)
  i : Ga → Sd → Out (List D)
  s : Ga → Sd → Out Flow
def noX {α : Type} : Ga → Sd → Out α := fun _ _ => .bad
def tOf (e : Ga → Sd → Out Rs) : Ga → Sd → Out Bool := fun g s => (e g s).bind fun r g1 s1 => match r with
  | .fz (.bl k) => .ok k g1 s1
  | _ => .bad
def pOf (e : Ga → Sd → Out Rs) : Ga → Sd → Out (Option Int) := fun g s => (e g s).bind fun r g1 s1 => match r with
  | .fz (.int i) => .ok (some i) g1 s1
  | _ => .bad
def mkE (e : Ga → Sd → Out Rs) : Sm := ⟨e, tOf e, tOf e, noX, noX, pOf e, noX, noX⟩
def mkT (e : Ga → Sd → Out Rs) (t : Ga → Sd → Out Bool) : Sm := ⟨e, t, t, noX, noX, noX, noX, noX⟩
def mkI (i : Ga → Sd → Out (List D)) : Sm := ⟨noX, noX, noX, noX, noX, noX, i, noX⟩
def mkS (s : Ga → Sd → Out Flow) : Sm := ⟨noX, noX, noX, noX, noX, noX, noX, s⟩

def sVarS (i : Nat) (g : Ga) (s : Sd) : Option Sl → Out Rs
  | some (.fz d) => .ok (.fz d) g s
  | some (.ow _) => .ok (.sl i) g s
  | _ => .bad
def sVar (i : Nat) : Ga → Sd → Out Rs := fun g s => sVarS i g s g[i]?
def sGl (k : Nat) : Ga → Sd → Out Rs := fun g s => match glob k with
  | some d => .ok (.fz d) g s
  | none => .bad
/-- two operands looked at -/
def two (f : D → D → Option Rs) (g : Ga) (s : Sd) : Option D → Option D → Out Rs
  | some x, some y => optR (f x y) g s
  | _, _ => .bad
def sTwo (f : D → D → Option Rs) (a b : Ga → Sd → Out Rs) : Ga → Sd → Out Rs := fun g s =>
  (a g s).settle.bind fun r g1 s1 => (b g1 s1).settle.bind fun r' g2 s2 => two f g2 s2 (peek g2 r) (peek g2 r')
def one {α : Type} (f : α → Option Rs) (g : Ga) (s : Sd) : Option α → Out Rs
  | some x => optR (f x) g s
  | none => .bad
def sOne (f : D → Option Rs) (a : Ga → Sd → Out Rs) : Ga → Sd → Out Rs := fun g s =>
  (a g s).settle.bind fun r g1 s1 => one f g1 s1 (peek g1 r)
def sAnd (a b : Ga → Sd → Out Rs) : Ga → Sd → Out Rs := fun g s => (a g s).bind fun r g1 s1 => match r with
  | .fz (.bl true) => b g1 s1
  | .fz (.bl false) => .ok (.fz (.bl false)) g1 s1
  | _ => .bad
def sOr (a b : Ga → Sd → Out Rs) : Ga → Sd → Out Rs := fun g s => (a g s).bind fun r g1 s1 => match r with
  | .fz (.bl true) => .ok (.fz (.bl true)) g1 s1
  | .fz (.bl false) => b g1 s1
  | _ => .bad
def tAndF (a b : Ga → Sd → Out Bool) : Ga → Sd → Out Bool := fun g s => (a g s).bind fun k g1 s1 => match k with
  | true => b g1 s1
  | false => .ok false g1 s1
def tOrF (a b : Ga → Sd → Out Bool) : Ga → Sd → Out Bool := fun g s => (a g s).bind fun k g1 s1 => match k with
  | true => .ok true g1 s1
  | false => b g1 s1
def tNotF (a : Ga → Sd → Out Bool) : Ga → Sd → Out Bool := fun g s => (a g s).bind fun k g1 s1 => .ok (!k) g1 s1
def isiF (tys : List Ty) : D → Option Rs
  | .strm => none
  | d => some (.fz (.bl (tys.any fun t => D.isTy t d)))
def sIte (c : Ga → Sd → Out Bool) (a b : Ga → Sd → Out Rs) : Ga → Sd → Out Rs := fun g s => (c g s).bind fun k g1 s1 => match k with
  | true => a g1 s1
  | false => b g1 s1
def sCall (f : List D → Ga → Sd → Out Rs) (as : Ga → Sd → Out (List D)) : Ga → Sd → Out Rs := fun g s => (as g s).bind f
def sBi (f : List D → Option Rs) (as : Ga → Sd → Out (List Rs)) : Ga → Sd → Out Rs := fun g s => (as g s).bind fun rs g1 s1 => one f g1 s1 (peeks g1 rs)
def negF : D → Option Rs
  | .int i => some (.fz (.int (-i)))
  | _ => none
def notF : D → Option Rs
  | .bl k => some (.fz (.bl (!k)))
  | _ => none
def sSlc (a : Ga → Sd → Out Rs) (lo hi : Ga → Sd → Out (Option Int)) : Ga → Sd → Out Rs := fun g s =>
  (a g s).settle.bind fun r g1 s1 => (lo g1 s1).bind fun l g2 s2 => (hi g2 s2).bind fun h g3 s3 => one (fun x => slcF x l h) g3 s3 (peek g3 r)
def sLst (as : Ga → Sd → Out (List D)) : Ga → Sd → Out Rs := fun g s => (as g s).bind fun ds g1 s1 => if lineOk ds.length then .ok (.nw ds) g1 s1 else .bad
def sTup (as : Ga → Sd → Out (List D)) : Ga → Sd → Out Rs := fun g s => (as g s).bind fun ds g1 s1 => if lineOk ds.length then .ok (.fz (.tup ds)) g1 s1 else .bad
def lcTurn (own : List Nat) (tg : Tg) (c : Ga → Sd → Out Bool) (e : Ga → Sd → Out Rs) (x : D) (g : Ga) (s : Sd) : Out (Option D) :=
  match bindT tg x g with
  | some g2 => match c g2 s with
    | .ok true g3 s3 => match (e g3 s3).keep with
      | .ok d g4 s4 => .ok (some d) (wipeG g4 own) s4
      | _ => .bad
    | .ok false g3 s3 => .ok none (wipeG g3 own) s3
    | _ => .bad
  | none => .bad
def sLc (own : List Nat) (it : Ga → Sd → Out (List D)) (tg : Tg) (c : Ga → Sd → Out Bool) (e : Ga → Sd → Out Rs) : Ga → Sd → Out Rs := fun g s =>
  (it g s).bind fun xs g1 s1 => (lcL (lcTurn own tg c e) xs [] (wipeG g1 own) s1).bind fun ds g2 s2 => .ok (.nw ds) g2 s2
def sMth (m : Mt) (i : Nat) (as : Ga → Sd → Out (List D)) : Ga → Sd → Out Rs := fun g s => match g[i]? with
  | some (.ow _) => (as g s).bind fun ds g1 s1 => match g1[i]? with
    | some (.ow xs) => match mtF m xs ds with
      | some (d, ys) => .ok (.fz d) (g1.set i (.ow ys)) s1
      | none => .bad
    | _ => .bad
  | _ => .bad
def aCons (e : Ga → Sd → Out Rs) (as : Ga → Sd → Out (List D)) : Ga → Sd → Out (List D) := fun g s =>
  (e g s).keep.bind fun d g1 s1 => (as g1 s1).bind fun ds g2 s2 => .ok (d :: ds) g2 s2
def lCons (e : Ga → Sd → Out Rs) (as : Ga → Sd → Out (List Rs)) : Ga → Sd → Out (List Rs) := fun g s =>
  (e g s).settle.bind fun r g1 s1 => (as g1 s1).bind fun rs g2 s2 => .ok (r :: rs) g2 s2
def iSeqF (e : Ga → Sd → Out Rs) : Ga → Sd → Out (List D) := fun g s => (e g s).keep.bind fun d g1 s1 => optD (itemsOf d) g1 s1
def iRngF (fn : List D → Option (List D)) (as : Ga → Sd → Out (List D)) : Ga → Sd → Out (List D) := fun g s => (as g s).bind fun ds g1 s1 => optD (fn ds) g1 s1
def iEnumF (e : Ga → Sd → Out Rs) : Ga → Sd → Out (List D) := fun g s => (e g s).keep.bind fun d g1 s1 => optD (d.seq.map (enumD 0)) g1 s1
def zipF : List D → Option (List D)
  | [.lst xs, .lst ys] => some (zipD xs ys)
  | _ => none
def iZipF (as : Ga → Sd → Out (List D)) : Ga → Sd → Out (List D) := fun g s => (as g s).bind fun ds g1 s1 => optD (zipF ds) g1 s1
def asgTo (t : Tg) (r : Rs) (g : Ga) (s : Sd) : Out Flow := match t, r with
  | .nm i, .nw xs => if i < g.length then .ok .nx (g.set i (.ow xs)) s else .bad
  | t, r => match DI.keep g r with
    | some (d, g1) => match bindT t d g1 with
      | some g2 => .ok .nx g2 s
      | none => .bad
    | none => .bad
def sAsg (t : Tg) (e : Ga → Sd → Out Rs) : Ga → Sd → Out Flow := fun g s => (e g s).bind fun r g1 s1 => asgTo t r g1 s1
def sSto (i : Nat) (k e : Ga → Sd → Out Rs) : Ga → Sd → Out Flow := fun g s =>
  (e g s).keep.bind fun d g1 s1 => match g1[i]? with
    | some (.ow _) => (k g1 s1).bind fun r g2 s2 => match r, g2[i]? with
      | .fz (.int j), some (.ow xs) => match ixN xs.length j with
        | some n => .ok .nx (g2.set i (.ow (xs.set n d))) s2
        | none => .bad
      | _, _ => .bad
    | _ => .bad
/-- a value on its way to a name: an own list just made stays so -/
def half (g : Ga) : Rs → Option (Rs × Ga)
  | .nw xs => some (.nw xs, g)
  | r => match DI.keep g r with
    | some (d, g') => some (.fz d, g')
    | none => none
def halved (s : Sd) : Option (Rs × Ga) → Out Rs
  | some (r, g) => .ok r g s
  | none => .bad
def sHalf (e : Ga → Sd → Out Rs) : Ga → Sd → Out Rs := fun g s => (e g s).bind fun r g1 s1 => halved s1 (half g1 r)
def pCons (e : Ga → Sd → Out Rs) (as : Ga → Sd → Out (List Rs)) : Ga → Sd → Out (List Rs) := fun g s =>
  (sHalf e g s).bind fun r g1 s1 => (as g1 s1).bind fun rs g2 s2 => .ok (r :: rs) g2 s2
def putAll : List Nat → List Rs → Ga → Option Ga
  | [], [], g => some g
  | i :: is, .nw xs :: rs, g => if i < g.length then putAll is rs (g.set i (.ow xs)) else none
  | i :: is, .fz d :: rs, g => if i < g.length then putAll is rs (g.set i (.fz d)) else none
  | _, _, _ => none
def sPar (is : List Nat) (as : Ga → Sd → Out (List Rs)) : Ga → Sd → Out Flow := fun g s => (as g s).bind fun rs g1 s1 => match putAll is rs g1 with
  | some g2 => .ok .nx g2 s1
  | none => .bad
def sExp (e : Ga → Sd → Out Rs) : Ga → Sd → Out Flow := fun g s => (e g s).settle.bind fun _ g1 s1 => .ok .nx g1 s1
def sRet (e : Ga → Sd → Out Rs) : Ga → Sd → Out Flow := fun g s => (e g s).bind fun r g1 s1 => .ok (.ret r) g1 s1
def sIff (c : Ga → Sd → Out Bool) (t e : Ga → Sd → Out Flow) : Ga → Sd → Out Flow := fun g s => (c g s).bind fun k g1 s1 => match k with
  | true => t g1 s1
  | false => e g1 s1
def forTurn (tg : Tg) (b : Ga → Sd → Out Flow) (x : D) (g : Ga) (s : Sd) : Out Flow := match bindT tg x g with
  | some g2 => b g2 s
  | none => .bad
def sFor (tg : Tg) (it : Ga → Sd → Out (List D)) (b : Ga → Sd → Out Flow) : Ga → Sd → Out Flow := fun g s =>
  (it g s).bind fun xs g1 s1 => forL (forTurn tg b) xs g1 s1
def sRais (c : Nat) (e : Ga → Sd → Out Rs) : Ga → Sd → Out Flow := fun g s => (e g s).keep.bind fun d g1 s1 => .ex c d g1 s1
def sSeq (a b : Ga → Sd → Out Flow) : Ga → Sd → Out Flow := fun g s => (a g s).bind fun f g1 s1 => match f with
  | .nx => b g1 s1
  | f => .ok f g1 s1

def ev : T → Sm
  | .var i => mkE (sVar i)
  | .con d => mkE fun g s => .ok (.fz d) g s
  | .gl k => mkE (sGl glob k)
  | .bin o a b => mkE (sTwo (binF o) (ev a).e (ev b).e)
  | .cmp o a b => mkE (sTwo (fun x y => (cmpF o x y).map fun k => .fz (.bl k)) (ev a).e (ev b).e)
  | .neg a => mkE (sOne negF (ev a).e)
  | .not a => mkT (sOne notF (ev a).e) (tNotF (ev a).t)
  | .and a b => mkT (sAnd (ev a).e (ev b).e) (tAndF (ev a).t (ev b).t)
  | .or a b => mkT (sOr (ev a).e (ev b).e) (tOrF (ev a).t (ev b).t)
  | .ite c a b => mkE (sIte (ev c).t (ev a).e (ev b).e)
  | .call f as => mkE (sCall (call1 φ f) (ev as).a)
  | .callK f ks as => mkE (sCall (fun ds => call1 φ f (perm ks ds)) (ev as).a)
  | .bi b as => mkE (sBi (biF b) (ev as).l)
  | .isi tys a => mkE (sOne (isiF tys) (ev a).e)
  | .sub a i => mkE (sTwo (fun x y => (subF x y).map .fz) (ev a).e (ev i).e)
  | .slc a lo hi => mkE (sSlc (ev a).e (ev lo).p (ev hi).p)
  | .lst es => mkE (sLst (ev es).a)
  | .tup es => mkE (sTup (ev es).a)
  | .dic0 => mkE fun g s => .ok (.fz (.dic [])) g s
  | .lc own it tg c e => mkE (sLc own (ev it).i tg (ev c).c (ev e).e)
  | .mth m i as => mkE (sMth m i (ev as).a)
  | .fld _ => mkE noX
  | .nil => ⟨noX, noX, noX, fun g s => .ok [] g s, fun g s => .ok [] g s, noX, noX, noX⟩
  | .cons e es => ⟨noX, noX, noX, aCons (ev e).e (ev es).a, lCons (ev e).e (ev es).l, noX, noX, noX⟩
  | .none => ⟨noX, noX, fun g s => .ok true g s, noX, noX, fun g s => .ok none g s, noX, noX⟩
  | .iSeq e => mkI (iSeqF (ev e).e)
  | .iRng1 as => mkI (iRngF rngF1 (ev as).a)
  | .iRng2 as => mkI (iRngF rngF2 (ev as).a)
  | .iEnum e => mkI (iEnumF (ev e).e)
  | .iZip as => mkI (iZipF (ev as).a)
  | .asg t e => mkS (sAsg t (ev e).e)
  | .par _ _ => mkS noX
  | .sto i k e => mkS (sSto i (ev k).e (ev e).e)
  | .exp e => mkS (sExp (ev e).e)
  | .ret e => mkS (sRet (ev e).e)
  | .iff c t e => mkS (sIff (ev c).t (ev t).s (ev e).s)
  | .for_ tg it b => mkS (sFor tg (ev it).i (ev b).s)
  | .whl c b => mkS (whlL (ev c).t (ev b).s fuel)
  | .brk => mkS fun g s => .ok .brk g s
  | .cnt => mkS fun g s => .ok .cnt g s
  | .pass => mkS fun g s => .ok .nx g s
  | .rais c e => mkS (sRais c (ev e).e)
  | .try1 _ _ _ _ => mkS noX
  | .seq a b => mkS (sSeq (ev a).s (ev b).s)
  | .done => mkS fun g s => .ok .nx g s
end
end DI
end
section
set_option Elab.async false
set_option linter.all false
set_option maxRecDepth 100000
set_option maxHeartbeats 1000000
/-! DIRel: what data stands for over a heap; the state of a running def. -/
namespace DI
open PySem L2
open Classical in
/-- the heap without what may change -/
noncomputable def hid (H : Hp) (M : Addr → Prop) : Hp := fun b => if M b then none else H b
theorem hid_some {H : Hp} {M : Addr → Prop} {b : Addr} {o : HO} (h : hid H M b = some o) : ¬ M b ∧ H b = some o := by
  unfold hid at h
  by_cases m : M b
  · rw [if_pos m] at h; cases h
  · rw [if_neg m] at h; exact ⟨m, h⟩
theorem hid_of {H : Hp} {M : Addr → Prop} {b : Addr} (m : ¬ M b) : hid H M b = H b := by unfold hid; rw [if_neg m]
/-- all that stands in G stands in H -/
def Ex (G H : Hp) : Prop := ∀ b o, G b = some o → H b = some o
theorem Ex.refl (H : Hp) : Ex H H := fun _ _ h => h
theorem Ex.trans {A B C : Hp} (h : Ex A B) (k : Ex B C) : Ex A C := fun b o e => k b o (h b o e)
theorem hid_ex (H : Hp) (M : Addr → Prop) : Ex (hid H M) H := fun _ _ h => (hid_some h).2
/-- from heap to heap, what may change turning -/
theorem Ex.hidE {H H' : Hp} {M M' : Addr → Prop} (h : ∀ b o, ¬ M b → H b = some o → ¬ M' b ∧ H' b = some o) : Ex (hid H M) (hid H' M') := fun b o e => by
  obtain ⟨m, e⟩ := hid_some e
  obtain ⟨m', e'⟩ := h b o m e
  rw [hid_of m']; exact e'
theorem Ex.of_hid {H H' : Hp} {M M' : Addr → Prop} (x : Ex (DI.hid H M) (DI.hid H' M')) {b : Addr} {o : HO} (m : ¬ M b) (e : H b = some o) : ¬ M' b ∧ H' b = some o :=
  hid_some (x b o (by rw [hid_of m]; exact e))
theorem Ex.rd {G H : Hp} (x : Ex G H) {a : Addr} {u : HO} (h : Rd G a u) : Rd H a u := by
  rcases h with h | ⟨o, h⟩
  · exact .inl (x _ _ h)
  · exact .inr ⟨o, x _ _ h⟩
theorem Ex.sqT {K : PySem.W.Frag} {G H : Hp} (x : Ex G H) {a : Addr} {xs : List V} (h : SqT K G a xs) : SqT K H a xs := by
  rcases h with h | h
  · exact .inl (x.rd h)
  · exact .inr h

mutual
/-- the value stands for the data -/
inductive Rp (K : PySem.W.Frag) (c : Addr) (H : Hp) : V → D → Prop
  | non : Rp K c H .non .non
  | bl (b : Bool) : Rp K c H (.bl b) (.bl b)
  | int (i : Int) : Rp K c H (.int i) (.int i)
  | str (x : Str) : Rp K c H (.str x) (.str x)
  | lst {a : Addr} {vs : List V} {ds : List D} : H a = some (.lst vs) → RpL K c H vs ds → Rp K c H (.ref a) (.lst ds)
  | tup {a : Addr} {vs : List V} {ds : List D} : SqT K H a vs → RpL K c H vs ds → Rp K c H (.ref a) (.tup ds)
  | dic {a : Addr} {kvs : List (Key × V)} {ks : List (Key × D)} : H a = some (.dK kvs) → RpK K c H kvs ks → Rp K c H (.ref a) (.dic ks)
  | strm : Rp K c H (.ref c) .strm
inductive RpL (K : PySem.W.Frag) (c : Addr) (H : Hp) : List V → List D → Prop
  | nil : RpL K c H [] []
  | cons {v : V} {vs : List V} {d : D} {ds : List D} : Rp K c H v d → RpL K c H vs ds → RpL K c H (v :: vs) (d :: ds)
inductive RpK (K : PySem.W.Frag) (c : Addr) (H : Hp) : List (Key × V) → List (Key × D) → Prop
  | nil : RpK K c H [] []
  | cons {k : Key} {v : V} {vs : List (Key × V)} {d : D} {ds : List (Key × D)} : Rp K c H v d → RpK K c H vs ds → RpK K c H ((k, v) :: vs) ((k, d) :: ds)
end
section
variable {K : PySem.W.Frag} {c : Addr} {G H : Hp}
mutual
theorem Rp.mono (x : Ex G H) : ∀ {v : V} {d : D}, Rp K c G v d → Rp K c H v d
  | _, _, .non => .non
  | _, _, .bl b => .bl b
  | _, _, .int i => .int i
  | _, _, .str s => .str s
  | _, _, .lst h l => .lst (x _ _ h) (RpL.mono x l)
  | _, _, .tup h l => .tup (x.sqT h) (RpL.mono x l)
  | _, _, .dic h l => .dic (x _ _ h) (RpK.mono x l)
  | _, _, .strm => .strm
theorem RpL.mono (x : Ex G H) : ∀ {v : List V} {d : List D}, RpL K c G v d → RpL K c H v d
  | _, _, .nil => .nil
  | _, _, .cons h t => .cons (Rp.mono x h) (RpL.mono x t)
theorem RpK.mono (x : Ex G H) : ∀ {v : List (Key × V)} {d : List (Key × D)}, RpK K c G v d → RpK K c H v d
  | _, _, .nil => .nil
  | _, _, .cons h t => .cons (Rp.mono x h) (RpK.mono x t)
end
theorem RpL.length : ∀ {vs : List V} {ds : List D}, RpL K c H vs ds → vs.length = ds.length
  | _, _, .nil => rfl
  | _, _, .cons _ t => by rw [List.length_cons, List.length_cons, RpL.length t]
theorem RpL.get : ∀ {vs : List V} {ds : List D} {i : Nat} {d : D}, RpL K c H vs ds → ds[i]? = some d → ∃ v, vs[i]? = some v ∧ Rp K c H v d
  | _, _, i, _, .nil, e => by simp at e
  | _, _, 0, _, .cons h _, e => by simp at e; subst e; exact ⟨_, by simp, h⟩
  | _, _, i + 1, d, .cons _ t, e => by
    obtain ⟨v, h1, h2⟩ := RpL.get (i := i) (d := d) t (by simpa using e)
    exact ⟨v, by simpa using h1, h2⟩
theorem RpL.get' : ∀ {vs : List V} {ds : List D} {i : Nat} {v : V}, RpL K c H vs ds → vs[i]? = some v → ∃ d, ds[i]? = some d ∧ Rp K c H v d
  | _, _, i, _, .nil, e => by simp at e
  | _, _, 0, _, .cons h _, e => by simp at e; subst e; exact ⟨_, by simp, h⟩
  | _, _, i + 1, d, .cons _ t, e => by
    obtain ⟨v, h1, h2⟩ := RpL.get' (i := i) (v := d) t (by simpa using e)
    exact ⟨v, by simpa using h1, h2⟩
theorem RpL.append : ∀ {vs ws : List V} {ds es : List D}, RpL K c H vs ds → RpL K c H ws es → RpL K c H (vs ++ ws) (ds ++ es)
  | _, _, _, _, .nil, s => s
  | _, _, _, _, .cons h t, s => .cons h (RpL.append t s)
theorem RpL.take : ∀ {vs : List V} {ds : List D} (n : Nat), RpL K c H vs ds → RpL K c H (vs.take n) (ds.take n)
  | _, _, 0, _ => .nil
  | _, _, _ + 1, .nil => .nil
  | _, _, n + 1, .cons h t => .cons h (RpL.take n t)
theorem RpL.drop : ∀ {vs : List V} {ds : List D} (n : Nat), RpL K c H vs ds → RpL K c H (vs.drop n) (ds.drop n)
  | _, _, 0, r => r
  | _, _, _ + 1, .nil => .nil
  | _, _, n + 1, .cons _ t => RpL.drop n t
theorem RpL.set {v : V} {d : D} (r : Rp K c H v d) : ∀ {vs : List V} {ds : List D} (i : Nat), RpL K c H vs ds → RpL K c H (vs.set i v) (ds.set i d)
  | _, _, _, .nil => .nil
  | _, _, 0, .cons _ t => .cons r t
  | _, _, i + 1, .cons q t => .cons q (RpL.set r i t)
theorem RpL.erase : ∀ {vs : List V} {ds : List D} (i : Nat), RpL K c H vs ds → RpL K c H (vs.eraseIdx i) (ds.eraseIdx i)
  | _, _, _, .nil => .nil
  | _, _, 0, .cons _ t => t
  | _, _, i + 1, .cons q t => .cons q (RpL.erase i t)
theorem RpL.dropLast : ∀ {vs : List V} {ds : List D}, RpL K c H vs ds → RpL K c H vs.dropLast ds.dropLast
  | _, _, .nil => .nil
  | _, _, .cons h .nil => .nil
  | _, _, .cons h (.cons h' t) => .cons h (RpL.dropLast (.cons h' t))
theorem RpL.rep {vs : List V} {ds : List D} (h : RpL K c H vs ds) : ∀ k : Nat, RpL K c H (List.replicate k vs).flatten (List.replicate k ds).flatten
  | 0 => .nil
  | k + 1 => by
    rw [List.replicate_succ, List.replicate_succ, List.flatten_cons, List.flatten_cons]
    exact RpL.append h (RpL.rep h k)
theorem RpL.cut {vs : List V} {ds : List D} (h : RpL K c H vs ds) (lo hi : Option Int) : RpL K c H (cutV vs lo hi) (cutL ds lo hi) := by
  unfold cutV cutL
  rw [h.length]
  exact (h.drop _).take _
theorem RpL.snoc {vs : List V} {ds : List D} {v : V} {d : D} (h : RpL K c H vs ds) (r : Rp K c H v d) : RpL K c H (vs ++ [v]) (ds ++ [d]) := h.append (.cons r .nil)

/-! the model's own data -/
mutual
theorem Rp.dp : ∀ {v : V} {d : D} {p : PyData}, Rp K c H v d → d.pd = some p → Dp K H v p
  | _, _, _, .non, e => by unfold D.pd at e; cases e; exact .non
  | _, _, _, .bl b, e => by unfold D.pd at e; cases e; exact .bl b
  | _, _, _, .int b, e => by unfold D.pd at e; cases e; exact .int b
  | _, _, _, .str b, e => by unfold D.pd at e; cases e; exact .str b
  | _, _, _, .lst (ds := ds) h l, e => by
    unfold D.pd at e
    cases q : D.pdAll ds with
    | none => rw [q] at e; cases e
    | some ps => rw [q] at e; cases e; exact .lst (.inl (.inl h)) (RpL.dp l q)
  | _, _, _, .tup (ds := ds) h l, e => by
    unfold D.pd at e
    cases q : D.pdAll ds with
    | none => rw [q] at e; cases e
    | some ps => rw [q] at e; cases e; exact .tup h (RpL.dp l q)
  | _, _, _, .dic _ _, e => by unfold D.pd at e; cases e
  | _, _, _, .strm, e => by unfold D.pd at e; cases e
theorem RpL.dp : ∀ {vs : List V} {ds : List D} {ps : List PyData}, RpL K c H vs ds → D.pdAll ds = some ps → DpAll K H vs ps
  | _, _, _, .nil, e => by unfold D.pdAll at e; cases e; exact .nil
  | _, _, _, .cons (d := d) (ds := ds) h t, e => by
    unfold D.pdAll at e
    cases q : d.pd with
    | none => rw [q] at e; cases e
    | some p =>
      rw [q] at e
      cases q2 : D.pdAll ds with
      | none => rw [q2] at e; cases e
      | some ps => rw [q2] at e; cases e; exact .cons (Rp.dp h q) (RpL.dp t q2)
end
theorem RpL.bools : ∀ {vs : List V} {ds : List D} {bs : List Bool}, RpL K c H vs ds → DI.bools ds = some bs → vs = bs.map V.bl
  | _, _, _, .nil, e => by cases e; rfl
  | _, _, bs, .cons (d := d) (ds := ds) h t, e => by
    cases h with
    | bl b =>
      unfold DI.bools at e
      cases q : DI.bools ds with
      | none => rw [q] at e; cases e
      | some r =>
        rw [q] at e
        cases e
        rw [List.map_cons, RpL.bools t q]
    | _ => cases e
end

/-- the spring of draws as it stands: a list at c whose first item is the list of cells at k -/
def Strm (H : Hp) (c k : Addr) (s : Sd) : Prop := c ≠ k ∧ H c = some (.lst [.ref k, .int s.big, .int s.cnt, .int s.mix]) ∧ H k = some (.lst (s.cells.map V.int))

/-- what stays through the whole run: the written part, the spring's places, the classes of errors: where each stands, its field -/
structure Fx where
  K : PySem.W.Frag
  c : Addr
  k : Addr
  cls : Nat → Option (Addr × Str)
/-- where one began: the heap, what could change then -/
structure Par (F : Fx) where
  H0 : Hp
  M0 : Addr → Prop
  m0c : M0 F.c
  m0k : M0 F.k
abbrev Par.K {F : Fx} (_ : Par F) : PySem.W.Frag := F.K
abbrev Par.c {F : Fx} (_ : Par F) : Addr := F.c
abbrev Par.k {F : Fx} (_ : Par F) : Addr := F.k
abbrev Par.cls {F : Fx} (_ : Par F) : Nat → Option (Addr × Str) := F.cls

structure En {F : Fx} (P : Par F) (σ : St) (H : Hp) (g : Ga) (s : Sd) (M : Addr → Prop) : Prop where
  len : σ.length = g.length
  fz : ∀ (i : Nat) (d : D), g[i]? = some (.fz d) → ∃ v, σ[i]? = some (some v) ∧ Rp P.K P.c (hid H M) v d
  ow : ∀ (i : Nat) (xs : List D), g[i]? = some (.ow xs) → ∃ a vs, σ[i]? = some (some (.ref a)) ∧ M a ∧ ¬ P.M0 a ∧ H a = some (.lst vs) ∧ RpL P.K P.c (hid H M) vs xs
  ne : ∀ (i j : Nat) (a : Addr) (xs ys : List D), i ≠ j → g[i]? = some (.ow xs) → g[j]? = some (.ow ys) → σ[i]? = some (some (.ref a)) → σ[j]? = some (some (.ref a)) → False
  stm : Strm H P.c P.k s
  m0 : ∀ a, P.M0 a → M a
  al : ∀ a, M a → H a ≠ none
  fr : ∀ b o, P.H0 b = some o → b ≠ P.c → b ≠ P.k → H b = some o
  nw : ∀ a, M a → ¬ P.M0 a → P.H0 a = none

def RsR {F : Fx} (P : Par F) (σ : St) (H : Hp) (M : Addr → Prop) (g : Ga) (v : V) : Rs → Prop
  | .fz d => Rp P.K P.c (hid H M) v d
  | .nw xs => ∃ a vs, v = .ref a ∧ M a ∧ ¬ P.M0 a ∧ H a = some (.lst vs) ∧ RpL P.K P.c (hid H M) vs xs ∧ ∀ (i : Nat) (ys : List D), g[i]? = some (.ow ys) → σ[i]? ≠ some (some (.ref a))
  | .sl i => σ[i]? = some (some v)
/-- an error that flies: its class, its own dict -/
def ExR {F : Fx} (P : Par F) (H : Hp) (M : Addr → Prop) (cv : Value) (dx : Option Addr) (c : Nat) (d : D) : Prop :=
  ∃ C f a v, P.cls c = some (C, f) ∧ cv = .ref C ∧ dx = some a ∧ H a = some (.xd [(f, v)]) ∧ ¬ M a ∧ Rp P.K P.c (hid H M) v d

section
variable {F : Fx} {P : Par F} {σ : St} {H : Hp} {g : Ga} {s : Sd} {M : Addr → Prop}
/-- an address that no slot owns is let go -/
theorem En.free (E : En P σ H g s M) {a : Addr} (n0 : ¬ P.M0 a) (no : ∀ (i : Nat) (ys : List D), g[i]? = some (.ow ys) → σ[i]? ≠ some (some (.ref a))) :
    En P σ H g s (fun b => M b ∧ b ≠ a) ∧ Ex (hid H M) (hid H (fun b => M b ∧ b ≠ a)) := by
  have x : Ex (hid H M) (hid H (fun b => M b ∧ b ≠ a)) := Ex.hidE fun b o m e => ⟨fun z => m z.1, e⟩
  refine ⟨⟨E.len, fun i d h => ?_, fun i xs h => ?_, E.ne, E.stm, fun b m => ⟨E.m0 b m, fun z => n0 (z ▸ m)⟩, fun b m => E.al b m.1, E.fr, fun b m n => E.nw b m.1 n⟩, x⟩
  · obtain ⟨v, h1, h2⟩ := E.fz i d h
    exact ⟨v, h1, h2.mono x⟩
  · obtain ⟨b, vs, h1, h2, h3, h4, h5⟩ := E.ow i xs h
    exact ⟨b, vs, h1, ⟨h2, fun z => no i xs h (by rw [h1, z])⟩, h3, h4, h5.mono x⟩
/-- a new object -/
theorem En.alloc (E : En P σ H g s M) {p : Addr} (hp : H p = none) (o : HO) : En P σ (upd H p o) g s M ∧ Ex (hid H M) (hid (upd H p o) M) ∧ ¬ M p := by
  have np : ¬ M p := fun m => E.al p m hp
  have k : ∀ b u, H b = some u → upd H p o b = some u := fun b u e => by rw [upd_ne (ne_of_none e hp)]; exact e
  have x : Ex (hid H M) (hid (upd H p o) M) := Ex.hidE fun b u m e => ⟨m, k b u e⟩
  refine ⟨⟨E.len, fun i d h => ?_, fun i xs h => ?_, E.ne, ⟨E.stm.1, k _ _ E.stm.2.1, k _ _ E.stm.2.2⟩, E.m0, fun a m e => ?_, fun b u e n1 n2 => k b u (E.fr b u e n1 n2), E.nw⟩, x, np⟩
  · obtain ⟨v, h1, h2⟩ := E.fz i d h
    exact ⟨v, h1, h2.mono x⟩
  · obtain ⟨b, vs, h1, h2, h3, h4, h5⟩ := E.ow i xs h
    exact ⟨b, vs, h1, h2, h3, k _ _ h4, h5.mono x⟩
  · cases q : H a with
    | none => exact E.al a m q
    | some u => rw [k a u q] at e; cases e
/-- .. that may change from now on -/
theorem En.own (E : En P σ H g s M) {p : Addr} (hp : H p = none) (o : HO) : En P σ (upd H p o) g s (fun b => M b ∨ b = p) ∧ Ex (hid H M) (hid (upd H p o) (fun b => M b ∨ b = p)) ∧
    (∀ (i : Nat) (ys : List D), g[i]? = some (.ow ys) → σ[i]? ≠ some (some (.ref p))) ∧ ¬ P.M0 p ∧ P.H0 p = none := by
  have np : ¬ M p := fun m => E.al p m hp
  have k : ∀ b u, H b = some u → upd H p o b = some u := fun b u e => by rw [upd_ne (ne_of_none e hp)]; exact e
  have h0 : P.H0 p = none := by
    cases q : P.H0 p with
    | none => rfl
    | some u =>
      by_cases h1 : p = P.c
      · subst h1; rw [E.stm.2.1] at hp; cases hp
      · by_cases h2 : p = P.k
        · subst h2; rw [E.stm.2.2] at hp; cases hp
        · rw [E.fr p u q h1 h2] at hp; cases hp
  have x : Ex (hid H M) (hid (upd H p o) (fun b => M b ∨ b = p)) := Ex.hidE fun b u m e => ⟨fun z => z.elim m (fun z => by rw [z, hp] at e; cases e), k b u e⟩
  refine ⟨⟨E.len, fun i d h => ?_, fun i xs h => ?_, E.ne, ⟨E.stm.1, k _ _ E.stm.2.1, k _ _ E.stm.2.2⟩, fun a m => .inl (E.m0 a m), fun a m e => ?_, fun b u e n1 n2 => k b u (E.fr b u e n1 n2), fun a m n => m.elim (fun m => E.nw a m n) fun z => by rw [z]; exact h0⟩, x, fun i ys h z => ?_, fun m => np (E.m0 p m), h0⟩
  · obtain ⟨v, h1, h2⟩ := E.fz i d h
    exact ⟨v, h1, h2.mono x⟩
  · obtain ⟨b, vs, h1, h2, h3, h4, h5⟩ := E.ow i xs h
    exact ⟨b, vs, h1, .inl h2, h3, k _ _ h4, h5.mono x⟩
  · rcases m with m | rfl
    · cases q : H a with
      | none => exact E.al a m q
      | some u => rw [k a u q] at e; cases e
    · rw [upd_same] at e; cases e
  · obtain ⟨b, vs, h1, h2, _⟩ := E.ow i ys h
    rw [h1] at z
    cases z
    exact np h2
/-- an own list becomes data -/
theorem En.freeze (E : En P σ H g s M) {i : Nat} {xs : List D} (h : g[i]? = some (.ow xs)) : ∃ a vs, σ[i]? = some (some (.ref a)) ∧ M a ∧ ¬ P.M0 a ∧ H a = some (.lst vs) ∧
    En P σ H (g.set i (.fz (.lst xs))) s (fun b => M b ∧ b ≠ a) ∧ Ex (hid H M) (hid H (fun b => M b ∧ b ≠ a)) ∧ Rp P.K P.c (hid H (fun b => M b ∧ b ≠ a)) (.ref a) (.lst xs) := by
  obtain ⟨a, vs, h1, h2, h3, h4, h5⟩ := E.ow i xs h
  have x : Ex (hid H M) (hid H (fun b => M b ∧ b ≠ a)) := Ex.hidE fun b o m e => ⟨fun z => m z.1, e⟩
  have r : Rp P.K P.c (hid H (fun b => M b ∧ b ≠ a)) (.ref a) (.lst xs) := .lst (by rw [hid_of (fun z => z.2 rfl)]; exact h4) (h5.mono x)
  have hi : i < g.length := (List.getElem?_eq_some_iff.mp h).1
  refine ⟨a, vs, h1, h2, h3, h4, ⟨by rw [List.length_set]; exact E.len, fun j d e => ?_, fun j ys e => ?_, fun j l b ys zs nj e1 e2 => ?_, E.stm, fun b m => ⟨E.m0 b m, fun z => h3 (z ▸ m)⟩, fun b m => E.al b m.1, E.fr, fun b m n => E.nw b m.1 n⟩, x, r⟩
  · by_cases hj : j = i
    · subst hj
      rw [List.getElem?_set_self hi] at e
      cases e
      exact ⟨_, h1, r⟩
    · rw [List.getElem?_set_ne (Ne.symm hj)] at e
      obtain ⟨v, q1, q2⟩ := E.fz j d e
      exact ⟨v, q1, q2.mono x⟩
  · by_cases hj : j = i
    · subst hj
      rw [List.getElem?_set_self hi] at e
      cases e
    · rw [List.getElem?_set_ne (Ne.symm hj)] at e
      obtain ⟨b, us, q1, q2, q3, q4, q5⟩ := E.ow j ys e
      exact ⟨b, us, q1, ⟨q2, fun z => E.ne j i a ys xs hj e h (by rw [q1, z]) h1⟩, q3, q4, q5.mono x⟩
  · by_cases hj : j = i
    · subst hj; rw [List.getElem?_set_self hi] at e1; cases e1
    · by_cases hl : l = i
      · subst hl; rw [List.getElem?_set_self hi] at e2; cases e2
      · rw [List.getElem?_set_ne (Ne.symm hj)] at e1
        rw [List.getElem?_set_ne (Ne.symm hl)] at e2
        exact E.ne j l b ys zs nj e1 e2
end
end DI
end
section
set_option Elab.async false
set_option linter.all false
set_option maxRecDepth 100000
set_option maxHeartbeats 1000000
/-! DISnd: expressions of the program do what the core's terms do. -/
namespace DI
open PySem L2

/-- what is wanted behind: of what is given, under R; of an error, W -/
def PostG {F : Fx} {α β : Type} (P : Par F) (W : WX) (σ : St) (H : Hp) (M : Addr → Prop) (R : Hp → (Addr → Prop) → Ga → β → α → Prop) (Q : β → Hp → Prop) : Out α → Prop
  | .ok r g s => ∀ v H' M', En P σ H' g s M' → Ex (hid H M) (hid H' M') → R H' M' g v r → Q v H'
  | .ex c d g s => ∀ cv dx H' M', En P σ H' g s M' → Ex (hid H M) (hid H' M') → ExR P H' M' cv dx c d → W cv dx σ H'
  | .bad => False
def rdG {α β : Type} (F : Fx) (W : WX) (R : Par F → St → Hp → (Addr → Prop) → Ga → β → α → Prop) (f : Ga → Sd → Out α) : St → Hp → (β → Hp → Prop) → Prop := fun σ H Q =>
  ∃ (P : Par F) (g : Ga) (s : Sd) (M : Addr → Prop), En P σ H g s M ∧ PostG P W σ H M (R P σ) Q (f g s)
abbrev RE {F : Fx} (P : Par F) : St → Hp → (Addr → Prop) → Ga → V → Rs → Prop := fun σ H M g v r => RsR P σ H M g v r
abbrev RD {F : Fx} (P : Par F) : St → Hp → (Addr → Prop) → Ga → V → D → Prop := fun _ H M _ v d => Rp P.K P.c (hid H M) v d
abbrev RQ {F : Fx} {α : Type} (_ : Par F) : St → Hp → (Addr → Prop) → Ga → α → α → Prop := fun _ _ _ _ v r => v = r
abbrev RA {F : Fx} (P : Par F) : St → Hp → (Addr → Prop) → Ga → List V → List D → Prop := fun _ H M _ v d => RpL P.K P.c (hid H M) v d
/-- looked at -/
def PkR {F : Fx} (P : Par F) (H : Hp) (M : Addr → Prop) (v : V) (d : D) : Prop :=
  Rp P.K P.c (hid H M) v d ∨ ∃ a vs xs, d = .lst xs ∧ v = .ref a ∧ H a = some (.lst vs) ∧ RpL P.K P.c (hid H M) vs xs
inductive RsL {F : Fx} (P : Par F) (σ : St) (H : Hp) (M : Addr → Prop) (g : Ga) : List V → List Rs → Prop
  | nil : RsL P σ H M g [] []
  | cons {v : V} {vs : List V} {r : Rs} {rs : List Rs} : RsR P σ H M g v r → (∀ xs, r ≠ .nw xs) → RsL P σ H M g vs rs → RsL P σ H M g (v :: vs) (r :: rs)
inductive PkL {F : Fx} (P : Par F) (H : Hp) (M : Addr → Prop) : List V → List D → Prop
  | nil : PkL P H M [] []
  | cons {v : V} {vs : List V} {d : D} {ds : List D} : PkR P H M v d → PkL P H M vs ds → PkL P H M (v :: vs) (d :: ds)
abbrev RL {F : Fx} (P : Par F) : St → Hp → (Addr → Prop) → Ga → List V → List Rs → Prop := fun σ H M g v d => RsL P σ H M g v d

section
variable {F : Fx} {P : Par F} {W : WX} {σ : St} {H : Hp} {g : Ga} {s : Sd} {M : Addr → Prop}
theorem PostG.mono {α β : Type} {R : Hp → (Addr → Prop) → Ga → β → α → Prop} {Q : β → Hp → Prop} {H1 : Hp} {M1 : Addr → Prop} (x : Ex (hid H M) (hid H1 M1)) : ∀ {o : Out α}, PostG P W σ H M R Q o → PostG P W σ H1 M1 R Q o
  | .ok _ _ _, h => fun v H' M' E e r => h v H' M' E (x.trans e) r
  | .ex _ _ _ _, h => fun cv dx H' M' E e r => h cv dx H' M' E (x.trans e) r
  | .bad, h => h
theorem PostG.bind {α β α' β' : Type} {R : Hp → (Addr → Prop) → Ga → β → α → Prop} {R' : Hp → (Addr → Prop) → Ga → β' → α' → Prop} {Q' : β' → Hp → Prop} {k : α → Ga → Sd → Out α'} :
    ∀ {o : Out α}, PostG P W σ H M R' Q' (o.bind k) → PostG P W σ H M R (fun v H1 => ∃ r g1 s1 M1, En P σ H1 g1 s1 M1 ∧ Ex (hid H M) (hid H1 M1) ∧ R H1 M1 g1 v r ∧ PostG P W σ H1 M1 R' Q' (k r g1 s1)) o
  | .ok r g1 s1, h => fun v H' M' E e rr => ⟨r, g1, s1, M', E, e, rr, PostG.mono e h⟩
  | .ex _ _ _ _, h => fun cv dx H' M' E e r => h cv dx H' M' E e r
  | .bad, h => h.elim
theorem rdG.mk {α β : Type} {R : Par F → St → Hp → (Addr → Prop) → Ga → β → α → Prop} {f : Ga → Sd → Out α} {Q : β → Hp → Prop} (E : En P σ H g s M) (h : PostG P W σ H M (R P σ) Q (f g s)) : rdG F W R f σ H Q := ⟨P, g, s, M, E, h⟩

/-! ### looking -/
theorem PkR.rp {v : V} {d : D} (h : PkR P H M v d) : Rp P.K P.c H v d := by
  rcases h with h | ⟨a, vs, xs, rfl, rfl, h1, h2⟩
  · exact h.mono (hid_ex H M)
  · exact .lst h1 (h2.mono (hid_ex H M))
theorem PkR.lst {v : V} {xs : List D} (h : PkR P H M v (.lst xs)) : ∃ a vs, v = .ref a ∧ H a = some (.lst vs) ∧ RpL P.K P.c (hid H M) vs xs := by
  rcases h with h | ⟨a, vs, ys, e, rfl, h1, h2⟩
  · cases h with
    | lst h1 h2 => exact ⟨_, _, rfl, (hid_some h1).2, h2⟩
  · cases e; exact ⟨a, vs, rfl, h1, h2⟩
theorem PkR.tup {v : V} {xs : List D} (h : PkR P H M v (.tup xs)) : ∃ a vs, v = .ref a ∧ SqT P.K H a vs ∧ RpL P.K P.c (hid H M) vs xs := by
  rcases h with h | ⟨a, vs, ys, e, rfl, h1, h2⟩
  · cases h with
    | tup h1 h2 => exact ⟨_, _, rfl, (hid_ex H M).sqT h1, h2⟩
  · cases e
theorem PkR.int {v : V} {i : Int} (h : PkR P H M v (.int i)) : v = .int i := by
  rcases h with h | ⟨a, vs, ys, e, rfl, h1, h2⟩
  · cases h; rfl
  · cases e
theorem PkR.str {v : V} {i : Str} (h : PkR P H M v (.str i)) : v = .str i := by
  rcases h with h | ⟨a, vs, ys, e, rfl, h1, h2⟩
  · cases h; rfl
  · cases e
theorem PkR.bl {v : V} {i : Bool} (h : PkR P H M v (.bl i)) : v = .bl i := by
  rcases h with h | ⟨a, vs, ys, e, rfl, h1, h2⟩
  · cases h; rfl
  · cases e
theorem PkR.non {v : V} (h : PkR P H M v .non) : v = .non := by
  rcases h with h | ⟨a, vs, ys, e, rfl, h1, h2⟩
  · cases h; rfl
  · cases e
theorem RsR.pk {v : V} {r : Rs} {d : D} (E : En P σ H g s M) (h : RsR P σ H M g v r) (e : peek g r = some d) : PkR P H M v d := by
  cases r with
  | fz d' => cases e; exact .inl h
  | nw xs =>
    cases e
    obtain ⟨a, vs, h1, h2, h3, h4, h5, _⟩ := h
    exact .inr ⟨a, vs, xs, rfl, h1, h4, h5⟩
  | sl i =>
    have h : σ[i]? = some (some v) := h
    have e : peekS g[i]? = some d := e
    cases q : g[i]? with
    | none => rw [q] at e; cases e
    | some l =>
      rw [q] at e
      cases l with
      | un => cases e
      | fz d' =>
        cases e
        obtain ⟨v', h1, h2⟩ := E.fz i _ q
        rw [h] at h1; cases h1
        exact .inl h2
      | ow xs =>
        cases e
        obtain ⟨a, vs, h1, h2, h3, h4, h5⟩ := E.ow i _ q
        rw [h] at h1; cases h1
        exact .inr ⟨a, vs, xs, rfl, rfl, h4, h5⟩
/-- a value that is no new list stays what it is -/
theorem RsR.stay {v : V} {r : Rs} {H1 : Hp} {M1 : Addr → Prop} {g1 : Ga} (h : RsR P σ H M g v r) (n : ∀ xs, r ≠ .nw xs) (x : Ex (hid H M) (hid H1 M1)) : RsR P σ H1 M1 g1 v r := by
  cases r with
  | fz d => exact Rp.mono x h
  | nw xs => exact absurd rfl (n xs)
  | sl i => exact h
theorem settle_ne (r : Rs) : ∀ xs, DI.settle r ≠ .nw xs := by cases r <;> (intro xs e; cases e)
/-- settled: a new list is data now -/
theorem post_settle {Q : VK} : ∀ {o : Out Rs}, PostG P W σ H M (fun H M g v r => RsR P σ H M g v r ∧ ∀ xs, r ≠ .nw xs) Q o.settle → PostG P W σ H M (RE P σ) Q o
  | .ok r g s, h => fun v H' M' E e rr => by
    cases r with
    | fz d => exact h v H' M' E e ⟨rr, fun _ z => by cases z⟩
    | sl i => exact h v H' M' E e ⟨rr, fun _ z => by cases z⟩
    | nw xs =>
      obtain ⟨a, vs, rfl, h2, h3, h4, h5, h6⟩ := rr
      obtain ⟨E2, x2⟩ := E.free h3 h6
      exact h _ H' _ E2 (e.trans x2) ⟨Rp.lst (by rw [hid_of (fun z => z.2 rfl)]; exact h4) (h5.mono x2), fun _ z => by cases z⟩
  | .ex _ _ _ _, h => h
  | .bad, h => h
/-- kept -/
theorem post_keep {Q : VK} : ∀ {o : Out Rs}, PostG P W σ H M (RD P σ) Q o.keep → PostG P W σ H M (RE P σ) Q o
  | .ok r g s, h => fun v H' M' E e rr => by
    cases r with
    | fz d => exact h v H' M' E e rr
    | nw xs =>
      obtain ⟨a, vs, rfl, h2, h3, h4, h5, h6⟩ := rr
      obtain ⟨E2, x2⟩ := E.free h3 h6
      exact h _ H' _ E2 (e.trans x2) (Rp.lst (by rw [hid_of (fun z => z.2 rfl)]; exact h4) (h5.mono x2))
    | sl i =>
      have rr : σ[i]? = some (some v) := rr
      have h : PostG P W σ H M (RD P σ) Q (kept s (keepS g i g[i]?)) := h
      cases q : g[i]? with
      | none => rw [q] at h; exact h.elim
      | some l =>
        rw [q] at h
        cases l with
        | un => exact h.elim
        | fz d =>
          obtain ⟨v', h1, h2⟩ := E.fz i _ q
          rw [rr] at h1; cases h1
          exact h v H' M' E e h2
        | ow xs =>
          obtain ⟨a, vs, h1, h2, h3, h4, E2, x2, r2⟩ := E.freeze q
          rw [rr] at h1; cases h1
          exact h _ H' _ E2 (e.trans x2) r2
  | .ex _ _ _ _, h => h
  | .bad, h => h

variable {X : Cx} {e a b : Expr} {f fa fb : Ga → Sd → Out Rs}
abbrev RS {F : Fx} (P : Par F) : St → Hp → (Addr → Prop) → Ga → V → Rs → Prop := fun σ H M g v r => RsR P σ H M g v r ∧ ∀ xs, r ≠ .nw xs
theorem PE.imp {t t' : TE} (h : PE X e t) (i : ∀ σ H Q, t' σ H Q → t σ H Q) : PE X e t' := ⟨fun pins s σ H Q I q => h.run pins s σ H Q I (i σ H Q q)⟩
theorem PT.imp {t t' : TT} (h : PT X e t) (i : ∀ σ H Q, t' σ H Q → t σ H Q) : PT X e t' := ⟨fun pins s σ H Q I q => h.run pins s σ H Q I (i σ H Q q)⟩
theorem PA.imp {es : List Expr} {t t' : TA} (h : PA X es t) (i : ∀ σ H Q, t' σ H Q → t σ H Q) : PA X es t' := ⟨fun pos pins s σ H Q I q => h.run pos pins s σ H Q I (i σ H Q q)⟩
theorem PS.imp {st : Stmt} {t t' : TS} (h : PS X st t) (i : ∀ D σ H, t' D σ H → t D σ H) : PS X st t' := ⟨fun pins s σ H D I q => h.run pins s σ H D I (i D σ H q)⟩
theorem PSs.imp {st : List Stmt} {t t' : TS} (h : PSs X st t) (i : ∀ D σ H, t' D σ H → t D σ H) : PSs X st t' := ⟨fun pins s σ H D I q => h.run pins s σ H D I (i D σ H q)⟩
abbrev PEd (X : Cx) (F : Fx) (W : WX) (e : Expr) (f : Ga → Sd → Out Rs) : Prop := PE X e (rdG F W RE f)
theorem PEd.settle (h : PEd X F W e f) : PE X e (rdG F W RS fun g s => (f g s).settle) := PE.imp h fun σ H Q ⟨P, g, s, M, E, q⟩ => ⟨P, g, s, M, E, post_settle q⟩
theorem PEd.keep (h : PEd X F W e f) : PE X e (rdG F W RD fun g s => (f g s).keep) := PE.imp h fun σ H Q ⟨P, g, s, M, E, q⟩ => ⟨P, g, s, M, E, post_keep q⟩

/-! ### names, constants -/
theorem d_var {i : Nat} {x : Str} {pos : Pos} (hN : X.N[i]? = some x) (hv : Vis X.env.scope x) (hd : (x == ("__debug__" : Str)) = false) (hcd : (x == ("__classdict__" : Str)) = false) : PEd X F W (.Name x pos) (sVar i) :=
  PE.imp (pe_var hN hv hd hcd) fun σ H Q ⟨P, g, s, M, E, h⟩ => by
    have h : PostG P W σ H M (RE P σ) Q (sVarS i g s g[i]?) := h
    cases q : g[i]? with
    | none => rw [q] at h; exact h.elim
    | some l =>
      rw [q] at h
      cases l with
      | un => exact h.elim
      | fz d =>
        obtain ⟨v, h1, h2⟩ := E.fz i d q
        exact ⟨v, h1, h v H M E (Ex.refl _) h2⟩
      | ow xs =>
        obtain ⟨a, vs, h1, _⟩ := E.ow i xs q
        exact ⟨_, h1, h _ H M E (Ex.refl _) h1⟩
/-- a value that is data without a heap -/
theorem d_val {v : V} {d : D} (h : PE X e (tC v)) (r : ∀ H, Rp F.K F.c H v d) : PEd X F W e (fun g s => .ok (.fz d) g s) :=
  PE.imp h fun σ H Q ⟨P, g, s, M, E, h⟩ => h v H M E (Ex.refl _) (r _)

/-! ### two operands looked at -/
/-- an operation on values does f on data -/
def Two (X : Cx) (F : Fx) (r : R2) (f : D → D → Option Rs) : Prop :=
  ∀ (P : Par F) (σ : St) (H : Hp) (M : Addr → Prop) (g : Ga) (s : Sd) (v w : V) (x y : D) (z : Rs) (Q : VK), En P σ H g s M → PkR P H M v x → PkR P H M w y → f x y = some z →
    (∀ u H' M', En P σ H' g s M' → Ex (hid H M) (hid H' M') → RsR P σ H' M' g u z → Q u H') → r v w H Q
theorem post_two {fn : D → D → Option Rs} {Q : VK} : ∀ {o o' : Option D}, PostG P W σ H M (RE P σ) Q (two fn g s o o') → ∃ x y z, o = some x ∧ o' = some y ∧ fn x y = some z ∧ ∀ u H' M', En P σ H' g s M' → Ex (hid H M) (hid H' M') → RsR P σ H' M' g u z → Q u H'
  | none, _, h => h.elim
  | some _, none, h => h.elim
  | some x, some y, h => by
    have h : PostG P W σ H M (RE P σ) Q (optR (fn x y) g s) := h
    cases q : fn x y with
    | none => rw [q] at h; exact h.elim
    | some z => rw [q] at h; exact ⟨x, y, z, rfl, rfl, q, h⟩
theorem post_one {α : Type} {fn : α → Option Rs} {Q : VK} : ∀ {o : Option α}, PostG P W σ H M (RE P σ) Q (one fn g s o) → ∃ x z, o = some x ∧ fn x = some z ∧ ∀ u H' M', En P σ H' g s M' → Ex (hid H M) (hid H' M') → RsR P σ H' M' g u z → Q u H'
  | none, h => h.elim
  | some x, h => by
    have h : PostG P W σ H M (RE P σ) Q (optR (fn x) g s) := h
    cases q : fn x with
    | none => rw [q] at h; exact h.elim
    | some z => rw [q] at h; exact ⟨x, z, rfl, q, h⟩
theorem rdG.seq {α β α' β' : Type} {R : Par F → St → Hp → (Addr → Prop) → Ga → β → α → Prop} {R' : Par F → St → Hp → (Addr → Prop) → Ga → β' → α' → Prop} {Q' : β' → Hp → Prop} {f : Ga → Sd → Out α} {k : α → Ga → Sd → Out α'} {Q : β → Hp → Prop}
    (E : En P σ H g s M) (h : PostG P W σ H M (R' P σ) Q' ((f g s).bind k))
    (i : ∀ v r H1 g1 s1 M1, En P σ H1 g1 s1 M1 → Ex (hid H M) (hid H1 M1) → R P σ H1 M1 g1 v r → PostG P W σ H1 M1 (R' P σ) Q' (k r g1 s1) → Q v H1) : rdG F W R f σ H Q := by
  refine rdG.mk E ?_
  cases o : f g s with
  | bad => rw [o] at h; exact h.elim
  | ex c d g1 s1 => rw [o] at h; exact h
  | ok r g1 s1 =>
    rw [o] at h
    have h : PostG P W σ H M (R' P σ) Q' (k r g1 s1) := h
    exact fun v H1 M1 E1 x1 rr => i v r H1 g1 s1 M1 E1 x1 rr (PostG.mono x1 h)
theorem two_imp {r : R2} {fn : D → D → Option Rs} (hf : Two X F r fn) : ∀ σ H Q, rdG F W RE (sTwo fn fa fb) σ H Q → tOp r (rdG F W RS fun g s => (fa g s).settle) (rdG F W RS fun g s => (fb g s).settle) σ H Q := by
  rintro σ H Q ⟨P, g, s, M, E, h⟩
  refine rdG.seq (R' := RE) (Q' := Q) E h fun v r1 H1 g1 s1 M1 E1 x1 ⟨rr1, n1⟩ h1 => ?_
  refine rdG.seq (R' := RE) (Q' := Q) E1 h1 fun w r2 H2 g2 s2 M2 E2 x2 ⟨rr2, n2⟩ h2 => ?_
  obtain ⟨x, y, z, p1, p2, p3, h3⟩ := post_two h2
  have rr1s : RsR P σ H2 M2 g2 v r1 := rr1.stay n1 x2
  exact hf P σ H2 M2 g2 s2 v w x y z Q E2 (rr1s.pk E2 p1) (rr2.pk E2 p2) p3 h3
/-- one operand looked at -/
def One (X : Cx) (F : Fx) (r : V → Hp → VK → Prop) (f : D → Option Rs) : Prop :=
  ∀ (P : Par F) (σ : St) (H : Hp) (M : Addr → Prop) (g : Ga) (s : Sd) (v : V) (x : D) (z : Rs) (Q : VK), En P σ H g s M → PkR P H M v x → f x = some z →
    (∀ u H' M', En P σ H' g s M' → Ex (hid H M) (hid H' M') → RsR P σ H' M' g u z → Q u H') → r v H Q
theorem one_imp {r : V → Hp → VK → Prop} {fn : D → Option Rs} (hf : One X F r fn) : ∀ σ H Q, rdG F W RE (sOne fn fa) σ H Q → tUn r (rdG F W RS fun g s => (fa g s).settle) σ H Q := by
  rintro σ H Q ⟨P, g, s, M, E, h⟩
  refine rdG.seq (R' := RE) (Q' := Q) E h fun v r1 H1 g1 s1 M1 E1 x1 ⟨rr1, n1⟩ h1 => ?_
  obtain ⟨x, z, p1, p3, h3⟩ := post_one h1
  exact hf P σ H1 M1 g1 s1 v x z Q E1 (rr1.pk E1 p1) p3 h3
theorem d_un {op : UnaryOp} {r : V → Hp → VK → Prop} {fn : D → Option Rs} {pos : Pos} (ho : UnR X (unaryOp op) r) (hf : One X F r fn) (ha : PEd X F W a fa) : PEd X F W (.UnaryOp op a pos) (sOne fn fa) :=
  PE.imp (pe_un ho ha.settle) (one_imp hf)

/-! ### tests -/
abbrev PTd (X : Cx) (F : Fx) (W : WX) (e : Expr) (f : Ga → Sd → Out Bool) : Prop := PT X e (rdG F W RQ f)
theorem tB_imp {t : TE} (h : ∀ σ H Q, rdG F W RE f σ H Q → t σ H Q) : ∀ σ H Q, rdG F W RQ (tOf f) σ H Q → (fun σ H (Q : Bool → Hp → Prop) => t σ H fun x H1 => ∃ c, x = .bl c ∧ Q c H1) σ H Q := by
  rintro σ H Q ⟨P, g, s, M, E, q⟩
  refine h σ H _ (rdG.seq (R' := RQ) (Q' := Q) E q fun v r H1 g1 s1 M1 E1 x1 rr h1 => ?_)
  cases r with
  | sl i => exact h1.elim
  | nw xs => exact h1.elim
  | fz d =>
    cases d with
    | bl k =>
      have h1 : ∀ v H' M', En P σ H' g1 s1 M' → Ex (hid H1 M1) (hid H' M') → v = k → Q v H' := h1
      cases rr with
      | bl => exact ⟨k, rfl, h1 k H1 M1 E1 (Ex.refl _) rfl⟩
    | _ => exact h1.elim
theorem dt_val (h : PEd X F W e f) (he : ∀ whole, isTrue e X.env whole = (do let v ← whole; standAt e.pos; holding [v] (truthy v))) : PTd X F W e (tOf f) :=
  PT.imp (pt_val h he) (tB_imp fun _ _ _ q => q)
theorem dt_cmp {op : CmpOp} {r : R2} {fn : D → D → Option Rs} {pos : Pos} (ho : OpR X (compareOp op) r) (hf : Two X F r fn) (hm : behindInMarks op b = false) (ha : PEd X F W a fa) (hb : PEd X F W b fb) : PTd X F W (.Compare a [op] [b] pos) (tOf (sTwo fn fa fb)) :=
  PT.imp (pt_cmpR ho ha.settle hb.settle hm) (tB_imp (two_imp hf))
variable {ta tb : Ga → Sd → Out Bool}
theorem dt_not {pos : Pos} (h : PTd X F W a ta) : PTd X F W (.UnaryOp .Not a pos) (tNotF ta) :=
  PT.imp (pt_not h) (by
    rintro σ H Q ⟨P, g, s, M, E, q⟩
    refine rdG.seq (R' := RQ) (Q' := Q) E q fun v r H1 g1 s1 M1 E1 x1 rr h1 => ?_
    subst rr
    exact h1 _ H1 M1 E1 (Ex.refl _) rfl)
end
section
variable {F : Fx} {P : Par F} {W : WX} {X : Cx} {e a b : Expr} {f fa fb : Ga → Sd → Out Rs} {ta tb : Ga → Sd → Out Bool}
abbrev PWd (X : Cx) (F : Fx) (W : WX) (e : Expr) (f : Ga → Sd → Out Bool) : Prop := PW X e (rdG F W RQ f)
theorem PW.imp {t t' : TT} (h : PW X e t) (i : ∀ σ H Q, t' σ H Q → t σ H Q) : PW X e t' := ⟨fun whole pins s σ H Q I q => h.run whole pins s σ H Q I (i σ H Q q)⟩
theorem dw_and1 {pos : Pos} (h : PTd X F W a ta) : PWd X F W (.BoolOp .And [a] pos) ta := pw_and1 h
theorem dw_or1 {pos : Pos} (h : PTd X F W a ta) : PWd X F W (.BoolOp .Or [a] pos) ta := pw_or1 h
theorem dw_and {pos : Pos} {rest : List Expr} (ha : PTd X F W a ta) (hb : PWd X F W (.BoolOp .And (b :: rest) pos) tb) : PWd X F W (.BoolOp .And (a :: b :: rest) pos) (tAndF ta tb) :=
  PW.imp (pw_and ha hb) (by
    rintro σ H Q ⟨P, g, s, M, E, q⟩
    refine rdG.seq (R' := RQ) (Q' := Q) E q fun v r H1 g1 s1 M1 E1 x1 rr h1 => ?_
    subst rr
    cases v with
    | true => exact ⟨P, g1, s1, M1, E1, h1⟩
    | false => exact h1 _ H1 M1 E1 (Ex.refl _) rfl)
theorem dw_or {pos : Pos} {rest : List Expr} (ha : PTd X F W a ta) (hb : PWd X F W (.BoolOp .Or (b :: rest) pos) tb) : PWd X F W (.BoolOp .Or (a :: b :: rest) pos) (tOrF ta tb) :=
  PW.imp (pw_or ha hb) (by
    rintro σ H Q ⟨P, g, s, M, E, q⟩
    refine rdG.seq (R' := RQ) (Q' := Q) E q fun v r H1 g1 s1 M1 E1 x1 rr h1 => ?_
    subst rr
    cases v with
    | false => exact ⟨P, g1, s1, M1, E1, h1⟩
    | true => exact h1 _ H1 M1 E1 (Ex.refl _) rfl)
theorem post_and {σ : St} {H : Hp} {g : Ga} {s : Sd} {M : Addr → Prop} {r : Rs} {v : V} {Q : VK} (E : En P σ H g s M) (rr : RsR P σ H M g v r)
    (h : PostG P W σ H M (RE P σ) Q (match (generalizing := false) r with | .fz (.bl true) => fb g s | .fz (.bl false) => .ok (.fz (.bl false)) g s | _ => .bad)) : ∃ c, v = .bl c ∧ if c = true then rdG F W RE fb σ H Q else Q (.bl false) H := by
  cases r with
  | sl i => exact h.elim
  | nw xs => exact h.elim
  | fz d =>
    cases d with
    | bl k =>
      cases rr with
      | bl =>
        cases k with
        | true => exact ⟨true, rfl, by rw [if_pos rfl]; exact ⟨P, g, s, M, E, h⟩⟩
        | false => exact ⟨false, rfl, by rw [if_neg Bool.false_ne_true]; exact h _ H M E (Ex.refl _) (.bl false)⟩
    | _ => exact h.elim
theorem d_one {op} {pos : Pos} (h : PEd X F W a fa) : PEd X F W (.BoolOp op [a] pos) fa := pe_one h
theorem d_and {pos : Pos} {rest : List Expr} (ha : PEd X F W a fa) (hb : PEd X F W (.BoolOp .And (b :: rest) pos) fb) : PEd X F W (.BoolOp .And (a :: b :: rest) pos) (sAnd fa fb) :=
  PE.imp (pe_and ha hb) (by
    rintro σ H Q ⟨P, g, s, M, E, q⟩
    exact rdG.seq (R' := RE) (Q' := Q) E q fun v r H1 g1 s1 M1 E1 x1 rr h1 => post_and E1 rr h1)
theorem d_or {pos : Pos} {rest : List Expr} (ha : PEd X F W a fa) (hb : PEd X F W (.BoolOp .Or (b :: rest) pos) fb) : PEd X F W (.BoolOp .Or (a :: b :: rest) pos) (sOr fa fb) :=
  PE.imp (pe_or ha hb) (by
    rintro σ H Q ⟨P, g, s, M, E, q⟩
    refine rdG.seq (R' := RE) (Q' := Q) E q fun v r H1 g1 s1 M1 E1 x1 rr h => ?_
    cases r with
    | sl i => exact h.elim
    | nw xs => exact h.elim
    | fz d =>
      cases d with
      | bl k =>
        cases rr with
        | bl =>
          cases k with
          | false => exact ⟨false, rfl, by rw [if_neg Bool.false_ne_true]; exact ⟨P, g1, s1, M1, E1, h⟩⟩
          | true => exact ⟨true, rfl, by rw [if_pos rfl]; exact h _ H1 M1 E1 (Ex.refl _) (.bl true)⟩
      | _ => exact h.elim)
theorem d_not {pos : Pos} (ha : PEd X F W a fa) : PEd X F W (.UnaryOp .Not a pos) (sOne notF fa) :=
  PE.imp (pe_not ha.settle) (by
    rintro σ H Q ⟨P, g, s, M, E, h⟩
    refine rdG.seq (R' := RE) (Q' := Q) E h fun v r1 H1 g1 s1 M1 E1 x1 ⟨rr1, n1⟩ h1 => ?_
    obtain ⟨x, z, p1, p3, h3⟩ := post_one h1
    cases x with
    | bl k =>
      cases p3
      exact ⟨k, (rr1.pk E1 p1).bl, h3 _ H1 M1 E1 (Ex.refl _) (.bl _)⟩
    | _ => cases p3)
theorem d_ite {c : Expr} {pos : Pos} (hc : PTd X F W c ta) (ha : PEd X F W a fa) (hb : PEd X F W b fb) : PEd X F W (.IfExp c a b pos) (sIte ta fa fb) :=
  PE.imp (pe_ifExp hc ha hb) (by
    rintro σ H Q ⟨P, g, s, M, E, q⟩
    refine rdG.seq (R' := RE) (Q' := Q) E q fun v r H1 g1 s1 M1 E1 x1 rr h1 => ?_
    subst rr
    cases v with
    | true => show (if true = true then _ else _); rw [if_pos rfl]; exact ⟨P, g1, s1, M1, E1, h1⟩
    | false => show (if false = true then _ else _); rw [if_neg Bool.false_ne_true]; exact ⟨P, g1, s1, M1, E1, h1⟩)
end
section
variable {F : Fx} {P : Par F} {W : WX} {X : Cx} {e a b : Expr} {f fa fb : Ga → Sd → Out Rs} {ta tb : Ga → Sd → Out Bool}
theorem d_bin {op : Operator} {r : R2} {fn : D → D → Option Rs} {pos : Pos} (ho : OpR X (binaryOp op) r) (hf : Two X F r fn) (ha : PEd X F W a fa) (hb : PEd X F W b fb) : PEd X F W (.BinOp a op b pos) (sTwo fn fa fb) :=
  PE.imp (pe_op ho ha.settle hb.settle) (two_imp hf)
theorem d_cmp {op : CmpOp} {r : R2} {fn : D → D → Option Rs} {pos : Pos} (ho : OpR X (compareOp op) r) (hf : Two X F r fn) (hm : behindInMarks op b = false) (ha : PEd X F W a fa) (hb : PEd X F W b fb) : PEd X F W (.Compare a [op] [b] pos) (sTwo fn fa fb) :=
  PE.imp (pe_cmpR ho ha.settle hb.settle hm) (two_imp hf)
theorem d_ix {r : R2} {fn : D → D → Option Rs} {pos : Pos} (hr : IxR X r) (hf : Two X F r fn) (hs : PlainIx b) (ha : PEd X F W a fa) (hb : PEd X F W b fb) : PEd X F W (.Subscript a b pos) (sTwo fn fa fb) :=
  PE.imp (pe_ix hr ha.settle hb.settle hs) (two_imp hf)
end
end DI
end
section
set_option Elab.async false
set_option linter.all false
set_option maxRecDepth 100000
set_option maxHeartbeats 1000000
/-! DIOps: operations, comparisons, items. -/
namespace DI
open PySem L2
section
variable {F : Fx} {P : Par F} {σ : St} {H : Hp} {g : Ga} {s : Sd} {M : Addr → Prop} {X : Cx}
theorem En.nwList (E : En P σ H g s M) {p : Addr} (hp : H p = none) {vs : List V} {xs : List D} (hl : RpL P.K P.c (hid H M) vs xs) :
    En P σ (upd H p (.lst vs)) g s (fun b => M b ∨ b = p) ∧ Ex (hid H M) (hid (upd H p (.lst vs)) (fun b => M b ∨ b = p)) ∧ RsR P σ (upd H p (.lst vs)) (fun b => M b ∨ b = p) g (.ref p) (.nw xs) := by
  obtain ⟨E2, x2, no, n0, h0⟩ := E.own hp (.lst vs)
  exact ⟨E2, x2, p, vs, rfl, .inr rfl, n0, upd_same, hl.mono x2, no⟩
theorem En.nwTup (E : En P σ H g s M) {p : Addr} (hp : H p = none) {vs : List V} {xs : List D} (hl : RpL P.K P.c (hid H M) vs xs) :
    En P σ (upd H p (.tup vs)) g s M ∧ Ex (hid H M) (hid (upd H p (.tup vs)) M) ∧ RsR P σ (upd H p (.tup vs)) M g (.ref p) (.fz (.tup xs)) := by
  obtain ⟨E2, x2, np⟩ := E.alloc hp (.tup vs)
  exact ⟨E2, x2, Rp.tup (SqT.of (by rw [hid_of np]; exact upd_same)) (hl.mono x2)⟩
theorem lineOk_le {n : Nat} (h : lineOk n = true) : n ≤ sizeLine := of_decide_eq_true h
theorem small_le {i : Int} (h : small i = true) : -(2 ^ 62) ≤ i ∧ i < 2 ^ 62 := by
  unfold small at h
  rw [Bool.and_eq_true, decide_eq_true_eq, decide_eq_true_eq] at h
  exact h
theorem small_mul {i : Int} (h : small i = true) : -(2 ^ 64) < i ∧ i < 2 ^ 64 := by
  have := small_le h
  omega

/-! ### + - * // % ** -/
def rAddS : R2 := fun x y H Q => ∃ i j, x = .str i ∧ y = .str j ∧ i.length + j.length ≤ sizeLine ∧ Q (.str (i ++ j)) H
theorem op_addA : OpR X (binaryOp .Add) (fun x y H Q => rI0 (fun i j => .int (i + j)) x y H Q ∨ (fun x y H Q => rAddS x y H Q ∨ rCat x y H Q) x y H Q) := OpR.or op_add (OpR.or op_add_str op_cat)
theorem two_add : Two X F (fun x y H Q => rI0 (fun i j => .int (i + j)) x y H Q ∨ (fun x y H Q => rAddS x y H Q ∨ rCat x y H Q) x y H Q) (binF .add) := by
  intro P σ H M g s v w x y z Q E hv hw e k
  cases x with
  | int i =>
    cases y with
    | int j => cases e; exact .inl ⟨i, j, hv.int, hw.int, k _ H M E (Ex.refl _) (.int _)⟩
    | _ => cases e
  | str a =>
    cases y with
    | str b =>
      have e : (if lineOk (a.length + b.length) then some (Rs.fz (.str (a ++ b))) else none) = some z := e
      by_cases h : lineOk (a.length + b.length) = true
      · rw [if_pos h] at e
        cases e
        exact .inr (.inl ⟨a, b, hv.str, hw.str, lineOk_le h, k _ H M E (Ex.refl _) (.str _)⟩)
      · rw [if_neg h] at e; cases e
    | _ => cases e
  | lst xs =>
    cases y with
    | lst ys =>
      have e : (if lineOk (xs.length + ys.length) then some (Rs.nw (xs ++ ys)) else none) = some z := e
      by_cases h : lineOk (xs.length + ys.length) = true
      · rw [if_pos h] at e
        cases e
        obtain ⟨a, vs, rfl, h1, h2⟩ := hv.lst
        obtain ⟨b, ws, rfl, h3, h4⟩ := hw.lst
        refine .inr (.inr ⟨a, b, vs, ws, rfl, rfl, h1, h3, by rw [h2.length, h4.length]; exact lineOk_le h, fun p hp => ?_⟩)
        obtain ⟨E2, x2, r2⟩ := E.nwList hp (h2.append h4)
        exact k _ _ _ E2 x2 r2
      · rw [if_neg h] at e; cases e
    | _ => cases e
  | _ => cases y <;> cases e
theorem two_sub : Two X F (rI0 fun i j => .int (i - j)) (binF .sub) := by
  intro P σ H M g s v w x y z Q E hv hw e k
  cases x with
  | int i =>
    cases y with
    | int j => cases e; exact ⟨i, j, hv.int, hw.int, k _ H M E (Ex.refl _) (.int _)⟩
    | _ => cases e
  | _ => cases y <;> cases e
theorem op_mulA : OpR X (binaryOp .Mult) (fun x y H Q => rI CMul (fun i j => .int (i * j)) x y H Q ∨ rRep x y H Q) := OpR.or op_mul op_rep
theorem two_mul : Two X F (fun x y H Q => rI CMul (fun i j => .int (i * j)) x y H Q ∨ rRep x y H Q) (binF .mul) := by
  intro P σ H M g s v w x y z Q E hv hw e k
  cases x with
  | int i =>
    cases y with
    | int j =>
      have e : (if small i && small j then some (Rs.fz (.int (i * j))) else none) = some z := e
      by_cases h : (small i && small j) = true
      · rw [if_pos h] at e
        cases e
        rw [Bool.and_eq_true] at h
        exact .inl ⟨i, j, hv.int, hw.int, .inl (small_mul h.1), k _ H M E (Ex.refl _) (.int _)⟩
      · rw [if_neg h] at e; cases e
    | _ => cases e
  | lst xs =>
    cases y with
    | int n =>
      have e : (if small n && lineOk (xs.length * n.toNat) then some (Rs.nw (List.replicate n.toNat xs).flatten) else none) = some z := e
      by_cases h : (small n && lineOk (xs.length * n.toNat)) = true
      · rw [if_pos h] at e
        cases e
        rw [Bool.and_eq_true] at h
        have b := small_le h.1
        obtain ⟨a, vs, rfl, h1, h2⟩ := hv.lst
        refine .inr ⟨a, n, vs, rfl, hw.int, h1, by omega, by omega, by rw [h2.length]; exact lineOk_le h.2, fun p hp => ?_⟩
        obtain ⟨E2, x2, r2⟩ := E.nwList hp (h2.rep n.toNat)
        exact k _ _ _ E2 x2 r2
      · rw [if_neg h] at e; cases e
    | _ => cases e
  | _ => cases y <;> cases e
theorem two_fdiv : Two X F (rI CDiv fun i j => .int (i / j)) (binF .fdiv) := by
  intro P σ H M g s v w x y z Q E hv hw e k
  cases x with
  | int i =>
    cases y with
    | int j =>
      have e : (if decide (0 < j) && decide (j < 1073741824) then some (Rs.fz (.int (i / j))) else none) = some z := e
      by_cases h : (decide (0 < j) && decide (j < 1073741824)) = true
      · rw [if_pos h] at e
        cases e
        rw [Bool.and_eq_true, decide_eq_true_eq, decide_eq_true_eq] at h
        exact ⟨i, j, hv.int, hw.int, h, k _ H M E (Ex.refl _) (.int _)⟩
      · rw [if_neg h] at e; cases e
    | _ => cases e
  | _ => cases y <;> cases e
theorem two_mod : Two X F (rI (fun _ j => 0 < j) fun i j => .int (i % j)) (binF .mod) := by
  intro P σ H M g s v w x y z Q E hv hw e k
  cases x with
  | int i =>
    cases y with
    | int j =>
      have e : (if decide (0 < j) then some (Rs.fz (.int (i % j))) else none) = some z := e
      by_cases h : decide (0 < j) = true
      · rw [if_pos h] at e
        cases e
        rw [decide_eq_true_eq] at h
        exact ⟨i, j, hv.int, hw.int, h, k _ H M E (Ex.refl _) (.int _)⟩
      · rw [if_neg h] at e; cases e
    | _ => cases e
  | _ => cases y <;> cases e
theorem two_pow : Two X F (rI CPow fun i j => .int (i ^ j.toNat)) (binF .pow) := by
  intro P σ H M g s v w x y z Q E hv hw e k
  cases x with
  | int i =>
    cases y with
    | int j =>
      have e : (if decide (0 ≤ j) && decide (j ≤ 1000) && small i then some (Rs.fz (.int (i ^ j.toNat))) else none) = some z := e
      by_cases h : (decide (0 ≤ j) && decide (j ≤ 1000) && small i) = true
      · rw [if_pos h] at e
        cases e
        rw [Bool.and_eq_true, Bool.and_eq_true, decide_eq_true_eq, decide_eq_true_eq] at h
        have b := small_le h.2
        exact ⟨i, j, hv.int, hw.int, ⟨h.1.1, by omega, by omega⟩, k _ H M E (Ex.refl _) (.int _)⟩
      · rw [if_neg h] at e; cases e
    | _ => cases e
  | _ => cases y <;> cases e
theorem one_neg : One X F (rU fun i => .int (-i)) negF := by
  intro P σ H M g s v x z Q E hv e k
  cases x with
  | int i => cases e; exact ⟨i, hv.int, k _ H M E (Ex.refl _) (.int _)⟩
  | _ => cases e

/-! ### comparisons -/
theorem two_cmp {r : R2} {o : Cop} (h : ∀ (P : Par F) (H : Hp) (M : Addr → Prop) (v w : V) (x y : D) (b : Bool) (Q : VK), PkR P H M v x → PkR P H M w y → cmpF o x y = some b → Q (.bl b) H → r v w H Q) :
    Two X F r (fun x y => (cmpF o x y).map fun k => .fz (.bl k)) := by
  intro P σ H M g s v w x y z Q E hv hw e k
  have e : (cmpF o x y).map (fun k => Rs.fz (.bl k)) = some z := e
  cases q : cmpF o x y with
  | none => rw [q] at e; cases e
  | some b => rw [q] at e; cases e; exact h P H M v w x y b Q hv hw q (k _ H M E (Ex.refl _) (.bl b))
theorem two_lt : Two X F (rI0 fun i j => .bl (decide (i < j))) (fun x y => (cmpF .lt x y).map fun k => .fz (.bl k)) := two_cmp fun P H M v w x y b Q hv hw e q => by
  cases x with
  | int i => cases y with
    | int j => cases e; exact ⟨i, j, hv.int, hw.int, q⟩
    | _ => cases e
  | _ => cases y <;> cases e
theorem two_le : Two X F (rI0 fun i j => .bl (decide (i ≤ j))) (fun x y => (cmpF .le x y).map fun k => .fz (.bl k)) := two_cmp fun P H M v w x y b Q hv hw e q => by
  cases x with
  | int i => cases y with
    | int j => cases e; exact ⟨i, j, hv.int, hw.int, q⟩
    | _ => cases e
  | _ => cases y <;> cases e
theorem two_gt : Two X F (rI0 fun i j => .bl (decide (j < i))) (fun x y => (cmpF .gt x y).map fun k => .fz (.bl k)) := two_cmp fun P H M v w x y b Q hv hw e q => by
  cases x with
  | int i => cases y with
    | int j => cases e; exact ⟨i, j, hv.int, hw.int, q⟩
    | _ => cases e
  | _ => cases y <;> cases e
theorem two_ge : Two X F (rI0 fun i j => .bl (decide (j ≤ i))) (fun x y => (cmpF .ge x y).map fun k => .fz (.bl k)) := two_cmp fun P H M v w x y b Q hv hw e q => by
  cases x with
  | int i => cases y with
    | int j => cases e; exact ⟨i, j, hv.int, hw.int, q⟩
    | _ => cases e
  | _ => cases y <;> cases e
theorem eqF_some {a b : D} {k : Bool} (h : eqF a b = some k) : ∃ x y, a.pd = some x ∧ b.pd = some y ∧ SeqAt.shaped x = true ∧ SeqAt.shaped y = true ∧ k = PyData.eqv x y := by
  unfold eqF at h
  cases p : a.pd with
  | none => rw [p] at h; cases h
  | some x =>
    cases q : b.pd with
    | none => rw [p, q] at h; cases h
    | some y =>
      rw [p, q] at h
      have h : (if SeqAt.shaped x && SeqAt.shaped y then some (PyData.eqv x y) else none) = some k := h
      by_cases c : (SeqAt.shaped x && SeqAt.shaped y) = true
      · rw [if_pos c] at h
        rw [Bool.and_eq_true] at c
        exact ⟨x, y, rfl, rfl, c.1, c.2, (Option.some.inj h).symm⟩
      · rw [if_neg c] at h; cases h
theorem two_eq : Two X F (rEqD F.K) (fun x y => (cmpF .eq x y).map fun k => .fz (.bl k)) := two_cmp fun P H M v w x y b Q hv hw e q => by
  obtain ⟨p1, p2, h1, h2, h3, h4, rfl⟩ := eqF_some (show eqF x y = some b from e)
  exact ⟨p1, p2, hv.rp.dp h1, hw.rp.dp h2, h3, h4, q⟩
theorem two_ne : Two X F (rNeD F.K) (fun x y => (cmpF .ne x y).map fun k => .fz (.bl k)) := two_cmp fun P H M v w x y b Q hv hw e q => by
  have e : (eqF x y).map (!·) = some b := e
  cases c : eqF x y with
  | none => rw [c] at e; cases e
  | some k =>
    rw [c] at e
    cases e
    obtain ⟨p1, p2, h1, h2, h3, h4, rfl⟩ := eqF_some c
    exact ⟨p1, p2, hv.rp.dp h1, hw.rp.dp h2, h3, h4, q⟩
theorem Rp.isN {K : PySem.W.Frag} {c : Addr} {H : Hp} {v : V} {x : D} (h : Rp K c H v x) : decide (v = .non) = x.isNon := by
  cases h <;> simp [D.isNon]
theorem two_isN : Two X F (fun x y H Q => y = .non ∧ Q (.bl (decide (x = .non))) H) (fun x y => (cmpF .isN x y).map fun k => .fz (.bl k)) := two_cmp fun P H M v w x y b Q hv hw e q => by
  cases y with
  | non =>
    have e : some x.isNon = some b := e
    refine ⟨hw.non, ?_⟩
    rw [hv.rp.isN, Option.some.inj e]; exact q
  | _ => cases e
theorem two_notN : Two X F (fun x y H Q => y = .non ∧ Q (.bl (!decide (x = .non))) H) (fun x y => (cmpF .notN x y).map fun k => .fz (.bl k)) := two_cmp fun P H M v w x y b Q hv hw e q => by
  cases y with
  | non =>
    have e : some (!x.isNon) = some b := e
    refine ⟨hw.non, ?_⟩
    rw [hv.rp.isN, Option.some.inj e]; exact q
  | _ => cases e

/-! ### items -/
theorem RpL.atI {K : PySem.W.Frag} {c : Addr} {H : Hp} {vs : List V} {ds : List D} {i : Int} {d : D} (h : RpL K c H vs ds) (e : L2.atI ds i = some d) : ∃ v, L2.atI vs i = some v ∧ Rp K c H v d := by
  unfold L2.atI at e ⊢
  rw [h.length]
  cases q : ixN ds.length i with
  | none => rw [q] at e; cases e
  | some j => rw [q] at e; exact h.get e
theorem two_ix : Two X F (rIx F.K) (fun x y => (subF x y).map .fz) := by
  intro P σ H M g s v w x y z Q E hv hw e k
  cases x with
  | lst xs =>
    cases y with
    | int i =>
      have e : (atI xs i).map Rs.fz = some z := e
      cases q : atI xs i with
      | none => rw [q] at e; cases e
      | some d =>
        rw [q] at e
        cases e
        obtain ⟨a, vs, rfl, h1, h2⟩ := hv.lst
        obtain ⟨u, h3, h4⟩ := h2.atI q
        exact .inl ⟨a, vs, i, u, rfl, hw.int, SqL.of h1, h3, k _ H M E (Ex.refl _) h4⟩
    | _ => cases e
  | tup xs =>
    cases y with
    | int i =>
      have e : (atI xs i).map Rs.fz = some z := e
      cases q : atI xs i with
      | none => rw [q] at e; cases e
      | some d =>
        rw [q] at e
        cases e
        obtain ⟨a, vs, rfl, h1, h2⟩ := hv.tup
        obtain ⟨u, h3, h4⟩ := h2.atI q
        exact .inr (.inl ⟨a, vs, i, u, rfl, hw.int, h1, h3, k _ H M E (Ex.refl _) h4⟩)
    | _ => cases e
  | str t =>
    cases y with
    | int i =>
      have e : (if lineOk t.length then (atI t.cps.toList i).map (fun c => D.str ⟨#[c]⟩) else none).map Rs.fz = some z := e
      by_cases h : lineOk t.length = true
      · rw [if_pos h] at e
        cases q : atI t.cps.toList i with
        | none => rw [q] at e; cases e
        | some c =>
          rw [q] at e
          cases e
          exact .inr (.inr ⟨t, i, c, hv.str, hw.int, lineOk_le h, q, k _ H M E (Ex.refl _) (.str _)⟩)
      · rw [if_neg h] at e; cases e
    | _ => cases e
  | _ => cases y <;> cases e
end
end DI
end
section
set_option Elab.async false
set_option linter.all false
set_option maxRecDepth 100000
set_option maxHeartbeats 1000000
/-! DIArgs: argument lists, displays, slices, calls of built-ins, parallel assignment's values. -/
namespace DI
open PySem L2
def isStar : Expr → Bool
  | .Starred _ _ => true
  | _ => false
theorem star_cons {e : Expr} {es : List Expr} {env : PySem.Env} (h : isStar e = false) : starEach (e :: es) env = (false, eval e env) :: starEach es env := by
  cases e <;> first
    | rfl
    | cases h
theorem star_any : ∀ {es : List Expr} {env : PySem.Env} {pos : Pos}, es.all (fun e => !isStar e) = true → (backTo pos (starEach es env)).any (·.1) = false
  | [], _, _, _ => rfl
  | e :: es, env, pos, h => by
    rw [List.all_cons, Bool.and_eq_true] at h
    have h1 : isStar e = false := by simpa using h.1
    rw [star_cons h1]
    have := star_any (es := es) (env := env) (pos := pos) h.2
    simpa [backTo] using this
def noStar (es : List Expr) : Bool := es.all fun e => !isStar e
section
variable {F : Fx} {P : Par F} {W : WX} {σ : St} {H : Hp} {g : Ga} {s : Sd} {M : Addr → Prop} {X : Cx} {e a b : Expr} {es : List Expr} {f fa fb : Ga → Sd → Out Rs}
abbrev PAd (X : Cx) (F : Fx) (W : WX) (es : List Expr) (f : Ga → Sd → Out (List D)) : Prop := PA X es (rdG F W RA f)
abbrev PLd (X : Cx) (F : Fx) (W : WX) (es : List Expr) (f : Ga → Sd → Out (List Rs)) : Prop := PA X es (rdG F W RL f)
theorem PA.impA {t t' : TA} (h : PA X es t) (i : ∀ σ H Q, t' σ H Q → t σ H Q) : PA X es t' := PA.imp h i
theorem da_nil : PAd X F W [] (fun g s => .ok [] g s) := PA.imp pa_nil fun σ H Q ⟨P, g, s, M, E, h⟩ => h [] H M E (Ex.refl _) .nil
theorem dl_nil : PLd X F W [] (fun g s => .ok [] g s) := PA.imp pa_nil fun σ H Q ⟨P, g, s, M, E, h⟩ => h [] H M E (Ex.refl _) .nil
theorem da_cons {fr : Ga → Sd → Out (List D)} (ha : PEd X F W e f) (hr : PAd X F W es fr) (hs : isStar e = false) : PAd X F W (e :: es) (aCons f fr) :=
  PA.imp (pa_cons ha.keep hr (star_cons hs)) (by
    rintro σ H Q ⟨P, g, s, M, E, h⟩
    refine rdG.seq (R' := RA) (Q' := Q) E h fun v d H1 g1 s1 M1 E1 x1 r1 h1 => ?_
    refine rdG.seq (R' := RA) (Q' := Q) E1 h1 fun vs ds H2 g2 s2 M2 E2 x2 r2 h2 => ?_
    exact h2 _ H2 M2 E2 (Ex.refl _) (.cons (Rp.mono x2 r1) r2))
theorem RsL.stay {vs : List V} {rs : List Rs} {H1 : Hp} {M1 : Addr → Prop} {g1 : Ga} (x : Ex (hid H M) (hid H1 M1)) : RsL P σ H M g vs rs → RsL P σ H1 M1 g1 vs rs := by
  intro h
  induction h with
  | nil => exact .nil
  | cons r n _ ih => exact .cons (r.stay n x) n ih
theorem dl_cons {fr : Ga → Sd → Out (List Rs)} (ha : PEd X F W e f) (hr : PLd X F W es fr) (hs : isStar e = false) : PLd X F W (e :: es) (lCons f fr) :=
  PA.imp (pa_cons ha.settle hr (star_cons hs)) (by
    rintro σ H Q ⟨P, g, s, M, E, h⟩
    refine rdG.seq (R' := RL) (Q' := Q) E h fun v d H1 g1 s1 M1 E1 x1 ⟨r1, n1⟩ h1 => ?_
    refine rdG.seq (R' := RL) (Q' := Q) E1 h1 fun vs ds H2 g2 s2 M2 E2 x2 r2 h2 => ?_
    exact h2 _ H2 M2 E2 (Ex.refl _) (.cons (r1.stay n1 x2) n1 r2))
theorem RsL.pk (E : En P σ H g s M) : ∀ {vs : List V} {rs : List Rs} {ds : List D}, RsL P σ H M g vs rs → peeks g rs = some ds → PkL P H M vs ds
  | _, _, ds, .nil, e => by cases e; exact .nil
  | _, _, ds, .cons (r := r) (rs := rs) h n t, e => by
    unfold peeks at e
    cases q : peek g r with
    | none => rw [q] at e; cases e
    | some d =>
      cases q2 : peeks g rs with
      | none => rw [q, q2] at e; cases e
      | some ds' =>
        rw [q, q2] at e
        cases e
        exact .cons (h.pk E q) (RsL.pk E t q2)

/-! ### displays -/
theorem d_lst {fs : Ga → Sd → Out (List D)} {pos : Pos} (h : PAd X F W es fs) : PEd X F W (.List es pos) (sLst fs) :=
  PE.imp (pe_lst h) (by
    rintro σ H Q ⟨P, g, s, M, E, h⟩
    refine rdG.seq (R' := RE) (Q' := Q) E h fun vs ds H1 g1 s1 M1 E1 x1 r1 h1 => ?_
    by_cases c : lineOk ds.length = true
    · rw [if_pos c] at h1
      refine ⟨by rw [RpL.length r1]; exact lineOk_le c, fun p hp => ?_⟩
      obtain ⟨E2, x2, r2⟩ := E1.nwList hp r1
      exact h1 _ _ _ E2 x2 r2
    · rw [if_neg c] at h1; exact h1.elim)
theorem d_tup {fs : Ga → Sd → Out (List D)} {pos : Pos} {k : Nat} (h : PAd X F W es fs) : PEd X F W (.Tuple es k pos) (sTup fs) :=
  PE.imp (pe_tup h) (by
    rintro σ H Q ⟨P, g, s, M, E, h⟩
    refine rdG.seq (R' := RE) (Q' := Q) E h fun vs ds H1 g1 s1 M1 E1 x1 r1 h1 => ?_
    by_cases c : lineOk ds.length = true
    · rw [if_pos c] at h1
      refine ⟨by rw [RpL.length r1]; exact lineOk_le c, fun p hp => ?_⟩
      obtain ⟨E2, x2, r2⟩ := E1.nwTup hp r1
      exact h1 _ _ _ E2 x2 r2
    · rw [if_neg c] at h1; exact h1.elim)

/-! ### slices -/
abbrev POd (X : Cx) (F : Fx) (W : WX) (e : Option Expr) (f : Ga → Sd → Out (Option Int)) : Prop := PO X e (rdG F W RQ f)
theorem PO.imp {e : Option Expr} {t t' : TO} (h : PO X e t) (i : ∀ σ H Q, t' σ H Q → t σ H Q) : PO X e t' := ⟨fun pins s σ H Q I q => h.run pins s σ H Q I (i σ H Q q)⟩
theorem do_none : POd X F W none (fun g s => .ok none g s) := PO.imp po_none fun σ H Q ⟨P, g, s, M, E, h⟩ => h none H M E (Ex.refl _) rfl
theorem do_some (h : PEd X F W e f) : POd X F W (some e) (pOf f) :=
  PO.imp (po_some h) (by
    rintro σ H Q ⟨P, g, s, M, E, q⟩
    refine rdG.seq (R' := RQ) (Q' := Q) E q fun v r H1 g1 s1 M1 E1 x1 rr h1 => ?_
    cases r with
    | sl i => exact h1.elim
    | nw xs => exact h1.elim
    | fz d =>
      cases d with
      | int k =>
        cases rr with
        | int => exact ⟨k, rfl, h1 _ H1 M1 E1 (Ex.refl _) rfl⟩
      | _ => exact h1.elim)
theorem d_slc {lo hi : Option Expr} {fl fh : Ga → Sd → Out (Option Int)} {p2 pos : Pos} (ha : PEd X F W a fa) (hl : POd X F W lo fl) (hh : POd X F W hi fh) (hK : X.K = F.K) : PEd X F W (.Subscript a (.Slice lo hi none p2) pos) (sSlc fa fl fh) :=
  PE.imp (pe_slice (SlR.or sl_list sl_tup) ha.settle hl hh) (by
    rintro σ H Q ⟨P, g, s, M, E, h⟩
    refine rdG.seq (R' := RE) (Q' := Q) E h fun v r1 H1 g1 s1 M1 E1 x1 ⟨rr1, n1⟩ h1 => ?_
    refine rdG.seq (R' := RE) (Q' := Q) E1 h1 fun l r2 H2 g2 s2 M2 E2 x2 rr2 h2 => ?_
    subst rr2
    refine rdG.seq (R' := RE) (Q' := Q) E2 h2 fun u r3 H3 g3 s3 M3 E3 x3 rr3 h3 => ?_
    subst rr3
    obtain ⟨x, z, p1, p3, h4⟩ := post_one h3
    have pk := (rr1.stay (g1 := g3) n1 (x2.trans x3)).pk E3 p1
    cases x with
    | lst xs =>
      cases p3
      obtain ⟨c, ws, rfl, k1, k2⟩ := pk.lst
      refine .inl ⟨c, ws, rfl, SqL.of k1, fun p hp => ?_⟩
      obtain ⟨E4, x4, r4⟩ := E3.nwList hp (k2.cut l u)
      exact h4 _ _ _ E4 x4 r4
    | tup xs =>
      have p3 : (if HT.sIx xs.length 0 l = 0 ∧ HT.sIx xs.length xs.length u = xs.length then none else some (Rs.fz (.tup (cutL xs l u)))) = some z := p3
      obtain ⟨c, ws, rfl, k1, k2⟩ := pk.tup
      by_cases w : HT.sIx xs.length 0 l = 0 ∧ HT.sIx xs.length xs.length u = xs.length
      · rw [if_pos w] at p3; cases p3
      · rw [if_neg w] at p3
        cases p3
        refine .inr ⟨c, ws, rfl, by rw [hK]; exact k1, by rw [k2.length]; exact w, fun p hp => ?_⟩
        obtain ⟨E4, x4, r4⟩ := E3.nwTup hp (k2.cut l u)
        exact h4 _ _ _ E4 x4 r4
    | _ => cases p3)

/-! ### calls of built-ins -/
/-- a call on values does fn on data -/
def Many (X : Cx) (F : Fx) (r : List V → Hp → VK → Prop) (fn : List D → Option Rs) : Prop :=
  ∀ (P : Par F) (σ : St) (H : Hp) (M : Addr → Prop) (g : Ga) (s : Sd) (vs : List V) (ds : List D) (z : Rs) (Q : VK), En P σ H g s M → PkL P H M vs ds → fn ds = some z →
    (∀ u H' M', En P σ H' g s M' → Ex (hid H M) (hid H' M') → RsR P σ H' M' g u z → Q u H') → r vs H Q
theorem many_imp {r : List V → Hp → VK → Prop} {fn : List D → Option Rs} {fs : Ga → Sd → Out (List Rs)} (hf : Many X F r fn) : ∀ σ H Q, rdG F W RE (sBi fn fs) σ H Q → (fun σ H Q => rdG F W RL fs σ H fun xs H1 => r xs H1 Q) σ H Q := by
  rintro σ H Q ⟨P, g, s, M, E, h⟩
  refine rdG.seq (R' := RE) (Q' := Q) E h fun vs rs H1 g1 s1 M1 E1 x1 rr h1 => ?_
  obtain ⟨ds, z, p1, p3, h3⟩ := post_one h1
  exact hf P σ H1 M1 g1 s1 vs ds z Q E1 (RsL.pk E1 rr p1) p3 h3
end
end DI
end
section
set_option Elab.async false
set_option linter.all false
set_option maxRecDepth 100000
set_option maxHeartbeats 1000000
/-! DIBi: built-ins, isinstance, in. -/
namespace DI
open PySem L2
section
variable {F : Fx} {P : Par F} {W : WX} {σ : St} {H : Hp} {g : Ga} {s : Sd} {M : Addr → Prop} {X : Cx} {e a b : Expr} {es : List Expr} {f fa fb : Ga → Sd → Out Rs}
theorem PkL.one {vs : List V} {d : D} (h : PkL P H M vs [d]) : ∃ v, vs = [v] ∧ PkR P H M v d := by
  cases h with
  | cons h t => cases t; exact ⟨_, rfl, h⟩
theorem PkL.two {vs : List V} {d d' : D} (h : PkL P H M vs [d, d']) : ∃ v v', vs = [v, v'] ∧ PkR P H M v d ∧ PkR P H M v' d' := by
  cases h with
  | cons h t => cases t with
    | cons h' t => cases t; exact ⟨_, _, rfl, h, h'⟩
theorem many_len (hK : X.K = F.K) : Many X F (fun xs H Q => (∃ p ys, xs = [.ref p] ∧ (SqL X.K H p ys ∨ SqT X.K H p ys) ∧ Q (.int ys.length) H) ∨ ∃ z, xs = [.str z] ∧ z.length ≤ sizeLine ∧ Q (.int z.length) H) (biF .len) := by
  intro P σ H M g s vs ds z Q E h e k
  rcases ds with _ | ⟨d, _ | ⟨d', r⟩⟩
  · cases e
  · obtain ⟨v, rfl, hv⟩ := h.one
    cases d with
    | lst xs =>
      cases e
      obtain ⟨a, ws, rfl, h1, h2⟩ := hv.lst
      exact .inl ⟨a, ws, rfl, .inl (SqL.of h1), by rw [h2.length]; exact k _ H M E (Ex.refl _) (.int _)⟩
    | tup xs =>
      cases e
      obtain ⟨a, ws, rfl, h1, h2⟩ := hv.tup
      exact .inl ⟨a, ws, rfl, .inr (by rw [hK]; exact h1), by rw [h2.length]; exact k _ H M E (Ex.refl _) (.int _)⟩
    | str t =>
      have e : (if lineOk t.length then some (Rs.fz (.int t.length)) else none) = some z := e
      by_cases c : lineOk t.length = true
      · rw [if_pos c] at e
        cases e
        rw [hv.str]
        exact .inr ⟨t, rfl, lineOk_le c, k _ H M E (Ex.refl _) (.int _)⟩
      · rw [if_neg c] at e; cases e
    | _ => cases e
  · cases d <;> cases e
def rListA (K : PySem.W.Frag) : List V → Hp → VK → Prop := fun xs H Q => (∃ p ys, xs = [.ref p] ∧ (SqL K H p ys ∨ SqT K H p ys) ∧ ∀ l, H l = none → Q (.ref l) (upd H l (.lst ys))) ∨
  ∃ (a : Addr) (kvs : List (Key × V)), xs = [.ref a] ∧ Rd H a (.dK kvs) ∧ ∀ p, H p = none → Q (.ref p) (upd H p (.lst (kvs.map fun kv => kV kv.1)))
theorem cr_list (hc : X.calm = true) : CallR X (.type "list") (rListA X.K) := CallR.or call_list_of (call_listD hc)
theorem many_list (hK : X.K = F.K) : Many X F (rListA X.K) (biF .list) := by
  intro P σ H M g s vs ds z Q E h e k
  rcases ds with _ | ⟨d, _ | ⟨d', r⟩⟩
  · cases e
  · obtain ⟨v, rfl, hv⟩ := h.one
    cases d with
    | lst xs =>
      cases e
      obtain ⟨a, ws, rfl, h1, h2⟩ := hv.lst
      refine .inl ⟨a, ws, rfl, .inl (SqL.of h1), fun p hp => ?_⟩
      obtain ⟨E2, x2, r2⟩ := E.nwList hp h2
      exact k _ _ _ E2 x2 r2
    | tup xs =>
      cases e
      obtain ⟨a, ws, rfl, h1, h2⟩ := hv.tup
      refine .inl ⟨a, ws, rfl, .inr (by rw [hK]; exact h1), fun p hp => ?_⟩
      obtain ⟨E2, x2, r2⟩ := E.nwList hp h2
      exact k _ _ _ E2 x2 r2
    | dic kvs =>
      cases kvs with
      | cons y ys => cases e
      | nil =>
        cases e
        rcases hv with hv | ⟨_, _, _, hv, _⟩
        · cases hv with
          | dic h1 h2 =>
            cases h2
            refine .inr ⟨_, [], rfl, .inl ((hid_some h1).2), fun p hp => ?_⟩
            obtain ⟨E2, x2, r2⟩ := E.nwList (vs := []) (xs := []) hp .nil
            exact k _ _ _ E2 x2 r2
        · cases hv
    | _ => cases e
  · cases d <;> first
      | cases e
      | (rename_i kvs; cases kvs <;> cases e)
theorem PkR.tupRp {v : V} {xs : List D} (h : PkR P H M v (.tup xs)) : Rp P.K P.c (hid H M) v (.tup xs) := by
  rcases h with h | ⟨a, vs, ys, e, _⟩
  · exact h
  · cases e
theorem many_tuple (hK : X.K = F.K) : Many X F (fun xs H Q => ∃ p ys, xs = [.ref p] ∧ ((SqL X.K H p ys ∧ ∀ l, H l = none → Q (.ref l) (upd H l (.tup ys))) ∨ (SqT X.K H p ys ∧ Q (.ref p) H))) (biF .tuple) := by
  intro P σ H M g s vs ds z Q E h e k
  rcases ds with _ | ⟨d, _ | ⟨d', r⟩⟩
  · cases e
  · obtain ⟨v, rfl, hv⟩ := h.one
    cases d with
    | lst xs =>
      cases e
      obtain ⟨a, ws, rfl, h1, h2⟩ := hv.lst
      refine ⟨a, ws, rfl, .inl ⟨SqL.of h1, fun p hp => ?_⟩⟩
      obtain ⟨E2, x2, r2⟩ := E.nwTup hp h2
      exact k _ _ _ E2 x2 r2
    | tup xs =>
      cases e
      have r := hv.tupRp
      obtain ⟨a, ws, rfl, h1, h2⟩ := hv.tup
      exact ⟨a, ws, rfl, .inr ⟨by rw [hK]; exact h1, k _ H M E (Ex.refl _) r⟩⟩
    | _ => cases e
  · cases d <;> cases e
theorem many_int : Many X F (fun xs H Q => (∃ i, xs = [.int i] ∧ Q (.int i) H) ∨ ∃ k, xs = [.bl k] ∧ Q (.int (if k then 1 else 0)) H) (biF .int) := by
  intro P σ H M g s vs ds z Q E h e k
  rcases ds with _ | ⟨d, _ | ⟨d', r⟩⟩
  · cases e
  · obtain ⟨v, rfl, hv⟩ := h.one
    cases d with
    | int i => cases e; rw [hv.int]; exact .inl ⟨i, rfl, k _ H M E (Ex.refl _) (.int _)⟩
    | _ => cases e
  · cases d <;> cases e
theorem many_all : Many X F (rAll X.K) (biF .all) := by
  intro P σ H M g s vs ds z Q E h e k
  rcases ds with _ | ⟨d, _ | ⟨d', r⟩⟩
  · cases e
  · obtain ⟨v, rfl, hv⟩ := h.one
    cases d with
    | lst xs =>
      have e : (bools xs).map (fun bs => Rs.fz (.bl (bs.all id))) = some z := e
      cases q : bools xs with
      | none => rw [q] at e; cases e
      | some bs =>
        rw [q] at e
        cases e
        obtain ⟨a, ws, rfl, h1, h2⟩ := hv.lst
        rw [RpL.bools h2 q] at h1
        exact ⟨a, bs, rfl, SqL.of h1, k _ H M E (Ex.refl _) (.bl _)⟩
    | _ => cases e
  · cases d <;> cases e
theorem many_any : Many X F (rAny X.K) (biF .any) := by
  intro P σ H M g s vs ds z Q E h e k
  rcases ds with _ | ⟨d, _ | ⟨d', r⟩⟩
  · cases e
  · obtain ⟨v, rfl, hv⟩ := h.one
    cases d with
    | lst xs =>
      have e : (bools xs).map (fun bs => Rs.fz (.bl (bs.any id))) = some z := e
      cases q : bools xs with
      | none => rw [q] at e; cases e
      | some bs =>
        rw [q] at e
        cases e
        obtain ⟨a, ws, rfl, h1, h2⟩ := hv.lst
        rw [RpL.bools h2 q] at h1
        exact ⟨a, bs, rfl, SqL.of h1, k _ H M E (Ex.refl _) (.bl _)⟩
    | _ => cases e
  · cases d <;> cases e
theorem many_max2 : Many X F (fun xs H Q => ∃ i j, xs = [.int i, .int j] ∧ Q (.int (if j > i then j else i)) H) (biF .max2) := by
  intro P σ H M g s vs ds z Q E h e k
  rcases ds with _ | ⟨d, _ | ⟨d', _ | ⟨d'', r⟩⟩⟩
  · cases e
  · cases d <;> cases e
  · obtain ⟨v, v', rfl, hv, hw⟩ := h.two
    cases d with
    | int i => cases d' with
      | int j => cases e; rw [hv.int, hw.int]; exact ⟨i, j, rfl, k _ H M E (Ex.refl _) (.int _)⟩
      | _ => cases e
    | _ => cases d' <;> cases e
  · cases d <;> cases d' <;> cases e
theorem many_min2 : Many X F (fun xs H Q => ∃ i j, xs = [.int i, .int j] ∧ Q (.int (if j < i then j else i)) H) (biF .min2) := by
  intro P σ H M g s vs ds z Q E h e k
  rcases ds with _ | ⟨d, _ | ⟨d', _ | ⟨d'', r⟩⟩⟩
  · cases e
  · cases d <;> cases e
  · obtain ⟨v, v', rfl, hv, hw⟩ := h.two
    cases d with
    | int i => cases d' with
      | int j => cases e; rw [hv.int, hw.int]; exact ⟨i, j, rfl, k _ H M E (Ex.refl _) (.int _)⟩
      | _ => cases e
    | _ => cases d' <;> cases e
  · cases d <;> cases d' <;> cases e
/-- the call itself -/
theorem d_bi {id : String} {x : Str} {r : List V → Hp → VK → Prop} {fn : List D → Option Rs} {fs : Ga → Sd → Out (List Rs)} {p pos : Pos} (hc : CallR X (.builtin id) r) (hf : Many X F r fn) (hg : Gl X x) (hm : X.mg x = none) (hv : bootBuiltins x = some (.builtin id)) (ha : PLd X F W (e :: es) fs)
    (hn : x ≠ "__name__") (hdb : (x == ("__debug__" : Str)) = false) (h1 : isStar e = false) (h2 : noStar es = true) : PEd X F W (.Call (.Name x p) (e :: es) [] pos) (sBi fn fs) :=
  PE.imp (pe_callB hc hg hm hv ha hn hdb (star_cons h1) (star_any h2)) (many_imp hf)
theorem d_biT {T : String} {x : Str} {r : List V → Hp → VK → Prop} {fn : List D → Option Rs} {fs : Ga → Sd → Out (List Rs)} {p pos : Pos} (hc : CallR X (.type T) r) (hf : Many X F r fn) (hg : Gl X x) (hm : X.mg x = none) (hv : bootBuiltins x = some (.type T)) (ha : PLd X F W (e :: es) fs)
    (hn : x ≠ "__name__") (hdb : (x == ("__debug__" : Str)) = false) (h1 : isStar e = false) (h2 : noStar es = true) : PEd X F W (.Call (.Name x p) (e :: es) [] pos) (sBi fn fs) :=
  PE.imp (pe_callTy hc hg hm hv ha hn hdb (star_cons h1) (star_any h2)) (many_imp hf)

/-! ### isinstance -/
def Ty.nm : Ty → String
  | .int => "int" | .bool => "bool" | .str => "str" | .list => "list" | .tuple => "tuple" | .dict => "dict"
def D.nm : D → String
  | .non => "NoneType" | .bl _ => "bool" | .int _ => "int" | .str _ => "str" | .lst _ => "list" | .tup _ => "tuple" | .dic _ => "dict" | .strm => "list"
theorem kit_nm (t : Ty) : ∀ d : D, d ≠ .strm → kitB d.nm t.nm = some (D.isTy t d) := by
  intro d h
  cases d <;> first
    | exact absurd rfl h
    | (cases t <;> (show kitB _ _ = some _) <;> simp only [D.nm, Ty.nm, D.isTy] <;> decide +kernel)
theorem kit_any {K : PySem.W.Frag} {d : D} (h : d ≠ .strm) : ∀ tys : List Ty, PySem.W.kitAny K (.type d.nm) (tys.map fun t => Value.type t.nm) = some (tys.any fun t => D.isTy t d)
  | [] => kitAny_nil
  | t :: r => by
    rw [List.map_cons, List.any_cons]
    exact kitAny_cons (kit_ty (kit_nm t d h)) (fun e => by rw [e, Bool.false_or]; exact kit_any h r) (fun e => by rw [e, Bool.true_or])
theorem PkR.ty {v : V} {d : D} (hn : d ≠ .strm) (h : PkR P H M v d) : TyX F.K H v (.type d.nm) := by
  have q := h.rp
  clear h
  cases q with
  | non => exact .base .non
  | bl b => exact .base (.bl b)
  | int b => exact .base (.int b)
  | str b => exact .base (.str b)
  | lst h _ => exact .base (.lst h)
  | tup h _ =>
    rcases h with (h | ⟨o, h⟩) | ⟨o, its, n, h1, h2, _⟩
    · exact .base (.tup h)
    · exact .fTuple h
    · exact .kTuple h1 h2
  | dic h _ => exact .base (.dK h)
  | strm => exact absurd rfl hn
theorem isiF_some {tys : List Ty} {d : D} {z : Rs} (h : isiF tys d = some z) : d ≠ .strm ∧ z = .fz (.bl (tys.any fun t => D.isTy t d)) := by
  cases d <;> first
    | (cases h; exact ⟨(fun z => by cases z), rfl⟩)
    | cases h
theorem d_isi1 {t : Ty} {p p2 pos : Pos} (hK : X.K = F.K) (hg : Gl X "isinstance") (hm : X.mg "isinstance" = none) (hv : bootBuiltins "isinstance" = some (.builtin "isinstance")) (ha : PEd X F W a fa) (hs : isStar a = false)
    (h1 : PE X b (tC (.ty t.nm))) (hs2 : isStar b = false) : PEd X F W (.Call (.Name "isinstance" p) [a, b] [] pos) (sOne (isiF [t]) fa) :=
  PE.imp (pe_callB call_isi hg hm hv (pa_cons ha.settle (pa_cons h1 pa_nil (star_cons hs2)) (star_cons hs)) (by decide) (by decide) (star_cons hs) (star_any (by simp [hs2]))) (by
    rintro σ H Q ⟨P, g, s, M, E, h⟩
    refine rdG.seq (R' := RE) (Q' := Q) E h fun v r1 H1 g1 s1 M1 E1 x1 ⟨rr1, n1⟩ h1 => ?_
    obtain ⟨x, z, p1, p3, h3⟩ := post_one h1
    obtain ⟨q1, rfl⟩ := isiF_some p3
    have pk := rr1.pk E1 p1
    refine ⟨v, .ty t.nm, _, _, D.isTy t x, rfl, .ty _, by rw [hK]; exact pk.ty q1, kit_ty (kit_nm t x q1), h3 _ H1 M1 E1 (Ex.refl _) ?_⟩
    show Rp _ _ _ _ (.bl (([t] : List Ty).any fun t => D.isTy t x))
    rw [show ([t] : List Ty).any (fun t => D.isTy t x) = D.isTy t x by simp]
    exact .bl _)
theorem d_isiT {tys : List Ty} {bs : List Expr} {kk : Nat} {p p2 pos : Pos} (hK : X.K = F.K) (hg : Gl X "isinstance") (hm : X.mg "isinstance" = none) (hv : bootBuiltins "isinstance" = some (.builtin "isinstance")) (ha : PEd X F W a fa) (hs : isStar a = false)
    (h1 : PA X bs fun σ H Q => Q (tys.map fun t => V.ty t.nm) H) (hl : tys.length ≤ 1000) : PEd X F W (.Call (.Name "isinstance" p) [a, .Tuple bs kk p2] [] pos) (sOne (isiF tys) fa) :=
  PE.imp (pe_callB call_isiT hg hm hv (pa_cons ha.settle (pa_cons (pe_tup h1) pa_nil (star_cons rfl)) (star_cons hs)) (by decide) (by decide) (star_cons hs) (star_any (by rfl))) (by
    rintro σ H Q ⟨P, g, s, M, E, h⟩
    refine rdG.seq (R' := RE) (Q' := Q) E h fun v r1 H1 g1 s1 M1 E1 x1 ⟨rr1, n1⟩ h1 => ?_
    obtain ⟨x, z, p1, p3, h3⟩ := post_one h1
    obtain ⟨q1, rfl⟩ := isiF_some p3
    refine ⟨by rw [List.length_map]; exact Nat.le_trans hl (by decide), fun q hq => ?_⟩
    obtain ⟨E2, x2, np⟩ := E1.alloc hq (.tup (tys.map fun t => V.ty t.nm))
    have pk := (rr1.stay (g1 := g1) n1 x2).pk E2 p1
    refine ⟨v, q, _, _, tys.map fun t => Value.type t.nm, _, rfl, upd_same, ?_, by rw [hK]; exact pk.ty q1, kit_any q1 tys, h3 _ _ M1 E2 x2 (.bl _)⟩
    have : ∀ l : List Ty, Paired ClsV (l.map fun t => V.ty t.nm) (l.map fun t => Value.type t.nm) := by
      intro l
      induction l with
      | nil => exact .nil
      | cons t r ih => exact .cons (.ty _) ih
    exact this tys)

/-! ### in -/
theorem flat_rp {K : PySem.W.Frag} {c : Addr} {H : Hp} {v : V} {d : D} (h : Rp K c H v d) (f : flatD d = true) : flatV v = true := by
  cases h <;> first
    | rfl
    | cases f
theorem flat_all {K : PySem.W.Frag} {c : Addr} {H : Hp} : ∀ {vs : List V} {ds : List D}, RpL K c H vs ds → ds.all flatD = true → vs.all flatV = true
  | _, _, .nil, _ => rfl
  | _, _, .cons h t, f => by
    rw [List.all_cons, Bool.and_eq_true] at f
    rw [List.all_cons, flat_rp h f.1, flat_all t f.2]
    rfl
theorem eq_rp {K : PySem.W.Frag} {c : Addr} {H : Hp} {v w : V} {d e : D} (h : Rp K c H v d) (k : Rp K c H w e) (f : flatD d = true) (f2 : flatD e = true) : eqV v w = eqD d e := by
  cases h <;> first
    | exact absurd f Bool.false_ne_true
    | (cases k <;> first | rfl | exact absurd f2 Bool.false_ne_true)
theorem in_rp {K : PySem.W.Frag} {c : Addr} {H : Hp} {w : V} {e : D} (k : Rp K c H w e) (f2 : flatD e = true) : ∀ {vs : List V} {ds : List D}, RpL K c H vs ds → ds.all flatD = true → inV w vs = ds.any fun y => eqD y e
  | _, _, .nil, _ => rfl
  | _, _, .cons h t, f => by
    rw [List.all_cons, Bool.and_eq_true] at f
    rw [List.any_cons, ← in_rp k f2 t f.2, ← eq_rp h k f.1 f2]
    rfl
def rInA (K : PySem.W.Frag) (neg : Bool) : R2 := fun x y H Q => (∃ i j, x = .str i ∧ y = .str j ∧ Q (.bl (if neg then !(!(Builtin.Str.occurrences j i 0 j.length 1).isEmpty) else !(Builtin.Str.occurrences j i 0 j.length 1).isEmpty)) H) ∨
  (∃ d ds, Dp K H x d ∧ Dp K H y (.list ds) ∧ SeqAt.shaped d = true ∧ SeqAt.shaped (.list ds) = true ∧ Q (.bl (if neg then !(ds.any fun z => PyData.eqv z d) else ds.any fun z => PyData.eqv z d)) H) ∨ rIn K neg x y H Q
theorem op_inA (hu : X.A.units + 65 < cLine) : OpR X (compareOp .In) (rInA X.K false) := OpR.or op_in_str (OpR.or (op_inD hu) op_in_seq)
theorem op_notInA (hu : X.A.units + 65 < cLine) : OpR X (compareOp .NotIn) (rInA X.K true) := OpR.or op_notin_str (OpR.or (op_notInD hu) op_notIn_seq)
theorem inF_run {neg : Bool} {v w : V} {x y : D} {b : Bool} {Q : VK} (hv : PkR P H M v x) (hw : PkR P H M w y) (e : inF x y = some b) (q : Q (.bl (if neg then !b else b)) H) : rInA F.K neg v w H Q := by
  cases y with
  | str z =>
    cases x with
    | str t => cases e; exact .inl ⟨t, z, hv.str, hw.str, q⟩
    | _ => cases e
  | lst ys =>
    cases p1 : x.pd with
    | none =>
      have e : inL x.pd (D.pdAll ys) = some b := e
      rw [p1] at e; cases e
    | some d =>
      cases p2 : D.pdAll ys with
      | none =>
        have e : inL x.pd (D.pdAll ys) = some b := e
        rw [p1, p2] at e; cases e
      | some zs =>
        have e : inL x.pd (D.pdAll ys) = some b := e
        rw [p1, p2] at e
        have e : (if SeqAt.shaped d && SeqAt.shaped (.list zs) then some (zs.any fun z => PyData.eqv z d) else none) = some b := e
        by_cases c : (SeqAt.shaped d && SeqAt.shaped (.list zs)) = true
        · rw [if_pos c] at e
          cases e
          rw [Bool.and_eq_true] at c
          have p3 : (D.lst ys).pd = some (.list zs) := by unfold D.pd; rw [p2]
          exact .inr (.inl ⟨d, zs, hv.rp.dp p1, hw.rp.dp p3, c.1, c.2, q⟩)
        · rw [if_neg c] at e; cases e
  | tup ys =>
    have e : (if flatD x && ys.all flatD then some (ys.any fun y => eqD y x) else none) = some b := e
    by_cases c : (flatD x && ys.all flatD) = true
    · rw [if_pos c] at e
      cases e
      rw [Bool.and_eq_true] at c
      obtain ⟨a, ws, rfl, h1, h2⟩ := hw.tup
      have h2' := h2.mono (hid_ex H M)
      refine .inr (.inr ⟨a, ws, rfl, .inr h1, flat_rp hv.rp c.1, flat_all h2' c.2, ?_⟩)
      rw [in_rp hv.rp c.1 h2' c.2]
      exact q
    · rw [if_neg c] at e; cases e
  | _ => cases x <;> cases e
theorem two_in : Two X F (rInA F.K false) (fun x y => (cmpF .isIn x y).map fun k => .fz (.bl k)) := two_cmp fun P H M v w x y b Q hv hw e q => inF_run hv hw (show inF x y = some b from e) q
theorem two_notIn : Two X F (rInA F.K true) (fun x y => (cmpF .notIn x y).map fun k => .fz (.bl k)) := two_cmp fun P H M v w x y b Q hv hw e q => by
  have e : (inF x y).map (!·) = some b := e
  cases c : inF x y with
  | none => rw [c] at e; cases e
  | some k => rw [c] at e; cases e; exact inF_run hv hw c q
end
end DI
end
section
set_option Elab.async false
set_option linter.all false
set_option maxRecDepth 100000
set_option maxHeartbeats 1000000
/-! DIEnv: how a def's state changes: slots set, lists written, temporary things, targets, what is walked. -/
namespace DI
open PySem L2
section
variable {F : Fx} {P : Par F} {W : WX} {σ : St} {H : Hp} {g : Ga} {s : Sd} {M : Addr → Prop}
theorem get_set_ne {α : Type} {l : List α} {i j : Nat} {x : α} (h : j ≠ i) : (l.set i x)[j]? = l[j]? := List.getElem?_set_ne (Ne.symm h)
/-- a slot takes data -/
theorem En.setFz (E : En P σ H g s M) {i : Nat} (hi : i < g.length) {v : V} {d : D} (r : Rp P.K P.c (hid H M) v d) : En P (σ.set i (some v)) H (g.set i (.fz d)) s M := by
  have hs : i < σ.length := by rw [E.len]; exact hi
  refine ⟨by rw [List.length_set, List.length_set]; exact E.len, fun j d' e => ?_, fun j ys e => ?_, fun j l a ys zs nj e1 e2 e3 e4 => ?_, E.stm, E.m0, E.al, E.fr, E.nw⟩
  · by_cases hj : j = i
    · subst hj
      rw [List.getElem?_set_self hi] at e
      cases e
      exact ⟨v, List.getElem?_set_self hs, r⟩
    · rw [get_set_ne hj] at e ⊢
      exact E.fz j d' e
  · by_cases hj : j = i
    · subst hj; rw [List.getElem?_set_self hi] at e; cases e
    · rw [get_set_ne hj] at e ⊢
      exact E.ow j ys e
  · by_cases hj : j = i
    · subst hj; rw [List.getElem?_set_self hi] at e1; cases e1
    · by_cases hl : l = i
      · subst hl; rw [List.getElem?_set_self hi] at e2; cases e2
      · rw [get_set_ne hj] at e1 e3
        rw [get_set_ne hl] at e2 e4
        exact E.ne j l a ys zs nj e1 e2 e3 e4
/-- a slot takes a list of its own -/
theorem En.setOw (E : En P σ H g s M) {i : Nat} (hi : i < g.length) {a : Addr} {vs : List V} {xs : List D} (h1 : M a) (h2 : ¬ P.M0 a) (h3 : H a = some (.lst vs)) (h4 : RpL P.K P.c (hid H M) vs xs)
    (h5 : ∀ (j : Nat) (ys : List D), g[j]? = some (.ow ys) → σ[j]? ≠ some (some (.ref a))) : En P (σ.set i (some (.ref a))) H (g.set i (.ow xs)) s M := by
  have hs : i < σ.length := by rw [E.len]; exact hi
  refine ⟨by rw [List.length_set, List.length_set]; exact E.len, fun j d' e => ?_, fun j ys e => ?_, fun j l b ys zs nj e1 e2 e3 e4 => ?_, E.stm, E.m0, E.al, E.fr, E.nw⟩
  · by_cases hj : j = i
    · subst hj; rw [List.getElem?_set_self hi] at e; cases e
    · rw [get_set_ne hj] at e ⊢
      exact E.fz j d' e
  · by_cases hj : j = i
    · subst hj
      rw [List.getElem?_set_self hi] at e
      cases e
      exact ⟨a, vs, List.getElem?_set_self hs, h1, h2, h3, h4⟩
    · rw [get_set_ne hj] at e ⊢
      exact E.ow j ys e
  · by_cases hj : j = i
    · subst hj
      rw [List.getElem?_set_self hs] at e3
      have e3 := Option.some.inj (Option.some.inj e3)
      cases e3
      rw [get_set_ne (Ne.symm nj)] at e2 e4
      exact h5 l zs e2 e4
    · by_cases hl : l = i
      · subst hl
        rw [List.getElem?_set_self hs] at e4
        have e4 := Option.some.inj (Option.some.inj e4)
        cases e4
        rw [get_set_ne hj] at e1 e3
        exact h5 j ys e1 e3
      · rw [get_set_ne hj] at e1 e3
        rw [get_set_ne hl] at e2 e4
        exact E.ne j l b ys zs nj e1 e2 e3 e4
/-- a slot is emptied -/
theorem En.setUn (E : En P σ H g s M) (i : Nat) : En P (σ.set i none) H (g.set i .un) s M := by
  by_cases hi : i < g.length
  · have hs : i < σ.length := by rw [E.len]; exact hi
    refine ⟨by rw [List.length_set, List.length_set]; exact E.len, fun j d' e => ?_, fun j ys e => ?_, fun j l b ys zs nj e1 e2 e3 e4 => ?_, E.stm, E.m0, E.al, E.fr, E.nw⟩
    · by_cases hj : j = i
      · subst hj; rw [List.getElem?_set_self hi] at e; cases e
      · rw [get_set_ne hj] at e ⊢
        exact E.fz j d' e
    · by_cases hj : j = i
      · subst hj; rw [List.getElem?_set_self hi] at e; cases e
      · rw [get_set_ne hj] at e ⊢
        exact E.ow j ys e
    · by_cases hj : j = i
      · subst hj; rw [List.getElem?_set_self hi] at e1; cases e1
      · by_cases hl : l = i
        · subst hl; rw [List.getElem?_set_self hi] at e2; cases e2
        · rw [get_set_ne hj] at e1 e3
          rw [get_set_ne hl] at e2 e4
          exact E.ne j l b ys zs nj e1 e2 e3 e4
  · rw [List.set_eq_of_length_le (by rw [E.len]; omega), List.set_eq_of_length_le (by omega)]
    exact E
theorem En.wipe (E : En P σ H g s M) : ∀ vs : List Nat, En P (wipe σ vs) H (wipeG g vs) s M
  | [] => E
  | v :: vs => (En.wipe E vs).setUn v
/-- what may change is written; it is no slot's -/
theorem En.write (E : En P σ H g s M) {a : Addr} (h1 : M a) (h2 : ¬ P.M0 a) (h5 : ∀ (j : Nat) (ys : List D), g[j]? = some (.ow ys) → σ[j]? ≠ some (some (.ref a))) (o : HO) :
    En P σ (upd H a o) g s M ∧ hid (upd H a o) M = hid H M := by
  have hh : hid (upd H a o) M = hid H M := by
    funext b
    by_cases m : M b
    · unfold hid; rw [if_pos m, if_pos m]
    · rw [hid_of m, hid_of m, upd_ne (fun z => m (by rw [z]; exact h1))]
  have nc : P.c ≠ a := fun z => h2 (z ▸ P.m0c)
  have nk : P.k ≠ a := fun z => h2 (z ▸ P.m0k)
  refine ⟨⟨E.len, fun j d e => by rw [hh]; exact E.fz j d e, fun j ys e => ?_, E.ne, ⟨E.stm.1, by rw [upd_ne nc]; exact E.stm.2.1, by rw [upd_ne nk]; exact E.stm.2.2⟩, E.m0, fun b m e => ?_, fun b u e n1 n2 => ?_, E.nw⟩, hh⟩
  · obtain ⟨b, vs, q1, q2, q3, q4, q5⟩ := E.ow j ys e
    exact ⟨b, vs, q1, q2, q3, by rw [upd_ne (fun z => h5 j ys e (by rw [q1, z]))]; exact q4, by rw [hh]; exact q5⟩
  · by_cases z : b = a
    · subst z; rw [upd_same] at e; cases e
    · rw [upd_ne z] at e; exact E.al b m e
  · rw [upd_ne (fun z => by rw [z, E.nw a h1 h2] at e; cases e)]
    exact E.fr b u e n1 n2
/-- a slot's own list is written -/
theorem En.writeOw (E : En P σ H g s M) {i : Nat} {a : Addr} {xs ys : List D} {ws : List V} (hg : g[i]? = some (.ow xs)) (hs : σ[i]? = some (some (.ref a))) (hl : RpL P.K P.c (hid H M) ws ys) :
    En P σ (upd H a (.lst ws)) (g.set i (.ow ys)) s M ∧ hid (upd H a (.lst ws)) M = hid H M := by
  obtain ⟨b, vs, q1, h1, h2, q4, q5⟩ := E.ow i xs hg
  rw [hs] at q1
  cases q1
  have hi : i < g.length := (List.getElem?_eq_some_iff.mp hg).1
  have E1 := E.setUn i
  have h5 : ∀ (j : Nat) (ys : List D), (g.set i .un)[j]? = some (.ow ys) → (σ.set i none)[j]? ≠ some (some (.ref a)) := fun j zs e e2 => by
    by_cases hj : j = i
    · subst hj; rw [List.getElem?_set_self hi] at e; cases e
    · rw [get_set_ne hj] at e e2
      exact E.ne j i a zs xs hj e hg e2 hs
  obtain ⟨E2, hh⟩ := E1.write h1 h2 h5 (.lst ws)
  have E3 := E2.setOw (i := i) (by rw [List.length_set]; exact hi) h1 h2 upd_same (by rw [hh]; exact hl) h5
  rw [List.set_set, List.set_set] at E3
  have e : σ.set i (some (.ref a)) = σ := by
    refine List.ext_getElem? fun j => ?_
    by_cases hj : j = i
    · subst hj; rw [hs]; exact List.getElem?_set_self (by rw [E.len]; exact hi)
    · rw [get_set_ne hj]
  rw [e] at E3
  exact ⟨E3, hh⟩

/-! ### a temporary thing: held while more is done -/
def Par.hold (P : Par F) (a : Addr) (o : HO) : Par F := ⟨upd P.H0 a o, fun b => P.M0 b ∨ b = a, .inl P.m0c, .inl P.m0k⟩
theorem En.hold (E : En P σ H g s M) {a : Addr} {o : HO} (h1 : M a) (h2 : ¬ P.M0 a) (h3 : H a = some o) (h5 : ∀ (j : Nat) (ys : List D), g[j]? = some (.ow ys) → σ[j]? ≠ some (some (.ref a))) : En (P.hold a o) σ H g s M := by
  refine ⟨E.len, E.fz, fun j ys e => ?_, E.ne, E.stm, fun b m => m.elim (E.m0 b) (fun z => by rw [z]; exact h1), E.al, fun b u e n1 n2 => ?_, fun b m n => ?_⟩
  · obtain ⟨b, vs, q1, q2, q3, q4⟩ := E.ow j ys e
    exact ⟨b, vs, q1, q2, fun z => z.elim q3 fun z => h5 j ys e (by rw [q1, z]), q4⟩
  · by_cases z : b = a
    · subst z
      have e : upd P.H0 b o b = some u := e
      rw [upd_same] at e; cases e; exact h3
    · have e : upd P.H0 a o b = some u := e
      rw [upd_ne z] at e
      exact E.fr b u e n1 n2
  · show upd P.H0 a o b = none
    rw [upd_ne (fun z => n (.inr z))]
    exact E.nw b m fun z => n (.inl z)
/-- let go: what was held stands, and is no slot's -/
theorem En.unhold {a : Addr} {o : HO} (h2 : ¬ P.M0 a) (h0 : P.H0 a = none) (E : En (P.hold a o) σ H g s M) : En P σ H g s M ∧ M a ∧ H a = some o ∧ ∀ (j : Nat) (ys : List D), g[j]? = some (.ow ys) → σ[j]? ≠ some (some (.ref a)) := by
  have na : ∀ b u, P.H0 b = some u → b ≠ a := fun b u e z => by rw [z, h0] at e; cases e
  refine ⟨⟨E.len, E.fz, fun j ys e => ?_, E.ne, E.stm, fun b m => E.m0 b (.inl m), E.al, fun b u e n1 n2 => E.fr b u (by show upd P.H0 a o b = some u; rw [upd_ne (na b u e)]; exact e) n1 n2, fun b m n => ?_⟩, E.m0 a (.inr rfl), ?_, fun j ys e z => ?_⟩
  · obtain ⟨b, vs, q1, q2, q3, q4⟩ := E.ow j ys e
    exact ⟨b, vs, q1, q2, fun z => q3 (.inl z), q4⟩
  · by_cases z : b = a
    · rw [z]; exact h0
    · have := E.nw b m fun q => q.elim n z
      have e : upd P.H0 a o b = none := this
      rw [upd_ne z] at e
      exact e
  · exact E.fr a o (by show upd P.H0 a o a = some o; exact upd_same) (fun z => h2 (z ▸ P.m0c)) (fun z => h2 (z ▸ P.m0k))
  · obtain ⟨b, vs, q1, q2, q3, q4⟩ := E.ow j ys e
    rw [z] at q1
    cases q1
    exact q3 (.inr rfl)

/-! ### targets -/
def Tg.slots : Tg → List Nat
  | .nm i => [i]
  | .nil => []
  | .cons t u => t.slots ++ u.slots
/-- a target of the program stores as t does -/
def TgR (F : Fx) (gt : TG) (t : Tg) : Prop :=
  ∀ (P : Par F) (σ : St) (H : Hp) (g : Ga) (s : Sd) (M : Addr → Prop) (v : V) (d : D) (g' : Ga) (Q : St → Hp → Prop), En P σ H g s M → Rp P.K P.c (hid H M) v d → bindT t d g = some g' →
    (∀ σ', En P σ' H g' s M → σ'.length = σ.length → (∀ j, j ∉ t.slots → σ'[j]? = σ[j]?) → Q σ' H) → gt v σ H Q
def Tg.cnt : Tg → Nat
  | .cons _ u => u.cnt + 1
  | _ => 0
theorem bnd_len : ∀ {t : Tg} {ds : List D} {g g' : Ga}, (bnd t).many ds g = some g' → ds.length = t.cnt
  | .nm _, _, _, _, e => by cases e
  | .nil, [], _, _, _ => rfl
  | .nil, _ :: _, _, _, e => by cases e
  | .cons t u, [], _, _, e => by cases e
  | .cons t u, d :: ds, g, g', e => by
    have e : (match (bnd t).one d g with | some g' => (bnd u).many ds g' | none => none) = some g' := e
    cases q : (bnd t).one d g with
    | none => rw [q] at e; cases e
    | some g1 =>
      rw [q] at e
      have := bnd_len (t := u) (ds := ds) e
      show ds.length + 1 = u.cnt + 1
      rw [this]
def TgsR (F : Fx) (gt : TGs) (t : Tg) : Prop :=
  ∀ (P : Par F) (σ : St) (H : Hp) (g : Ga) (s : Sd) (M : Addr → Prop) (vs : List V) (ds : List D) (g' : Ga) (Q : St → Hp → Prop), En P σ H g s M → RpL P.K P.c (hid H M) vs ds → (bnd t).many ds g = some g' →
    (∀ σ', En P σ' H g' s M → σ'.length = σ.length → (∀ j, j ∉ t.slots → σ'[j]? = σ[j]?) → Q σ' H) → gt vs σ H Q
theorem tg_nm (i : Nat) : TgR F (gName i) (.nm i) := by
  intro P σ H g s M v d g' Q E r e k
  have e : (if i < g.length then some (g.set i (Sl.fz d)) else none) = some g' := e
  by_cases hi : i < g.length
  · rw [if_pos hi] at e
    cases e
    exact k _ (E.setFz hi r) (List.length_set ..) fun j hj => get_set_ne (fun z => hj (by rw [z]; exact List.mem_singleton.mpr rfl))
  · rw [if_neg hi] at e; cases e
theorem tgs_nil : TgsR F gNil .nil := by
  intro P σ H g s M vs ds g' Q E r e k
  cases r with
  | nil => cases e; exact ⟨rfl, k σ E rfl fun _ _ => rfl⟩
  | cons _ _ => cases e
theorem tgs_cons {gt : TG} {gts : TGs} {t u : Tg} (h1 : TgR F gt t) (h2 : TgsR F gts u) : TgsR F (gCons gt gts) (.cons t u) := by
  intro P σ H g s M vs ds g' Q E r e k
  cases r with
  | nil => cases e
  | cons r1 r2 =>
    rename_i v vs d ds
    have e : (match (bnd t).one d g with | some g' => (bnd u).many ds g' | none => none) = some g' := e
    cases q : (bnd t).one d g with
    | none => rw [q] at e; cases e
    | some g1 =>
      rw [q] at e
      have e : (bnd u).many ds g1 = some g' := e
      refine ⟨v, vs, rfl, ?_⟩
      refine h1 P σ H g s M v d g1 _ E r1 q fun σ1 E1 l1 k1 => ?_
      refine h2 P σ1 H g1 s M vs ds g' Q E1 r2 e fun σ2 E2 l2 k2 => ?_
      refine k σ2 E2 (l2.trans l1) fun j hj => ?_
      have hj' : j ∉ t.slots ++ u.slots := hj
      rw [k2 j fun z => hj' (List.mem_append_right _ z), k1 j fun z => hj' (List.mem_append_left _ z)]
theorem tg_tup {gts : TGs} {t u : Tg} {n : Nat} (h : TgsR F gts (.cons t u)) (hn : (Tg.cons t u).cnt = n) : TgR F (gTup F.K n gts) (.cons t u) := by
  intro P σ H g s M v d g' Q E r e k
  have e : bndT (bnd (.cons t u)).many d g = some g' := e
  cases d with
  | tup ds =>
    cases r with
    | tup h1 h2 =>
      have e : (bnd (.cons t u)).many ds g = some g' := e
      refine ⟨_, _, rfl, (hid_ex H M).sqT h1, by rw [h2.length, bnd_len e, hn], ?_⟩
      exact h P σ H g s M _ ds g' Q E h2 e k
  | _ => cases e
end
end DI
end
section
set_option Elab.async false
set_option linter.all false
set_option maxRecDepth 100000
set_option maxHeartbeats 1000000
/-! DIWalk: what is walked. -/
namespace DI
open PySem L2
/-- an iterator that yields the data ds, from a heap on -/
def Wk (F : Fx) (J : It) (H1 : Hp) (M1 : Addr → Prop) (ds : List D) : Prop :=
  ∃ (G : Hp → Prop) (Y : Nat → Hp → V → Hp → Prop), Walk J ds.length G Y ∧ (∀ H2 M2, Ex (hid H1 M1) (hid H2 M2) → G H2) ∧
    ∀ (i : Nat) (P : Par F) (σ : St) (H2 : Hp) (g : Ga) (s : Sd) (M2 : Addr → Prop) (x : V) (H' : Hp), i < ds.length → Ex (hid H1 M1) (hid H2 M2) → En P σ H2 g s M2 → Y i H2 x H' →
      ∃ d, ds[i]? = some d ∧ En P σ H' g s M2 ∧ Ex (hid H2 M2) (hid H' M2) ∧ Rp F.K F.c (hid H' M2) x d
abbrev RI {F : Fx} (_ : Par F) : St → Hp → (Addr → Prop) → Ga → It → List D → Prop := fun _ H M _ J ds => Wk F J H M ds
section
variable {F : Fx} {P : Par F} {W : WX} {σ : St} {H : Hp} {g : Ga} {s : Sd} {M : Addr → Prop} {X : Cx} {tg e a b : Expr} {es : List Expr} {f fa fb : Ga → Sd → Out Rs}
abbrev PId (X : Cx) (F : Fx) (W : WX) (tg it : Expr) (f : Ga → Sd → Out (List D)) : Prop := PI X tg it (rdG F W RI f)
theorem PI.imp {it : Expr} {t t' : TI} (h : PI X tg it t) (i : ∀ σ H Q, t' σ H Q → t σ H Q) : PI X tg it t' := ⟨fun pins s σ H Q I q => h.run pins s σ H Q I (i σ H Q q)⟩
theorem wk_list {a : Addr} {vs : List V} {ds : List D} (h : H a = some (.lst vs)) (hm : ¬ M a) (r : RpL F.K F.c (hid H M) vs ds) : Wk F (Itl F.K a) H M ds := by
  refine ⟨fun H => SqL F.K H a vs, YAt vs, by rw [← r.length]; exact walk_list, fun H2 M2 x => SqL.of (x.of_hid hm h).2, fun i P σ H2 g s M2 x H' hi ex E y => ?_⟩
  obtain ⟨rfl, hx⟩ := y
  obtain ⟨d, h1, h2⟩ := r.get' hx
  exact ⟨d, h1, E, Ex.refl _, h2.mono ex⟩
theorem wk_tup {a : Addr} {vs : List V} {ds : List D} (h : SqT F.K (hid H M) a vs) (r : RpL F.K F.c (hid H M) vs ds) : Wk F (Itt F.K a) H M ds := by
  refine ⟨fun H => SqT F.K H a vs, YAt vs, by rw [← r.length]; exact walk_tup, fun H2 M2 x => (hid_ex H2 M2).sqT (x.sqT h), fun i P σ H2 g s M2 x H' hi ex E y => ?_⟩
  obtain ⟨rfl, hx⟩ := y
  obtain ⟨d, h1, h2⟩ := r.get' hx
  exact ⟨d, h1, E, Ex.refl _, h2.mono ex⟩
theorem wk_str {z : Str} : Wk F (Its z) H M (z.cps.toList.map fun c => .str ⟨#[c]⟩) := by
  refine ⟨fun _ => True, _, by rw [List.length_map, Array.length_toList]; exact walk_str, fun _ _ _ => trivial, fun i P σ H2 g s M2 x H' hi ex E y => ?_⟩
  obtain ⟨rfl, c, hc, rfl⟩ := y
  exact ⟨.str ⟨#[c]⟩, by rw [List.getElem?_map, Array.getElem?_toList, hc]; rfl, E, Ex.refl _, .str _⟩
theorem wk_range {lo : Int} {n : Nat} : Wk F (Itr lo n) H M ((List.range n).map fun (k : Nat) => .int (lo + (k : Int))) := by
  refine ⟨fun _ => True, _, by rw [List.length_map, List.length_range]; exact walk_range, fun _ _ _ => trivial, fun i P σ H2 g s M2 x H' hi ex E y => ?_⟩
  obtain ⟨rfl, rfl⟩ := y
  rw [List.length_map, List.length_range] at hi
  exact ⟨.int (lo + (i : Int)), by rw [List.getElem?_map, List.getElem?_range hi]; rfl, E, Ex.refl _, .int _⟩
theorem enumD_get : ∀ (ds : List D) (k i : Nat) (d : D), ds[i]? = some d → (enumD k ds)[i]? = some (.tup [.int ((k + i : Nat) : Int), d])
  | [], _, _, _, e => by simp at e
  | x :: xs, k, 0, d, e => by simp at e; subst e; simp [enumD]
  | x :: xs, k, i + 1, d, e => by
    have := enumD_get xs (k + 1) i d (by simpa using e)
    show (enumD (k + 1) xs)[i]? = _
    rw [this]
    congr 4
    omega
theorem enumD_len : ∀ (ds : List D) (k : Nat), (enumD k ds).length = ds.length
  | [], _ => rfl
  | x :: xs, k => by show (enumD (k + 1) xs).length + 1 = xs.length + 1; rw [enumD_len xs (k + 1)]
/-- a new pair at T -/
theorem new_pair {P : Par F} {H2 : Hp} {M2 : Addr → Prop} (E : En P σ H2 g s M2) {T : Addr} (hT : H2 T = none) {x y : V} {d d' : D} (hx : Rp F.K F.c (hid H2 M2) x d) (hy : Rp F.K F.c (hid H2 M2) y d') :
    En P σ (upd H2 T (.tup [x, y])) g s M2 ∧ Ex (hid H2 M2) (hid (upd H2 T (.tup [x, y])) M2) ∧ Rp F.K F.c (hid (upd H2 T (.tup [x, y])) M2) (.ref T) (.tup [d, d']) := by
  exact E.nwTup hT (.cons hx (.cons hy .nil))
theorem wk_enum {a : Addr} {vs : List V} {ds : List D} (h : H a = some (.lst vs)) (hm : ¬ M a) (r : RpL F.K F.c (hid H M) vs ds) : Wk F (Ite F.K a) H M (enumD 0 ds) := by
  refine ⟨fun H => SqL F.K H a vs, _, by rw [enumD_len, ← r.length]; exact walk_enum, fun H2 M2 x => SqL.of (x.of_hid hm h).2, fun i P σ H2 g s M2 x H' hi ex E y => ?_⟩
  obtain ⟨T, x1, y1, rfl, hT, rfl, e1, e2⟩ := y
  cases e1
  obtain ⟨d, h1, h2⟩ := r.get' e2
  obtain ⟨E2, x2, r2⟩ := new_pair E hT (.int (i : Nat)) (h2.mono ex)
  exact ⟨_, by rw [enumD_get ds 0 i d h1, Nat.zero_add], E2, x2, r2⟩
theorem zipD_get : ∀ (xs ys : List D) (i : Nat) (x y : D), xs[i]? = some x → ys[i]? = some y → (zipD xs ys)[i]? = some (.tup [x, y])
  | [], _, _, _, _, e, _ => by simp at e
  | _ :: _, [], _, _, _, _, e => by simp at e
  | x :: xs, y :: ys, 0, x', y', e, e' => by simp at e e'; subst e; subst e'; simp [zipD]
  | x :: xs, y :: ys, i + 1, x', y', e, e' => by
    show (zipD xs ys)[i]? = _
    exact zipD_get xs ys i x' y' (by simpa using e) (by simpa using e')
theorem zipD_len : ∀ (xs ys : List D), (zipD xs ys).length = min xs.length ys.length
  | [], _ => by simp [zipD]
  | _ :: _, [] => by simp [zipD]
  | x :: xs, y :: ys => by
    show (zipD xs ys).length + 1 = _
    rw [zipD_len xs ys, List.length_cons, List.length_cons]; omega
theorem wk_zip {a b : Addr} {vs ws : List V} {ds es : List D} (h : H a = some (.lst vs)) (hm : ¬ M a) (r : RpL F.K F.c (hid H M) vs ds) (h' : H b = some (.lst ws)) (hm' : ¬ M b) (r' : RpL F.K F.c (hid H M) ws es) : Wk F (Itz F.K a b) H M (zipD ds es) := by
  refine ⟨fun H => SqL F.K H a vs ∧ SqL F.K H b ws, _, walk_zip (by rw [zipD_len, r.length, r'.length]), fun H2 M2 x => ⟨SqL.of (x.of_hid hm h).2, SqL.of (x.of_hid hm' h').2⟩, fun i P σ H2 g s M2 x H' hi ex E y => ?_⟩
  obtain ⟨T, x1, y1, rfl, hT, rfl, e1, e2⟩ := y
  obtain ⟨d, h1, h2⟩ := r.get' e1
  obtain ⟨d', h1', h2'⟩ := r'.get' e2
  obtain ⟨E2, x2, r2⟩ := new_pair E hT (h2.mono ex) (h2'.mono ex)
  exact ⟨_, zipD_get ds es i d d' h1 h1', E2, x2, r2⟩

/-! ### the sources -/
/-- a list, a tuple or a text -/
def iAny (K : PySem.W.Frag) (te : TE) : TI := fun σ H R => te σ H fun x H1 => (∃ a, x = .ref a ∧ (∃ xs, SqL K H1 a xs) ∧ R (Itl K a) H1) ∨ (∃ a, x = .ref a ∧ (∃ xs, SqT K H1 a xs) ∧ R (Itt K a) H1) ∨ ∃ z, x = .str z ∧ R (Its z) H1
theorem pi_any {te : TE} (hl : PE X e te) : PI X tg e (iAny X.K te) := by
  refine ⟨fun pins s σ H R I h => ?_⟩
  refine thn (hl.run pins s σ H _ I h) fun v s1 ⟨x, H1, I1, r1, q1⟩ => ?_
  rcases q1 with ⟨a, e, ⟨xs, hq⟩, q⟩ | ⟨a, e, ⟨xs, hq⟩, q⟩ | ⟨z, e, q⟩
  · subst e
    cases r1
    obtain ⟨its, rv, p, hz⟩ := I1.list hq
    refine wpAny_pyIter_list p.isList ?_
    refine ⟨s1.heap.objs.size, [s1.heap.objs.size], _, _, H1, rfl, I1.kept (t' := s1.toks) fun b o e => Heap.get?_push_of_some _ e, turn_list a _, ⟨_, Heap.get?_push_size _ rfl, rfl, rfl⟩, fun b hb => ?_, q⟩
    have e : b = s1.heap.objs.size := by simpa using hb
    subst e
    exact I1.fpOk (Nat.le_refl _) (I1.hok.fresh (Nat.le_refl _))
  · subst e
    cases r1
    obtain ⟨its, rv, p, hz⟩ := I1.tuple hq
    refine wpAny_pyIter_tuple (show s1.heap.IsTuple a its.toArray from p) ?_
    refine ⟨s1.heap.objs.size, [s1.heap.objs.size], _, _, H1, rfl, I1.kept (t' := s1.toks) fun b o e => Heap.get?_push_of_some _ e, turn_tuple a _, ⟨_, Heap.get?_push_size _ rfl, rfl, rfl⟩, fun b hb => ?_, q⟩
    have e : b = s1.heap.objs.size := by simpa using hb
    subst e
    exact I1.fpOk (Nat.le_refl _) (I1.hok.fresh (Nat.le_refl _))
  · subst e
    obtain ⟨t, rfl⟩ := r1
    cases ha : z.cps.all (· < 128)
    · exact wpAny_pyIter_wide ha (pi_one (tk := s1.toks) I1 _ (turn_str _ z t "str_iterator" (.inr rfl)) ⟨_, Heap.get?_push_size _ rfl, rfl, rfl⟩ q)
    · exact wpAny_pyIter_ascii ha (pi_one (tk := s1.toks) I1 _ (turn_str _ z t "str_ascii_iterator" (.inl rfl)) ⟨_, Heap.get?_push_size _ rfl, rfl, rfl⟩ q)
theorem post_opt {α : Type} {R : Hp → (Addr → Prop) → Ga → It → List D → Prop} {Q : It → Hp → Prop} : ∀ {o : Option (List D)}, PostG P W σ H M R Q (optD o g s) → ∃ ds, o = some ds ∧ ∀ v H' M', En P σ H' g s M' → Ex (hid H M) (hid H' M') → R H' M' g v ds → Q v H'
  | none, h => h.elim
  | some ds, h => ⟨ds, rfl, h⟩
theorem di_seq (hK : X.K = F.K) (he : PEd X F W e f) : PId X F W tg e (iSeqF f) :=
  PI.imp (pi_any he.keep) (by
    rintro σ H Q ⟨P, g, s, M, E, h⟩
    refine rdG.seq (R' := RI) (Q' := Q) E h fun v d H1 g1 s1 M1 E1 x1 r1 h1 => ?_
    obtain ⟨ds, q1, q2⟩ := post_opt (α := D) h1
    rw [hK]
    cases r1 with
    | lst k1 k2 =>
      cases q1
      obtain ⟨nm, k1⟩ := hid_some k1
      exact .inl ⟨_, rfl, ⟨_, SqL.of k1⟩, q2 _ H1 M1 E1 (Ex.refl _) (wk_list k1 nm k2)⟩
    | tup k1 k2 =>
      cases q1
      exact .inr (.inl ⟨_, rfl, ⟨_, (hid_ex H1 M1).sqT k1⟩, q2 _ H1 M1 E1 (Ex.refl _) (wk_tup k1 k2)⟩)
    | str z =>
      cases q1
      exact .inr (.inr ⟨_, rfl, q2 _ H1 M1 E1 (Ex.refl _) wk_str⟩)
    | _ => cases q1)
theorem rng_small {i : Int} (h : small i = true) : -(2 ^ 62) ≤ i ∧ i < 2 ^ 62 := small_le h
theorem di_rng1 {fs : Ga → Sd → Out (List D)} {p pos : Pos} (hg : Gl X "range") (hm : X.mg "range" = none) (ha : PAd X F W [a] fs) (hs : isStar a = false) : PId X F W tg (.Call (.Name "range" p) [a] [] pos) (iRngF rngF1 fs) :=
  PI.imp (pi_range1 hg hm ha (by rw [star_cons hs]; rfl)) (by
    rintro σ H Q ⟨P, g, s, M, E, h⟩
    refine rdG.seq (R' := RI) (Q' := Q) E h fun vs ds H1 g1 s1 M1 E1 x1 r1 h1 => ?_
    obtain ⟨xs, q1, q2⟩ := post_opt (α := D) h1
    cases r1 with
    | nil => cases q1
    | cons k1 k2 =>
      cases k2 with
      | cons k3 k4 => cases k1 <;> cases k3 <;> cases k4 <;> cases q1
      | nil =>
        cases k1 with
        | int j =>
          have q1 : (if small j then some ((List.range j.toNat).map fun (k : Nat) => D.int (0 + (k : Int))) else none) = some xs := q1
          by_cases c : small j = true
          · rw [if_pos c] at q1
            cases q1
            have b := small_le c
            exact ⟨j, rfl, b.1, b.2, q2 _ H1 M1 E1 (Ex.refl _) wk_range⟩
          · rw [if_neg c] at q1; cases q1
        | _ => cases q1)
theorem di_rng2 {fs : Ga → Sd → Out (List D)} {p pos : Pos} (hg : Gl X "range") (hm : X.mg "range" = none) (ha : PAd X F W [a, b] fs) (hs : isStar a = false) (hs2 : isStar b = false) : PId X F W tg (.Call (.Name "range" p) [a, b] [] pos) (iRngF rngF2 fs) :=
  PI.imp (pi_range2 hg hm ha (by rw [star_cons hs, star_cons hs2]; rfl) (by rw [star_cons hs2]; rfl)) (by
    rintro σ H Q ⟨P, g, s, M, E, h⟩
    refine rdG.seq (R' := RI) (Q' := Q) E h fun vs ds H1 g1 s1 M1 E1 x1 r1 h1 => ?_
    obtain ⟨xs, q1, q2⟩ := post_opt (α := D) h1
    cases r1 with
    | nil => cases q1
    | cons k1 k2 =>
      cases k2 with
      | nil =>
        cases k1 <;> cases q1
      | cons k3 k4 =>
        cases k4 with
        | cons k5 k6 => cases k1 <;> cases k3 <;> cases q1
        | nil =>
          cases k1 with
          | int i =>
            cases k3 with
            | int j =>
              have q1 : (if small i && small j then some ((List.range (j - i).toNat).map fun (k : Nat) => D.int (i + (k : Int))) else none) = some xs := q1
              by_cases c : (small i && small j) = true
              · rw [if_pos c] at q1
                cases q1
                rw [Bool.and_eq_true] at c
                have b1 := small_le c.1
                have b2 := small_le c.2
                exact ⟨i, j, rfl, ⟨b1.1, b1.2, b2.1, b2.2⟩, q2 _ H1 M1 E1 (Ex.refl _) wk_range⟩
              · rw [if_neg c] at q1; cases q1
            | _ => cases q1
          | _ => cases k3 <;> cases q1)
theorem di_zip {elts : List Expr} {kk : Nat} {tpos : Pos} {fs : Ga → Sd → Out (List D)} {p pos : Pos} (hK : X.K = F.K) (hg : Gl X "zip") (hm : X.mg "zip" = none) (ha : PAd X F W [a, b] fs) (hs : isStar a = false) (hs2 : isStar b = false) : PId X F W (.Tuple elts kk tpos) (.Call (.Name "zip" p) [a, b] [] pos) (iZipF fs) :=
  PI.imp (pi_zip hg hm ha (star_cons hs) (star_any (by simp [hs2]))) (by
    rintro σ H Q ⟨P, g, s, M, E, h⟩
    refine rdG.seq (R' := RI) (Q' := Q) E h fun vs ds H1 g1 s1 M1 E1 x1 r1 h1 => ?_
    obtain ⟨xs, q1, q2⟩ := post_opt (α := D) h1
    rw [hK]
    cases r1 with
    | nil => cases q1
    | cons k1 k2 =>
      cases k2 with
      | nil => cases k1 <;> cases q1
      | cons k3 k4 =>
        cases k4 with
        | cons k5 k6 => cases k1 <;> cases k3 <;> cases q1
        | nil =>
          cases k1 with
          | lst u1 u2 =>
            cases k3 with
            | lst w1 w2 =>
              cases q1
              obtain ⟨n1, u1⟩ := hid_some u1
              obtain ⟨n2, w1⟩ := hid_some w1
              exact ⟨_, _, _, _, rfl, SqL.of u1, SqL.of w1, q2 _ H1 M1 E1 (Ex.refl _) (wk_zip u1 n1 u2 w1 n2 w2)⟩
            | _ => cases q1
          | _ => cases k3 <;> cases q1)
end
end DI
end
section
set_option Elab.async false
set_option linter.all false
set_option maxRecDepth 100000
set_option maxHeartbeats 1000000
/-! DIStm: statements of the program do what the core's statements do. -/
namespace DI
open PySem L2
def PostS {F : Fx} (P : Par F) (W : WX) (D : Ends) (H : Hp) (M : Addr → Prop) : Out Flow → Prop
  | .ok .nx g s => ∀ σ' H' M', En P σ' H' g s M' → Ex (hid H M) (hid H' M') → D.nx σ' H'
  | .ok .brk g s => ∀ σ' H' M', En P σ' H' g s M' → Ex (hid H M) (hid H' M') → D.bk σ' H'
  | .ok .cnt g s => ∀ σ' H' M', En P σ' H' g s M' → Ex (hid H M) (hid H' M') → D.ct σ' H'
  | .ok (.ret r) g s => ∀ v σ' H' M', En P σ' H' g s M' → Ex (hid H M) (hid H' M') → RsR P σ' H' M' g v r → D.rt v H'
  | .ex c d g s => ∀ cv dx σ' H' M', En P σ' H' g s M' → Ex (hid H M) (hid H' M') → ExR P H' M' cv dx c d → W cv dx σ' H'
  | .bad => False
def rdS (F : Fx) (W : WX) (f : Ga → Sd → Out Flow) : TS := fun D σ H => ∃ (P : Par F) (g : Ga) (s : Sd) (M : Addr → Prop), En P σ H g s M ∧ PostS P W D H M (f g s)
abbrev PSd (X : Cx) (F : Fx) (W : WX) (st : Stmt) (f : Ga → Sd → Out Flow) : Prop := PS X st (rdS F W f)
abbrev PSsd (X : Cx) (F : Fx) (W : WX) (st : List Stmt) (f : Ga → Sd → Out Flow) : Prop := PSs X st (rdS F W f)
section
variable {F : Fx} {P : Par F} {W : WX} {σ : St} {H : Hp} {g : Ga} {s : Sd} {M : Addr → Prop} {X : Cx} {tg e a b : Expr} {es : List Expr} {f fa fb : Ga → Sd → Out Rs} {D : Ends} {u v : Ga → Sd → Out Flow} {pos : Pos}
theorem PostS.mono {H1 : Hp} {M1 : Addr → Prop} (x : Ex (hid H M) (hid H1 M1)) : ∀ {o : Out Flow}, PostS P W D H M o → PostS P W D H1 M1 o
  | .ok .nx _ _, h => fun σ' H' M' E e => h σ' H' M' E (x.trans e)
  | .ok .brk _ _, h => fun σ' H' M' E e => h σ' H' M' E (x.trans e)
  | .ok .cnt _ _, h => fun σ' H' M' E e => h σ' H' M' E (x.trans e)
  | .ok (.ret _) _ _, h => fun v σ' H' M' E e r => h v σ' H' M' E (x.trans e) r
  | .ex _ _ _ _, h => fun cv dx σ' H' M' E e r => h cv dx σ' H' M' E (x.trans e) r
  | .bad, h => h
/-- an expression, then the rest of a statement -/
theorem rdG.then {α β : Type} {R : Par F → St → Hp → (Addr → Prop) → Ga → β → α → Prop} {f : Ga → Sd → Out α} {k : α → Ga → Sd → Out Flow} {Q : β → Hp → Prop} (E : En P σ H g s M) (h : PostS P W D H M ((f g s).bind k))
    (i : ∀ v r H1 g1 s1 M1, En P σ H1 g1 s1 M1 → Ex (hid H M) (hid H1 M1) → R P σ H1 M1 g1 v r → PostS P W D H1 M1 (k r g1 s1) → Q v H1) : rdG F W R f σ H Q := by
  refine rdG.mk E ?_
  cases o : f g s with
  | bad => rw [o] at h; exact h.elim
  | ex c d g1 s1 => rw [o] at h; exact fun cv dx H' M' E' e r => h cv dx σ H' M' E' e r
  | ok r g1 s1 =>
    rw [o] at h
    have h : PostS P W D H M (k r g1 s1) := h
    exact fun v H1 M1 E1 x1 rr => i v r H1 g1 s1 M1 E1 x1 rr (PostS.mono x1 h)

/-! ### blocks -/
theorem ds_nil : PSsd X F W [] (fun g s => .ok .nx g s) := PSs.imp pss_nil fun D σ H ⟨P, g, s, M, E, h⟩ => h σ H M E (Ex.refl _)
theorem seq_imp : ∀ D σ H, rdS F W (sSeq u v) D σ H → tSeq (rdS F W u) (rdS F W v) D σ H := by
  rintro D σ H ⟨P, g, s, M, E, h⟩
  refine ⟨P, g, s, M, E, ?_⟩
  have h : PostS P W D H M ((u g s).bind fun f g1 s1 => match f with | .nx => v g1 s1 | f => .ok f g1 s1) := h
  cases o : u g s with
  | bad => rw [o] at h; exact h
  | ex c d g1 s1 => rw [o] at h; exact h
  | ok fl g1 s1 =>
    rw [o] at h
    cases fl with
    | nx =>
      have h : PostS P W D H M (v g1 s1) := h
      exact fun σ' H' M' E' e => ⟨P, g1, s1, M', E', PostS.mono e h⟩
    | brk => exact h
    | cnt => exact h
    | ret r => exact h
theorem ds_cons {st : Stmt} {rest : List Stmt} (h1 : PSd X F W st u) (h2 : PSsd X F W rest v) : PSsd X F W (st :: rest) (sSeq u v) := PSs.imp (pss_cons h1 h2) seq_imp
theorem ds_one {st : Stmt} (h1 : PSd X F W st u) : PSsd X F W [st] u := pss_one h1
theorem ds_pass : PSd X F W (.Pass pos) (fun g s => .ok .nx g s) := PS.imp ps_pass fun D σ H ⟨P, g, s, M, E, h⟩ => h σ H M E (Ex.refl _)
theorem ds_break : PSd X F W (.Break pos) (fun g s => .ok .brk g s) := PS.imp ps_break fun D σ H ⟨P, g, s, M, E, h⟩ => h σ H M E (Ex.refl _)
theorem ds_continue : PSd X F W (.Continue pos) (fun g s => .ok .cnt g s) := PS.imp ps_continue fun D σ H ⟨P, g, s, M, E, h⟩ => h σ H M E (Ex.refl _)
theorem ds_exp (h : PEd X F W e f) (hs : swapsWith e none pos.line X.env = pure false) : PSd X F W (.Expr e pos) (sExp f) :=
  PS.imp (ps_expr h.settle hs) (by
    rintro D σ H ⟨P, g, s, M, E, h⟩
    exact rdG.then E h fun v r H1 g1 s1 M1 E1 x1 rr h1 => h1 σ H1 M1 E1 (Ex.refl _))
theorem ds_ret (h : PEd X F W e f) : PSd X F W (.Return (some e) pos) (sRet f) :=
  PS.imp (ps_ret h) (by
    rintro D σ H ⟨P, g, s, M, E, h⟩
    exact rdG.then E h fun v r H1 g1 s1 M1 E1 x1 rr h1 => h1 v σ H1 M1 E1 (Ex.refl _) rr)
theorem ds_if {c : Expr} {ta : Ga → Sd → Out Bool} {p q : List Stmt} (hc : PTd X F W c ta) (ha : PSsd X F W p u) (hb : PSsd X F W q v) : PSd X F W (.If c p q pos) (sIff ta u v) :=
  PS.imp (ps_if hc ha hb) (by
    rintro D σ H ⟨P, g, s, M, E, h⟩
    refine rdG.then (R := RQ) E h fun k r H1 g1 s1 M1 E1 x1 rr h1 => ?_
    subst rr
    cases k with
    | true => show (if true = true then _ else _); rw [if_pos rfl]; exact ⟨P, g1, s1, M1, E1, h1⟩
    | false => show (if false = true then _ else _); rw [if_neg Bool.false_ne_true]; exact ⟨P, g1, s1, M1, E1, h1⟩)

/-! ### assignment -/
theorem asg_kept {t : Tg} {gt : TG} (ht : TgR F gt t) : ∀ D σ H, rdS F W (fun g s => (f g s).keep.bind fun d g1 s1 => match bindT t d g1 with | some g2 => .ok .nx g2 s1 | none => .bad) D σ H → tAsg (rdG F W RD fun g s => (f g s).keep) gt D σ H := by
  rintro D σ H ⟨P, g, s, M, E, h⟩
  refine rdG.then (R := RD) E h fun v d H1 g1 s1 M1 E1 x1 rr h1 => ?_
  cases q : bindT t d g1 with
  | none => rw [q] at h1; exact h1.elim
  | some g2 =>
    rw [q] at h1
    have h1 : ∀ σ' H' M', En P σ' H' g2 s1 M' → Ex (hid H1 M1) (hid H' M') → D.nx σ' H' := h1
    exact ht P σ H1 g1 s1 M1 v d g2 D.nx E1 rr q fun σ' E' _ _ => h1 σ' H1 M1 E' (Ex.refl _)
/-- a name takes a value: an own list stays the slot's own -/
theorem asg_imp (i : Nat) : ∀ D σ H, rdS F W (sAsg (.nm i) f) D σ H → tAsg (rdG F W RE f) (gName i) D σ H := by
  rintro D σ H ⟨P, g, s, M, E, h⟩
  refine rdG.then (R := RE) E h fun v r H1 g1 s1 M1 E1 x1 rr h1 => ?_
  show D.nx (σ.set i (some v)) H1
  cases r with
  | nw xs =>
    obtain ⟨a, vs, rfl, k1, k2, k3, k4, k5⟩ := rr
    have h1 : PostS P W D H1 M1 (if i < g1.length then .ok .nx (g1.set i (.ow xs)) s1 else .bad) := h1
    by_cases hi : i < g1.length
    · rw [if_pos hi] at h1
      exact h1 _ H1 M1 (E1.setOw hi k1 k2 k3 k4 k5) (Ex.refl _)
    · rw [if_neg hi] at h1; exact h1.elim
  | fz d =>
    have h1 : PostS P W D H1 M1 (match bindT (.nm i) d g1 with | some g2 => .ok .nx g2 s1 | none => .bad) := h1
    have e : bindT (.nm i) d g1 = if i < g1.length then some (g1.set i (.fz d)) else none := rfl
    rw [e] at h1
    by_cases hi : i < g1.length
    · rw [if_pos hi] at h1
      exact h1 _ H1 M1 (E1.setFz hi rr) (Ex.refl _)
    · rw [if_neg hi] at h1; exact h1.elim
  | sl j =>
    have rr : σ[j]? = some (some v) := rr
    have h1 : PostS P W D H1 M1 (match keepS g1 j g1[j]? with | some (d, g2) => (match bindT (.nm i) d g2 with | some g3 => .ok .nx g3 s1 | none => .bad) | none => .bad) := h1
    cases q : g1[j]? with
    | none => rw [q] at h1; exact h1.elim
    | some l =>
      rw [q] at h1
      cases l with
      | un => exact h1.elim
      | fz d =>
        obtain ⟨v', k1, k2⟩ := E1.fz j d q
        rw [rr] at k1; cases k1
        have h1 : PostS P W D H1 M1 (match (if i < g1.length then some (g1.set i (.fz d)) else none) with | some g3 => .ok .nx g3 s1 | none => .bad) := h1
        by_cases hi : i < g1.length
        · rw [if_pos hi] at h1
          exact h1 _ H1 M1 (E1.setFz hi k2) (Ex.refl _)
        · rw [if_neg hi] at h1; exact h1.elim
      | ow xs =>
        obtain ⟨a, vs, k1, k2, k3, k4, E2, x2, r2⟩ := E1.freeze q
        rw [rr] at k1; cases k1
        have h1 : PostS P W D H1 M1 (match (if i < (g1.set j (.fz (.lst xs))).length then some ((g1.set j (.fz (.lst xs))).set i (.fz (.lst xs))) else none) with | some g3 => .ok .nx g3 s1 | none => .bad) := h1
        by_cases hi : i < (g1.set j (.fz (.lst xs))).length
        · rw [if_pos hi] at h1
          exact h1 _ H1 _ (E2.setFz hi r2) x2
        · rw [if_neg hi] at h1; exact h1.elim
theorem ds_set {i : Nat} {x : Str} {pos' : Pos} (hN : X.N.Nodup) (hi : X.N[i]? = some x) (hx : Loc X.env.scope x) (h : PEd X F W e f) (hs : swapsWith e (some (.Name x pos')) pos.line X.env = pure false) (hf : X.fn x = true ∨ X.env.scope.names.lookup x = some .local) :
    PSd X F W (.Assign [.Name x pos'] e pos) (sAsg (.nm i) f) := PS.imp (ps_set hN hi hx h hs hf) (asg_imp i)
theorem ds_asg {elts : List Expr} {kk : Nat} {tpos : Pos} {t : Tg} {gt : TG} {t1 t2 : Tg} (e1 : t = .cons t1 t2) (h : PEd X F W e f) (hg : PG X (.Tuple elts kk tpos) gt) (ht : TgR F gt t) (hs : swapsWithSole [.Tuple elts kk tpos] e pos.line X.env = pure false) (hw : swappedStores [.Tuple elts kk tpos] e X.env = pure none) : PSd X F W (.Assign [.Tuple elts kk tpos] e pos) (sAsg t f) :=
  PS.imp (ps_asg h.keep hg hs hw) fun D σ H ⟨P, g, s, M, E, q⟩ => by
    subst e1
    refine asg_kept ht D σ H ⟨P, g, s, M, E, ?_⟩
    have q : PostS P W D H M ((f g s).bind fun r g1 s1 => asgTo (.cons t1 t2) r g1 s1) := q
    show PostS P W D H M ((f g s).keep.bind _)
    cases o : f g s with
    | bad => rw [o] at q; exact q
    | ex c d g1 s1 => rw [o] at q; exact q
    | ok r g1 s1 =>
      rw [o] at q
      have q : PostS P W D H M (match DI.keep g1 r with | some (d, g1) => (match bindT (.cons t1 t2) d g1 with | some g2 => .ok .nx g2 s1 | none => .bad) | none => .bad) := by
        cases r <;> exact q
      show PostS P W D H M ((kept s1 (DI.keep g1 r)).bind _)
      cases k : DI.keep g1 r with
      | none => rw [k] at q; exact q
      | some p => rw [k] at q; exact q

/-! ### loops -/
theorem for_imp {wi : TI} {gt : TG} {t : Tg} {fi : Ga → Sd → Out (List DI.D)} (ht : TgR F gt t) : ∀ D σ H, rdS F W (sFor t fi u) D σ H → tFor (rdG F W RI fi) gt (rdS F W u) D σ H := by
  rintro D σ H ⟨P, g, s, M, E, h⟩
  refine rdG.then (R := RI) E h fun J ds H1 g1 s1 M1 E1 x1 wk h1 => ?_
  obtain ⟨G, Y, w, hG, hY⟩ := wk
  refine for_it w (fun i σ' H' => ∃ g s M, En P σ' H' g s M ∧ Ex (hid H1 M1) (hid H' M) ∧ PostS P W D H' M (forL (forTurn t u) (ds.drop i) g s)) ⟨g1, s1, M1, E1, Ex.refl _, by rw [List.drop_zero]; exact h1⟩
    (fun i σ' H' _ ⟨g, s, M, E, x, _⟩ => hG H' M x) (fun i x σ' H2 H3 hi ⟨g, s, M, E, ex, hp⟩ y => ?_) (fun σ' H' ⟨g, s, M, E, x, hp⟩ => ?_)
  · obtain ⟨d, hd, E2, x2, r2⟩ := hY i P σ' H2 g s M x H3 hi ex E y
    have ed : ds.drop i = d :: ds.drop (i + 1) := by
      rw [List.drop_eq_getElem_cons hi]
      obtain ⟨_, e⟩ := List.getElem?_eq_some_iff.mp hd
      rw [e]
    rw [ed] at hp
    have hp := PostS.mono x2 hp
    have hp : PostS P W D H3 M (match forTurn t u d g s with
      | .ok .nx g' s' => forL (forTurn t u) (ds.drop (i + 1)) g' s'
      | .ok .cnt g' s' => forL (forTurn t u) (ds.drop (i + 1)) g' s'
      | .ok .brk g' s' => .ok .nx g' s'
      | .ok (.ret r) g' s' => .ok (.ret r) g' s'
      | .ex c d g' s' => .ex c d g' s'
      | .bad => .bad) := hp
    cases q : bindT t d g with
    | none =>
      have e : forTurn t u d g s = .bad := by unfold forTurn; rw [q]
      rw [e] at hp; exact hp.elim
    | some g2 =>
      have e : forTurn t u d g s = u g2 s := by unfold forTurn; rw [q]
      rw [e] at hp
      refine ht P σ' H3 g s M x d g2 _ E2 r2 q fun σ2 E3 _ _ => ⟨P, g2, s, M, E3, ?_⟩
      cases o : u g2 s with
      | bad => rw [o] at hp; exact hp
      | ex c d g' s' => rw [o] at hp; exact hp
      | ok fl g' s' =>
        rw [o] at hp
        cases fl with
        | nx => exact fun σ4 H4 M4 E4 x4 => ⟨g', s', M4, E4, (ex.trans x2).trans x4, PostS.mono x4 hp⟩
        | cnt => exact fun σ4 H4 M4 E4 x4 => ⟨g', s', M4, E4, (ex.trans x2).trans x4, PostS.mono x4 hp⟩
        | brk => exact hp
        | ret r => exact hp
  · rw [List.drop_length] at hp
    exact hp σ' H' M E (Ex.refl _)
theorem ds_for {it : Expr} {body : List Stmt} {gt : TG} {t : Tg} {fi : Ga → Sd → Out (List DI.D)} (hp : PassesOwn (model X.prog X.w) X.A X.env X.xe) (hc : X.calm = true) (hi : PId X F W tg it fi) (hg : PG X tg gt) (ht : TgR F gt t) (hb : PSsd X F W body u)
    (hs : ∀ x, foldedSetIterable it X.env x = pure x) : PSd X F W (.For tg it body [] pos) (sFor t fi u) := PS.imp (ps_for hp hc hi hg hb hs) (for_imp (wi := rdG F W RI fi) ht)
theorem ds_while {c : Expr} {body : List Stmt} {ta : Ga → Sd → Out Bool} {n : Nat} (hp : PassesOwn (model X.prog X.w) X.A X.env X.xe) (hc : PTd X F W c ta) (hb : PSsd X F W body u) : PSd X F W (.While c body [] pos) (whlL ta u n) :=
  PS.imp (ps_while hp hc hb) (by
    rintro D σ H ⟨P, g, s, M, E, h⟩
    refine ⟨fun m σ' H' => ∃ g s M, En P σ' H' g s M ∧ PostS P W D H' M (whlL ta u m g s), ⟨n, g, s, M, E, h⟩, ?_⟩
    rintro m σ' H' ⟨g, s, M, E, h⟩
    cases m with
    | zero => exact h.elim
    | succ m =>
      have h : PostS P W D H' M ((ta g s).bind fun k g1 s1 => match k with
        | true => (match u g1 s1 with
          | .ok .nx g' s' => whlL ta u m g' s'
          | .ok .cnt g' s' => whlL ta u m g' s'
          | .ok .brk g' s' => .ok .nx g' s'
          | .ok (.ret r) g' s' => .ok (.ret r) g' s'
          | .ex c d g' s' => .ex c d g' s'
          | .bad => .bad)
        | false => .ok .nx g1 s1) := by
        have h : PostS P W D H' M (whlL ta u (m + 1) g s) := h
        unfold whlL at h
        cases o : ta g s with
        | bad => rw [o] at h; exact h
        | ex c d g1 s1 => rw [o] at h; exact h
        | ok k g1 s1 => rw [o] at h; cases k <;> exact h
      refine rdG.then (R := RQ) E h fun k r H1 g1 s1 M1 E1 x1 rr h1 => ?_
      subst rr
      cases k with
      | false => show (if false = true then _ else _); rw [if_neg Bool.false_ne_true]; exact h1 σ' H1 M1 E1 (Ex.refl _)
      | true =>
        show (if true = true then _ else _)
        rw [if_pos rfl]
        have h1 : PostS P W D H1 M1 (match u g1 s1 with
          | .ok .nx g' s' => whlL ta u m g' s'
          | .ok .cnt g' s' => whlL ta u m g' s'
          | .ok .brk g' s' => .ok .nx g' s'
          | .ok (.ret r) g' s' => .ok (.ret r) g' s'
          | .ex c d g' s' => .ex c d g' s'
          | .bad => .bad) := h1
        refine ⟨fun σ2 H2 => ∃ g s M, En P σ2 H2 g s M ∧ PostS P W D H2 M (whlL ta u m g s), fun σ2 H2 q => ⟨m, Nat.lt_succ_self m, q⟩, P, g1, s1, M1, E1, ?_⟩
        cases o : u g1 s1 with
        | bad => rw [o] at h1; exact h1
        | ex c d g' s' => rw [o] at h1; exact h1
        | ok fl g' s' =>
          rw [o] at h1
          cases fl with
          | nx => exact fun σ4 H4 M4 E4 x4 => ⟨g', s', M4, E4, PostS.mono x4 h1⟩
          | cnt => exact fun σ4 H4 M4 E4 x4 => ⟨g', s', M4, E4, PostS.mono x4 h1⟩
          | brk => exact h1
          | ret r => exact h1)
end
end DI
end
section
set_option Elab.async false
set_option linter.all false
set_option maxRecDepth 100000
set_option maxHeartbeats 1000000
/-! DILc: list comprehensions. -/
namespace DI
open PySem L2
abbrev W0 : WX := fun _ _ _ _ => False
def Wiped (g : Ga) (own : List Nat) : Prop := ∀ j ∈ own, (∀ d, g[j]? ≠ some (.fz d)) ∧ ∀ xs, g[j]? ≠ some (.ow xs)
theorem wiped_wipeG (g : Ga) : ∀ own : List Nat, Wiped (wipeG g own) own
  | [] => fun j h => nomatch h
  | v :: vs => fun j h => by
    show (∀ d, ((wipeG g vs).set v .un)[j]? ≠ _) ∧ ∀ xs, ((wipeG g vs).set v .un)[j]? ≠ _
    by_cases hj : j = v
    · subst hj
      by_cases hl : j < (wipeG g vs).length
      · rw [List.getElem?_set_self hl]; exact ⟨fun _ e => (by cases e), fun _ e => (by cases e)⟩
      · rw [List.getElem?_eq_none (by rw [List.length_set]; omega)]; exact ⟨fun _ e => (by cases e), fun _ e => (by cases e)⟩
    · rw [get_set_ne hj]
      exact wiped_wipeG g vs j ((List.mem_cons.mp h).resolve_left hj)
section
variable {F : Fx} {P : Par F} {W : WX} {σ : St} {H : Hp} {g : Ga} {s : Sd} {M : Addr → Prop} {X : Cx}
theorem wipe_out' {σ : St} {i : Nat} : ∀ {vs : List Nat}, i ∉ vs → (wipe σ vs)[i]? = σ[i]?
  | [], _ => rfl
  | v :: vs, h => by
    show ((wipe σ vs).set v none)[i]? = _
    rw [get_set_ne (fun z => h (by rw [z]; exact List.mem_cons_self))]
    exact wipe_out' fun z => h (List.mem_cons_of_mem _ z)
theorem En.unwipe {own : List Nat} (E : En P (L2.wipe σ own) H g s M) (w : Wiped g own) : En P σ H g s M := by
  have key : ∀ (j : Nat) (l : Sl), g[j]? = some l → (l ≠ Sl.un) → (L2.wipe σ own)[j]? = σ[j]? := fun j l e n => by
    refine wipe_out' fun z => ?_
    obtain ⟨h1, h2⟩ := w j z
    cases l with
    | un => exact n rfl
    | fz d => exact h1 d e
    | ow xs => exact h2 xs e
  refine ⟨by rw [← E.len, wipe_length], fun j d e => ?_, fun j xs e => ?_, fun i j a xs ys nj e1 e2 e3 e4 => ?_, E.stm, E.m0, E.al, E.fr, E.nw⟩
  · rw [← key j _ e (fun z => by cases z)]; exact E.fz j d e
  · rw [← key j _ e (fun z => by cases z)]; exact E.ow j xs e
  · rw [← key i _ e1 (fun z => by cases z)] at e3
    rw [← key j _ e2 (fun z => by cases z)] at e4
    exact E.ne i j a xs ys nj e1 e2 e3 e4
theorem wipe_eq {σ1 σ2 : St} (hl : σ1.length = σ2.length) {vs : List Nat} (h : ∀ j, j ∉ vs → σ1[j]? = σ2[j]?) : L2.wipe σ1 vs = L2.wipe σ2 vs := by
  refine List.ext_getElem? fun j => ?_
  by_cases hj : j ∈ vs
  · have key : ∀ (σ : St) (vs : List Nat), j ∈ vs → j < σ.length → (L2.wipe σ vs)[j]? = some none := fun σ vs => by
      induction vs with
      | nil => intro h; cases h
      | cons v vs ih =>
        intro h hlt
        show ((L2.wipe σ vs).set v none)[j]? = some none
        by_cases e : j = v
        · subst e; exact List.getElem?_set_self (by rw [wipe_length]; exact hlt)
        · rw [get_set_ne e]; exact ih ((List.mem_cons.mp h).resolve_left e) hlt
    by_cases hlt : j < σ1.length
    · rw [key σ1 vs hj hlt, key σ2 vs hj (by omega)]
    · rw [List.getElem?_eq_none (by rw [wipe_length]; omega), List.getElem?_eq_none (by rw [wipe_length]; omega)]
  · rw [wipe_out' hj, wipe_out' hj, h j hj]
theorem wipe_wipe (σ : St) (vs : List Nat) : L2.wipe (L2.wipe σ vs) vs = L2.wipe σ vs := wipe_eq (wipe_length ..) fun j hj => wipe_out' hj
theorem lc_imp {own : List Nat} {gt : TG} {t : Tg} {fi : Ga → Sd → Out (List DI.D)} {fc : Ga → Sd → Out Bool} {fe : Ga → Sd → Out Rs} (ht : TgR F gt t) (hsub : ∀ j ∈ t.slots, j ∈ own) : ∀ σ H Q, rdG F W RE (sLc own fi t fc fe) σ H Q →
    tLc (rdG F W RI fi) gt (rdG F W0 RQ fc) (rdG F W0 RD fun g s => (fe g s).keep) own σ H Q := by
  rintro σ H Q ⟨P, g, s, M, E, h⟩
  refine rdG.seq (R := RI) (R' := RE) (Q' := Q) E h fun J ds H1 g1 s1 M1 E1 x1 wk h1 => ?_
  obtain ⟨G, Y, w, hG, hY⟩ := wk
  intro D hD
  obtain ⟨Eo, xo, no, n0, h0⟩ := (E1.wipe own).own hD (.lst [])
  refine lc_it w (fun i H' => ∃ g s M vs acc, En P (L2.wipe σ own) H' g s M ∧ M D ∧ ¬ P.M0 D ∧ H' D = some (.lst vs) ∧ RpL F.K F.c (hid H' M) vs acc ∧ (∀ (j : Nat) (ys : List DI.D), g[j]? = some (.ow ys) → (L2.wipe σ own)[j]? ≠ some (some (.ref D))) ∧ Wiped g own ∧
      Ex (hid H1 M1) (hid H' M) ∧ PostG P W σ H' M (RE P σ) Q ((lcL (lcTurn own t fc fe) (ds.drop i) acc g s).bind fun ds g2 s2 => .ok (.nw ds) g2 s2)) ?_ ?_ ?_ ?_
  · exact ⟨_, s1, _, [], [], Eo, .inr rfl, n0, upd_same, .nil, no, wiped_wipeG g1 own, xo, by rw [List.drop_zero]; exact PostG.mono xo h1⟩
  · rintro i H' _ ⟨g, s, M, vs, acc, _, _, _, _, _, _, _, x, _⟩
    exact hG H' M x
  · rintro i x H2 H3 hi ⟨g, s, M, vs, acc, E2, hm, hn, hv, hr, hno, hw, ex, hp⟩ y
    obtain ⟨d, hd, E3, x3, r3⟩ := hY i P _ H2 g s M x H3 hi ex E2 y
    have ed : ds.drop i = d :: ds.drop (i + 1) := by
      rw [List.drop_eq_getElem_cons hi]
      obtain ⟨_, e⟩ := List.getElem?_eq_some_iff.mp hd
      rw [e]
    rw [ed] at hp
    have hp := PostG.mono x3 hp
    have hv3 : H3 D = some (.lst vs) := by
      -- the item's own heap: the list at D stands (it may change, but only the walk has gone on)
      have hP := hY i (P.hold D (.lst vs)) _ H2 g s M x H3 hi ex (E2.hold hm hn hv hno) y
      obtain ⟨d', hd', E', _, _⟩ := hP
      exact (E'.unhold hn h0).2.2.1
    have hlen : acc.length = vs.length := (RpL.length hr).symm
    -- the turn
    cases q : bindT t d g with
    | none =>
      have e : lcTurn own t fc fe d g s = .bad := by unfold lcTurn; rw [q]
      have hp : PostG P W σ H3 M (RE P σ) Q ((match lcTurn own t fc fe d g s with
        | .ok (some d) g' s' => if acc.length < sizeLine then lcL (lcTurn own t fc fe) (ds.drop (i + 1)) (acc ++ [d]) g' s' else .bad
        | .ok none g' s' => lcL (lcTurn own t fc fe) (ds.drop (i + 1)) acc g' s'
        | _ => .bad).bind fun ds g2 s2 => .ok (.nw ds) g2 s2) := hp
      rw [e] at hp
      exact hp.elim
    | some g2 =>
      have e : lcTurn own t fc fe d g s = (match fc g2 s with
        | .ok true g3 s3 => match (fe g3 s3).keep with
          | .ok d g4 s4 => .ok (some d) (wipeG g4 own) s4
          | _ => .bad
        | .ok false g3 s3 => .ok none (wipeG g3 own) s3
        | _ => .bad) := by unfold lcTurn; rw [q]; try rfl
      have hp : PostG P W σ H3 M (RE P σ) Q ((match lcTurn own t fc fe d g s with
        | .ok (some d) g' s' => if acc.length < sizeLine then lcL (lcTurn own t fc fe) (ds.drop (i + 1)) (acc ++ [d]) g' s' else .bad
        | .ok none g' s' => lcL (lcTurn own t fc fe) (ds.drop (i + 1)) acc g' s'
        | _ => .bad).bind fun ds g2 s2 => .ok (.nw ds) g2 s2) := hp
      rw [e] at hp
      have E4 := E3.hold hm hn hv3 hno
      refine ht (P.hold D (.lst vs)) _ H3 g s M x d g2 _ E4 r3 q fun σ2 E5 l5 k5 => ?_
      have hwp : L2.wipe σ2 own = L2.wipe σ own := by
        rw [← wipe_wipe σ own]
        exact wipe_eq l5 fun j hj => k5 j fun z => hj (hsub j z)
      refine ⟨hwp, P.hold D (.lst vs), g2, s, M, E5, ?_⟩
      cases o : fc g2 s with
      | bad => rw [o] at hp; exact hp.elim
      | ex c d g' s' => rw [o] at hp; exact hp.elim
      | ok k g3 s3 =>
        rw [o] at hp
        rintro b H6 M6 E6 x6 rfl
        cases b with
        | false =>
          show (if false = true then _ else _)
          rw [if_neg Bool.false_ne_true]
          obtain ⟨E7, hm7, hv7, hno7⟩ := E6.unhold hn h0
          have E8 := E7.wipe own
          rw [hwp] at E8
          refine ⟨_, s3, M6, vs, acc, E8, hm7, hn, hv7, hr.mono (x3.trans x6), fun j ys ej => ?_, wiped_wipeG g3 own, (ex.trans x3).trans x6, PostG.mono x6 hp⟩
          have nj : j ∉ own := fun z => (wiped_wipeG g3 own j z).2 ys ej
          rw [← hwp, wipe_out' nj]
          refine hno7 j ys ?_
          have : (wipeG g3 own)[j]? = g3[j]? := by
            have key : ∀ vs : List Nat, j ∉ vs → (wipeG g3 vs)[j]? = g3[j]? := fun vs => by
              induction vs with
              | nil => intro _; rfl
              | cons v vs ih => intro h; show ((wipeG g3 vs).set v .un)[j]? = _; rw [get_set_ne (fun z => h (by rw [z]; exact List.mem_cons_self))]; exact ih fun z => h (List.mem_cons_of_mem _ z)
            exact key own nj
          rw [← this]; exact ej
        | true =>
          show (if true = true then _ else _)
          rw [if_pos rfl]
          refine ⟨P.hold D (.lst vs), g3, s3, M6, E6, ?_⟩
          have hp : PostG P W σ H3 M (RE P σ) Q ((match (match (fe g3 s3).keep with
            | .ok d g4 s4 => Out.ok (some d) (wipeG g4 own) s4
            | _ => .bad) with
            | .ok (some d) g' s' => if acc.length < sizeLine then lcL (lcTurn own t fc fe) (ds.drop (i + 1)) (acc ++ [d]) g' s' else .bad
            | .ok none g' s' => lcL (lcTurn own t fc fe) (ds.drop (i + 1)) acc g' s'
            | _ => .bad).bind fun ds g2 s2 => .ok (.nw ds) g2 s2) := hp
          show PostG (P.hold D (.lst vs)) W0 σ2 H6 M6 (RD (P.hold D (.lst vs)) σ2) _ ((fe g3 s3).keep)
          cases o2 : (fe g3 s3).keep with
          | bad => rw [o2] at hp; exact hp.elim
          | ex c d g' s' => rw [o2] at hp; exact hp.elim
          | ok d2 g4 s4 =>
            rw [o2] at hp
            have hp : PostG P W σ H3 M (RE P σ) Q ((if acc.length < sizeLine then lcL (lcTurn own t fc fe) (ds.drop (i + 1)) (acc ++ [d2]) (wipeG g4 own) s4 else .bad).bind fun ds g2 s2 => .ok (.nw ds) g2 s2) := hp
            intro y H7 M7 E7 x7 r7
            by_cases hz : acc.length < sizeLine
            · rw [if_pos hz] at hp
              obtain ⟨E8, hm8, hv8, hno8⟩ := E7.unhold hn h0
              refine ⟨vs, hv8, by rw [← hlen]; exact hz, ?_⟩
              obtain ⟨E9, hh⟩ := E8.write hm8 hn hno8 (.lst (vs ++ [y]))
              have E10 := E9.wipe own
              rw [hwp] at E10
              have xx : Ex (hid H7 M7) (hid (upd H7 D (.lst (vs ++ [y]))) M7) := by rw [hh]; exact Ex.refl _
              refine ⟨_, s4, M7, vs ++ [y], acc ++ [d2], E10, hm8, hn, upd_same, ?_, fun j ys ej => ?_, wiped_wipeG g4 own, (((ex.trans x3).trans x6).trans x7).trans xx, PostG.mono ((x6.trans x7).trans xx) hp⟩
              · rw [hh]
                exact (hr.mono ((x3.trans x6).trans x7)).snoc r7
              · have nj : j ∉ own := fun z => (wiped_wipeG g4 own j z).2 ys ej
                rw [← hwp, wipe_out' nj]
                refine hno8 j ys ?_
                have : (wipeG g4 own)[j]? = g4[j]? := by
                  have key : ∀ vs : List Nat, j ∉ vs → (wipeG g4 vs)[j]? = g4[j]? := fun vs => by
                    induction vs with
                    | nil => intro _; rfl
                    | cons v vs ih => intro h; show ((wipeG g4 vs).set v .un)[j]? = _; rw [get_set_ne (fun z => h (by rw [z]; exact List.mem_cons_self))]; exact ih fun z => h (List.mem_cons_of_mem _ z)
                  exact key own nj
                rw [← this]; exact ej
            · rw [if_neg hz] at hp; exact hp.elim
  · rintro H' ⟨g, s, M, vs, acc, E2, hm, hn, hv, hr, hno, hw, ex, hp⟩
    rw [List.drop_length] at hp
    have hp : ∀ v H'' M', En P σ H'' g s M' → Ex (hid H' M) (hid H'' M') → RsR P σ H'' M' g v (.nw acc) → Q v H'' := hp
    have E3 := E2.unwipe hw
    refine hp _ H' M E3 (Ex.refl _) ⟨D, vs, rfl, hm, hn, hv, hr, fun j ys ej z => hno j ys ej ?_⟩
    rw [wipe_out' fun z => (hw j z).2 ys ej]
    exact z
abbrev PTsd (X : Cx) (F : Fx) (W : WX) (ifs : List Expr) (f : Ga → Sd → Out Bool) : Prop := PTs X ifs (rdG F W RQ f)
theorem PTs.imp {ifs : List Expr} {t t' : TT} (h : PTs X ifs t) (i : ∀ σ H Q, t' σ H Q → t σ H Q) : PTs X ifs t' := ⟨fun pins s σ H Q I q => h.run pins s σ H Q I (i σ H Q q)⟩
theorem dc_nil : PTsd X F W [] (fun g s => .ok true g s) := PTs.imp pts_nil fun σ H Q ⟨P, g, s, M, E, h⟩ => h true H M E (Ex.refl _) rfl
theorem dc_one {c : Expr} {fc : Ga → Sd → Out Bool} (h : PTd X F W c fc) : PTsd X F W [c] fc := pts_one h
theorem d_lc {elt tg it : Expr} {ifs : List Expr} {scope : Scope} {own : List (Str × Nat)} {pos : Pos} {gt : TG} {t : Tg} {fi : Ga → Sd → Out (List DI.D)} {fc : Ga → Sd → Out Bool} {fe : Ga → Sd → Out Rs} (hc : X.calm = true) (hN : X.N.Nodup) (hi : PId X F W tg it fi)
    (ok : BlkOk X.N X.env.scope scope own) (hg : ∀ (s : Shared) (H : Hp) (C : Addr) (cl : List (Str × Addr)) (fp : List Addr), PG (X.blk s H scope (compEnvC scope cl C X.env) fp) tg gt) (ht : TgR F gt t) (hsub : ∀ j ∈ t.slots, j ∈ own.map (·.2))
    (hf : ∀ (s : Shared) (H : Hp) (C : Addr) (cl : List (Str × Addr)) (fp : List Addr), PTsd (X.blk s H scope (compEnvC scope cl C X.env) fp) F W0 ifs fc)
    (he : ∀ (s : Shared) (H : Hp) (C : Addr) (cl : List (Str × Addr)) (fp : List Addr), PEd (X.blk s H scope (compEnvC scope cl C X.env) fp) F W0 elt fe) (hs : ∀ x, foldedSetIterable it X.env x = pure x) :
    PEd X F W (.ListComp elt [⟨tg, it, ifs, 0⟩] scope pos) (sLc (own.map (·.2)) fi t fc fe) :=
  PE.imp (pe_lc hc hN hi ok hg hf (fun s H C cl fp => (he s H C cl fp).keep) hs) (lc_imp (W := W) ht hsub)
theorem ds_setLc {i : Nat} {y : Str} {py : Pos} {elt tg it : Expr} {ifs : List Expr} {scope : Scope} {own : List (Str × Nat)} {pos spos : Pos} {gt : TG} {t : Tg} {fi : Ga → Sd → Out (List DI.D)} {fc : Ga → Sd → Out Bool} {fe : Ga → Sd → Out Rs} (hc : X.calm = true) (hN : X.N.Nodup) (hy : X.N[i]? = some y)
    (hyl : X.env.scope.names.lookup y = some .local) (hsw : swapsWith (.ListComp elt [⟨tg, it, ifs, 0⟩] scope pos) (some (.Name y py)) spos.line X.env = pure true) (hi : PId X F W tg it fi)
    (ok : BlkOk X.N X.env.scope scope own) (hg : ∀ (s : Shared) (H : Hp) (C : Addr) (cl : List (Str × Addr)) (fp : List Addr), PG (X.blk s H scope (compEnvC scope cl C X.env) fp) tg gt) (ht : TgR F gt t) (hsub : ∀ j ∈ t.slots, j ∈ own.map (·.2))
    (hf : ∀ (s : Shared) (H : Hp) (C : Addr) (cl : List (Str × Addr)) (fp : List Addr), PTsd (X.blk s H scope (compEnvC scope cl C X.env) fp) F W0 ifs fc)
    (he : ∀ (s : Shared) (H : Hp) (C : Addr) (cl : List (Str × Addr)) (fp : List Addr), PEd (X.blk s H scope (compEnvC scope cl C X.env) fp) F W0 elt fe) (hs : ∀ x, foldedSetIterable it X.env x = pure x) :
    PSd X F W (.Assign [.Name y py] (.ListComp elt [⟨tg, it, ifs, 0⟩] scope pos) spos) (sAsg (.nm i) (sLc (own.map (·.2)) fi t fc fe)) :=
  PS.imp (ps_setLc hc hN hy hyl hsw hi ok hg hf (fun s H C cl fp => (he s H C cl fp).keep) hs) fun D σ H q => lc_imp (W := W) ht hsub σ H _ (asg_imp i D σ H q)
end
end DI
end
section
set_option Elab.async false
set_option linter.all false
set_option maxRecDepth 100000
set_option maxHeartbeats 1000000
/-! DIMth: methods of own lists, stores, parallel assignment. -/
namespace DI
open PySem L2
section
variable {F : Fx} {P : Par F} {W : WX} {σ : St} {H : Hp} {g : Ga} {s : Sd} {M : Addr → Prop} {X : Cx} {e a b : Expr} {es : List Expr} {f fa fb : Ga → Sd → Out Rs} {pos : Pos}
/-- a method on values does m on data -/
def MtOk (F : Fx) (r : V → List V → Hp → VK → Prop) (m : Mt) : Prop :=
  ∀ (G H : Hp) (a : Addr) (vs : List V) (xs : List DI.D) (ws : List V) (ds : List DI.D) (d : DI.D) (ys : List DI.D) (Q : VK), H a = some (.lst vs) → Ex G H → G a = none → RpL F.K F.c G vs xs → RpL F.K F.c G ws ds → mtF m xs ds = some (d, ys) →
    (∀ u us, Rp F.K F.c G u d → RpL F.K F.c G us ys → Q u (upd H a (.lst us))) → r (.ref a) ws H Q
theorem mth_append : MtOk F rAppend .append := by
  intro G H a vs xs ws ds d ys Q h x ga h1 h2 e k
  cases h2 with
  | nil => cases e
  | cons k1 k2 =>
    cases k2 with
    | cons k3 k4 => cases e
    | nil =>
      rename_i w d'
      have e : (if xs.length < sizeLine then some (DI.D.non, xs ++ [d']) else none) = some (d, ys) := e
      by_cases c : xs.length < sizeLine
      · rw [if_pos c] at e
        cases e
        exact ⟨a, vs, w, rfl, rfl, h, by rw [h1.length]; exact c, k _ _ .non (h1.snoc k1)⟩
      · rw [if_neg c] at e; cases e
theorem mth_extend : MtOk F rExtend .extend := by
  intro G H a vs xs ws ds d ys Q h x ga h1 h2 e k
  cases h2 with
  | nil => cases e
  | cons k1 k2 =>
    cases k2 with
    | cons k3 k4 => cases k1 <;> cases e
    | nil =>
      cases k1 with
      | lst q1 q2 =>
        rename_i b us zs
        have e : (if xs.length + zs.length ≤ sizeLine then some (DI.D.non, xs ++ zs) else none) = some (d, ys) := e
        by_cases c : xs.length + zs.length ≤ sizeLine
        · rw [if_pos c] at e
          cases e
          exact ⟨a, b, vs, us, rfl, rfl, h, x _ _ q1, by rw [h1.length, q2.length]; exact c, k _ _ .non (h1.append q2)⟩
        · rw [if_neg c] at e; cases e
      | _ => cases e
theorem mth_popAt : MtOk F rPopAt .popAt := by
  intro G H a vs xs ws ds d ys Q h x ga h1 h2 e k
  cases h2 with
  | nil => cases e
  | cons k1 k2 =>
    cases k2 with
    | cons k3 k4 => cases k1 <;> cases e
    | nil =>
      cases k1 with
      | int i =>
        have e : (if small i then (seqIndex? i xs.length).bind fun k => (xs[k]?).map fun y => (y, xs.eraseIdx k) else none) = some (d, ys) := e
        by_cases c : small i = true
        · rw [if_pos c] at e
          have b := small_le c
          cases q : seqIndex? i xs.length with
          | none => rw [q] at e; cases e
          | some n =>
            rw [q] at e
            have e : (xs[n]?).map (fun y => (y, xs.eraseIdx n)) = some (d, ys) := e
            cases q2 : xs[n]? with
            | none => rw [q2] at e; cases e
            | some y =>
              rw [q2] at e
              cases e
              obtain ⟨v, v1, v2⟩ := h1.get q2
              exact ⟨a, vs, i, n, v, rfl, rfl, h, by omega, by omega, by rw [h1.length]; exact q, v1, k _ _ v2 (h1.erase n)⟩
        · rw [if_neg c] at e; cases e
      | _ => cases e
theorem mth_pop : MtOk F rPop .pop := by
  intro G H a vs xs ws ds d ys Q h x ga h1 h2 e k
  cases h2 with
  | cons k1 k2 => cases e
  | nil =>
    have e : (xs[xs.length - 1]?).map (fun y => (y, xs.dropLast)) = some (d, ys) := e
    cases q2 : xs[xs.length - 1]? with
    | none => rw [q2] at e; cases e
    | some y =>
      rw [q2] at e
      cases e
      obtain ⟨v, v1, v2⟩ := h1.get q2
      exact ⟨a, vs, v, rfl, rfl, h, by rw [h1.length]; exact v1, k _ _ v2 h1.dropLast⟩
theorem mth_insert : MtOk F (fun x vs H Q => ∃ (l : Addr) (xs : List V) (i : Int) (y : V), x = .ref l ∧ vs = [.int i, y] ∧ H l = some (.lst xs) ∧ xs.length < sizeLine ∧ 0 ≤ i ∧ i < 2 ^ 63 ∧ Q .non (upd H l (.lst (xs.take i.toNat ++ [y] ++ xs.drop i.toNat)))) .insert := by
  intro G H a vs xs ws ds d ys Q h x ga h1 h2 e k
  cases h2 with
  | nil => cases e
  | cons k1 k2 =>
    cases k2 with
    | nil => cases k1 <;> cases e
    | cons k3 k4 =>
      cases k4 with
      | cons k5 k6 => cases k1 <;> cases e
      | nil =>
        cases k1 with
        | int i =>
          rename_i w d'
          have e : (if xs.length < sizeLine ∧ 0 ≤ i ∧ i < 2 ^ 62 then some (DI.D.non, xs.take i.toNat ++ [d'] ++ xs.drop i.toNat) else none) = some (d, ys) := e
          by_cases c : xs.length < sizeLine ∧ 0 ≤ i ∧ i < 2 ^ 62
          · rw [if_pos c] at e
            cases e
            exact ⟨a, vs, i, w, rfl, rfl, h, by rw [h1.length]; exact c.1, c.2.1, by have := c.2.2; omega, k _ _ .non (((h1.take _).append (.cons k3 .nil)).append (h1.drop _))⟩
          · rw [if_neg c] at e; cases e
        | _ => cases e
theorem mth_imp {r : V → List V → Hp → VK → Prop} {m : Mt} {i : Nat} {fs : Ga → Sd → Out (List DI.D)} {K : PySem.W.Frag} (hr : MtOk F r m) : ∀ σ H Q, rdG F W RE (sMth m i fs) σ H Q → tBM K "list" r (tVar i) (rdG F W RA fs) σ H Q := by
  rintro σ H Q ⟨P, g, s, M, E, h⟩
  have h : PostG P W σ H M (RE P σ) Q (match g[i]? with
    | some (.ow _) => (fs g s).bind fun ds g1 s1 => match g1[i]? with
      | some (.ow xs) => match mtF m xs ds with
        | some (d, ys) => .ok (.fz d) (g1.set i (.ow ys)) s1
        | none => .bad
      | _ => .bad
    | _ => .bad) := h
  cases q : g[i]? with
  | none => rw [q] at h; exact h.elim
  | some l =>
    rw [q] at h
    cases l with
    | un => exact h.elim
    | fz d => exact h.elim
    | ow xs0 =>
      obtain ⟨a, vs0, k1, k2, k3, k4, k5⟩ := E.ow i xs0 q
      refine ⟨_, k1, .inl ⟨rfl, vs0, SqL.of k4⟩, ?_⟩
      refine rdG.seq (R := RA) (R' := RE) (Q' := Q) E h fun ws ds H1 g1 s1 M1 E1 x1 r1 h1 => ?_
      cases q1 : g1[i]? with
      | none => rw [q1] at h1; exact h1.elim
      | some l =>
        rw [q1] at h1
        cases l with
        | un => exact h1.elim
        | fz d => exact h1.elim
        | ow xs =>
          have h1 : PostG P W σ H1 M1 (RE P σ) Q (match mtF m xs ds with
            | some (d, ys) => .ok (.fz d) (g1.set i (.ow ys)) s1
            | none => .bad) := h1
          cases q2 : mtF m xs ds with
          | none => rw [q2] at h1; exact h1.elim
          | some p =>
            obtain ⟨d, ys⟩ := p
            rw [q2] at h1
            obtain ⟨b, vs, j1, j2, j3, j4, j5⟩ := E1.ow i xs q1
            rw [k1] at j1
            cases j1
            refine hr (hid H1 M1) H1 a vs xs ws ds d ys Q j4 (hid_ex H1 M1) (by unfold hid; rw [if_pos j2]) j5 r1 q2 fun u us ru rus => ?_
            obtain ⟨E2, hh⟩ := E1.writeOw q1 k1 rus
            exact h1 u _ M1 E2 (by rw [hh]; exact Ex.refl _) (by show Rp _ _ _ _ _; rw [hh]; exact ru)
theorem d_mth {r : V → List V → Hp → VK → Prop} {m : Mt} {i : Nat} {fs : Ga → Sd → Out (List DI.D)} {name x : Str} {id : String} {p apos : Pos} (hr : MtOk F r m) (slot : Slot "list" name id) (hty : typeOf (.builtin id) = pure (.type "method_descriptor")) (hm : MtR X id r)
    (hN : X.N[i]? = some x) (hv : Vis X.env.scope x) (hd : (x == ("__debug__" : Str)) = false) (hcd : (x == ("__classdict__" : Str)) = false) (ha : PAd X F W (e :: es) fs) (hline : (apos.endLine == pos.line) = true)
    (hfew : ((backTo pos (starEach (e :: es) X.env)).all (fun x => !x.1) && (backToKw pos (keywordEach [] X.env)).all (fun x => x.1.isSome) && decide ((e :: es).length + ([] : List Keyword).length + (if ([] : List Keyword).isEmpty then 0 else 1) < 30)) = true)
    (h1 : isStar e = false) (h2 : noStar es = true) : PEd X F W (.Call (.Attribute (.Name x p) name apos) (e :: es) [] pos) (sMth m i fs) :=
  PE.imp (pe_bm PySem.F.plainAttrs_list slot hty hm (pe_var hN hv hd hcd) ha rfl hfew hline (star_cons h1) (star_any h2)) (mth_imp hr)
theorem d_mth0 {r : V → List V → Hp → VK → Prop} {m : Mt} {i : Nat} {name x : Str} {id : String} {p apos : Pos} (hr : MtOk F r m) (slot : Slot "list" name id) (hty : typeOf (.builtin id) = pure (.type "method_descriptor")) (hm : MtR X id r)
    (hN : X.N[i]? = some x) (hv : Vis X.env.scope x) (hd : (x == ("__debug__" : Str)) = false) (hcd : (x == ("__classdict__" : Str)) = false) (hline : (apos.endLine == pos.line) = true) : PEd X F W (.Call (.Attribute (.Name x p) name apos) [] [] pos) (sMth m i fun g s => .ok [] g s) :=
  PE.imp (pe_bm0 PySem.F.plainAttrs_list slot hty hm (pe_var hN hv hd hcd) rfl hline) fun σ H Q q => by
    have z : tBM X.K "list" r (tVar i) (rdG F W RA fun g s => .ok [] g s) σ H Q := mth_imp hr σ H Q q
    obtain ⟨v, k1, k2, P, g, s, M, E, h⟩ := z
    exact ⟨v, k1, k2, h [] H M E (Ex.refl _) .nil⟩

/-! ### x[i] = e -/
theorem sto_imp {i : Nat} : ∀ D σ H, rdS F W (sSto i fb fa) D σ H → tAsg (rdG F W RD fun g s => (fa g s).keep) (gSub (tVar i) (rdG F W RS fun g s => (fb g s).settle) rSetL) D σ H := by
  rintro D σ H ⟨P, g, s, M, E, h⟩
  refine rdG.then (R := RD) E h fun v d H1 g1 s1 M1 E1 x1 rr h1 => ?_
  cases q : g1[i]? with
  | none => rw [q] at h1; exact h1.elim
  | some l =>
    rw [q] at h1
    cases l with
    | un => exact h1.elim
    | fz d => exact h1.elim
    | ow xs0 =>
      obtain ⟨a, vs0, k1, k2, k3, k4, k5⟩ := E1.ow i xs0 q
      refine ⟨_, k1, ?_⟩
      have h1 : PostS P W D H1 M1 ((fb g1 s1).bind fun r g2 s2 => match r, g2[i]? with
        | .fz (.int j), some (.ow xs) => match ixN xs.length j with
          | some n => .ok .nx (g2.set i (.ow (xs.set n d))) s2
          | none => .bad
        | _, _ => .bad) := h1
      have h2 : PostS P W D H1 M1 ((fb g1 s1).settle.bind fun r g2 s2 => match r, g2[i]? with
        | .fz (.int j), some (.ow xs) => match ixN xs.length j with
          | some n => .ok .nx (g2.set i (.ow (xs.set n d))) s2
          | none => .bad
        | _, _ => .bad) := by
        cases o : fb g1 s1 with
        | bad => rw [o] at h1; exact h1
        | ex c d' g2 s2 => rw [o] at h1; exact h1
        | ok r g2 s2 =>
          rw [o] at h1
          cases r with
          | fz d' => exact h1
          | nw xs => exact h1.elim
          | sl j => exact h1
      refine rdG.then (R := RS) E1 h2 fun w r H2 g2 s2 M2 E2 x2 ⟨r2, n2⟩ h3 => ?_
      cases r with
      | sl j => exact h3.elim
      | nw xs => exact h3.elim
      | fz d' =>
        cases d' with
        | int j =>
          cases q2 : g2[i]? with
          | none => rw [q2] at h3; exact h3.elim
          | some l =>
            rw [q2] at h3
            cases l with
            | un => exact h3.elim
            | fz d => exact h3.elim
            | ow xs =>
              have h3 : PostS P W D H2 M2 (match ixN xs.length j with
                | some n => .ok .nx (g2.set i (.ow (xs.set n d))) s2
                | none => .bad) := h3
              cases q3 : ixN xs.length j with
              | none => rw [q3] at h3; exact h3.elim
              | some n =>
                rw [q3] at h3
                obtain ⟨b, vs, j1, j2, j3, j4, j5⟩ := E2.ow i xs q2
                rw [k1] at j1
                cases j1
                cases r2 with
                | int =>
                  obtain ⟨E3, hh⟩ := E2.writeOw q2 k1 (RpL.set (Rp.mono x2 rr) n j5)
                  exact ⟨a, vs, j, n, rfl, rfl, j4, by rw [j5.length]; exact q3, h3 _ _ M2 E3 (by rw [hh]; exact Ex.refl _)⟩
        | _ => exact h3.elim
theorem ds_sto {i : Nat} {x : Str} {p p2 : Pos} (hN : X.N[i]? = some x) (hv : Vis X.env.scope x) (hd : (x == ("__debug__" : Str)) = false) (hcd : (x == ("__classdict__" : Str)) = false) (ha : PEd X F W a fa) (hb : PEd X F W b fb)
    (hs : swapsWithSole [.Subscript (.Name x p) b p2] a pos.line X.env = pure false) (hw : swappedStores [.Subscript (.Name x p) b p2] a X.env = pure none)
    (hg : ∀ v, assign (.Subscript (.Name x p) b p2) X.env v = (do
      let ov ← holding [v] (eval (.Name x p) X.env)
      let iv ← holding [v, ov] (eval b X.env)
      standAt p2
      holding [v, ov, iv] (setItem ov iv v)
      release [v, ov, iv] [])) : PSd X F W (.Assign [.Subscript (.Name x p) b p2] a pos) (sSto i fb fa) :=
  PS.imp (ps_asg ha.keep (pg_sub (pe_var hN hv hd hcd) hb.settle set_list hg) hs hw) sto_imp

/-! ### a, b = x, y -/
inductive RsP {F : Fx} (P : Par F) (σ : St) (H : Hp) (M : Addr → Prop) (g : Ga) : List V → List Rs → Prop
  | nil : RsP P σ H M g [] []
  | fz {v : V} {d : DI.D} {vs : List V} {rs : List Rs} : Rp F.K F.c (hid H M) v d → RsP P σ H M g vs rs → RsP P σ H M g (v :: vs) (.fz d :: rs)
  | nw {v : V} {xs : List DI.D} {vs : List V} {rs : List Rs} : RsR P σ H M g v (.nw xs) → (∀ (j : Nat) (ys : List DI.D), rs[j]? = some (.nw ys) → vs[j]? ≠ some v) → RsP P σ H M g vs rs → RsP P σ H M g (v :: vs) (.nw xs :: rs)
abbrev RPs {F : Fx} (P : Par F) : St → Hp → (Addr → Prop) → Ga → List V → List Rs → Prop := fun σ H M g v d => RsP P σ H M g v d
abbrev PPd (X : Cx) (F : Fx) (W : WX) (es : List Expr) (f : Ga → Sd → Out (List Rs)) : Prop := PA X es (rdG F W RPs f)
abbrev RH {F : Fx} (P : Par F) : St → Hp → (Addr → Prop) → Ga → V → Rs → Prop := fun σ H M g v r => RsR P σ H M g v r ∧ ∀ i, r ≠ .sl i
theorem post_half {Q : VK} {f : Ga → Sd → Out Rs} {g0 : Ga} {s0 : Sd} (h : PostG P W σ H M (RH P σ) Q (sHalf f g0 s0)) : PostG P W σ H M (RE P σ) Q (f g0 s0) := by
  have h : PostG P W σ H M (RH P σ) Q ((f g0 s0).bind fun r g1 s1 => halved s1 (half g1 r)) := h
  cases o : f g0 s0 with
  | bad => rw [o] at h; exact h
  | ex c d g s => rw [o] at h; exact h
  | ok r g s =>
    rw [o] at h
    have h : PostG P W σ H M (RH P σ) Q (halved s (half g r)) := h
    intro v H' M' E e rr
    cases r with
    | nw xs => exact h v H' M' E e ⟨rr, fun _ z => by cases z⟩
    | fz d => exact h v H' M' E e ⟨rr, fun _ z => by cases z⟩
    | sl i =>
      have rr : σ[i]? = some (some v) := rr
      have h : PostG P W σ H M (RH P σ) Q (halved s (match keepS g i g[i]? with | some (d, g') => some (.fz d, g') | none => none)) := h
      cases q : g[i]? with
      | none => rw [q] at h; exact h.elim
      | some l =>
        rw [q] at h
        cases l with
        | un => exact h.elim
        | fz d =>
          obtain ⟨v', h1, h2⟩ := E.fz i _ q
          rw [rr] at h1; cases h1
          exact h v H' M' E e ⟨h2, fun _ z => by cases z⟩
        | ow xs =>
          obtain ⟨a, vs, h1, h2, h3, h4, E2, x2, r2⟩ := E.freeze q
          rw [rr] at h1; cases h1
          exact h _ H' _ E2 (e.trans x2) ⟨r2, fun _ z => by cases z⟩
theorem PEd.half (h : PEd X F W e f) : PE X e (rdG F W RH (sHalf f)) := PE.imp h fun σ H Q ⟨P, g, s, M, E, q⟩ => ⟨P, g, s, M, E, post_half q⟩
theorem RsP.unhold {a : Addr} {o : HO} {vs : List V} {rs : List Rs} (h : RsP (P.hold a o) σ H M g vs rs) : RsP P σ H M g vs rs ∧ ∀ (j : Nat) (ys : List DI.D), rs[j]? = some (.nw ys) → vs[j]? ≠ some (.ref a) := by
  induction h with
  | nil => exact ⟨.nil, fun j ys e => by simp at e⟩
  | fz r t ih => exact ⟨.fz r ih.1, fun j ys e => by
      cases j with
      | zero => simp at e
      | succ j => simp only [List.getElem?_cons_succ] at e ⊢; exact ih.2 j ys e⟩
  | nw r n t ih =>
    obtain ⟨b, us, rfl, k1, k2, k3, k4, k5⟩ := r
    exact ⟨.nw ⟨b, us, rfl, k1, fun z => k2 (.inl z), k3, k4, k5⟩ n ih.1, fun j ys e => by
      cases j with
      | zero =>
        simp only [List.getElem?_cons_zero]
        intro z
        cases z
        exact k2 (.inr rfl)
      | succ j => simp only [List.getElem?_cons_succ] at e ⊢; exact ih.2 j ys e⟩
/-- what is got with a thing held is got without -/
theorem post_unhold {a : Addr} {o : HO} (h2 : ¬ P.M0 a) (h0 : P.H0 a = none) {Q : List V → Hp → Prop} {v : V} {xs : List DI.D} {vs0 : List V} (hv : v = .ref a) (ho : o = .lst vs0) {H1 : Hp} {M1 : Addr → Prop} (hr : RpL F.K F.c (hid H1 M1) vs0 xs) : ∀ {q : Out (List Rs)}, PostG P W σ H1 M1 (RPs P σ) (fun vs H => Q vs H) (q.bind fun rs g2 s2 => .ok (.nw xs :: rs) g2 s2) → PostG (P.hold a o) W σ H1 M1 (RPs (P.hold a o) σ) (fun vs H => Q (v :: vs) H) q
  | .bad, h => h
  | .ex c d g s, h => fun cv dx H' M' E e r => h cv dx H' M' (E.unhold h2 h0).1 e r
  | .ok rs g s, h => fun vs H' M' E e r => by
    subst hv ho
    obtain ⟨E1, k1, k2, k3⟩ := E.unhold h2 h0
    obtain ⟨r1, r2⟩ := r.unhold
    exact h _ H' M' E1 e (.nw ⟨a, vs0, rfl, k1, h2, k2, hr.mono e, k3⟩ r2 r1)
theorem dp_nil : PPd X F W [] (fun g s => .ok [] g s) := PA.imp pa_nil fun σ H Q ⟨P, g, s, M, E, h⟩ => h [] H M E (Ex.refl _) .nil
theorem dp_cons {fr : Ga → Sd → Out (List Rs)} (ha : PEd X F W e f) (hr : PPd X F W es fr) (hs : isStar e = false) : PPd X F W (e :: es) (pCons f fr) :=
  PA.imp (pa_cons ha.half hr (star_cons hs)) (by
    rintro σ H Q ⟨P, g, s, M, E, h⟩
    refine rdG.seq (R := RH) (R' := RPs) (Q' := Q) E h fun v r H1 g1 s1 M1 E1 x1 ⟨r1, n1⟩ h1 => ?_
    cases r with
    | sl i => exact absurd rfl (n1 i)
    | fz d =>
      refine rdG.seq (R := RPs) (R' := RPs) (Q' := Q) E1 h1 fun vs ds H2 g2 s2 M2 E2 x2 r2 h2 => ?_
      exact h2 _ H2 M2 E2 (Ex.refl _) (.fz (Rp.mono x2 r1) r2)
    | nw xs =>
      obtain ⟨a, us, rfl, k1, k2, k3, k4, k5⟩ := r1
      exact ⟨P.hold a (.lst us), g1, s1, M1, E1.hold k1 k2 k3 k5, post_unhold k2 (E1.nw a k1 k2) rfl rfl k4 h1⟩)
theorem RsP.setFz {i : Nat} {v : V} {d : DI.D} (hi : i < g.length) {vs : List V} {rs : List Rs} (t : RsP P σ H M g vs rs) : RsP P (σ.set i (some v)) H M (g.set i (.fz d)) vs rs := by
  induction t with
  | nil => exact .nil
  | fz r t ih => exact .fz r ih
  | nw r n t ih =>
    refine .nw ?_ n ih
    obtain ⟨b, us, rfl, k1, k2, k3, k4, k5⟩ := r
    refine ⟨b, us, rfl, k1, k2, k3, k4, fun j ys ej => ?_⟩
    by_cases hj : j = i
    · subst hj; rw [List.getElem?_set_self hi] at ej; cases ej
    · rw [get_set_ne hj] at ej ⊢; exact k5 j ys ej
theorem RsP.setOw {i : Nat} {a : Addr} {xs : List DI.D} (hi : i < g.length) (hs : i < σ.length) {vs : List V} {rs : List Rs} (t : RsP P σ H M g vs rs) : (∀ (j : Nat) (ys : List DI.D), rs[j]? = some (.nw ys) → vs[j]? ≠ some (.ref a)) → RsP P (σ.set i (some (.ref a))) H M (g.set i (.ow xs)) vs rs := by
  induction t with
  | nil => intro _; exact .nil
  | fz r t ih => intro n; exact .fz r (ih fun j ys ej => by have := n (j + 1) ys; simp only [List.getElem?_cons_succ] at this; exact this ej)
  | nw r n' t ih =>
    intro n
    refine .nw ?_ n' (ih fun j ys ej => by have := n (j + 1) ys; simp only [List.getElem?_cons_succ] at this; exact this ej)
    obtain ⟨b, us, rfl, j1, j2, j3, j4, j5⟩ := r
    refine ⟨b, us, rfl, j1, j2, j3, j4, fun j ys ej => ?_⟩
    by_cases hj : j = i
    · subst hj
      rw [List.getElem?_set_self hs]
      intro z
      have z := Option.some.inj (Option.some.inj z)
      cases z
      exact n 0 _ rfl rfl
    · rw [get_set_ne hj] at ej ⊢; exact j5 j ys ej
/-- the values go to the names, in whatever order: here one by one -/
theorem put_ok : ∀ {is : List Nat} {vs : List V} {rs : List Rs} {g g' : Ga} {σ : St}, is.Nodup → En P σ H g s M → RsP P σ H M g vs rs → putAll is rs g = some g' →
    vs.length = is.length ∧ ∃ σ', En P σ' H g' s M ∧ σ'.length = σ.length ∧ (∀ j, j ∉ is → σ'[j]? = σ[j]?) ∧ ∀ (k i : Nat) (v : V), is[k]? = some i → vs[k]? = some v → σ'[i]? = some (some v)
  | [], _, _, g, g', σ, _, E, .nil, e => by cases e; exact ⟨rfl, σ, E, rfl, fun _ _ => rfl, fun k i v h => by simp at h⟩
  | [], _, _, _, _, _, _, _, .fz _ _, e => by cases e
  | [], _, _, _, _, _, _, _, .nw _ _ _, e => by cases e
  | i :: is, _, _, _, _, _, _, _, .nil, e => by cases e
  | i :: is, _, _, g, g', σ, nd, E, .fz (v := v) (d := d) (vs := vs) (rs := rs) r t, e => by
    have e : (if i < g.length then putAll is rs (g.set i (.fz d)) else none) = some g' := e
    by_cases hi : i < g.length
    · rw [if_pos hi] at e
      have nd' := List.nodup_cons.mp nd
      have E1 := E.setFz hi r
      have t1 := RsP.setFz (v := v) (d := d) hi t
      obtain ⟨hl, σ', q1, q2, q3, q4⟩ := put_ok nd'.2 E1 t1 e
      refine ⟨by rw [List.length_cons, List.length_cons, hl], σ', q1, by rw [q2, List.length_set], fun j hj => ?_, fun k l w hk hw => ?_⟩
      · rw [q3 j fun z => hj (List.mem_cons_of_mem _ z), get_set_ne fun z => hj (by rw [z]; exact List.mem_cons_self)]
      · cases k with
        | zero =>
          simp only [List.getElem?_cons_zero] at hk hw
          cases hk; cases hw
          rw [q3 i nd'.1]
          exact List.getElem?_set_self (by rw [E.len]; exact hi)
        | succ k =>
          simp only [List.getElem?_cons_succ] at hk hw
          exact q4 k l w hk hw
    · rw [if_neg hi] at e; cases e
  | i :: is, _, _, g, g', σ, nd, E, .nw (v := v) (xs := xs) (vs := vs) (rs := rs) r n t, e => by
    have e : (if i < g.length then putAll is rs (g.set i (.ow xs)) else none) = some g' := e
    by_cases hi : i < g.length
    · rw [if_pos hi] at e
      have nd' := List.nodup_cons.mp nd
      obtain ⟨a, us0, rfl, k1, k2, k3, k4, k5⟩ := r
      have E1 := E.setOw hi k1 k2 k3 k4 k5
      have t1 := RsP.setOw (xs := xs) hi (by rw [E.len]; exact hi) t n
      obtain ⟨hl, σ', q1, q2, q3, q4⟩ := put_ok nd'.2 E1 t1 e
      refine ⟨by rw [List.length_cons, List.length_cons, hl], σ', q1, by rw [q2, List.length_set], fun j hj => ?_, fun k l w hk hw => ?_⟩
      · rw [q3 j fun z => hj (List.mem_cons_of_mem _ z), get_set_ne fun z => hj (by rw [z]; exact List.mem_cons_self)]
      · cases k with
        | zero =>
          simp only [List.getElem?_cons_zero] at hk hw
          cases hk; cases hw
          rw [q3 i nd'.1]
          exact List.getElem?_set_self (by rw [E.len]; exact hi)
        | succ k =>
          simp only [List.getElem?_cons_succ] at hk hw
          exact q4 k l w hk hw
    · rw [if_neg hi] at e; cases e
/-- the slots behind: the names' own values, in any order of the stores -/
theorem par_end {is : List Nat} {fs : Ga → Sd → Out (List Rs)} {D : Ends} (nd : is.Nodup) (fin : List V → St → St) (hfin : ∀ (vs : List V) (σ σ' : St), vs.length = is.length → σ'.length = σ.length → (∀ j, j ∉ is → σ'[j]? = σ[j]?) → (∀ (k i : Nat) (v : V), is[k]? = some i → vs[k]? = some v → σ'[i]? = some (some v)) → σ' = fin vs σ) :
    ∀ σ H, rdS F W (sPar is fs) D σ H → rdG F W RPs fs σ H fun vs H1 => vs.length = is.length ∧ D.nx (fin vs σ) H1 := by
  rintro σ H ⟨P, g, s, M, E, h⟩
  refine rdG.then (R := RPs) E h fun vs rs H1 g1 s1 M1 E1 x1 r1 h1 => ?_
  have h1 : PostS P W D H1 M1 (match putAll is rs g1 with | some g2 => .ok .nx g2 s1 | none => .bad) := h1
  cases q : putAll is rs g1 with
  | none => rw [q] at h1; exact h1.elim
  | some g2 =>
    rw [q] at h1
    obtain ⟨hl, σ', q1, q2, q3, q4⟩ := put_ok nd E1 r1 q
    refine ⟨hl, ?_⟩
    rw [← hfin vs σ σ' hl q2 q3 q4]
    exact h1 σ' H1 M1 q1 (Ex.refl _)
theorem ds_par2 {i j : Nat} {x y : Str} {a b : Expr} {fs : Ga → Sd → Out (List Rs)} {px py pt : Pos} {kt k2 : Nat} {pt2 : Pos} (hc : X.calm = true) (hN : X.N.Nodup) (hi : X.N[i]? = some x) (hj : X.N[j]? = some y) (hij : i ≠ j)
    (hx : X.env.scope.names.lookup x = some .local) (hy : X.env.scope.names.lookup y = some .local) (ha : PPd X F W [a, b] fs)
    (hw : swappedStores [.Tuple [.Name x px, .Name y py] kt pt] (.Tuple [a, b] k2 pt2) X.env = pure (some [x, y]))
    (hs : swapsWithSole [.Tuple [.Name x px, .Name y py] kt pt] (.Tuple [a, b] k2 pt2) pos.line X.env = pure false) :
    PSd X F W (.Assign [.Tuple [.Name x px, .Name y py] kt pt] (.Tuple [a, b] k2 pt2) pos) (sPar [i, j] fs) :=
  PS.imp (ps_par hc hN hi hj hij hx hy ha hw hs) fun D σ H q => by
    have nd : ([i, j] : List Nat).Nodup := by simp [hij]
    have z := par_end (F := F) (W := W) (D := D) nd (fun vs σ => match vs with | [v, w] => (σ.set i (some v)).set j (some w) | _ => σ) (fun vs σ σ' hl h1 h2 h3 => ?_) σ H q
    · obtain ⟨P, g, s, M, E, h⟩ := z
      refine ⟨P, g, s, M, E, ?_⟩
      cases o : fs g s with
      | bad => rw [o] at h; exact h
      | ex c d g1 s1 => rw [o] at h; exact h
      | ok rs g1 s1 =>
        rw [o] at h
        intro vs H1 M1 E1 x1 r1
        obtain ⟨hl, k⟩ := h vs H1 M1 E1 x1 r1
        rcases vs with _ | ⟨v, _ | ⟨w, _ | ⟨u, r⟩⟩⟩
        · cases hl
        · cases hl
        · exact ⟨v, w, rfl, k⟩
        · cases hl
    · rcases vs with _ | ⟨v, _ | ⟨w, _ | ⟨u, r⟩⟩⟩
      · cases hl
      · cases hl
      · refine List.ext_getElem? fun l => ?_
        show σ'[l]? = ((σ.set i (some v)).set j (some w))[l]?
        by_cases e1 : l = j
        · subst e1
          have k := h3 1 l w rfl rfl
          have hlt : l < σ'.length := (List.getElem?_eq_some_iff.mp k).1
          rw [k, List.getElem?_set_self (by rw [List.length_set]; omega)]
        · rw [get_set_ne e1]
          by_cases e2 : l = i
          · subst e2
            have k := h3 0 l v rfl rfl
            have hlt : l < σ'.length := (List.getElem?_eq_some_iff.mp k).1
            rw [k, List.getElem?_set_self (by omega)]
          · rw [get_set_ne e2]
            exact h2 l (by simp [e1, e2])
      · cases hl
end
end DI
end
section
set_option Elab.async false
set_option linter.all false
set_option maxRecDepth 100000
set_option maxHeartbeats 1000000
/-! DICall: calls of the program's own defs, and what a def's body shows of it. -/
namespace DI
open PySem L2
/-- all but the spring stands -/
def Frm (F : Fx) (H H' : Hp) : Prop := ∀ b o, H b = some o → b ≠ F.c → b ≠ F.k → H' b = some o
/-- what a def hands back -/
def RetR (F : Fx) (M0 : Addr → Prop) (H H' : Hp) (v : V) (d : DI.D) : Bool → Prop
  | false => Rp F.K F.c (hid H' M0) v d
  | true => ∃ xs a vs, d = .lst xs ∧ v = .ref a ∧ H a = none ∧ H' a = some (.lst vs) ∧ RpL F.K F.c (hid H' (fun b => M0 b ∨ b = a)) vs xs
def ExF (F : Fx) (M0 : Addr → Prop) (H' : Hp) (cv : Value) (dx : Option Addr) (c : Nat) (d : DI.D) : Prop :=
  ∃ C f a v, F.cls c = some (C, f) ∧ cv = .ref C ∧ dx = some a ∧ H' a = some (.xd [(f, v)]) ∧ ¬ M0 a ∧ Rp F.K F.c (hid H' M0) v d
def PostF (F : Fx) (M0 : Addr → Prop) (H : Hp) (Q : VK) (E : XK) : FOut → Prop
  | .ok d fr s' => ∀ v H', Frm F H H' → Strm H' F.c F.k s' → RetR F M0 H H' v d fr → Q v H'
  | .ex c d s' => ∀ cv dx H', Frm F H H' → Strm H' F.c F.k s' → ExF F M0 H' cv dx c d → E cv dx H'
  | .bad => False
/-- the promise of a def that does ψ -/
def spF (F : Fx) (n : Nat) (ψ : List DI.D → Sd → FOut) : Sp := fun vs H Q E => vs.length = n ∧ ∃ ds s M0, M0 F.c ∧ M0 F.k ∧ (∀ a, M0 a → H a ≠ none) ∧ Strm H F.c F.k s ∧ RpL F.K F.c (hid H M0) vs ds ∧ PostF F M0 H Q E (ψ ds s)
section
variable {F : Fx} {P : Par F} {W : WX} {σ : St} {H : Hp} {g : Ga} {s : Sd} {M : Addr → Prop} {X : Cx} {e a b : Expr} {es : List Expr} {f fa fb : Ga → Sd → Out Rs} {pos : Pos}
theorem En.ck (E : En P σ H g s M) {a : Addr} (h : ¬ P.M0 a) : a ≠ F.c ∧ a ≠ F.k := ⟨fun z => h (z ▸ P.m0c), fun z => h (z ▸ P.m0k)⟩
/-- behind a call -/
theorem En.after (E : En P σ H g s M) {H' : Hp} {s' : Sd} (fr : Frm F H H') (st : Strm H' F.c F.k s') : En P σ H' g s' M ∧ Ex (hid H M) (hid H' M) := by
  have x : Ex (hid H M) (hid H' M) := Ex.hidE fun b o m e => ⟨m, fr b o e (fun z => m (by rw [z]; exact E.m0 _ P.m0c)) fun z => m (by rw [z]; exact E.m0 _ P.m0k)⟩
  refine ⟨⟨E.len, fun i d h => ?_, fun i xs h => ?_, E.ne, st, E.m0, fun a m e => ?_, fun b o e n1 n2 => fr b o (E.fr b o e n1 n2) n1 n2, E.nw⟩, x⟩
  · obtain ⟨v, h1, h2⟩ := E.fz i d h
    exact ⟨v, h1, h2.mono x⟩
  · obtain ⟨a, vs, h1, h2, h3, h4, h5⟩ := E.ow i xs h
    obtain ⟨n1, n2⟩ := E.ck h3
    exact ⟨a, vs, h1, h2, h3, fr a _ h4 n1 n2, h5.mono x⟩
  · by_cases n1 : a = F.c
    · rw [n1, st.2.1] at e; cases e
    · by_cases n2 : a = F.k
      · rw [n2, st.2.2] at e; cases e
      · cases q : H a with
        | none => exact E.al a m q
        | some o => rw [fr a o q n1 n2] at e; cases e
/-- .. with a new list that may change -/
theorem En.afterNew (E : En P σ H g s M) {H' : Hp} {s' : Sd} (fr : Frm F H H') (st : Strm H' F.c F.k s') {p : Addr} {vs : List V} (hp : H p = none) (hp' : H' p = some (.lst vs)) :
    En P σ H' g s' (fun b => M b ∨ b = p) ∧ Ex (hid H M) (hid H' (fun b => M b ∨ b = p)) ∧ ¬ P.M0 p ∧ ∀ (j : Nat) (ys : List DI.D), g[j]? = some (.ow ys) → σ[j]? ≠ some (some (.ref p)) := by
  have np : ¬ M p := fun m => E.al p m hp
  obtain ⟨E1, x1⟩ := E.after fr st
  have x : Ex (hid H M) (hid H' (fun b => M b ∨ b = p)) := Ex.hidE fun b o m e => by
    obtain ⟨m', e'⟩ := x1.of_hid m e
    exact ⟨fun z => z.elim m' (fun z => by rw [z, hp] at e; cases e), e'⟩
  have hid2 : ∀ (j : Nat) (ys : List DI.D), g[j]? = some (Sl.ow ys) → σ[j]? ≠ some (some (V.ref p)) := fun j ys e z => by
    obtain ⟨b, us, h1, h2, _⟩ := E.ow j ys e
    rw [h1] at z; cases z
    exact np h2
  have h0 : P.H0 p = none := by
    cases q : P.H0 p with
    | none => rfl
    | some u =>
      by_cases h1 : p = F.c
      · rw [h1, E.stm.2.1] at hp; cases hp
      · by_cases h2 : p = F.k
        · rw [h2, E.stm.2.2] at hp; cases hp
        · rw [E.fr p u q h1 h2] at hp; cases hp
  refine ⟨⟨E1.len, fun i d h => ?_, fun i xs h => ?_, E1.ne, st, fun a m => .inl (E.m0 a m), fun a m e => ?_, E1.fr, fun a m n => m.elim (fun m => E.nw a m n) fun z => by rw [z]; exact h0⟩, x, fun m => np (E.m0 p m), hid2⟩
  · obtain ⟨v, h1, h2⟩ := E.fz i d h
    exact ⟨v, h1, h2.mono x⟩
  · obtain ⟨a, us, h1, h2, h3, h4, h5⟩ := E1.ow i xs h
    obtain ⟨v, vs', q1, q2, q3, q4, q5⟩ := E.ow i xs h
    rw [q1] at h1; cases h1
    obtain ⟨n1, n2⟩ := E.ck q3
    exact ⟨_, vs', q1, .inl q2, q3, fr _ _ q4 n1 n2, q5.mono x⟩
  · rcases m with m | rfl
    · exact E1.al a m e
    · rw [hp'] at e; cases e
theorem call_post {ψ : List DI.D → Sd → FOut} {Q : VK} {ds : List DI.D} (E : En P σ H g s M) (h : PostG P W σ H M (RE P σ) Q (match ψ ds s with
    | .ok (.lst xs) true s' => .ok (.nw xs) g s'
    | .ok d _ s' => .ok (.fz d) g s'
    | .ex c d s' => .ex c d g s'
    | .bad => .bad)) : PostF F M H Q (WE W σ) (ψ ds s) := by
  cases o : ψ ds s with
  | bad => rw [o] at h; exact h
  | ex c d s' =>
    rw [o] at h
    intro cv dx H' fr st r
    obtain ⟨E1, x1⟩ := E.after fr st
    exact h cv dx H' M E1 x1 r
  | ok d fresh s' =>
    rw [o] at h
    intro v H' fr st r
    cases fresh with
    | true =>
      obtain ⟨xs, a, vs, rfl, rfl, h1, h2, h3⟩ := r
      obtain ⟨E1, x1, n0, no⟩ := E.afterNew fr st h1 h2
      exact h _ H' _ E1 x1 ⟨a, vs, rfl, .inr rfl, n0, h2, h3, no⟩
    | false =>
      have r : Rp F.K F.c (hid H' M) v d := r
      obtain ⟨E1, x1⟩ := E.after fr st
      cases d <;> exact h _ H' _ E1 x1 r
def callG (ψ : List DI.D → Sd → FOut) (ds : List DI.D) (g : Ga) (s : Sd) : Out Rs := match ψ ds s with
  | .ok (.lst xs) true s' => .ok (.nw xs) g s'
  | .ok d _ s' => .ok (.fz d) g s'
  | .ex c d s' => .ex c d g s'
  | .bad => .bad
theorem d_call {n k : Nat} {ψ : List DI.D → Sd → FOut} {fs : Ga → Sd → Out (List DI.D)} {ff : Addr} {fd : FuncData} {ps : List Str} {x : Str} {p : Pos} (Fn : FnOk X.prog X.w X.K X.mg X.base (L2.CX X.prog X.w) k ff fd ps (spF F n ψ)) (hψ : ∀ ds s, ds.length ≠ n → ψ ds s = .bad) (hr : Room k X.A) (hg : Gl X x) (hm : X.mg x = some (.ref ff))
    (hk : PySem.W.keepIn X.K (.ref ff) = true) (hb : Binds X.K fd ps []) (tk : Takes X W) (ha : PAd X F W (e :: es) fs) (hdb : (x == ("__debug__" : Str)) = false) (h1 : isStar e = false) (h2 : noStar es = true) :
    PEd X F W (.Call (.Name x p) (e :: es) [] pos) (sCall (callG ψ) fs) :=
  PE.imp (pe_callS Fn hr hg hm hk hb (passAt tk) ha hdb (star_cons h1) (star_any h2)) (by
    rintro σ H Q ⟨P, g, s, M, E, h⟩
    refine rdG.seq (R := RA) (R' := RE) (Q' := Q) E h fun vs ds H1 g1 s1 M1 E1 x1 r1 h1 => ?_
    have post := call_post (ψ := ψ) E1 h1
    have hl : ds.length = n := Decidable.byContradiction fun z => by rw [hψ ds s1 z] at post; exact post
    exact ⟨by rw [RpL.length r1, hl], ds, s1, M1, E1.m0 _ P.m0c, E1.m0 _ P.m0k, E1.al, E1.stm, r1, post⟩)
/-- f(k = v, ..), names alone; it is let out only what hangs on no slot -/
theorem pe_callK0 {k : Nat} {ff : Addr} {fd : FuncData} {ps ks : List Str} {sp : Sp} {Ex : XK} {CX : CXT} {gg : List Value → List Value → List Value} {gV : List V → List V → List V} {kws : List Keyword} {tk : TA} {x : Str} {p : Pos} (Fn : FnOk X.prog X.w X.K X.mg X.base CX k ff fd ps sp) (hr : Room k X.A) (hg : Gl X x) (hm : X.mg x = some (.ref ff)) (hk : PySem.W.keepIn X.K (.ref ff) = true)
    (hb : KBinds X.K fd ps ks gg gV) (hx : Passes CX X Ex) (hkw : PK X kws tk) (hall : (backToKw pos (keywordEach kws X.env)).all (·.1.isSome) = true) (hks : (backToKw pos (keywordEach kws X.env)).filterMap (·.1) = ks) (hdb : (x == ("__debug__" : Str)) = false)
    (hpl : ((backTo pos (starEach [] X.env)).any (·.1) || (backToKw pos (keywordEach kws X.env)).any (·.1.isNone)) = false) : PE X (.Call (.Name x p) [] kws pos) (fun σ H Q => tk σ H fun zs H2 => sp (gV [] zs) H2 Q Ex) := by
  refine ⟨fun pins s σ H Q I h => ?_⟩
  refine wpAny_Call_Name_kw (ld_glob I hg hm ?_ hdb)
  refine PySem.W.callWith_KW0 (h₀ := X.base) I.ok.mod.kin hk hall (L2.thn (hkw.run pos pins s σ H _ I h) fun ws s2 ⟨zs, H2, I2, rz, q2⟩ => ⟨I2.kIn, ?_⟩) hpl
  rw [hks]
  exact run_fnk (us := []) (vs := []) Fn hr hb hx I2 .nil rz q2
abbrev PKd (X : Cx) (F : Fx) (W : WX) (kws : List Keyword) (f : Ga → Sd → Out (List DI.D)) : Prop := PK X kws (rdG F W RA f)
theorem PK.imp {kws : List Keyword} {t t' : TA} (h : PK X kws t) (i : ∀ σ H Q, t' σ H Q → t σ H Q) : PK X kws t' := ⟨fun pos pins s σ H Q I q => h.run pos pins s σ H Q I (i σ H Q q)⟩
theorem dk_nil : PKd X F W [] (fun g s => .ok [] g s) := PK.imp pk_nil fun σ H Q ⟨P, g, s, M, E, h⟩ => h [] H M E (Ex.refl _) .nil
theorem dk_cons {kws : List Keyword} {nm : Option Str} {kpos : Pos} {fr : Ga → Sd → Out (List DI.D)} (ha : PEd X F W e f) (hr : PKd X F W kws fr) : PKd X F W (⟨nm, e, kpos⟩ :: kws) (aCons f fr) :=
  PK.imp (pk_cons ha.keep hr) (by
    rintro σ H Q ⟨P, g, s, M, E, h⟩
    refine rdG.seq (R := RD) (R' := RA) (Q' := Q) E h fun v d H1 g1 s1 M1 E1 x1 r1 h1 => ?_
    refine rdG.seq (R := RA) (R' := RA) (Q' := Q) E1 h1 fun vs ds H2 g2 s2 M2 E2 x2 r2 h2 => ?_
    exact h2 _ H2 M2 E2 (Ex.refl _) (.cons (Rp.mono x2 r1) r2))
/-- places: the i-th parameter is the pm[i]-th of what is passed -/
def permL {α : Type} (pm : List Nat) (xs : List α) : List α := pm.filterMap fun i => xs[i]?
theorem permL_rp {K : PySem.W.Frag} {c : Addr} {H : Hp} {vs : List V} {ds : List DI.D} (r : RpL K c H vs ds) : ∀ pm : List Nat, RpL K c H (permL pm vs) (permL pm ds)
  | [] => .nil
  | i :: pm => by
    unfold permL
    rw [List.filterMap_cons, List.filterMap_cons]
    cases q : ds[i]? with
    | none =>
      have : vs[i]? = none := by rw [List.getElem?_eq_none_iff] at q ⊢; rw [r.length]; exact q
      rw [this]
      exact permL_rp r pm
    | some d =>
      obtain ⟨v, h1, h2⟩ := r.get q
      rw [h1]
      exact .cons h2 (permL_rp r pm)
/-- keywords alone, in the parameters' order -/
def kG {α : Type} (pm : List Nat) (us ws : List α) : List α := match us with
  | [] => permL pm ws
  | _ :: _ => []
theorem d_callK {n k : Nat} {ψ : List DI.D → Sd → FOut} {fs : Ga → Sd → Out (List DI.D)} {ff : Addr} {fd : FuncData} {ps ks : List Str} {x : Str} {p : Pos} {pm : List Nat} {kws : List Keyword} {E0 : XK} (hW : W = fun c d _ H => E0 c d H) (Fn : FnOk X.prog X.w X.K X.mg X.base (L2.CX X.prog X.w) k ff fd ps (spF F n ψ)) (hψ : ∀ ds s, ds.length ≠ n → ψ ds s = .bad) (hr : Room k X.A) (hg : Gl X x) (hm : X.mg x = some (.ref ff))
    (hk : PySem.W.keepIn X.K (.ref ff) = true) (hb : KBinds X.K fd ps ks (kG pm) (kG pm)) (tk : Takes X W) (ha : PKd X F W kws fs) (hdb : (x == ("__debug__" : Str)) = false)
    (hall : (backToKw pos (keywordEach kws X.env)).all (·.1.isSome) = true) (hks : (backToKw pos (keywordEach kws X.env)).filterMap (·.1) = ks) (hpl : ((backTo pos (starEach [] X.env)).any (·.1) || (backToKw pos (keywordEach kws X.env)).any (·.1.isNone)) = false) :
    PEd X F W (.Call (.Name x p) [] kws pos) (sCall (fun ds => callG ψ (permL pm ds)) fs) := by
  subst hW
  refine PE.imp (pe_callK0 Fn hr hg hm hk hb (passes_call tk fun _ _ _ _ z => z) ha hall hks hdb hpl) ?_
  rintro σ H Q ⟨P, g, s, M, E, h⟩
  refine rdG.seq (R := RA) (R' := RE) (Q' := Q) E h fun vs ds H1 g1 s1 M1 E1 x1 r1 h1 => ?_
  have post := call_post (ψ := ψ) (ds := permL pm ds) E1 h1
  have hl : (permL pm ds).length = n := Decidable.byContradiction fun z => by rw [hψ _ s1 z] at post; exact post
  have r2 := permL_rp r1 pm
  exact ⟨by show (permL pm vs).length = n; rw [RpL.length r2, hl], permL pm ds, s1, M1, E1.m0 _ P.m0c, E1.m0 _ P.m0k, E1.al, E1.stm, r2, post⟩

/-! ### a def's body -/
def finS (g : Ga) (s : Sd) : Rs → FOut
  | .fz d => .ok d false s
  | .nw xs => .ok (.lst xs) true s
  | .sl i => match g[i]? with
    | some (.ow xs) => .ok (.lst xs) true s
    | some (.fz d) => .ok d false s
    | _ => .bad
def finish : Out Flow → FOut
  | .ok (.ret r) g s => finS g s r
  | .ok .nx _ s => .ok .non false s
  | .ex c d _ s => .ex c d s
  | _ => .bad
def startG (m : Nat) (ds : List DI.D) : Ga := ds.map .fz ++ List.replicate (m - ds.length) .un
/-- a def of n parameters and m names -/
def fnOf (n m : Nat) (b : Ga → Sd → Out Flow) (ds : List DI.D) (s : Sd) : FOut := if ds.length = n then finish (b (startG m ds) s) else .bad
theorem fnOf_bad {n m : Nat} {b : Ga → Sd → Out Flow} : ∀ ds s, ds.length ≠ n → fnOf n m b ds s = .bad := fun ds s h => by unfold fnOf; rw [if_neg h]
theorem start_get {N : List Str} {vs : List V} {ds : List DI.D} {K : PySem.W.Frag} {c : Addr} {H : Hp} (r : RpL K c H vs ds) {i : Nat} {l : Sl} (h : (startG N.length ds)[i]? = some l) : l = .un ∨ ∃ v d, l = .fz d ∧ (L2.start N vs)[i]? = some (some v) ∧ Rp K c H v d := by
  unfold startG at h
  unfold L2.start
  by_cases hi : i < ds.length
  · rw [List.getElem?_append_left (by rw [List.length_map]; exact hi)] at h
    rw [List.getElem?_map] at h
    cases q : ds[i]? with
    | none => rw [q] at h; cases h
    | some d =>
      rw [q] at h
      cases h
      obtain ⟨v, h1, h2⟩ := r.get q
      exact .inr ⟨v, d, rfl, by rw [List.getElem?_append_left (by rw [List.length_map, r.length]; exact hi), List.getElem?_map, h1]; rfl, h2⟩
  · rw [List.getElem?_append_right (by rw [List.length_map]; omega)] at h
    rw [List.getElem?_replicate] at h
    split at h
    · cases h; exact .inl rfl
    · cases h
theorem start_len {N : List Str} {vs : List V} {ds : List DI.D} (h : vs.length = ds.length) (hn : ds.length ≤ N.length) : (L2.start N vs).length = (startG N.length ds).length := by
  unfold L2.start startG
  simp [h]
theorem body_ok {N : List Str} {n : Nat} {vs : List V} {Q : VK} {E0 : XK} {b : Ga → Sd → Out Flow} (hn : n ≤ N.length) (h : spF F n (fnOf n N.length b) vs H Q E0) : rdS F (fun c d _ H => E0 c d H) b { nx := fun _ H' => Q .non H', rt := Q } (L2.start N vs) H := by
  obtain ⟨hl, ds, s, M0, m1, m2, al, st, r, post⟩ := h
  have hd : ds.length = n := by rw [← r.length, hl]
  have post : PostF F M0 H Q E0 (finish (b (startG N.length ds) s)) := by
    unfold fnOf at post
    rw [if_pos hd] at post
    exact post
  have E : En (F := F) ⟨H, M0, m1, m2⟩ (L2.start N vs) H (startG N.length ds) s M0 := by
    refine ⟨start_len r.length (by omega), fun i d e => ?_, fun i xs e => ?_, fun i j a xs ys _ e _ _ _ => ?_, st, fun _ m => m, al, fun b o e _ _ => e, fun a m n => absurd m n⟩
    · rcases start_get r e with h | ⟨v, d', h1, h2, h3⟩
      · cases h
      · cases h1; exact ⟨v, h2, h3⟩
    · rcases start_get r e with h | ⟨v, d', h1, h2, h3⟩
      · cases h
      · cases h1
    · rcases start_get r e with h | ⟨v, d', h1, h2, h3⟩
      · cases h
      · cases h1
  refine ⟨_, _, _, _, E, ?_⟩
  have frm : ∀ {σ' H' g' s' M'}, En (F := F) ⟨H, M0, m1, m2⟩ σ' H' g' s' M' → Frm F H H' := fun E' b o e n1 n2 => E'.fr b o e n1 n2
  cases o : b (startG N.length ds) s with
  | bad => rw [o] at post; exact post
  | ex c d g' s' =>
    rw [o] at post
    intro cv dx σ' H' M' E' _ ⟨C, f, a, v, h1, h2, h3, h4, h5, h6⟩
    have x : Ex (hid H' M') (hid H' M0) := Ex.hidE fun b o m e => ⟨fun z => m (E'.m0 b z), e⟩
    exact post cv dx H' (frm E') E'.stm ⟨C, f, a, v, h1, h2, h3, h4, fun z => h5 (E'.m0 a z), h6.mono x⟩
  | ok fl g' s' =>
    rw [o] at post
    cases fl with
    | brk => exact False.elim post
    | cnt => exact False.elim post
    | nx =>
      intro σ' H' M' E' _
      exact post .non H' (frm E') E'.stm .non
    | ret r' =>
      intro v σ' H' M' E' _ rr
      have x : Ex (hid H' M') (hid H' M0) := Ex.hidE fun b o m e => ⟨fun z => m (E'.m0 b z), e⟩
      have post : PostF F M0 H Q E0 (finS g' s' r') := post
      have own : ∀ {a : Addr} {us : List V} {xs : List DI.D}, M' a → ¬ M0 a → H' a = some (.lst us) → RpL F.K F.c (hid H' M') us xs → RetR F M0 H H' (.ref a) (.lst xs) true := fun {a us xs} k1 k2 k3 k4 =>
        ⟨xs, a, us, rfl, rfl, E'.nw a k1 k2, k3, k4.mono (Ex.hidE fun b o m e => ⟨fun z => m (z.elim (E'.m0 b) fun z => by rw [z]; exact k1), e⟩)⟩
      cases r' with
      | fz d => exact post v H' (frm E') E'.stm (Rp.mono x rr)
      | nw xs =>
        obtain ⟨a, us, rfl, k1, k2, k3, k4, _⟩ := rr
        exact post _ H' (frm E') E'.stm (own k1 k2 k3 k4)
      | sl i =>
        have rr : σ'[i]? = some (some v) := rr
        have post : PostF F M0 H Q E0 (match g'[i]? with
          | some (.ow xs) => .ok (.lst xs) true s'
          | some (.fz d) => .ok d false s'
          | _ => .bad) := post
        cases q : g'[i]? with
        | none => rw [q] at post; exact False.elim post
        | some l =>
          rw [q] at post
          cases l with
          | un => exact False.elim post
          | fz d =>
            obtain ⟨v', h1, h2⟩ := E'.fz i d q
            rw [rr] at h1; cases h1
            exact post v H' (frm E') E'.stm (h2.mono x)
          | ow xs =>
            obtain ⟨a, us, h1, h2, h3, h4, h5⟩ := E'.ow i xs q
            rw [rr] at h1; cases h1
            exact post _ H' (frm E') E'.stm (own h2 h3 h4 h5)
end
/-- THE RULE of a def -/
theorem fn_def {P : Program} {w : World} {K : PySem.W.Frag} {mg : Str → Option Value} {base : Heap} {F : Fx} {x qual : Str} {st : Stmt} {f : Addr} {fd : FuncData} {N ps : List Str} {k : Nat} {b : Ga → Sd → Out Flow} (Fn : Fun K x qual st f fd) (S : FnScope N ps (defScope st)) (hn : ps.length ≤ N.length)
    (hb : ∀ (cdv : Value) (A : Around) (outer : List PySem.Env) (s : Shared) (H : Hp) (E : XK), Room k (A.deeper (PyProof.Rows.envOfC qual (defScope st) s.heap.objs.size f cdv)) → PSsd (cxOf (L2.CX P w) P w K mg base N qual (defScope st) f cdv A outer s H E) F (fun c d _ H => E c d H) (defBody st) b) :
    FnOk P w K mg base (L2.CX P w) (k + 1) f fd ps (spF F ps.length (fnOf ps.length N.length b)) :=
  Fn.okX S (fun vs H Q E h => h.1) fun cdv A outer s H vs Q E hr h => ⟨_, hb cdv A outer s H E hr, body_ok hn h⟩
end DI
end
section
set_option Elab.async false
set_option linter.all false
set_option maxRecDepth 100000
set_option maxHeartbeats 1000000
/-! DIRais: raise X(e), X an own class of errors whose __init__ keeps its one argument. -/
namespace DI
open PySem L2
/-- self.f = e in such an __init__ -/
def spInit (C : Addr) (f : Str) : Sp := fun vs H Q _ => ∃ a y, vs = [.ref a, y] ∧ H a = some (exo a C none) ∧ ∀ dx, H dx = none → dx ≠ a → Q .non (upd (upd H dx (exd dx [(f, y)])) a (exo a C (some dx)))
section
variable {P : Program} {w : World} {K : PySem.W.Frag} {mg : Str → Option Value} {base : Heap}
theorem ok_init {qual f p : Str} {st : Stmt} {ff C : Addr} {fd : FuncData} (Fn : Fun K "__init__" qual st ff fd) (S : FnScope ["self", p] ["self", p] (defScope st)) (T : OexC K C) (hno : PySem.W.findIn K (.ref C) f = some none)
    (hb : ∃ (p1 p2 p3 p4 : Pos), defBody st = [.Assign [.Attribute (.Name "self" p1) f p2] (.Name p p3) p4]) (hv1 : Vis (defScope st) "self") (hv2 : Vis (defScope st) p) (hd : (p == ("__debug__" : Str)) = false) (hcd : (p == ("__classdict__" : Str)) = false) : FnOk P w K mg base CX0 1 ff fd ["self", p] (spInit C f) := by
  refine Fn.ok S (fun vs H Q E h => ?_) (fun cdv A outer s H vs Q E hr h => ?_)
  · obtain ⟨a, y, rfl, _⟩ := h
    rfl
  · obtain ⟨a, y, rfl, h1, k⟩ := h
    obtain ⟨p1, p2, p3, p4, e⟩ := hb
    rw [e]
    refine ⟨_, pss_one (ps_ost (pe_var (i := 0) rfl hv1) (pe_var (i := 1) rfl hv2 hd hcd)), ?_⟩
    exact ⟨y, rfl, .ref a, rfl, a, C, rfl, T, hno, .inl ⟨h1, fun dx h2 h3 => k dx h2 h3⟩⟩
end
section
variable {F : Fx} {W : WX} {X : Cx} {e : Expr} {f : Ga → Sd → Out Rs} {pos cpos p : Pos}
theorem ds_rais {c k : Nat} {x fl pn : Str} {C fI : Addr} {fd : FuncData} (hc : X.calm = true) (tk : Takes X W) (T : OexC X.K C) (hcl : F.cls c = some (C, fl)) (iC : PySem.W.findIn X.K (.ref C) "__init__" = some (some (.ref fI))) (tI : PySem.W.typeIn X.K (.ref fI) = some (.type "function"))
    (F1 : FnOk X.prog X.w X.K X.mg X.base CX0 k fI fd ["self", pn] (spInit C fl)) (hr : Room (k + 1) X.A) (hb : Binds X.K fd ["self", pn] []) (hg : Gl X x) (hm : X.mg x = some (.ref C)) (ha : PEd X F W e f) (hdb : (x == ("__debug__" : Str)) = false) (h1 : isStar e = false) :
    PSd X F W (.Raise (some (.Call (.Name x p) [e] [] cpos)) none pos) (sRais c f) :=
  PS.imp (ps_raise hc tk (pmk_oex T iC tI F1 hr hb .nil pass0 hg hm (pa_cons ha.keep pa_nil (star_cons h1)) hdb (star_cons h1) (by rfl))) (by
    rintro D σ H ⟨P, g, s, M, E, h⟩
    refine rdG.then (R := RD) E h fun v d H1 g1 s1 M1 E1 x1 r1 h1 => ?_
    have h1 : ∀ cv dx σ' H' M', En P σ' H' g1 s1 M' → Ex (hid H1 M1) (hid H' M') → ExR P H' M' cv dx c d → W cv dx σ' H' := h1
    refine ⟨by show 1 ≤ 1000; decide, fun a ha => ?_⟩
    refine ⟨a, v, rfl, upd_same, fun dx hdx hne => ⟨rfl, dx, [(fl, v)], upd_same, by rw [upd_ne hne, upd_same], ?_, ?_⟩⟩
    · rw [upd_ne hne] at hdx; exact hdx
    · have hdx : H1 dx = none := by rw [upd_ne hne] at hdx; exact hdx
      have e : upd (del (upd (upd (upd H1 a (exo a C none)) dx (exd dx [(fl, v)])) a (exo a C (some dx))) a) dx (.xd [(fl, v)]) = upd H1 dx (.xd [(fl, v)]) := by
        funext b
        by_cases b1 : b = dx
        · subst b1; rw [upd_same, upd_same]
        · rw [upd_ne b1, upd_ne b1]
          by_cases b2 : b = a
          · subst b2; rw [del_same, ha]
          · rw [del_ne b2, upd_ne b2, upd_ne b1, upd_ne b2]
      rw [e]
      obtain ⟨E2, x2, np⟩ := E1.alloc hdx (.xd [(fl, v)])
      exact h1 _ _ σ _ M1 E2 x2 ⟨C, fl, dx, v, hcl, rfl, rfl, upd_same, np, Rp.mono x2 r1⟩)
end
end DI
end
section
set_option Elab.async false
set_option linter.all false
set_option maxRecDepth 100000
set_option maxHeartbeats 2000000
/-! DIEnum: enumerate(list or tuple). -/
namespace PySem
set_option maxHeartbeats 1000000 in
theorem meets_enumerate_new1B {v : Value} {o : Obj} {H : Heap → Prop} (B : Begins v o H) :
    Meets (Builtin.«enumerate.__new__» ⟨[.type "enumerate", v], []⟩) (fun _ R s => H s.heap ∧
      R (.ok (.ret (.ref (s.heap.push o).objs.size))) { s with heap := (s.heap.push o).push { cls := .type "enumerate", data := .fields #[.none, .bool false, .ref s.heap.objs.size, rawInt 0, .none, .none] } }) :=
  .of_wp fun prog w A R s h => by
    obtain ⟨hp, g, d, tk, os⟩ := s; obtain ⟨h1, h⟩ := h
    have hsub := sub_enumerate
    have q1 : ∀ {A' : Around} {E : Value → Shared → Prop} {Q : Value → Shared → Prop}, Q (.ref hp.objs.size) ⟨hp.push o, g, d, tk, os⟩ → wpAny (model prog w) A' (pyIter v) Q E ⟨hp, g, d, tk, os⟩ :=
      fun q => B.iter prog w _ _ ⟨hp, g, d, tk, os⟩ _ h1 q
    wp_walk using q1
    refine wpAny_stack_any fun st => wpAny_pure ?_
    split
    · rename_i c _ _ _ _ _
      cases (c == Value.type "enumerate")
      · wp_walk using q1
        exact ⟨_, rfl, h⟩
      · wp_walk using q1
        exact ⟨_, rfl, h⟩
    · wp_walk using q1
      exact ⟨_, rfl, h⟩
section
variable {prog : Program} {w : World} {A : Around} {E : Value → Shared → Prop} {s : Shared}
theorem enum_begins1 {v : Value} {o : Obj} {H : Heap → Prop} {Q : Value → Shared → Prop} (B : Begins v o H) (h1 : H s.heap)
    (h : ∀ h', IsEnum h' (s.heap.objs.size + 1) s.heap.objs.size 0 .none → h'.get? s.heap.objs.size = some o → h'.objs.size = s.heap.objs.size + 2 →
      (∀ b o, s.heap.get? b = some o → h'.get? b = some o) → Q (.ref (s.heap.objs.size + 1)) { s with heap := h' }) :
    wpAny (model prog w) A (call (.type "enumerate") [v]) Q E s := by
  refine callType_new F.called_enumerate (by decide) (F.typeCall_enumerate_1 _) (F.newCall_enumerate_1 _) (fun obj => F.args_object_init_2 obj _) F.entry_enumerate_new
    (meets_enumerate_new1B B) ⟨h1, ?_⟩
  have hz : (s.heap.push o).objs.size = s.heap.objs.size + 1 := Heap.size_push ..
  show _ ∧ _
  rw [hz]
  have he : IsEnum ((s.heap.push o).push { cls := .type "enumerate", data := .fields #[.none, .bool false, .ref s.heap.objs.size, rawInt 0, .none, .none] }) (s.heap.objs.size + 1) s.heap.objs.size 0 .none := by
    have := Heap.get?_push_size (s.heap.push o) (o := { cls := .type "enumerate", data := .fields #[.none, .bool false, .ref s.heap.objs.size, rawInt 0, .none, .none] }) rfl
    rw [hz] at this; exact this
  refine ⟨⟨_, he, rfl⟩, h _ he (Heap.get?_push_of_some _ (Heap.get?_push_size _ B.free)) (by rw [Heap.size_push, hz]) fun b o x => Heap.get?_push_of_some _ (Heap.get?_push_of_some _ x)⟩
theorem wpAny_pyNext_enum_endT {e it l : Addr} {i : Nat} {items : Array Value} {old : Value} {Q : Option Value → Shared → Prop} (hh : A.handled = none)
    (he : IsEnum s.heap e it i old) (hit : s.heap.IsTupleIter it l i) (hl : s.heap.IsTuple l items) (hx : items[i]? = none)
    (hQ : ∀ h', Heap.ExtBut it s.heap h' → Q none { s with heap := h' }) : wpAny (model prog w) A (pyNext (.ref e)) Q E s := by
  have hT : s.TypeIs (.ref e) "enumerate" := ⟨_, he, rfl⟩
  unfold pyNext
  refine wpAny_bind (wpAny_attempt (wpAny_callSpecial?_slot (name := Str.ofString "__next__") hT F.slot_enumerate_next
    (wpAny_call_entry F.slot_enumerate_next hT F.entry_enumerate_next ?_ (F.args_enumerate_next_1 _))))
  show wpAny _ _ (field (.ref e) 2 >>= _) _ _ _
  refine wpAny_bind (wpAny_field he rfl (x := .ref it) rfl ?_)
  refine wpAny_bind (wpAny_nextOf_tuple_end hh hit hl hx fun h' x he' hx' => ?_)
  obtain ⟨o, ho, hc⟩ := hx'
  refine wpAny_bind (wpAny_isInstance (T := "StopIteration") (b := true) ⟨o, ho, hc⟩ isSubtype_stop ?_)
  exact wpAny_pure (hQ _ he')
end
end PySem
namespace DI
open PySem PySem.Spec L2
/-- the tuple at a as it stands, each item in a new pair -/
def IteT (K : PySem.W.Frag) (a : Addr) : It :=
  ⟨fun i H => ∃ (xs : List V) (x : V), SqT K H a xs ∧ xs[i]? = some x, fun i H v H' => ∃ T x, v = .ref T ∧ H T = none ∧ H' = upd H T (.tup [.int (i : Nat), x]) ∧ ∀ xs, SqT K H a xs → xs[i]? = some x, fun i H => ∃ xs : List V, SqT K H a xs ∧ xs.length ≤ i⟩
theorem turn_enumT {P : Program} {w : World} {K : PySem.W.Frag} {elts : List Expr} {kk : Nat} {tpos : Pos} (a e it : Addr) :
    Turn P w K (.Tuple elts kk tpos) (IteT K a) [e, it] e (fun i h => (∃ old, IsEnum h e it ((i : Nat) : Int) old) ∧ h.IsTupleIter it a i ∧ e ≠ it) where
  mem := by simp
  obj := fun i h st b hb => by
    obtain ⟨⟨old, he⟩, ⟨o, ho, hc, hd⟩, _⟩ := st
    have e' : b = e ∨ b = it := by simpa using hb
    rcases e' with z | z
    · rw [z]; exact ⟨_, he, fun v q => nomatch q⟩
    · rw [z]; exact ⟨o, ho, fun v q => by rw [hd] at q; cases q⟩
  keep := fun i h h' st k => let ⟨⟨old, he⟩, hi, hne⟩ := st; ⟨⟨old, k e (by simp) _ he⟩, hi.at fun o q => k it (by simp) o q, hne⟩
  item := by
    intro X hP hw hK hc i pins s σ H E I hf st hg
    subst hP hw hK
    obtain ⟨⟨old, he⟩, hit, hne⟩ := st
    obtain ⟨xs, x, hq, hx⟩ := hg
    obtain ⟨its, rv, p, hz⟩ := I.tuple hq
    obtain ⟨u, hu, ru⟩ := rv.get hx
    have hel : e < s.heap.objs.size := Heap.lt_size he
    have hil : it < s.heap.objs.size := by obtain ⟨_, q, _⟩ := hit; exact Heap.lt_size q
    have pt : s.heap.IsTuple a its.toArray := p
    have nat : a ≠ it := fun z => by
      obtain ⟨o, ho, hcc, _⟩ := hit
      obtain ⟨o', ho', hc', _⟩ := pt
      rw [z, ho] at ho'; cases ho'
      rw [hcc] at hc'; exact absurd hc' (by decide +kernel)
    have nae : e ∉ [it, a] := fun z => by
      have e' : e = it ∨ e = a := by simpa using z
      rcases e' with z | z
      · exact hne z
      · obtain ⟨o', ho', hc', _⟩ := pt
        rw [← z] at ho'
        have he2 := he
        unfold IsEnum at he2
        rw [ho'] at he2; cases he2; exact absurd (show Value.type "enumerate" = Value.type "tuple" from hc') (by decide +kernel)
    refine wpAny_pyNext_enum_itemD (Draws.tuple (prog := X.prog) (w := X.w) (A := X.A.in1) (I.ok.hd hc) it a nat its.toArray) he ⟨hit, pt⟩ (by rw [List.size_toArray]; exact (List.getElem?_eq_some_iff.mp hu).1) hne nae fun x' h' tk hx' ho ⟨hit', _⟩ hT hsz hk => ?_
    have ex : x' = u := by
      have q : its.toArray[i]? = some x' := hx'
      rw [List.getElem?_toArray, hu] at q
      exact (Option.some.inj q).symm
    subst ex
    refine ⟨_, rfl, wpAny_letOwnedTupleGo_enum (s := { s with heap := h', toks := tk + 1 }) ho fun h'' he' sb => ?_⟩
    have hT2 : h''.get? s.heap.objs.size = some { cls := .type "tuple", data := .seq #[.int i tk, x'] } := (sb.2 _ (Nat.ne_of_gt hel)).trans hT
    have new : ObjOk X.prog X.w (upd H s.heap.objs.size (.tup [.int (i : Nat), x])) h'' s.heap.objs.size (.tup [.int (i : Nat), x]) :=
      ⟨by show 2 ≤ sizeLine; decide, [.int i tk, x'], .cons ⟨_, rfl⟩ (.cons ru .nil), ⟨_, hT2, rfl, _, rfl⟩⟩
    have I1 : Inv X pins σ (upd H s.heap.objs.size (.tup [.int (i : Nat), x])) { s with heap := h'', toks := tk + 1 } :=
      I.turnedNew (ch := [e, it]) (fun b ob hb q => (sb.2 b (fun z => hb (by simp [z]))).trans (hk b ob (fun z => hb (by simp [z])) (fun z => hb (by simp [z])) q)) hf (Nat.le_refl _) new
    refine ⟨.ref s.heap.objs.size, _, I1, rfl, ⟨_, x, rfl, I.hok.fresh (Nat.le_refl _), rfl, fun ys hy => by rw [I.tuple_inj hy hq]; exact hx⟩, ⟨⟨x', ?_⟩, hit'.at fun o q => (sb.2 it (Ne.symm hne)).trans q, hne⟩, fun b hb => ?_⟩
    · have e1 : ((i + 1 : Nat) : Int) = (i : Int) + 1 := by omega
      rw [e1]; exact he'
    · have hb' : b < s.heap.objs.size := by
        have e' : b = e ∨ b = it := by simpa using hb
        rcases e' with z | z
        · rw [z]; exact hel
        · rw [z]; exact hil
      rw [upd_ne (Nat.ne_of_lt hb')]
      exact (hf b hb).1
  done := by
    intro X hP hw hK hc i pins s σ H E I hf st hg
    subst hP hw hK
    obtain ⟨⟨old, he⟩, hit, hne⟩ := st
    obtain ⟨xs, hq, hx⟩ := hg
    obtain ⟨its, rv, p, hz⟩ := I.tuple hq
    obtain ⟨f0, f1, f2, f3, f4, f5⟩ := hf it (by simp)
    have hl := rv.length
    exact wpAny_pyNext_enum_endT (I.ok.hd hc) he hit (show s.heap.IsTuple a its.toArray from p) (by simp; omega) fun h' eb => ⟨rfl, I.turned (t' := s.toks) (fun b o hb q => eb b o hb q) f0 f1 f3 f4 f5⟩
  self := fun A i s Q E st h => let ⟨⟨_, he⟩, _⟩ := st; wpAny_pyIter_enum he h
section
variable {F : Fx} {W : WX} {X : Cx} {a : Expr} {f : Ga → Sd → Out Rs} {p pos tpos : Pos} {elts : List Expr} {kk : Nat} {σ : St} {H : Hp} {g : Ga} {s : Sd} {M : Addr → Prop}
def iEnumA (K : PySem.W.Frag) (ta : TA) : TI := fun σ H R => ta σ H fun vs H1 => (∃ a xs, vs = [.ref a] ∧ SqL K H1 a xs ∧ R (Ite K a) H1) ∨ ∃ a xs, vs = [.ref a] ∧ SqT K H1 a xs ∧ R (IteT K a) H1
theorem pi_enumA {e : Expr} {ta : TA} (hg : Gl X "enumerate") (hm : X.mg "enumerate" = none) (ha : PA X [e] ta) (hs : starEach [e] X.env = [(false, eval e X.env)]) :
    PI X (.Tuple elts kk tpos) (.Call (.Name "enumerate" p) [e] [] pos) (iEnumA X.K ta) := by
  refine ⟨fun pins s σ H R I h => ?_⟩
  refine PyProof.Rows.Call_ (ld_blt I hg hm PyProof.Rows.boot_enumerate (PyProof.Rows.callWith_type1 (L2.thn (ha.run pos pins s σ H _ I h) fun us s1 ⟨vs, H1, I1, r1, q1⟩ => ?_) hs rfl))
  rcases q1 with ⟨a, xs, ex, hq, q⟩ | ⟨a, xs, ex, hq, q⟩
  · subst ex
    cases r1 with
    | cons r rr =>
      cases rr
      cases r
      obtain ⟨its, rv, p', hz⟩ := I1.list hq
      refine call_enumerate_list p'.isList fun h' he hit hsz hk => wpAny_pyIter_enum he ?_
      have I2 : L2.Inv X pins σ H1 { s1 with heap := h' } := I1.kept (t' := s1.toks) hk
      refine ⟨s1.heap.objs.size + 1, [s1.heap.objs.size + 1, s1.heap.objs.size], _, _, H1, rfl, I2, turn_enum a (s1.heap.objs.size + 1) s1.heap.objs.size, ⟨⟨.none, he⟩, hit, Nat.succ_ne_self _⟩, fun b hb => ?_, q⟩
      have e' : b = s1.heap.objs.size + 1 ∨ b = s1.heap.objs.size := by simpa using hb
      have hle : s1.heap.objs.size ≤ b := by
        rcases e' with z | z
        · rw [z]; exact Nat.le_add_right _ _
        · rw [z]; exact Nat.le_refl _
      exact I1.fpOk hle (I1.hok.fresh hle)
  · subst ex
    cases r1 with
    | cons r rr =>
      cases rr
      cases r
      obtain ⟨its, rv, p', hz⟩ := I1.tuple hq
      have pt : s1.heap.IsTuple a its.toArray := p'
      refine enum_begins1 (begins_tuple a its.toArray) pt fun h' he ho hsz hk => wpAny_pyIter_enum he ?_
      have I2 : L2.Inv X pins σ H1 { s1 with heap := h' } := I1.kept (t' := s1.toks) hk
      refine ⟨s1.heap.objs.size + 1, [s1.heap.objs.size + 1, s1.heap.objs.size], _, _, H1, rfl, I2, turn_enumT a (s1.heap.objs.size + 1) s1.heap.objs.size, ⟨⟨.none, he⟩, ⟨_, ho, rfl, rfl⟩, Nat.succ_ne_self _⟩, fun b hb => ?_, q⟩
      have e' : b = s1.heap.objs.size + 1 ∨ b = s1.heap.objs.size := by simpa using hb
      have hle : s1.heap.objs.size ≤ b := by
        rcases e' with z | z
        · rw [z]; exact Nat.le_add_right _ _
        · rw [z]; exact Nat.le_refl _
      exact I1.fpOk hle (I1.hok.fresh hle)
theorem wk_enumT {a : Addr} {vs : List V} {ds : List D} (h : SqT F.K (hid H M) a vs) (r : RpL F.K F.c (hid H M) vs ds) : Wk F (IteT F.K a) H M (enumD 0 ds) := by
  refine ⟨fun H => SqT F.K H a vs, YPair (fun i => some (.int (i : Nat))) (fun i => vs[i]?), ?_, fun H2 M2 x => (hid_ex H2 M2).sqT (x.sqT h), fun i P σ H2 g s M2 x H' hi ex E y => ?_⟩
  · rw [enumD_len, ← r.length]
    refine ⟨fun i _ hi q => ⟨vs, vs[i], q, by simp [hi]⟩, fun _ q => ⟨vs, q, Nat.le_refl _⟩, fun i H v H' _ q y => ?_⟩
    obtain ⟨T, x, h1, h2, h3, h4⟩ := y
    exact ⟨T, .int (i : Nat), x, h1, h2, h3, rfl, h4 vs q⟩
  · obtain ⟨T, x1, y1, rfl, hT, rfl, e1, e2⟩ := y
    cases e1
    obtain ⟨d, h1, h2⟩ := r.get' e2
    obtain ⟨E2, x2, r2⟩ := new_pair E hT (.int (i : Nat)) (h2.mono ex)
    exact ⟨_, by rw [enumD_get ds 0 i d h1, Nat.zero_add], E2, x2, r2⟩
theorem di_enum (hK : X.K = F.K) (hg : Gl X "enumerate") (hm : X.mg "enumerate" = none) (ha : PEd X F W a f) (hs : isStar a = false) : PId X F W (.Tuple elts kk tpos) (.Call (.Name "enumerate" p) [a] [] pos) (iEnumF f) :=
  PI.imp (pi_enumA hg hm (pa_cons ha.keep pa_nil (star_cons hs)) (by rw [star_cons hs]; rfl)) (by
    rintro σ H Q ⟨P, g, s, M, E, h⟩
    refine rdG.seq (R := RD) (R' := RI) (Q' := Q) E h fun v d H1 g1 s1 M1 E1 x1 r1 h1 => ?_
    obtain ⟨ds, q1, q2⟩ := post_opt (α := D) h1
    rw [hK]
    cases r1 with
    | lst k1 k2 =>
      cases q1
      obtain ⟨nm, k1⟩ := hid_some k1
      exact .inl ⟨_, _, rfl, SqL.of k1, q2 _ H1 M1 E1 (Ex.refl _) (wk_enum k1 nm k2)⟩
    | tup k1 k2 =>
      cases q1
      exact .inr ⟨_, _, rfl, (hid_ex H1 M1).sqT k1, q2 _ H1 M1 E1 (Ex.refl _) (wk_enumT k1 k2)⟩
    | _ => cases q1)
end
end DI
end
section
set_option Elab.async false
set_option linter.all false
set_option maxRecDepth 100000
set_option maxHeartbeats 1000000
/-! DIW: the rules in short, their side conditions found where they stand. -/
namespace DI
open PySem L2
abbrev sCon (d : DI.D) : Ga → Sd → Out Rs := fun g s => .ok (.fz d) g s
section
variable {F : Fx} {W : WX} {X : Cx} {e a b : Expr} {es : List Expr} {f fa fb fl fh : Ga → Sd → Out Rs} {ta tb : Ga → Sd → Out Bool} {pos p p2 apos : Pos} {x : Str} {k : Nat}
theorem w_var (i : Nat) (hN : X.N[i]? = some x := by rfl) (hv : Vis X.env.scope x := by first | exact Or.inl rfl | exact Or.inr (Or.inl rfl) | exact Or.inr (Or.inr rfl)) (hd : (x == ("__debug__" : Str)) = false := by decide) (hcd : (x == ("__classdict__" : Str)) = false := by decide) :
    PEd X F W (.Name x pos) (sVar i) := d_var hN hv hd hcd
theorem w_int {i : Int} {j : Nat} : PEd X F W (.Constant (.int i) j pos) (sCon (.int i)) := d_val pe_int fun _ => .int i
theorem w_bl {i : Bool} {j : Nat} : PEd X F W (.Constant (.bool i) j pos) (sCon (.bl i)) := d_val pe_bl fun _ => .bl i
theorem w_non {j : Nat} : PEd X F W (.Constant .none j pos) (sCon .non) := d_val pe_non fun _ => .non
theorem w_str {i : Str} {j : Nat} : PEd X F W (.Constant (.str i) j pos) (sCon (.str i)) := d_val pe_str fun _ => .str i
/-- a constant of the module: a text -/
theorem w_gstr {i : Str} {u : Value} (hm : X.mg x = some u) (r : RelV (.str i) u) (hg : Gl X x := by rfl) (hd : (x == ("__debug__" : Str)) = false := by decide) : PEd X F W (.Name x pos) (sCon (.str i)) := d_val (pe_glob hg hm r hd) fun _ => .str i
/-- .. a tuple of texts -/
theorem strs_rp {K : PySem.W.Frag} {c : Addr} {H : Hp} : ∀ zs : List Str, RpL K c H (zs.map V.str) (zs.map DI.D.str)
  | [] => .nil
  | z :: zs => .cons (.str z) (strs_rp zs)
theorem w_gtup {zs : List Str} {q : Addr} (hm : X.mg x = some (.ref q)) (ht : ∀ H, SqT F.K H q (zs.map V.str)) (hg : Gl X x := by rfl) (hd : (x == ("__debug__" : Str)) = false := by decide) : PEd X F W (.Name x pos) (sCon (.tup (zs.map DI.D.str))) :=
  d_val (pe_glob (v := .ref q) hg hm rfl hd) fun H => .tup (ht H) (strs_rp zs)
theorem w_add (ha : PEd X F W a fa) (hb : PEd X F W b fb) : PEd X F W (.BinOp a .Add b pos) (sTwo (binF .add) fa fb) := d_bin op_addA two_add ha hb
theorem w_sub (ha : PEd X F W a fa) (hb : PEd X F W b fb) : PEd X F W (.BinOp a .Sub b pos) (sTwo (binF .sub) fa fb) := d_bin op_sub two_sub ha hb
theorem w_mul (ha : PEd X F W a fa) (hb : PEd X F W b fb) : PEd X F W (.BinOp a .Mult b pos) (sTwo (binF .mul) fa fb) := d_bin op_mulA two_mul ha hb
theorem w_fdiv (ha : PEd X F W a fa) (hb : PEd X F W b fb) : PEd X F W (.BinOp a .FloorDiv b pos) (sTwo (binF .fdiv) fa fb) := d_bin op_fdiv two_fdiv ha hb
theorem w_mod (ha : PEd X F W a fa) (hb : PEd X F W b fb) : PEd X F W (.BinOp a .Mod b pos) (sTwo (binF .mod) fa fb) := d_bin op_mod two_mod ha hb
theorem w_pow (ha : PEd X F W a fa) (hb : PEd X F W b fb) : PEd X F W (.BinOp a .Pow b pos) (sTwo (binF .pow) fa fb) := d_bin op_pow two_pow ha hb
theorem w_neg (ha : PEd X F W a fa) : PEd X F W (.UnaryOp .USub a pos) (sOne negF fa) := d_un un_neg one_neg ha
abbrev sCmp (o : Cop) (fa fb : Ga → Sd → Out Rs) : Ga → Sd → Out Rs := sTwo (fun x y => (cmpF o x y).map fun k => .fz (.bl k)) fa fb
theorem w_eq (hr : Room k X.A) (hK : X.K = F.K) (ha : PEd X F W a fa) (hb : PEd X F W b fb) : PEd X F W (.Compare a [.Eq] [b] pos) (sCmp .eq fa fb) := d_cmp (op_eqD hr.units) (by rw [hK]; exact two_eq) (nomark _) ha hb
theorem w_ne (hr : Room k X.A) (hK : X.K = F.K) (ha : PEd X F W a fa) (hb : PEd X F W b fb) : PEd X F W (.Compare a [.NotEq] [b] pos) (sCmp .ne fa fb) := d_cmp (op_neD hr.units) (by rw [hK]; exact two_ne) (nomark _) ha hb
theorem w_lt (ha : PEd X F W a fa) (hb : PEd X F W b fb) : PEd X F W (.Compare a [.Lt] [b] pos) (sCmp .lt fa fb) := d_cmp op_lt two_lt (nomark _) ha hb
theorem w_le (ha : PEd X F W a fa) (hb : PEd X F W b fb) : PEd X F W (.Compare a [.LtE] [b] pos) (sCmp .le fa fb) := d_cmp op_le two_le (nomark _) ha hb
theorem w_gt (ha : PEd X F W a fa) (hb : PEd X F W b fb) : PEd X F W (.Compare a [.Gt] [b] pos) (sCmp .gt fa fb) := d_cmp op_gt two_gt (nomark _) ha hb
theorem w_ge (ha : PEd X F W a fa) (hb : PEd X F W b fb) : PEd X F W (.Compare a [.GtE] [b] pos) (sCmp .ge fa fb) := d_cmp op_ge two_ge (nomark _) ha hb
theorem room65 {A : Around} (hr : Room k A) : A.units + 65 < cLine := by have := hr.un; omega
theorem w_in (hr : Room k X.A) (hK : X.K = F.K) (ha : PEd X F W a fa) (hb : PEd X F W b fb) (hm : behindInMarks .In b = false := by rfl) : PEd X F W (.Compare a [.In] [b] pos) (sCmp .isIn fa fb) := d_cmp (op_inA (room65 hr)) (by rw [hK]; exact two_in) hm ha hb
theorem w_nin (hr : Room k X.A) (hK : X.K = F.K) (ha : PEd X F W a fa) (hb : PEd X F W b fb) (hm : behindInMarks .NotIn b = false := by rfl) : PEd X F W (.Compare a [.NotIn] [b] pos) (sCmp .notIn fa fb) := d_cmp (op_notInA (room65 hr)) (by rw [hK]; exact two_notIn) hm ha hb
theorem w_is (ha : PEd X F W a fa) (hb : PEd X F W b fb) : PEd X F W (.Compare a [.Is] [b] pos) (sCmp .isN fa fb) := d_cmp op_isN two_isN (nomark _) ha hb
theorem w_isnt (ha : PEd X F W a fa) (hb : PEd X F W b fb) : PEd X F W (.Compare a [.IsNot] [b] pos) (sCmp .notN fa fb) := d_cmp op_notN two_notN (nomark _) ha hb
-- tests
theorem t_eq (hr : Room k X.A) (hK : X.K = F.K) (ha : PEd X F W a fa) (hb : PEd X F W b fb) : PTd X F W (.Compare a [.Eq] [b] pos) (tOf (sCmp .eq fa fb)) := dt_cmp (op_eqD hr.units) (by rw [hK]; exact two_eq) (nomark _) ha hb
theorem t_ne (hr : Room k X.A) (hK : X.K = F.K) (ha : PEd X F W a fa) (hb : PEd X F W b fb) : PTd X F W (.Compare a [.NotEq] [b] pos) (tOf (sCmp .ne fa fb)) := dt_cmp (op_neD hr.units) (by rw [hK]; exact two_ne) (nomark _) ha hb
theorem t_lt (ha : PEd X F W a fa) (hb : PEd X F W b fb) : PTd X F W (.Compare a [.Lt] [b] pos) (tOf (sCmp .lt fa fb)) := dt_cmp op_lt two_lt (nomark _) ha hb
theorem t_le (ha : PEd X F W a fa) (hb : PEd X F W b fb) : PTd X F W (.Compare a [.LtE] [b] pos) (tOf (sCmp .le fa fb)) := dt_cmp op_le two_le (nomark _) ha hb
theorem t_gt (ha : PEd X F W a fa) (hb : PEd X F W b fb) : PTd X F W (.Compare a [.Gt] [b] pos) (tOf (sCmp .gt fa fb)) := dt_cmp op_gt two_gt (nomark _) ha hb
theorem t_ge (ha : PEd X F W a fa) (hb : PEd X F W b fb) : PTd X F W (.Compare a [.GtE] [b] pos) (tOf (sCmp .ge fa fb)) := dt_cmp op_ge two_ge (nomark _) ha hb
theorem t_in (hr : Room k X.A) (hK : X.K = F.K) (ha : PEd X F W a fa) (hb : PEd X F W b fb) (hm : behindInMarks .In b = false := by rfl) : PTd X F W (.Compare a [.In] [b] pos) (tOf (sCmp .isIn fa fb)) := dt_cmp (op_inA (room65 hr)) (by rw [hK]; exact two_in) hm ha hb
theorem t_nin (hr : Room k X.A) (hK : X.K = F.K) (ha : PEd X F W a fa) (hb : PEd X F W b fb) (hm : behindInMarks .NotIn b = false := by rfl) : PTd X F W (.Compare a [.NotIn] [b] pos) (tOf (sCmp .notIn fa fb)) := dt_cmp (op_notInA (room65 hr)) (by rw [hK]; exact two_notIn) hm ha hb
theorem t_is (ha : PEd X F W a fa) (hb : PEd X F W b fb) : PTd X F W (.Compare a [.Is] [b] pos) (tOf (sCmp .isN fa fb)) := dt_cmp op_isN two_isN (nomark _) ha hb
theorem t_isnt (ha : PEd X F W a fa) (hb : PEd X F W b fb) : PTd X F W (.Compare a [.IsNot] [b] pos) (tOf (sCmp .notN fa fb)) := dt_cmp op_notN two_notN (nomark _) ha hb
theorem t_val (h : PEd X F W e f) (he : ∀ whole, isTrue e X.env whole = (do let v ← whole; standAt e.pos; holding [v] (truthy v)) := by intro _; rfl) : PTd X F W e (tOf f) := dt_val h he
theorem w_ix (hK : X.K = F.K) (ha : PEd X F W a fa) (hb : PEd X F W b fb) (hs : PlainIx b := by intro _ _; rfl) : PEd X F W (.Subscript a b pos) (sTwo (fun x y => (subF x y).map .fz) fa fb) := d_ix (ix_seq) (by rw [hK]; exact two_ix) hs ha hb
-- arguments
theorem a_cons {fr : Ga → Sd → Out (List DI.D)} (ha : PEd X F W e f) (hr : PAd X F W es fr) (hs : isStar e = false := by rfl) : PAd X F W (e :: es) (aCons f fr) := da_cons ha hr hs
theorem l_cons {fr : Ga → Sd → Out (List Rs)} (ha : PEd X F W e f) (hr : PLd X F W es fr) (hs : isStar e = false := by rfl) : PLd X F W (e :: es) (lCons f fr) := dl_cons ha hr hs
theorem p_cons {fr : Ga → Sd → Out (List Rs)} (ha : PEd X F W e f) (hr : PPd X F W es fr) (hs : isStar e = false := by rfl) : PPd X F W (e :: es) (pCons f fr) := dp_cons ha hr hs
abbrev aNil : Ga → Sd → Out (List DI.D) := fun g s => .ok [] g s
abbrev lNil : Ga → Sd → Out (List Rs) := fun g s => .ok [] g s
abbrev oNone : Ga → Sd → Out (Option Int) := fun g s => .ok none g s
theorem w_slc {lo hi : Option Expr} {fl fh : Ga → Sd → Out (Option Int)} (hK : X.K = F.K) (ha : PEd X F W a fa) (hl : POd X F W lo fl) (hh : POd X F W hi fh) : PEd X F W (.Subscript a (.Slice lo hi none p2) pos) (sSlc fa fl fh) := d_slc ha hl hh hK
-- built-ins
theorem w_len (hK : X.K = F.K) (hm : X.mg "len" = none) (ha : PEd X F W a fa) (hg : Gl X "len" := by rfl) (hs : isStar a = false := by rfl) : PEd X F W (.Call (.Name "len" p) [a] [] pos) (sBi (biF .len) (lCons fa lNil)) :=
  d_bi (CallR.or call_len_seq call_len_str) (many_len hK) hg hm PySem.boot_len (dl_cons ha dl_nil hs) (by decide) (by decide) hs rfl
theorem w_list (hK : X.K = F.K) (hm : X.mg "list" = none) (ha : PEd X F W a fa) (hg : Gl X "list" := by rfl) (hs : isStar a = false := by rfl) (hc : X.calm = true := by rfl) : PEd X F W (.Call (.Name "list" p) [a] [] pos) (sBi (biF .list) (lCons fa lNil)) :=
  d_biT (cr_list hc) (many_list hK) hg hm PyProof.Rows.boot_list (dl_cons ha dl_nil hs) (by decide) (by decide) hs rfl
theorem w_tuple (hK : X.K = F.K) (hm : X.mg "tuple" = none) (ha : PEd X F W a fa) (hg : Gl X "tuple" := by rfl) (hs : isStar a = false := by rfl) : PEd X F W (.Call (.Name "tuple" p) [a] [] pos) (sBi (biF .tuple) (lCons fa lNil)) :=
  d_biT call_tuple_of (many_tuple hK) hg hm PyProof.Rows.boot_tuple (dl_cons ha dl_nil hs) (by decide) (by decide) hs rfl
theorem w_all (hc : X.calm = true) (hm : X.mg "all" = none) (ha : PEd X F W a fa) (hg : Gl X "all" := by rfl) (hs : isStar a = false := by rfl) : PEd X F W (.Call (.Name "all" p) [a] [] pos) (sBi (biF .all) (lCons fa lNil)) :=
  d_bi (cr_all hc) many_all hg hm PyProof.Rows.boot_all (dl_cons ha dl_nil hs) (by decide) (by decide) hs rfl
theorem w_any (hc : X.calm = true) (hm : X.mg "any" = none) (ha : PEd X F W a fa) (hg : Gl X "any" := by rfl) (hs : isStar a = false := by rfl) : PEd X F W (.Call (.Name "any" p) [a] [] pos) (sBi (biF .any) (lCons fa lNil)) :=
  d_bi (cr_any hc) many_any hg hm PyProof.Rows.boot_any (dl_cons ha dl_nil hs) (by decide) (by decide) hs rfl
theorem w_isi (t : Ty) (hK : X.K = F.K) (hm : X.mg "isinstance" = none) (ha : PEd X F W a fa) (h1 : PE X b (tC (.ty t.nm))) (hg : Gl X "isinstance" := by rfl) (hs : isStar a = false := by rfl) (hs2 : isStar b = false := by rfl) :
    PEd X F W (.Call (.Name "isinstance" p) [a, b] [] pos) (sOne (isiF [t]) fa) := d_isi1 (p2 := p) hK hg hm PyProof.Rows.boot_isinstance ha hs h1 hs2
theorem w_isiT {bs : List Expr} {kk : Nat} (tys : List Ty) (hK : X.K = F.K) (hm : X.mg "isinstance" = none) (ha : PEd X F W a fa) (h1 : PA X bs fun σ H Q => Q (tys.map fun t => V.ty t.nm) H) (hg : Gl X "isinstance" := by rfl) (hs : isStar a = false := by rfl) (hl : tys.length ≤ 1000 := by decide) :
    PEd X F W (.Call (.Name "isinstance" p) [a, .Tuple bs kk p2] [] pos) (sOne (isiF tys) fa) := d_isiT hK hg hm PyProof.Rows.boot_isinstance ha hs h1 hl
theorem ty_e (t : Ty) (hm : X.mg x = none) (hv : bootBuiltins x = some (.type t.nm)) (hg : Gl X x := by rfl) (hn : x ≠ "__name__" := by decide) (hd : (x == ("__debug__" : Str)) = false := by decide) : PE X (.Name x pos) (tC (.ty t.nm)) := pe_bltn hg hm hv rfl hn hd
theorem tys_nil : PA X [] fun σ H Q => Q (([] : List Ty).map fun t => V.ty t.nm) H := PA.imp pa_nil fun _ _ _ h => h
theorem tys_cons {t : Ty} {tys : List Ty} (h : PE X e (tC (.ty t.nm))) (hr : PA X es fun σ H Q => Q (tys.map fun t => V.ty t.nm) H) (hs : isStar e = false := by rfl) : PA X (e :: es) fun σ H Q => Q ((t :: tys).map fun t => V.ty t.nm) H :=
  PA.imp (pa_cons h hr (star_cons hs)) fun _ _ _ h => h
-- calls
theorem w_call {n j : Nat} {ψ : List DI.D → Sd → FOut} {fs : Ga → Sd → Out (List DI.D)} {ff : Addr} {fd : FuncData} {ps : List Str} (Fn : FnOk X.prog X.w X.K X.mg X.base (L2.CX X.prog X.w) k ff fd ps (spF F n ψ)) (hψ : ∀ ds s, ds.length ≠ n → ψ ds s = .bad) (hr : Room j X.A) (hm : X.mg x = some (.ref ff))
    (hk : PySem.W.keepIn X.K (.ref ff) = true) (hb : Binds X.K fd ps []) (tk : Takes X W) (ha : PAd X F W (e :: es) fs) (hj : k ≤ j := by decide) (hg : Gl X x := by rfl) (hdb : (x == ("__debug__" : Str)) = false := by decide) (h1 : isStar e = false := by rfl) (h2 : noStar es = true := by rfl) :
    PEd X F W (.Call (.Name x p) (e :: es) [] pos) (sCall (callG ψ) fs) := d_call Fn hψ (hr.mono hj) hg hm hk hb tk ha hdb h1 h2
-- methods of own lists
abbrev sMth0 (m : Mt) (i : Nat) : Ga → Sd → Out Rs := sMth m i aNil
theorem w_append (i : Nat) {fs : Ga → Sd → Out (List DI.D)} (ha : PAd X F W (e :: es) fs) (hN : X.N[i]? = some x := by rfl) (hv : Vis X.env.scope x := by first | exact Or.inl rfl | exact Or.inr (Or.inl rfl) | exact Or.inr (Or.inr rfl)) (hd : (x == ("__debug__" : Str)) = false := by decide) (hcd : (x == ("__classdict__" : Str)) = false := by decide) (hline : (apos.endLine == pos.line) = true := by rfl)
    (hfew : ((backTo pos (starEach (e :: es) X.env)).all (fun x => !x.1) && (backToKw pos (keywordEach [] X.env)).all (fun x => x.1.isSome) && decide ((e :: es).length + ([] : List Keyword).length + (if ([] : List Keyword).isEmpty then 0 else 1) < 30)) = true := by rfl) (h1 : isStar e = false := by rfl) (h2 : noStar es = true := by rfl) :
    PEd X F W (.Call (.Attribute (.Name x p) "append" apos) (e :: es) [] pos) (sMth .append i fs) := d_mth mth_append PySem.F.slot_list_append PySem.F.type_list_append mt_append hN hv hd hcd ha hline hfew h1 h2
theorem w_extend (i : Nat) {fs : Ga → Sd → Out (List DI.D)} (ha : PAd X F W (e :: es) fs) (hN : X.N[i]? = some x := by rfl) (hv : Vis X.env.scope x := by first | exact Or.inl rfl | exact Or.inr (Or.inl rfl) | exact Or.inr (Or.inr rfl)) (hd : (x == ("__debug__" : Str)) = false := by decide) (hcd : (x == ("__classdict__" : Str)) = false := by decide) (hline : (apos.endLine == pos.line) = true := by rfl)
    (hfew : ((backTo pos (starEach (e :: es) X.env)).all (fun x => !x.1) && (backToKw pos (keywordEach [] X.env)).all (fun x => x.1.isSome) && decide ((e :: es).length + ([] : List Keyword).length + (if ([] : List Keyword).isEmpty then 0 else 1) < 30)) = true := by rfl) (h1 : isStar e = false := by rfl) (h2 : noStar es = true := by rfl) :
    PEd X F W (.Call (.Attribute (.Name x p) "extend" apos) (e :: es) [] pos) (sMth .extend i fs) := d_mth mth_extend PySem.F.slot_list_extend PySem.F.type_list_extend mt_extend hN hv hd hcd ha hline hfew h1 h2
theorem w_popAt (i : Nat) {fs : Ga → Sd → Out (List DI.D)} (ha : PAd X F W (e :: es) fs) (hN : X.N[i]? = some x := by rfl) (hv : Vis X.env.scope x := by first | exact Or.inl rfl | exact Or.inr (Or.inl rfl) | exact Or.inr (Or.inr rfl)) (hd : (x == ("__debug__" : Str)) = false := by decide) (hcd : (x == ("__classdict__" : Str)) = false := by decide) (hline : (apos.endLine == pos.line) = true := by rfl)
    (hfew : ((backTo pos (starEach (e :: es) X.env)).all (fun x => !x.1) && (backToKw pos (keywordEach [] X.env)).all (fun x => x.1.isSome) && decide ((e :: es).length + ([] : List Keyword).length + (if ([] : List Keyword).isEmpty then 0 else 1) < 30)) = true := by rfl) (h1 : isStar e = false := by rfl) (h2 : noStar es = true := by rfl) :
    PEd X F W (.Call (.Attribute (.Name x p) "pop" apos) (e :: es) [] pos) (sMth .popAt i fs) := d_mth mth_popAt PySem.F.slot_list_pop PySem.F.type_list_pop mt_popAt hN hv hd hcd ha hline hfew h1 h2
theorem w_pop (i : Nat) (hN : X.N[i]? = some x := by rfl) (hv : Vis X.env.scope x := by first | exact Or.inl rfl | exact Or.inr (Or.inl rfl) | exact Or.inr (Or.inr rfl)) (hd : (x == ("__debug__" : Str)) = false := by decide) (hcd : (x == ("__classdict__" : Str)) = false := by decide) (hline : (apos.endLine == pos.line) = true := by rfl) :
    PEd X F W (.Call (.Attribute (.Name x p) "pop" apos) [] [] pos) (sMth0 .pop i) := d_mth0 mth_pop PySem.F.slot_list_pop PySem.F.type_list_pop mt_pop hN hv hd hcd hline
theorem w_insert (i : Nat) {fs : Ga → Sd → Out (List DI.D)} (ha : PAd X F W (e :: es) fs) (hN : X.N[i]? = some x := by rfl) (hv : Vis X.env.scope x := by first | exact Or.inl rfl | exact Or.inr (Or.inl rfl) | exact Or.inr (Or.inr rfl)) (hd : (x == ("__debug__" : Str)) = false := by decide) (hcd : (x == ("__classdict__" : Str)) = false := by decide) (hline : (apos.endLine == pos.line) = true := by rfl)
    (hfew : ((backTo pos (starEach (e :: es) X.env)).all (fun x => !x.1) && (backToKw pos (keywordEach [] X.env)).all (fun x => x.1.isSome) && decide ((e :: es).length + ([] : List Keyword).length + (if ([] : List Keyword).isEmpty then 0 else 1) < 30)) = true := by rfl) (h1 : isStar e = false := by rfl) (h2 : noStar es = true := by rfl) :
    PEd X F W (.Call (.Attribute (.Name x p) "insert" apos) (e :: es) [] pos) (sMth .insert i fs) := d_mth mth_insert PySem.F.slot_list_insert PySem.F.type_list_insert mt_insert hN hv hd hcd ha hline hfew h1 h2
-- statements
variable {u v : Ga → Sd → Out Flow}
theorem x_set (i : Nat) (hN : X.N.Nodup) (h : PEd X F W e f) (hi : X.N[i]? = some x := by rfl) (hx : Loc X.env.scope x := by first | exact Or.inl rfl | exact Or.inr rfl) (hs : swapsWith e (some (.Name x p)) pos.line X.env = pure false := by rfl) (hf : X.fn x = true ∨ X.env.scope.names.lookup x = some .local := by first | exact .inl rfl | exact .inr rfl) :
    PSd X F W (.Assign [.Name x p] e pos) (sAsg (.nm i) f) := ds_set hN hi hx h hs hf
theorem x_exp (h : PEd X F W e f) (hs : swapsWith e none pos.line X.env = pure false := by rfl) : PSd X F W (.Expr e pos) (sExp f) := ds_exp h hs
theorem x_for {it tg : Expr} {body : List Stmt} {gt : TG} {t : Tg} {fi : Ga → Sd → Out (List DI.D)} (hp : PassesOwn (model X.prog X.w) X.A X.env X.xe) (hc : X.calm = true) (hi : PId X F W tg it fi) (hg : PG X tg gt) (ht : TgR F gt t) (hb : PSsd X F W body u)
    (hs : ∀ x, foldedSetIterable it X.env x = pure x := by intro _; rfl) : PSd X F W (.For tg it body [] pos) (sFor t fi u) := ds_for hp hc hi hg ht hb hs
theorem x_while (n : Nat) {c : Expr} {body : List Stmt} (hp : PassesOwn (model X.prog X.w) X.A X.env X.xe) (hc : PTd X F W c ta) (hb : PSsd X F W body u) : PSd X F W (.While c body [] pos) (whlL ta u n) := ds_while hp hc hb
theorem x_asg {elts : List Expr} {kk : Nat} {tpos : Pos} {gt : TG} {t1 t2 : Tg} (h : PEd X F W e f) (hg : PG X (.Tuple elts kk tpos) gt) (ht : TgR F gt (.cons t1 t2)) (hs : swapsWithSole [.Tuple elts kk tpos] e pos.line X.env = pure false := by rfl) (hw : swappedStores [.Tuple elts kk tpos] e X.env = pure none := by rfl) :
    PSd X F W (.Assign [.Tuple elts kk tpos] e pos) (sAsg (.cons t1 t2) f) := ds_asg rfl h hg ht hs hw
theorem x_sto (i : Nat) (ha : PEd X F W a fa) (hb : PEd X F W b fb) (hN : X.N[i]? = some x := by rfl) (hv : Vis X.env.scope x := by first | exact Or.inl rfl | exact Or.inr (Or.inl rfl) | exact Or.inr (Or.inr rfl)) (hd : (x == ("__debug__" : Str)) = false := by decide) (hcd : (x == ("__classdict__" : Str)) = false := by decide)
    (hs : swapsWithSole [.Subscript (.Name x p) b p2] a pos.line X.env = pure false := by rfl) (hw : swappedStores [.Subscript (.Name x p) b p2] a X.env = pure none := by rfl)
    (hg : ∀ v, assign (.Subscript (.Name x p) b p2) X.env v = (do
      let ov ← holding [v] (eval (.Name x p) X.env)
      let iv ← holding [v, ov] (eval b X.env)
      standAt p2
      holding [v, ov, iv] (setItem ov iv v)
      release [v, ov, iv] []) := by intro _; rfl) : PSd X F W (.Assign [.Subscript (.Name x p) b p2] a pos) (sSto i fb fa) := ds_sto hN hv hd hcd ha hb hs hw hg
theorem w_lc {elt tg it : Expr} {ifs : List Expr} {scope : Scope} (own : List (Str × Nat)) {gt : TG} {t : Tg} {fi : Ga → Sd → Out (List DI.D)} {fc : Ga → Sd → Out Bool} {fe : Ga → Sd → Out Rs} (hc : X.calm = true) (hN : X.N.Nodup) (hi : PId X F W tg it fi)
    (ok : BlkOk X.N X.env.scope scope own) (hg : ∀ (s : Shared) (H : Hp) (C : Addr) (cl : List (Str × Addr)) (fp : List Addr), PG (X.blk s H scope (compEnvC scope cl C X.env) fp) tg gt) (ht : TgR F gt t) (hsub : ∀ j ∈ t.slots, j ∈ own.map (·.2))
    (hf : ∀ (s : Shared) (H : Hp) (C : Addr) (cl : List (Str × Addr)) (fp : List Addr), PTsd (X.blk s H scope (compEnvC scope cl C X.env) fp) F W0 ifs fc)
    (he : ∀ (s : Shared) (H : Hp) (C : Addr) (cl : List (Str × Addr)) (fp : List Addr), PEd (X.blk s H scope (compEnvC scope cl C X.env) fp) F W0 elt fe) (hs : ∀ x, foldedSetIterable it X.env x = pure x := by intro _; rfl) :
    PEd X F W (.ListComp elt [⟨tg, it, ifs, 0⟩] scope pos) (sLc (own.map (·.2)) fi t fc fe) := d_lc hc hN hi ok hg ht hsub hf he hs
theorem x_setLc (i : Nat) {y : Str} {py spos : Pos} {elt tg it : Expr} {ifs : List Expr} {scope : Scope} (own : List (Str × Nat)) {gt : TG} {t : Tg} {fi : Ga → Sd → Out (List DI.D)} {fc : Ga → Sd → Out Bool} {fe : Ga → Sd → Out Rs} (hc : X.calm = true) (hN : X.N.Nodup) (hi : PId X F W tg it fi)
    (ok : BlkOk X.N X.env.scope scope own) (hg : ∀ (s : Shared) (H : Hp) (C : Addr) (cl : List (Str × Addr)) (fp : List Addr), PG (X.blk s H scope (compEnvC scope cl C X.env) fp) tg gt) (ht : TgR F gt t) (hsub : ∀ j ∈ t.slots, j ∈ own.map (·.2))
    (hf : ∀ (s : Shared) (H : Hp) (C : Addr) (cl : List (Str × Addr)) (fp : List Addr), PTsd (X.blk s H scope (compEnvC scope cl C X.env) fp) F W0 ifs fc)
    (he : ∀ (s : Shared) (H : Hp) (C : Addr) (cl : List (Str × Addr)) (fp : List Addr), PEd (X.blk s H scope (compEnvC scope cl C X.env) fp) F W0 elt fe)
    (hsw : swapsWith (.ListComp elt [⟨tg, it, ifs, 0⟩] scope pos) (some (.Name y py)) spos.line X.env = pure true) (hy : X.N[i]? = some y := by rfl) (hyl : X.env.scope.names.lookup y = some .local := by rfl) (hs : ∀ x, foldedSetIterable it X.env x = pure x := by intro _; rfl) :
    PSd X F W (.Assign [.Name y py] (.ListComp elt [⟨tg, it, ifs, 0⟩] scope pos) spos) (sAsg (.nm i) (sLc (own.map (·.2)) fi t fc fe)) := ds_setLc hc hN hy hyl hsw hi ok hg ht hsub hf he hs
end
end DI
end
section
set_option Elab.async false
set_option linter.all false
set_option maxRecDepth 100000
set_option maxHeartbeats 1000000
/-! DIDrawF: what the spring of draws does, in plain Lean. -/
namespace DI
open PySem L2
/-- cells are eaten till one is great -/
def eat : List Int → Int → Int → List Int × Int × Int
  | [], b, m => ([], b, m)
  | x :: xs, b, m => if b = 0 then eat xs (if x ≥ 1000000000000000000 then x else 0) ((m * 65599 + x + 7) % 2147483647) else (x :: xs, b, m)
def Sd.Ok (s : Sd) : Prop := 0 ≤ s.big ∧ 0 ≤ s.mix ∧ s.mix < 2147483647 ∧ 0 ≤ s.cnt
instance (s : Sd) : Decidable s.Ok := inferInstanceAs (Decidable (_ ∧ _))
def mixF (mix cnt : Int) : Int := (((mix + 6151 * cnt + 130003) ^ 5) % 2147483629 * 69621 + 40009 * cnt + 31) ^ 3 % 1000000007
def drawF (s : Sd) (many : Int) : Int × Sd :=
  let e := eat s.cells s.big s.mix
  if 0 < e.2.1 then (e.2.1 % many, ⟨e.1, e.2.1 / many, s.cnt + 1, e.2.2⟩)
  else (mixF e.2.2 (s.cnt + 1) % many, ⟨e.1, e.2.1, s.cnt + 1, e.2.2⟩)
def drawOk (s : Sd) (many : Int) : Prop := s.Ok ∧ 0 < many ∧ many < 1073741824 ∧ s.cnt < 1099511627776
instance (s : Sd) (many : Int) : Decidable (drawOk s many) := inferInstanceAs (Decidable (_ ∧ _))
def ψDraw : List DI.D → Sd → FOut
  | [.strm, .int many], s => if drawOk s many then .ok (.int (drawF s many).1) false (drawF s many).2 else .bad
  | _, _ => .bad
theorem ψDraw_bad : ∀ ds s, ds.length ≠ 2 → ψDraw ds s = .bad := by
  intro ds s h
  rcases ds with _ | ⟨a, _ | ⟨b, _ | ⟨c, r⟩⟩⟩
  · rfl
  · cases a <;> rfl
  · exact absurd rfl h
  · cases a <;> cases b <;> rfl
theorem eat_big : ∀ (xs : List Int) (b m : Int), 0 ≤ b → 0 ≤ (eat xs b m).2.1
  | [], b, m, h => h
  | x :: xs, b, m, h => by
    unfold eat
    split
    · refine eat_big xs _ _ ?_
      split <;> omega
    · exact h
theorem eat_mix : ∀ (xs : List Int) (b m : Int), 0 ≤ m → m < 2147483647 → 0 ≤ (eat xs b m).2.2 ∧ (eat xs b m).2.2 < 2147483647
  | [], b, m, h, h2 => ⟨h, h2⟩
  | x :: xs, b, m, h, h2 => by
    unfold eat
    split
    · exact eat_mix xs _ _ (Int.emod_nonneg _ (by decide)) (Int.emod_lt_of_pos _ (by decide))
    · exact ⟨h, h2⟩
theorem drawF_ok {s : Sd} {many : Int} (h : drawOk s many) : 0 ≤ (drawF s many).1 ∧ (drawF s many).1 < many ∧ (drawF s many).2.Ok ∧ (drawF s many).2.cnt = s.cnt + 1 := by
  obtain ⟨⟨h1, h2, h3, h4⟩, h5, h6, h7⟩ := h
  have b := eat_big s.cells s.big s.mix h1
  have m := eat_mix s.cells s.big s.mix h2 h3
  unfold drawF
  dsimp only
  split
  · refine ⟨Int.emod_nonneg _ (by omega), Int.emod_lt_of_pos _ h5, ⟨Int.ediv_nonneg b (by omega), m.1, m.2, by show 0 ≤ s.cnt + 1; omega⟩, rfl⟩
  · exact ⟨Int.emod_nonneg _ (by omega), Int.emod_lt_of_pos _ h5, ⟨b, m.1, m.2, by show 0 ≤ s.cnt + 1; omega⟩, rfl⟩
end DI
end
section
set_option Elab.async false
set_option linter.all false
set_option maxRecDepth 100000
set_option maxHeartbeats 1000000
/-! DIMore: three names at once, what is never reached. -/
namespace DI
open PySem L2
section
variable {F : Fx} {W : WX} {X : Cx} {e a b c : Expr} {st : Stmt} {sts : List Stmt} {pos : Pos} {f fa fb : Ga → Sd → Out Rs}
/-- what is never reached need not be covered -/
theorem d_bad : PEd X F W e (fun _ _ => .bad) := ⟨fun _ _ _ _ _ _ ⟨_, _, _, _, _, h⟩ => h.elim⟩
theorem ds_bad : PSd X F W st (fun _ _ => .bad) := ⟨fun _ _ _ _ _ _ ⟨_, _, _, _, _, h⟩ => h.elim⟩
theorem dss_bad : PSsd X F W sts (fun _ _ => .bad) := ⟨fun _ _ _ _ _ _ ⟨_, _, _, _, _, h⟩ => h.elim⟩
theorem set3 {i j l : Nat} {σ σ' : St} {u v w : V} (hij : i ≠ j) (hil : i ≠ l) (hjl : j ≠ l) (hlen : σ'.length = σ.length) (h1 : ∀ m, m ∉ [i, j, l] → σ'[m]? = σ[m]?) (a1 : σ'[i]? = some (some u)) (a2 : σ'[j]? = some (some v)) (a3 : σ'[l]? = some (some w)) :
    σ' = ((σ.set i (some u)).set j (some v)).set l (some w) := by
  refine List.ext_getElem? fun m => ?_
  have lt : ∀ {k x}, σ'[k]? = some x → k < σ.length := fun {k x} e => by rw [← hlen]; exact (List.getElem?_eq_some_iff.mp e).1
  by_cases e1 : m = l
  · subst e1
    rw [a3, List.getElem?_set_self (by simp only [List.length_set]; exact lt a3)]
  · rw [get_set_ne e1]
    by_cases e2 : m = j
    · subst e2
      rw [a2, List.getElem?_set_self (by simp only [List.length_set]; exact lt a2)]
    · rw [get_set_ne e2]
      by_cases e3 : m = i
      · subst e3
        rw [a1, List.getElem?_set_self (lt a1)]
      · rw [get_set_ne e3]
        exact h1 m (by simp [e1, e2, e3])
theorem ds_par3 {i j l : Nat} {x y z : Str} {fs : Ga → Sd → Out (List Rs)} {px py pz pt : Pos} {kt k2 : Nat} {pt2 : Pos} (hc : X.calm = true) (hN : X.N.Nodup) (hi : X.N[i]? = some x) (hj : X.N[j]? = some y) (hl : X.N[l]? = some z) (hij : i ≠ j) (hil : i ≠ l) (hjl : j ≠ l)
    (hx : X.env.scope.names.lookup x = some .local) (hy : X.env.scope.names.lookup y = some .local) (hz : X.env.scope.names.lookup z = some .local) (ha : PPd X F W [a, b, c] fs)
    (hw : swappedStores [.Tuple [.Name x px, .Name y py, .Name z pz] kt pt] (.Tuple [a, b, c] k2 pt2) X.env = pure (some [x, y, z]))
    (hs : swapsWithSole [.Tuple [.Name x px, .Name y py, .Name z pz] kt pt] (.Tuple [a, b, c] k2 pt2) pos.line X.env = pure false) :
    PSd X F W (.Assign [.Tuple [.Name x px, .Name y py, .Name z pz] kt pt] (.Tuple [a, b, c] k2 pt2) pos) (sPar [i, j, l] fs) :=
  PS.imp (ps_par3 hc hN hi hj hl hij hil hjl hx hy hz ha hw hs) fun D σ H q => by
    have nd : ([i, j, l] : List Nat).Nodup := by simp [hij, hil, hjl]
    have z := par_end (F := F) (W := W) (D := D) nd (fun vs σ => match vs with | [u, v, w] => ((σ.set i (some u)).set j (some v)).set l (some w) | _ => σ) (fun vs σ σ' hl h1 h2 h3 => ?_) σ H q
    · obtain ⟨P, g, s, M, E, h⟩ := z
      refine ⟨P, g, s, M, E, ?_⟩
      cases o : fs g s with
      | bad => rw [o] at h; exact h
      | ex c d g1 s1 => rw [o] at h; exact h
      | ok rs g1 s1 =>
        rw [o] at h
        intro vs H1 M1 E1 x1 r1
        obtain ⟨hl, k⟩ := h vs H1 M1 E1 x1 r1
        rcases vs with _ | ⟨v, _ | ⟨w, _ | ⟨u, _ | ⟨u2, r⟩⟩⟩⟩
        · cases hl
        · cases hl
        · cases hl
        · exact ⟨v, w, u, rfl, k⟩
        · cases hl
    · rcases vs with _ | ⟨v, _ | ⟨w, _ | ⟨u, _ | ⟨u2, r⟩⟩⟩⟩
      · cases hl
      · cases hl
      · cases hl
      · exact set3 hij hil hjl h1 h2 (h3 0 i v rfl rfl) (h3 1 j w rfl rfl) (h3 2 l u rfl rfl)
      · cases hl
theorem x_par2 (i j : Nat) {x y : Str} {fs : Ga → Sd → Out (List Rs)} {px py pt : Pos} {kt k2 : Nat} {pt2 : Pos} (hN : X.N.Nodup) (ha : PPd X F W [a, b] fs) (hc : X.calm = true := by rfl) (hi : X.N[i]? = some x := by rfl) (hj : X.N[j]? = some y := by rfl) (hij : i ≠ j := by decide)
    (hx : X.env.scope.names.lookup x = some .local := by rfl) (hy : X.env.scope.names.lookup y = some .local := by rfl)
    (hw : swappedStores [.Tuple [.Name x px, .Name y py] kt pt] (.Tuple [a, b] k2 pt2) X.env = pure (some [x, y]) := by rfl)
    (hs : swapsWithSole [.Tuple [.Name x px, .Name y py] kt pt] (.Tuple [a, b] k2 pt2) pos.line X.env = pure false := by rfl) :
    PSd X F W (.Assign [.Tuple [.Name x px, .Name y py] kt pt] (.Tuple [a, b] k2 pt2) pos) (sPar [i, j] fs) := ds_par2 hc hN hi hj hij hx hy ha hw hs
theorem x_par3 (i j l : Nat) {x y z : Str} {fs : Ga → Sd → Out (List Rs)} {px py pz pt : Pos} {kt k2 : Nat} {pt2 : Pos} (hN : X.N.Nodup) (ha : PPd X F W [a, b, c] fs) (hc : X.calm = true := by rfl) (hi : X.N[i]? = some x := by rfl) (hj : X.N[j]? = some y := by rfl) (hl : X.N[l]? = some z := by rfl) (hij : i ≠ j := by decide) (hil : i ≠ l := by decide) (hjl : j ≠ l := by decide)
    (hx : X.env.scope.names.lookup x = some .local := by rfl) (hy : X.env.scope.names.lookup y = some .local := by rfl) (hz : X.env.scope.names.lookup z = some .local := by rfl)
    (hw : swappedStores [.Tuple [.Name x px, .Name y py, .Name z pz] kt pt] (.Tuple [a, b, c] k2 pt2) X.env = pure (some [x, y, z]) := by rfl)
    (hs : swapsWithSole [.Tuple [.Name x px, .Name y py, .Name z pz] kt pt] (.Tuple [a, b, c] k2 pt2) pos.line X.env = pure false := by rfl) :
    PSd X F W (.Assign [.Tuple [.Name x px, .Name y py, .Name z pz] kt pt] (.Tuple [a, b, c] k2 pt2) pos) (sPar [i, j, l] fs) := ds_par3 hc hN hi hj hl hij hil hjl hx hy hz ha hw hs
/-- values in another order -/
theorem permL_vals {vs : List V} {us : List Value} (r : Vals vs us) : ∀ pm : List Nat, Vals (permL pm vs) (permL pm us)
  | [] => .nil
  | i :: pm => by
    unfold permL
    rw [List.filterMap_cons, List.filterMap_cons]
    cases q : vs[i]? with
    | none =>
      have : us[i]? = none := by rw [List.getElem?_eq_none_iff] at q ⊢; rw [← r.length]; exact q
      rw [this]
      exact permL_vals r pm
    | some v =>
      obtain ⟨u, h1, h2⟩ := r.get q
      rw [h1]
      exact .cons h2 (permL_vals r pm)
theorem kG_rel {pm : List Nat} {vs : List V} {us : List Value} {zs : List V} {ws : List Value} (r : Vals vs us) (rz : Vals zs ws) : Vals (kG pm vs zs) (kG pm us ws) := by
  cases r with
  | nil => exact permL_vals rz pm
  | cons h t => exact .nil
end
section
variable {P : Program} {w : World} {K : PySem.W.Frag} {mg : Str → Option Value} {base : Heap} {N : List Str} {qual : Str} {sc : Scope} {f : Addr} {cdv : Value} {A : Around} {outer : List PySem.Env} {s : Shared} {H : Hp} {E : XK}
theorem tk_def : Takes (cxOf (L2.CX P w) P w K mg base N qual sc f cdv A outer s H E) (fun c d _ H => E c d H) := takes_of rfl rfl rfl rfl
theorem hp_def : PassesOwn (model P w) (A.deeper (PyProof.Rows.envOfC qual sc s.heap.objs.size f cdv)) (PyProof.Rows.envOfC qual sc s.heap.objs.size f cdv) (cxOf (L2.CX P w) P w K mg base N qual sc f cdv A outer s H E).xe := passes_of rfl
end
end DI
end
section
set_option Elab.async false
set_option linter.all false
set_option maxRecDepth 100000
set_option maxHeartbeats 1000000
/-! DISum: sum(lists, start), start a list. -/
namespace DI
open PySem L2
theorem args_sum2 (a b : Value) : argsOk "sum" ⟨[a, b], []⟩ := by unfold argsOk; kernel_rfl
theorem sub_list_str : isSubtype (.type "list") (.type "str") = pure false := by rw [isSubtype_type]; kernel_rfl
theorem sub_list_bytes : isSubtype (.type "list") (.type "bytes") = pure false := by rw [isSubtype_type]; kernel_rfl
theorem sub_list_bytearray : isSubtype (.type "list") (.type "bytearray") = pure false := by rw [isSubtype_type]; kernel_rfl
section
variable {X : Cx} {pins : List (Addr × Obj)} {σ : L2.St} {R : Result → Shared → Prop}
theorem Ex.sqL {K : PySem.W.Frag} {G H : Hp} (x : Ex G H) {a : Addr} {xs : List V} (h : SqL K G a xs) : SqL K H a xs := by
  rcases h with h | h
  · exact .inl (x.rd h)
  · exact .inr h
theorem FpOk.other {H : Hp} {b T : Addr} {o : HO} (h : FpOk X pins H b) (n : b ≠ T) : FpOk X pins (upd H T o) b := ⟨by rw [upd_ne n]; exact h.1, h.2⟩
theorem sum_loop {G : Hp} {b0 : Addr} {a it S : Addr} {ls : List Addr} {yss : List (List V)} {zs : List V} (hh : X.A.handled = none) (hSit : S ≠ it) (hall : (zs ++ yss.flatten).length ≤ sizeLine) (hlen : ls.length = yss.length) :
    ∀ (k i : Nat) (s : Shared) (H : Hp) (tot : Addr) (c : Nat), ls.length - i = k → i ≤ ls.length → Inv X pins σ H s → SqL X.K H a (ls.map V.ref) → s.heap.IsListIter it a i → FpOk X pins H it → FpOk X pins H S →
      s.heap.get? S = some { cls := .type "list", dict := none, data := .seq #[.ref tot] c, slots := #[] } → H tot = some (.lst (zs ++ (yss.take i).flatten)) → (∀ b o, G b = some o → H b = some o) → (tot = b0 ∨ G tot = none) →
      (∀ (j : Nat) (l : Addr) (ys : List V), ls[j]? = some l → yss[j]? = some ys → H l = some (.lst ys)) →
      (∀ H' s' p, Inv X pins σ H' s' → (∀ b o, H b = some o → H' b = some o) → H' p = some (.lst (zs ++ yss.flatten)) → (p = b0 ∨ G p = none) → R (.ok (.ret (.ref p))) s') →
      codeAny (model X.prog X.w) X.A (.builtin "sum.loop" ⟨[.ref it, .ref S, rawInt 2, rawInt 0], []⟩) R s := by
  intro k
  induction k with
  | zero =>
    intro i s H tot c hk hi I hq hit fi fS hS ht hG hp hl hR
    have e : i = ls.length := by omega
    subst e
    refine codeAny_builtin F.entry_sum_loop ?_
    rw [Around.under_plainId F.plain_sum_loop _]
    show wpAny _ X.A.in1 (seqItems? (.ref S) >>= _) _ _ s
    refine wpAny_bind (wpAny_seqItems hS rfl ?_)
    obtain ⟨its, rv, pl, _⟩ := I.list hq
    have hl2 := rv.length
    show wpAny _ X.A.in1 (tryCatch (pyNext (.ref it)) _ >>= _) _ _ s
    refine wpAny_bind (wpAny_tryCatch (wpAny_pyNext_list_end hh hit pl.isList (by rw [List.length_map] at hl2; simp [hl2]) fun h' sb => ?_))
    refine wpAny_pure (hR H _ tot (I.turnedL (t' := s.toks) (ch := [it]) (fun b o hb e => sb b o (fun z => hb (by simp [z])) e) (fun b hb => by rw [List.mem_singleton.mp hb]; exact fi)) (fun _ _ e => e) ?_ hp)
    rw [ht, hlen, List.take_length]
  | succ k ih =>
    intro i s H tot c hk hi I hq hit fi fS hS ht hG hp hl hR
    have hlt : i < ls.length := by omega
    refine codeAny_builtin F.entry_sum_loop ?_
    rw [Around.under_plainId F.plain_sum_loop _]
    show wpAny _ X.A.in1 (seqItems? (.ref S) >>= _) _ _ s
    refine wpAny_bind (wpAny_seqItems hS rfl ?_)
    obtain ⟨its, rv, pl, _⟩ := I.list hq
    obtain ⟨l, el⟩ : ∃ l, ls[i]? = some l := ⟨ls[i], List.getElem?_eq_getElem hlt⟩
    obtain ⟨ys, ey⟩ : ∃ ys, yss[i]? = some ys := ⟨yss[i], List.getElem?_eq_getElem (by omega)⟩
    obtain ⟨u, hu, ru⟩ := rv.get (i := i) (x := V.ref l) (by rw [List.getElem?_map, el]; rfl)
    cases ru
    have hitlt : it < s.heap.objs.size := by obtain ⟨_, e1, _⟩ := hit; exact Heap.lt_size e1
    have hSlt : S < s.heap.objs.size := Heap.lt_size hS
    show wpAny _ X.A.in1 (tryCatch (pyNext (.ref it)) _ >>= _) _ _ s
    refine wpAny_bind (wpAny_tryCatch (wpAny_pyNext_list_item hit pl.isList (x := .ref l) (by simpa using hu) fun h' hit' sb => ?_))
    have I1 : Inv X pins σ H { s with heap := h' } := I.turnedL (t' := s.toks) (ch := [it]) (fun b o hb e => (sb.2 b (fun z => hb (by simp [z]))).trans e) (fun b hb => by rw [List.mem_singleton.mp hb]; exact fi)
    have hS1 : h'.get? S = some { cls := .type "list", dict := none, data := .seq #[.ref tot] c, slots := #[] } := (sb.2 S hSit).trans hS
    obtain ⟨z1, t1, n1, r1, q1, e1⟩ := I1.lstM ht
    obtain ⟨z2, t2, n2, r2, q2, e2⟩ := I1.lstM (hl i l ys el ey)
    have hd : yss.drop i = ys :: yss.drop (i + 1) := by
      have h3 : i < yss.length := by omega
      rw [List.drop_eq_getElem_cons h3]
      rw [List.getElem?_eq_getElem h3] at ey
      rw [Option.some.inj ey]
    have htake : yss.take (i + 1) = yss.take i ++ [ys] := by
      have h3 : i < yss.length := by omega
      rw [List.take_succ, ey]; rfl
    have hall2 : (zs ++ (yss.take i).flatten).length + ys.length ≤ sizeLine := by
      have : yss.flatten = (yss.take i).flatten ++ (ys ++ (yss.drop (i + 1)).flatten) := by
        conv => lhs; rw [← List.take_append_drop i yss, List.flatten_append, hd, List.flatten_cons]
      rw [this] at hall
      simp only [List.length_append] at hall ⊢
      omega
    have hsz : h'.objs.size = s.heap.objs.size := sb.1
    show wpAny _ X.A.in1 ((holding [Value.ref l] (binaryOp .Add (.ref tot) (.ref l))).attempt >>= _) _ _ _
    refine wpAny_bind (wpAny_attempt (wpAny_holding (PySem.P.add_list e1 e2 ?_ (by rw [List.size_toArray, List.size_toArray]; omega))))
    have ea : t1.toArray ++ t2.toArray = (t1 ++ t2).toArray := by simp
    rw [ea]
    have I2 : Inv X pins σ (upd H h'.objs.size (.lst (zs ++ (yss.take i).flatten ++ ys))) { s with heap := h'.push { cls := .type "list", data := .seq (t1 ++ t2).toArray } } := I1.lnew (t' := s.toks) (r1.append r2) (by rw [List.length_append]; omega)
    have fS2 : FpOk X pins (upd H h'.objs.size (.lst (zs ++ (yss.take i).flatten ++ ys))) S := FpOk.other fS (Nat.ne_of_lt (by rw [hsz]; exact hSlt))
    have fi2 : FpOk X pins (upd H h'.objs.size (.lst (zs ++ (yss.take i).flatten ++ ys))) it := FpOk.other fi (Nat.ne_of_lt (by rw [hsz]; exact hitlt))
    have hS2 : (h'.push { cls := .type "list", data := .seq (t1 ++ t2).toArray }).get? S = some { cls := .type "list", dict := none, data := .seq #[.ref tot] c, slots := #[] } := Heap.get?_push_of_some _ hS1
    show wpAny _ X.A.in1 (updateSeq S (fun _ => #[Value.ref h'.objs.size]) >>= _) _ _ _
    refine wpAny_bind (wpAny_updateSeq hS2 rfl ?_)
    have hS3 := Heap.get?_update_self (Obj.mapSeq fun _ => #[Value.ref h'.objs.size]) hS2 rfl
    refine wpAny_bind (wpAny_letGo ?_)
    refine wpAny_bind (wpAny_updateSeq hS3 rfl (wpAny_pure ⟨plainId_quiet F.plain_sum_loop _, ?_⟩))
    have up : ∀ b o, b ≠ S → (h'.push { cls := .type "list", data := .seq (t1 ++ t2).toArray }).get? b = some o → (((h'.push { cls := .type "list", data := .seq (t1 ++ t2).toArray }).update S (Obj.mapSeq fun _ => #[Value.ref h'.objs.size])).update S (Obj.mapSeq fun _ => #[Value.ref h'.objs.size])).get? b = some o :=
      fun b o hb e => (Heap.get?_update_other _ _ (Ne.symm hb)).trans ((Heap.get?_update_other _ _ (Ne.symm hb)).trans e)
    have I3 := I2.turnedL (t' := s.toks) (ch := [S]) (fun b o hb e => up b o (fun z => hb (by simp [z])) e) (fun b hb => by rw [List.mem_singleton.mp hb]; exact fS2)
    have ex : ∀ b o, H b = some o → (upd H h'.objs.size (.lst (zs ++ (yss.take i).flatten ++ ys))) b = some o := fun b o e => by
      rw [upd_ne (fun z => by rw [z, I1.fresh] at e; cases e)]; exact e
    refine ih (i + 1) _ _ h'.objs.size _ (by omega) hlt I3 ?_ (hit'.at fun o e => up it o (Ne.symm hSit) (Heap.get?_push_of_some _ e)) fi2 fS2 (Heap.get?_update_self _ hS3 rfl) ?_ (fun b o e => ex b o (hG b o e)) (.inr ?_) (fun j l ys e1 e2 => ex _ _ (hl j l ys e1 e2)) fun H' s' p J g q => hR H' s' p J (fun b o e => g b o (ex b o e)) q
    · exact Ex.sqL ex hq
    · rw [upd_same, htake, List.flatten_append]
      simp
    · cases e : G h'.objs.size with
      | none => rfl
      | some o =>
        have := hG _ _ e
        rw [I1.fresh] at this; cases this
theorem call_sumL (hcalm : X.calm = true) : CallR X (.builtin "sum") (fun xs H Q => ∃ (a b : Addr) (ls : List Addr) (yss : List (List V)) (zs : List V), xs = [.ref a, .ref b] ∧ SqL X.K H a (ls.map V.ref) ∧ ls.length = yss.length ∧
    (∀ (j : Nat) (l : Addr) (ys : List V), ls[j]? = some l → yss[j]? = some ys → H l = some (.lst ys)) ∧ H b = some (.lst zs) ∧ (zs ++ yss.flatten).length ≤ sizeLine ∧
    ∀ H' p, (∀ b o, H b = some o → H' b = some o) → H' p = some (.lst (zs ++ yss.flatten)) → (p = b ∨ H p = none) → Q (.ref p) H') := by
  intro pins s σ H xs us Q I r q
  obtain ⟨a, b, ls, yss, zs, rfl, hq, hlen, hl, hb, hall, q⟩ := q
  obtain ⟨u1, u2, rfl, r1, r2⟩ := vals2 r
  cases r1
  cases r2
  have hh := I.ok.hd hcalm
  refine call_function_tree F.kind_sum F.plain_sum F.entry_sum (args_sum2 _ _) ?_
  unfold Builtin.«sum»
  simp only [List.length_cons, List.length_nil]
  rw [if_neg (by decide)]
  refine wpAny_bind (wpAny_of_eq (show Builtin.Builtins.bindParams "sum" ["start"] 0 ⟨[Value.ref b], []⟩ = pure [some (Value.ref b)] from rfl) ?_)
  obtain ⟨its, rv, pl, _⟩ := I.list hq
  refine wpAny_bind (wpAny_pyIter_list pl.isList ?_)
  have I1 : Inv X pins σ H { s with heap := s.heap.push { cls := .type "list_iterator", data := .fields #[.ref a, .int 0 0] } } := I.kept (t' := s.toks) fun b o e => Heap.get?_push_of_some _ e
  obtain ⟨_, tb, nb, _, _, eb⟩ := I1.lstM hb
  have tyb : Shared.TypeIs ({ s with heap := s.heap.push { cls := .type "list_iterator", data := .fields #[.ref a, .int 0 0] } } : Shared) (.ref b) "list" := ⟨_, eb, rfl⟩
  refine wpAny_bind (wpAny_pure ?_)
  simp only [List.forIn_cons, List.forIn_nil]
  refine wpAny_bind (wpAny_bind (wpAny_bind (wpAny_isInstance (T := "list") (b := false) tyb sub_list_str ?_)))
  simp only [Bool.false_eq_true, if_false]
  refine wpAny_pure (wpAny_bind (wpAny_bind (wpAny_isInstance (T := "list") (b := false) tyb sub_list_bytes ?_)))
  simp only [Bool.false_eq_true, if_false]
  refine wpAny_pure (wpAny_bind (wpAny_bind (wpAny_isInstance (T := "list") (b := false) tyb sub_list_bytearray ?_)))
  simp only [Bool.false_eq_true, if_false]
  refine wpAny_pure (wpAny_pure ?_)
  refine wpAny_bind (wpAny_newObj_type ?_)
  have I2 : Inv X pins σ H { s with heap := (s.heap.push { cls := .type "list_iterator", data := .fields #[.ref a, .int 0 0] }).push { cls := .type "list", data := .seq [Value.ref b].toArray } } := I1.kept (t' := s.toks) fun b o e => Heap.get?_push_of_some _ e
  have sz : (s.heap.push { cls := .type "list_iterator", data := .fields #[.ref a, .int 0 0] }).objs.size = s.heap.objs.size + 1 := Heap.size_push ..
  have hit : ((s.heap.push { cls := .type "list_iterator", data := .fields #[.ref a, .int 0 0] }).push { cls := .type "list", data := .seq [Value.ref b].toArray }).IsListIter s.heap.objs.size a 0 := ⟨_, Heap.get?_push_of_some _ (Heap.get?_push_size _ rfl), rfl, rfl⟩
  refine wpAny_pure ⟨plainId_quiet F.plain_sum_loop _, ?_⟩
  refine sum_loop (G := H) (b0 := b) (a := a) (ls := ls) (yss := yss) (zs := zs) hh (by show (s.heap.push { cls := .type "list_iterator", data := .fields #[.ref a, .int 0 0] }).objs.size ≠ s.heap.objs.size; rw [sz]; exact Nat.succ_ne_self _) hall hlen ls.length 0 _ H b _ rfl (Nat.zero_le _) I2 hq hit
    (I.fpOk (Nat.le_refl _) I.fresh) (I1.fpOk (Nat.le_refl _) I1.fresh) (Heap.get?_push_size _ rfl) (by simpa using hb) (fun _ _ e => e) (.inl rfl) hl fun H' s' p J g e n => ?_
  exact ⟨.ref p, H', J, rfl, q H' p g e n⟩
end
end DI
end
section
set_option Elab.async false
set_option linter.all false
set_option maxRecDepth 100000
set_option maxHeartbeats 1000000
/-! DIRepr: repr of lists and tuples (with empty dicts within). -/
namespace DI
open PySem L2
mutual
def D.rd : DI.D → Option PyData
  | .non => some .none
  | .bl b => some (.bool b)
  | .int i => some (.int i)
  | .str s => some (.str s)
  | .lst xs => match D.rdAll xs with
    | some ds => some (.list ds)
    | none => none
  | .tup xs => match D.rdAll xs with
    | some ds => some (.tuple ds)
    | none => none
  | .dic [] => some (.dict [])
  | .dic _ => none
  | .strm => none
def D.rdAll : List DI.D → Option (List PyData)
  | [] => some []
  | x :: xs => match D.rd x with
    | some d => match D.rdAll xs with
      | some ds => some (d :: ds)
      | none => none
    | none => none
end
section
variable {X : Cx} {pins : List (Addr × Obj)} {σ : L2.St} {H : Hp} {s : Shared} {c : Addr}
theorem rdAll_cons {x : DI.D} {xs : List DI.D} {p : List PyData} (h : D.rdAll (x :: xs) = some p) : ∃ d ds, D.rd x = some d ∧ D.rdAll xs = some ds ∧ p = d :: ds := by
  unfold D.rdAll at h
  cases h1 : D.rd x with
  | none => rw [h1] at h; cases h
  | some d =>
    rw [h1] at h
    cases h2 : D.rdAll xs with
    | none => rw [h2] at h; cases h
    | some ds => rw [h2] at h; cases h; exact ⟨d, ds, rfl, rfl, rfl⟩
theorem rd_lst {xs : List DI.D} {p : PyData} (h : D.rd (.lst xs) = some p) : ∃ ds, D.rdAll xs = some ds ∧ p = .list ds := by
  unfold D.rd at h
  cases h2 : D.rdAll xs with
  | none => rw [h2] at h; cases h
  | some ds => rw [h2] at h; cases h; exact ⟨ds, rfl, rfl⟩
theorem rd_tup {xs : List DI.D} {p : PyData} (h : D.rd (.tup xs) = some p) : ∃ ds, D.rdAll xs = some ds ∧ p = .tuple ds := by
  unfold D.rd at h
  cases h2 : D.rdAll xs with
  | none => rw [h2] at h; cases h
  | some ds => rw [h2] at h; cases h; exact ⟨ds, rfl, rfl⟩
/-- a list's own repr -/
def LstRep (prog : Program) (w : World) (h : Heap) (a : Addr) (ds : List PyData) : Prop := ∃ (o : Obj) (l : List Value) (n : Nat) (bs as : List Addr), h.get? a = some o ∧ o.cls = .type "list" ∧ o.data = .seq l.toArray n ∧ ReadsAll h l ds as ∧ a ∉ bs ∧ ReprAllK prog w bs h (PyData.depthAll ds) l (PyData.shownAll ds)
mutual
theorem rp_repr (I : Inv X pins σ H s) : ∀ {v : V} {d : DI.D}, Rp X.K c H v d → ∀ (u : Value) (p : PyData), D.rd d = some p → RelV v u → p.showable = true → p.shown.length ≤ sizeLine →
    ∃ bs as, Reads s.heap u p as ∧ ReadAtMost s.heap p.depth bs ∧ ReprK X.prog X.w bs s.heap p.depth u p.shown
  | _, _, .non, u, p, e, r, _, _ => by
    cases e; cases r
    exact ⟨[], _, .none, (fun _ h => nomatch h), by simp only [PyData.shown]; exact .of_is ReprIs.none _ _ _⟩
  | _, _, .bl b, u, p, e, r, _, _ => by
    cases e; cases r
    exact ⟨[], _, .bool b, (fun _ h => nomatch h), by simp only [PyData.shown]; exact .of_is (ReprIs.bool b) _ _ _⟩
  | _, _, .int i, u, p, e, r, hs, _ => by
    cases e
    obtain ⟨t, rfl⟩ := r
    exact ⟨[], _, .int i t, (fun _ h => nomatch h), by simp only [PyData.shown]; exact .of_is (ReprIs.int t (by simpa [PyData.showable] using hs)) _ _ _⟩
  | _, _, .str z, u, p, e, r, _, hz => by
    cases e
    obtain ⟨t, rfl⟩ := r
    exact ⟨[], _, .str z t, (fun _ h => nomatch h), by simp only [PyData.shown]; exact .of_is (ReprIs.str z t (by simpa only [PyData.shown] using hz)) _ _ _⟩
  | _, _, .lst (a := a) h1 h2, u, p, e, r, hs, hz => by
    obtain ⟨ds, e1, rfl⟩ := rd_lst e
    cases r
    have hz' : (listText (PyData.shownAll ds)).length ≤ sizeLine := by simpa only [PyData.shown] using hz
    obtain ⟨_, its, n, rv, _, ho⟩ := I.lstM h1
    obtain ⟨bs, as, q1, hb, hk⟩ := rp_reprAll I h2 its ds e1 rv (by simpa [PyData.showable] using hs) (fun t ht => Nat.le_trans (listText_mem_le ht) hz')
    have r : Reads s.heap (.ref a) (.list ds) (a :: as) := .list ho rfl rfl q1
    have hna : a ∉ bs := not_mem_of_deeper r (by simp only [PyData.depth]; omega) hb
    refine ⟨a :: bs, _, r, ReadAtMost.cons r (by simp only [PyData.depth]; omega) hb, ?_⟩
    simp only [PyData.depth, PyData.shown]
    cases its with
    | nil =>
      cases q1
      simp only [PyData.shownAll, listText_nil]
      exact ReprK.listEmpty ho rfl rfl
    | cons y l => exact ReprK.list ho rfl rfl hna (by simpa using hk.length_eq) (fun i y e => hk.item i y (by simpa using e))
  | _, _, .tup (a := a) h1 h2, u, p, e, r, hs, hz => by
    obtain ⟨ds, e1, rfl⟩ := rd_tup e
    cases r
    have hz' : (tupleText (PyData.shownAll ds)).length ≤ sizeLine := by simpa only [PyData.shown] using hz
    obtain ⟨its, rv, ⟨o, ho, hc, n, hd⟩, _⟩ := I.tuple h1
    obtain ⟨bs, as, q1, hb, hk⟩ := rp_reprAll I h2 its ds e1 rv (by simpa [PyData.showable] using hs) (fun t ht => Nat.le_trans (tupleText_mem_le ht) hz')
    have r : Reads s.heap (.ref a) (.tuple ds) as := .tuple ho hc hd q1
    have hna : a ∉ bs := not_mem_of_deeper r (by simp only [PyData.depth]; omega) hb
    refine ⟨a :: bs, _, r, ReadAtMost.cons r (by simp only [PyData.depth]; omega) hb, ?_⟩
    simp only [PyData.depth, PyData.shown]
    exact ReprK.tuple ho hc hd hna hk
  | _, _, .dic (a := a) (ks := ks) h1 h2, u, p, e, r, hs, hz => by
    cases h2 with
    | cons _ _ => cases e
    | nil =>
      cases e
      cases r
      obtain ⟨_, hsys, vs, kv, dd⟩ := dk_of I.hok h1
      cases kv
      obtain ⟨o, es, ep, ho, hx, hd, _, hp, _⟩ := dd
      have he : es.toList = [] := by
        cases h : es.toList with
        | nil => rfl
        | cons y ys => rw [h] at hp; cases hp
      have r : Reads s.heap (.ref a) (.dict []) (a :: [] ++ []) := .dict ho hx.1 hd (by rw [he]; exact .nil) (by rw [he]; exact .nil)
      refine ⟨[a], _, r, ReadAtMost.cons r (Nat.zero_le _) (fun _ h => nomatch h), ?_⟩
      simp only [PyData.depth, PyData.shown, PyData.shownKv, PyData.depthKv]
      exact ReprK.dict ho hx.1 hd hsys (fun h => nomatch h) (by rw [he]; exact .nil)
  | _, _, .strm, u, p, e, _, _, _ => by cases e
theorem rp_reprAll (I : Inv X pins σ H s) : ∀ {vs : List V} {ds : List DI.D}, RpL X.K c H vs ds → ∀ (us : List Value) (ps : List PyData), D.rdAll ds = some ps → Vals vs us → PyData.showableAll ps = true → (∀ t ∈ PyData.shownAll ps, t.length ≤ sizeLine) →
    ∃ bs as, ReadsAll s.heap us ps as ∧ ReadAtMost s.heap (PyData.depthAll ps) bs ∧ ReprAllK X.prog X.w bs s.heap (PyData.depthAll ps) us (PyData.shownAll ps)
  | _, _, .nil, us, ps, e, r, _, _ => by
    cases e; cases r
    exact ⟨[], [], .nil, (fun _ h => nomatch h), by simp only [PyData.shownAll]; exact .nil⟩
  | _, _, .cons h1 h2, us, ps, e, r, hs, hz => by
    obtain ⟨d, ds, e1, e2, rfl⟩ := rdAll_cons e
    cases r with
    | cons r1 r2 =>
      have hs' : d.showable = true ∧ PyData.showableAll ds = true := by simpa [PyData.showableAll] using hs
      obtain ⟨b1, as, q1, hb1, k1⟩ := rp_repr I h1 _ d e1 r1 hs'.1 (hz _ (by simp only [PyData.shownAll]; exact List.mem_cons_self ..))
      obtain ⟨b2, as2, q2, hb2, k2⟩ := rp_reprAll I h2 _ ds e2 r2 hs'.2 (fun t ht => hz t (by simp only [PyData.shownAll]; exact List.mem_cons_of_mem _ ht))
      refine ⟨b1 ++ b2, _, .cons q1 q2, ?_, ?_⟩
      · intro b hm
        simp only [PyData.depthAll]
        rcases List.mem_append.mp hm with hm | hm
        · obtain ⟨d', as', r', hd'⟩ := hb1 b hm
          exact ⟨d', as', r', Nat.le_trans hd' (Nat.le_max_left _ _)⟩
        · obtain ⟨d', as', r', hd'⟩ := hb2 b hm
          exact ⟨d', as', r', Nat.le_trans hd' (Nat.le_max_right _ _)⟩
      · simp only [PyData.depthAll, PyData.shownAll]
        exact .cons ((k1.more fun b hb => List.mem_append_left _ hb).level_le (Nat.le_max_left _ _)) (k2.more_le (fun b hb => List.mem_append_right _ hb) (Nat.le_max_right _ _))
end
theorem call_repr_rp (hg : X.A.guards = some []) (hu : X.A.units + 100 < cLine) : CallR X (.builtin "repr") (fun xs H Q => ∃ (c : Addr) (v : V) (d : DI.D) (p : PyData), xs = [v] ∧ Rp X.K c H v d ∧ D.rd d = some p ∧ ((∃ ds, d = .lst ds) ∨ ∃ ds, d = .tup ds) ∧ p.showable = true ∧ p.shown.length ≤ sizeLine ∧ p.depth ≤ 60 ∧ Q (.str p.shown) H) := by
  intro pins s σ H xs us Q I r q
  obtain ⟨c, v, d, p, rfl, h, e, hd, hs, hz, hp, q⟩ := q
  obtain ⟨u, rfl, ru⟩ := vals1 r
  rcases hd with ⟨xs, rfl⟩ | ⟨xs, rfl⟩
  · obtain ⟨ds, e1, rfl⟩ := rd_lst e
    cases h with
    | lst h1 h2 =>
      rename_i a vs
      cases ru
      have hz' : (listText (PyData.shownAll ds)).length ≤ sizeLine := by simpa only [PyData.shown] using hz
      obtain ⟨_, its, n, rv, _, ho⟩ := I.lstM h1
      obtain ⟨bs, as, q1, hb, hk⟩ := rp_reprAll I h2 its ds e1 rv (by simpa [PyData.showable] using hs) (fun t ht => Nat.le_trans (listText_mem_le ht) hz')
      have r : Reads s.heap (.ref a) (.list ds) (a :: as) := .list ho rfl rfl q1
      have hna : a ∉ bs := not_mem_of_deeper r (by simp only [PyData.depth]; omega) hb
      simp only [PyData.depth] at hp
      simp only [PyData.shown] at q
      have done : ∀ (h' : Heap) (t tk : Nat), (∀ b o, s.heap.get? b = some o → h'.get? b = some o) → EP X pins σ Q (.str (listText (PyData.shownAll ds)) t) { s with heap := h', toks := tk } := fun h' t tk k => ⟨.str _, H, I.kept k, ⟨t, rfl⟩, q⟩
      refine call_repr_slot (by omega) (⟨_, ho, rfl⟩ : s.TypeIs (.ref a) "list") F.slot_list_repr.toG ?_
      cases its with
      | nil =>
        cases q1
        simp only [PyData.shownAll, listText_nil] at done
        exact call_list_repr_empty ⟨_, ho, rfl⟩ ho rfl ⟨_, _, rfl, done s.heap _ _ fun _ _ e => e⟩
      | cons y l =>
        exact call_list_reprK ho rfl rfl hna (by simpa using hk.length_eq) (fun i y e => hk.item i y (by simpa using e)) hg (fun b _ => Clear.nil b) (by show X.A.units + 1 + _ < cLine; omega) (fun _ _ e => e) (fun h' u tk k => ⟨_, _, rfl, done h' u tk k⟩) hz'
  · obtain ⟨ds, e1, rfl⟩ := rd_tup e
    cases h with
    | tup h1 h2 =>
      rename_i a vs
      cases ru
      have hz' : (tupleText (PyData.shownAll ds)).length ≤ sizeLine := by simpa only [PyData.shown] using hz
      obtain ⟨its, rv, ⟨o, ho, hc, n, hd⟩, _⟩ := I.tuple h1
      obtain ⟨bs, as, q1, hb, hk⟩ := rp_reprAll I h2 its ds e1 rv (by simpa [PyData.showable] using hs) (fun t ht => Nat.le_trans (tupleText_mem_le ht) hz')
      have r : Reads s.heap (.ref a) (.tuple ds) as := .tuple ho hc hd q1
      have hna : a ∉ bs := not_mem_of_deeper r (by simp only [PyData.depth]; omega) hb
      simp only [PyData.depth] at hp
      simp only [PyData.shown] at q
      have done : ∀ (h' : Heap) (t tk : Nat), (∀ b o, s.heap.get? b = some o → h'.get? b = some o) → EP X pins σ Q (.str (tupleText (PyData.shownAll ds)) t) { s with heap := h', toks := tk } := fun h' t tk k => ⟨.str _, H, I.kept k, ⟨t, rfl⟩, q⟩
      refine call_repr_slot (by omega) (⟨_, ho, hc⟩ : s.TypeIs (.ref a) "tuple") F.slot_tuple_repr ?_
      exact call_tuple_reprK ho hc hd hna hk hg (fun b _ => Clear.nil b) (by show X.A.units + 1 + _ < cLine; omega) (fun _ _ e => e) (fun h' u tk k => ⟨_, _, rfl, done h' u tk k⟩) hz'
end
end DI
end
section
set_option Elab.async false
set_option linter.all false
set_option maxRecDepth 100000
set_option maxHeartbeats 1000000
/-! DIZipN: the next of a zip whose last tuple is still held. -/
namespace DI
open PySem L2
/-- the zip object, its last tuple at T0, held -/
abbrev ZipH (h : Heap) (z TI TO T0 : Addr) (b : Bool) : Prop :=
  h.get? z = some { cls := .type "zip", dict := none, data := .fields #[rawInt T0, .bool b, .bool false, .ref TI, .ref TO], slots := #[] }
section
variable {prog : Program} {w : World} {A : Around} {E : Value → Shared → Prop} {s : Shared}
theorem wpAny_loadIfAlive {a : Addr} {Q : Option Obj → Shared → Prop} (h : Q (s.heap.get? a) s) : wpAny (model prog w) A (loadIfAlive a) Q E s := fun Γ p _ => by
  show Sem.wp _ Γ (.loadIfAlive a .pure) _ _ p s
  rw [Sem.wp_loadIfAlive]
  exact h
theorem own_held {z TI TO T0 : Addr} {b : Bool} {o0 : Obj} {Q : Bool → Shared → Prop} (hz : ZipH s.heap z TI TO T0 b) (h0 : s.heap.get? T0 = some o0)
    (hQ : ∀ h', ZipH h' z TI TO T0 true → Heap.SameBut z s.heap h' → Q false { s with heap := h' }) : wpAny (model prog w) A (Builtin.SmallTypes.ownedTupleIsFree (.ref z)) Q E s := by
  unfold Builtin.SmallTypes.ownedTupleIsFree
  refine wpAny_bind (wpAny_field hz rfl (x := rawInt T0) rfl ?_)
  show wpAny _ A (loadIfAlive T0 >>= _) _ _ _
  refine wpAny_bind (wpAny_loadIfAlive ?_)
  rw [h0]
  simp only [Option.isNone_some, Bool.false_eq_true, if_false]
  refine wpAny_bind (wpAny_field hz rfl (x := .bool b) rfl ?_)
  cases b with
  | true =>
    rw [if_neg (by decide)]
    exact wpAny_pure (hQ s.heap hz ⟨rfl, fun _ _ => rfl⟩)
  | false =>
    rw [if_pos (by decide)]
    refine wpAny_bind (wpAny_setField_rec hz (by simp) fun h₁ hz₁ hs₁ => ?_)
    exact wpAny_pure (hQ h₁ hz₁ hs₁)
theorem zip_next_held {z TI TO i1 i2 l1 l2 T0 : Addr} {bb : Bool} {o0 : Obj} {k1 k2 : Nat} {xs ys : Array Value} {x y : Value} {Q : Value → Shared → Prop} (D : ZipApart z TI TO i1 i2 l1 l2)
    (hz : ZipH s.heap z TI TO T0 bb) (h0 : s.heap.get? T0 = some o0) (hTI : IsPair s.heap TI (.ref i1) (.ref i2))
    (h1 : s.heap.IsListIter i1 l1 k1) (h2 : s.heap.IsListIter i2 l2 k2) (hl1 : s.heap.IsList l1 xs) (hl2 : s.heap.IsList l2 ys) (hx : xs[k1]? = some x) (hy : ys[k2]? = some y)
    (hQ : ∀ h', ZipH h' z TI TO T0 true → h'.IsListIter i1 l1 (k1 + 1) → h'.IsListIter i2 l2 (k2 + 1) → IsPair h' s.heap.objs.size x y → h'.objs.size = s.heap.objs.size + 1 →
      (∀ c o, c ≠ z → c ≠ i1 → c ≠ i2 → s.heap.get? c = some o → h'.get? c = some o) → Q (.ref s.heap.objs.size) { s with heap := h' }) :
    wpAny (model prog w) A (Builtin.«zip.__next__» ⟨[.ref z], []⟩) (fun fin s' => ∃ v, fin = .done (.ret v) ∧ Q v s') E s := by
  show wpAny _ _ (field (.ref z) 2 >>= _) _ _ _
  refine wpAny_bind (wpAny_field hz rfl (x := .bool false) rfl ?_)
  show wpAny _ _ (field (.ref z) 3 >>= _) _ _ _
  refine wpAny_bind (wpAny_field hz rfl (x := .ref TI) rfl ?_)
  refine wpAny_bind (wpAny_seqItems hTI rfl ?_)
  show wpAny _ _ (Builtin.SmallTypes.ownedTupleIsFree (.ref z) >>= _) _ _ _
  refine wpAny_bind (own_held hz h0 fun h₁ hz₁ hs₁ => ?_)
  simp only [Bool.false_eq_true, if_false]
  refine wpAny_bind ?_
  rw [← Array.forIn_toList]
  simp only [List.forIn_cons, List.forIn_nil]
  refine wpAny_bind (wpAny_bind (wpAny_holding ?_))
  show wpAny _ _ (Builtin.SmallTypes.nextOf (.ref i1) >>= _) _ _ _
  refine wpAny_bind (wpAny_nextOf_list_item (h1.extBut hs₁.extBut D.i1z) (hl1.extBut hs₁.extBut D.l1z) hx fun h₂ h1₂ hs₂ => wpAny_pure (wpAny_pure ?_))
  refine wpAny_bind (wpAny_bind (wpAny_holding ?_))
  show wpAny _ _ (Builtin.SmallTypes.nextOf (.ref i2) >>= _) _ _ _
  refine wpAny_bind (wpAny_nextOf_list_item ((h2.extBut hs₁.extBut D.i2z).extBut hs₂.extBut D.i12.symm)
    ((hl2.extBut hs₁.extBut D.l2z).extBut hs₂.extBut D.l2i1) hy fun h₃ h2₃ hs₃ => wpAny_pure (wpAny_pure (wpAny_pure ?_)))
  have hsz : h₃.objs.size = s.heap.objs.size := by rw [hs₃.1, hs₂.1, hs₁.1]
  refine wpAny_bind (wpAny_newTuple ?_ (by show 2 ≤ sizeLine; decide))
  have hz₃ : ZipH h₃ z TI TO T0 true := hs₃.extBut _ _ D.i2z.symm (hs₂.extBut _ _ D.i1z.symm hz₁)
  have hk : ∀ c o, c ≠ z → c ≠ i1 → c ≠ i2 → s.heap.get? c = some o → h₃.get? c = some o := fun c o c1 c2 c3 e => hs₃.extBut _ _ c3 (hs₂.extBut _ _ c2 (hs₁.extBut _ _ c1 e))
  refine wpAny_pure ⟨_, rfl, ?_⟩
  show Q (.ref h₃.objs.size) _
  rw [hsz]
  refine hQ _ (Heap.get?_push_of_some _ hz₃) ((h1₂.extBut hs₃.extBut D.i12).at fun o e => Heap.get?_push_of_some _ e) (h2₃.at fun o e => Heap.get?_push_of_some _ e) ?_ (by rw [Heap.size_push, hsz]) fun c o c1 c2 c3 e => Heap.get?_push_of_some _ (hk c o c1 c2 c3 e)
  rw [← hsz]
  exact Heap.get?_push_size _ rfl
theorem zip_end_held {z TI TO i1 i2 l1 l2 T0 : Addr} {bb : Bool} {o0 : Obj} {k1 k2 : Nat} {xs ys : Array Value} {Q : Fin → Shared → Prop} (hh : A.handled = none) (D : ZipApart z TI TO i1 i2 l1 l2)
    (hz : ZipH s.heap z TI TO T0 bb) (h0 : s.heap.get? T0 = some o0) (hTI : IsPair s.heap TI (.ref i1) (.ref i2))
    (h1 : s.heap.IsListIter i1 l1 k1) (h2 : s.heap.IsListIter i2 l2 k2) (hl1 : s.heap.IsList l1 xs) (hl2 : s.heap.IsList l2 ys) (hend : xs[k1]? = none ∨ ys[k2]? = none)
    (hE : ∀ h' e, (∀ c o, c ≠ z → c ≠ i1 → c ≠ i2 → s.heap.get? c = some o → h'.get? c = some o) → (∃ o, h'.get? e = some o ∧ o.cls = .type "StopIteration") → E (.ref e) { s with heap := h' }) :
    wpAny (model prog w) A (Builtin.«zip.__next__» ⟨[.ref z], []⟩) Q E s := by
  show wpAny _ _ (field (.ref z) 2 >>= _) _ _ _
  refine wpAny_bind (wpAny_field hz rfl (x := .bool false) rfl ?_)
  show wpAny _ _ (field (.ref z) 3 >>= _) _ _ _
  refine wpAny_bind (wpAny_field hz rfl (x := .ref TI) rfl ?_)
  refine wpAny_bind (wpAny_seqItems hTI rfl ?_)
  show wpAny _ _ (Builtin.SmallTypes.ownedTupleIsFree (.ref z) >>= _) _ _ _
  refine wpAny_bind (own_held hz h0 fun h₁ hz₁ hs₁ => ?_)
  simp only [Bool.false_eq_true, if_false]
  refine wpAny_bind ?_
  rw [← Array.forIn_toList]
  simp only [List.forIn_cons, List.forIn_nil]
  refine wpAny_bind (wpAny_bind (wpAny_holding ?_))
  show wpAny _ _ (Builtin.SmallTypes.nextOf (.ref i1) >>= _) _ _ _
  cases hx : xs[k1]? with
  | none =>
    exact wpAny_bind (wpAny_nextOf_list_end hh (h1.extBut hs₁.extBut D.i1z) (hl1.extBut hs₁.extBut D.l1z) hx fun h₂ e hs₂ he => hE h₂ e (fun c o c1 c2 _ x => hs₂ _ _ c2 (hs₁.extBut _ _ c1 x)) he)
  | some x =>
    have hy : ys[k2]? = none := by rcases hend with h | h; rw [hx] at h; cases h; exact h
    refine wpAny_bind (wpAny_nextOf_list_item (h1.extBut hs₁.extBut D.i1z) (hl1.extBut hs₁.extBut D.l1z) hx fun h₂ h1₂ hs₂ => wpAny_pure (wpAny_pure ?_))
    refine wpAny_bind (wpAny_bind (wpAny_holding ?_))
    show wpAny _ _ (Builtin.SmallTypes.nextOf (.ref i2) >>= _) _ _ _
    exact wpAny_bind (wpAny_nextOf_list_end hh ((h2.extBut hs₁.extBut D.i2z).extBut hs₂.extBut D.i12.symm) ((hl2.extBut hs₁.extBut D.l2z).extBut hs₂.extBut D.l2i1) hy fun h₃ e hs₃ he =>
      hE h₃ e (fun c o c1 c2 c3 x => hs₃ _ _ c3 (hs₂.extBut _ _ c2 (hs₁.extBut _ _ c1 x))) he)
theorem pyNext_zip_held {z TI TO i1 i2 l1 l2 T0 : Addr} {bb : Bool} {o0 : Obj} {k1 k2 : Nat} {xs ys : Array Value} {x y : Value} {Q : Option Value → Shared → Prop} (D : ZipApart z TI TO i1 i2 l1 l2)
    (hz : ZipH s.heap z TI TO T0 bb) (h0 : s.heap.get? T0 = some o0) (hTI : IsPair s.heap TI (.ref i1) (.ref i2))
    (h1 : s.heap.IsListIter i1 l1 k1) (h2 : s.heap.IsListIter i2 l2 k2) (hl1 : s.heap.IsList l1 xs) (hl2 : s.heap.IsList l2 ys) (hx : xs[k1]? = some x) (hy : ys[k2]? = some y)
    (hQ : ∀ h', ZipH h' z TI TO T0 true → h'.IsListIter i1 l1 (k1 + 1) → h'.IsListIter i2 l2 (k2 + 1) → IsPair h' s.heap.objs.size x y → h'.objs.size = s.heap.objs.size + 1 →
      (∀ c o, c ≠ z → c ≠ i1 → c ≠ i2 → s.heap.get? c = some o → h'.get? c = some o) → Q (some (.ref s.heap.objs.size)) { s with heap := h' }) :
    wpAny (model prog w) A (pyNext (.ref z)) Q E s := by
  have hT : s.TypeIs (.ref z) "zip" := ⟨_, hz, rfl⟩
  unfold pyNext
  exact wpAny_bind (wpAny_attempt (wpAny_callSpecial?_slot (name := Str.ofString "__next__") hT F.slot_zip_next
    (wpAny_call_entry F.slot_zip_next hT F.entry_zip_next
      (zip_next_held D hz h0 hTI h1 h2 hl1 hl2 hx hy fun h' a1 a3 a4 a5 a6 a7 => wpAny_pure (hQ h' a1 a3 a4 a5 a6 a7)) (F.args_zip_next_1 _))))
theorem pyNext_zip_endH {z TI TO i1 i2 l1 l2 T0 : Addr} {bb : Bool} {o0 : Obj} {k1 k2 : Nat} {xs ys : Array Value} {Q : Option Value → Shared → Prop} (hh : A.handled = none) (D : ZipApart z TI TO i1 i2 l1 l2)
    (hz : ZipH s.heap z TI TO T0 bb) (h0 : s.heap.get? T0 = some o0) (hTI : IsPair s.heap TI (.ref i1) (.ref i2))
    (h1 : s.heap.IsListIter i1 l1 k1) (h2 : s.heap.IsListIter i2 l2 k2) (hl1 : s.heap.IsList l1 xs) (hl2 : s.heap.IsList l2 ys) (hend : xs[k1]? = none ∨ ys[k2]? = none)
    (hQ : ∀ h', (∀ c o, c ≠ z → c ≠ i1 → c ≠ i2 → s.heap.get? c = some o → h'.get? c = some o) → Q none { s with heap := h' }) : wpAny (model prog w) A (pyNext (.ref z)) Q E s := by
  have hT : s.TypeIs (.ref z) "zip" := ⟨_, hz, rfl⟩
  unfold pyNext
  refine wpAny_bind (wpAny_attempt (wpAny_callSpecial?_slot (name := Str.ofString "__next__") hT F.slot_zip_next
    (wpAny_call_entry F.slot_zip_next hT F.entry_zip_next (zip_end_held hh D hz h0 hTI h1 h2 hl1 hl2 hend fun h' e hk he => ?_) (F.args_zip_next_1 _))))
  obtain ⟨o, ho, hc⟩ := he
  refine wpAny_bind (wpAny_isInstance (T := "StopIteration") (b := true) ⟨o, ho, hc⟩ isSubtype_stop ?_)
  exact wpAny_pure (hQ _ hk)
end
end DI
end
section
set_option Elab.async false
set_option linter.all false
set_option maxRecDepth 100000
set_option maxHeartbeats 1000000
/-! DIZipL: list(zip(a, b)), both lists. -/
namespace DI
open PySem L2
namespace F
theorem zip_no_len : typeLookup (.type "zip") "__len__" = pure none := by rw [typeLookup_type, builtinLookup_eq_fast]; kernel_rfl
theorem zip_no_hint : typeLookup (.type "zip") "__length_hint__" = pure none := by rw [typeLookup_type, builtinLookup_eq_fast]; kernel_rfl
end F
section
variable {X : Cx} {A : Around} {pins : List (Addr × Obj)} {σ : L2.St} {R : Result → Shared → Prop}
/-- what has been gathered: new pairs -/
def Got (G H : Hp) (xs ys : List V) (ts : List Addr) : Prop := ∀ (j : Nat) (t : Addr), ts[j]? = some t → ∃ x y, xs[j]? = some x ∧ ys[j]? = some y ∧ H t = some (.tup [x, y]) ∧ G t = none
theorem Got.push {G H : Hp} {xs ys : List V} {ts : List Addr} {x y : V} {T : Addr} (h : Got G H xs ys ts) (hx : xs[ts.length]? = some x) (hy : ys[ts.length]? = some y) (hT : H T = none) (hG : G T = none) : Got G (upd H T (.tup [x, y])) xs ys (ts ++ [T]) := fun j t e => by
  by_cases hj : j < ts.length
  · rw [List.getElem?_append_left hj] at e
    obtain ⟨x', y', a1, a2, a3, a4⟩ := h j t e
    exact ⟨x', y', a1, a2, by rw [upd_ne (ne_of_none a3 hT)]; exact a3, a4⟩
  · rw [List.getElem?_append_right (by omega)] at e
    have e2 : j - ts.length = 0 := by
      cases q : j - ts.length with
      | zero => rfl
      | succ n => rw [q] at e; simp at e
    rw [e2] at e
    cases e
    have e3 : j = ts.length := by omega
    rw [e3]
    exact ⟨x, y, hx, hy, upd_same, hG⟩
theorem lz_loop {G : Hp} {a b z TI TO i1 i2 S : Addr} {xs ys : List V} (D : ZipApart z TI TO i1 i2 a b) (hh : A.handled = none) (hSn : S ≠ z ∧ S ≠ TI ∧ S ≠ TO ∧ S ≠ i1 ∧ S ≠ i2) (hlx : xs.length ≤ sizeLine) :
    ∀ (k : Nat) (s : Shared) (H : Hp) (ts : List Addr) (us : List Value) (c : Nat), min xs.length ys.length - ts.length = k → ts.length ≤ min xs.length ys.length → Inv X pins σ H s → SqL X.K H a xs → SqL X.K H b ys →
      ((ts = [] ∧ IsZip s.heap z TI TO .none) ∨ ∃ T0 b0, T0 ∈ ts ∧ ZipH s.heap z TI TO T0 b0) → IsPair s.heap TI (.ref i1) (.ref i2) → (∃ x y, IsPair s.heap TO x y) → s.heap.IsListIter i1 a ts.length → s.heap.IsListIter i2 b ts.length →
      (∀ q ∈ [z, TI, TO, i1, i2, S], FpOk X pins H q) → s.heap.get? S = some { cls := .type "list", dict := none, data := .seq us.toArray c, slots := #[] } → us = ts.map Value.ref → (∀ b o, G b = some o → H b = some o) → Got G H xs ys ts →
      (∀ H' s' ts' c', Inv X pins σ H' s' → (∀ b o, G b = some o → H' b = some o) → H' S = none → s'.heap.get? S = some { cls := .type "list", dict := none, data := .seq (ts'.map Value.ref).toArray c', slots := #[] } → ts'.length = min xs.length ys.length → Got G H' xs ys ts' → R (.ok (.ret .none)) s') →
      codeAny (model X.prog X.w) A (.builtin "list.extend.loop" ⟨[.ref S, .ref z, .none], []⟩) R s := by
  intro k
  induction k with
  | zero =>
    intro s H ts us c hk hi I hqa hqb hz hTI hTO h1 h2 hf hS hus hG hgot hR
    subst hus
    refine codeAny_builtin PySem.F.entry_extend_loop ?_
    rw [Around.under_plainId PySem.F.plain_extend_loop _]
    show wpAny _ A.in1 (pyNext (.ref z) >>= _) _ _ s
    obtain ⟨its1, rv1, pl1, _⟩ := I.list hqa
    obtain ⟨its2, rv2, pl2, _⟩ := I.list hqb
    have e1 := rv1.length
    have e2 := rv2.length
    have hend : its1.toArray[ts.length]? = none ∨ its2.toArray[ts.length]? = none := by
      rcases Nat.le_total xs.length ys.length with q | q
      · exact .inl (by simp; omega)
      · exact .inr (by simp; omega)
    have fin : ∀ h', (∀ c o, c ≠ z → c ≠ TO → c ≠ i1 → c ≠ i2 → s.heap.get? c = some o → h'.get? c = some o) → R (.ok (.ret .none)) { s with heap := h' } := fun h' hk' =>
      hR H _ ts c (I.turnedL (t' := s.toks) (ch := [z, TO, i1, i2]) (fun c o hb q => hk' c o (fun q' => hb (by simp [q'])) (fun q' => hb (by simp [q'])) (fun q' => hb (by simp [q'])) (fun q' => hb (by simp [q'])) q) (fun q hq => hf q (by
        simp at hq ⊢; rcases hq with q | q | q | q <;> simp [q]))) hG (hf S (by simp)).1 (hk' S _ hSn.1 hSn.2.2.1 hSn.2.2.2.1 hSn.2.2.2.2 hS) (by omega) hgot
    rcases hz with ⟨_, hz⟩ | ⟨T0, b0, hm, hz⟩
    · obtain ⟨x0, y0, hTO⟩ := hTO
      exact wpAny_bind (wpAny_pyNext_zip_end hh D hz hTI hTO h1 h2 pl1.isList pl2.isList hend fun h' hk' => wpAny_pure (fin h' hk'))
    · obtain ⟨j, hj, ej⟩ := List.getElem_of_mem hm
      obtain ⟨_, _, _, _, a3, _⟩ := hgot j T0 (by rw [List.getElem?_eq_getElem hj, ej])
      obtain ⟨_, its, _, ⟨o0, ho0, _⟩⟩ := I.hok _ _ a3
      exact wpAny_bind (pyNext_zip_endH hh D hz ho0 hTI h1 h2 pl1.isList pl2.isList hend fun h' hk' => wpAny_pure (fin h' fun c o c1 _ c3 c4 e => hk' c o c1 c3 c4 e))
  | succ k ih =>
    intro s H ts us c hk hi I hqa hqb hz hTI hTO h1 h2 hf hS hus hG hgot hR
    subst hus
    refine codeAny_builtin PySem.F.entry_extend_loop ?_
    rw [Around.under_plainId PySem.F.plain_extend_loop _]
    show wpAny _ A.in1 (pyNext (.ref z) >>= _) _ _ s
    obtain ⟨its1, rv1, pl1, _⟩ := I.list hqa
    obtain ⟨its2, rv2, pl2, _⟩ := I.list hqb
    obtain ⟨x, hx⟩ : ∃ x, xs[ts.length]? = some x := ⟨xs[ts.length]'(by omega), List.getElem?_eq_getElem _⟩
    obtain ⟨y, hy⟩ : ∃ y, ys[ts.length]? = some y := ⟨ys[ts.length]'(by omega), List.getElem?_eq_getElem _⟩
    obtain ⟨u, hu, ru⟩ := rv1.get hx
    obtain ⟨u2, hu2, ru2⟩ := rv2.get hy
    have lt : ∀ {c : Addr} {o : Obj}, s.heap.get? c = some o → c < s.heap.objs.size := fun e => Heap.lt_size e
    have hzl : z < s.heap.objs.size := by
      rcases hz with ⟨_, hz⟩ | ⟨T0, b0, hm, hz⟩ <;> exact lt hz
    have hTIl := lt hTI
    have hTOl : TO < s.heap.objs.size := by obtain ⟨_, _, e⟩ := hTO; exact lt e
    have hi1l : i1 < s.heap.objs.size := by obtain ⟨_, e, _⟩ := h1; exact lt e
    have hi2l : i2 < s.heap.objs.size := by obtain ⟨_, e, _⟩ := h2; exact lt e
    have hSl := lt hS
    -- the turn, whichever way the tuple came
    have turn : ∀ h', (∃ T0 b0, T0 ∈ ts ++ [s.heap.objs.size] ∧ ZipH h' z TI TO T0 b0) → (∃ x y, IsPair h' TO x y) → h'.IsListIter i1 a (ts.length + 1) → h'.IsListIter i2 b (ts.length + 1) → IsPair h' s.heap.objs.size u u2 → h'.objs.size = s.heap.objs.size + 1 →
        (∀ c o, c ≠ z → c ≠ TO → c ≠ i1 → c ≠ i2 → s.heap.get? c = some o → h'.get? c = some o) →
        wpAny (model X.prog X.w) A.in1 (updateSeq S (·.push (Value.ref s.heap.objs.size)) >>= fun _ => again (.builtin "list.extend.loop" ⟨[.ref S, .ref z, .none], []⟩))
          (fun fin s' => match fin with | .done f => R (.ok f) s' | .again c' => c'.quiet = true ∧ codeAny (model X.prog X.w) A c' R s') (fun e s' => R (.error e) s') { s with heap := h' } := by
      intro h' hz' hTO' h1' h2' hT hsz hk'
      have new : ObjOk X.prog X.w (upd H s.heap.objs.size (.tup [x, y])) h' s.heap.objs.size (.tup [x, y]) := ⟨by show 2 ≤ sizeLine; decide, [u, u2], .cons ru (.cons ru2 .nil), ⟨_, hT, rfl, _, rfl⟩⟩
      have I1 : Inv X pins σ (upd H s.heap.objs.size (.tup [x, y])) { s with heap := h' } :=
        I.turnedNew (t' := s.toks) (ch := [z, TO, i1, i2]) (fun c o hb q => hk' c o (fun q' => hb (by simp [q'])) (fun q' => hb (by simp [q'])) (fun q' => hb (by simp [q'])) (fun q' => hb (by simp [q'])) q)
          (fun q hq => hf q (by simp at hq ⊢; rcases hq with q | q | q | q <;> simp [q])) (Nat.le_refl _) new
      have hf1 : ∀ q ∈ [z, TI, TO, i1, i2, S], FpOk X pins (upd H s.heap.objs.size (.tup [x, y])) q := fun q hq => FpOk.other (hf q hq) (by
        simp at hq
        rcases hq with q | q | q | q | q | q <;> (rw [q]; exact Nat.ne_of_lt (by assumption)))
      have hS1 := hk' S _ hSn.1 hSn.2.2.1 hSn.2.2.2.1 hSn.2.2.2.2 hS
      have hn : (ts.map Value.ref).length + 1 ≤ sizeLine := by rw [List.length_map]; omega
      refine wpAny_bind (wpAny_updateSeq hS1 rfl (wpAny_pure ⟨plainId_quiet PySem.F.plain_extend_loop _, ?_⟩) (by simp at hn ⊢; omega) (by simp at hn ⊢; omega))
      have hS2 := Heap.get?_update_self (Obj.mapSeq (·.push (Value.ref s.heap.objs.size))) hS1 rfl
      have up : ∀ q o, q ≠ S → h'.get? q = some o → (h'.update S (Obj.mapSeq (·.push (Value.ref s.heap.objs.size)))).get? q = some o := fun q o n e => (Heap.get?_update_other _ _ (Ne.symm n)).trans e
      have I2 := I1.turnedL (t' := s.toks) (ch := [S]) (fun q o hb e => up q o (fun z => hb (by simp [z])) e) (fun q hq => by rw [List.mem_singleton.mp hq]; exact hf1 S (by simp))
      have ex : ∀ q o, H q = some o → upd H s.heap.objs.size (.tup [x, y]) q = some o := fun q o e => by rw [upd_ne (ne_of_none e I.fresh)]; exact e
      have hG0 : G s.heap.objs.size = none := by
        cases e : G s.heap.objs.size with
        | none => rfl
        | some o => have := hG _ _ e; rw [I.fresh] at this; cases this
      refine ih _ _ (ts ++ [s.heap.objs.size]) _ _ (by rw [List.length_append]; simp; omega) (by rw [List.length_append]; simp; omega) I2 (Ex.sqL ex hqa) (Ex.sqL ex hqb) ?_ ?_ ?_ ?_ ?_ hf1 hS2 (by simp) (fun q o e => ex q o (hG q o e)) (hgot.push hx hy I.fresh hG0) hR
      · obtain ⟨T0, b0, hm, q⟩ := hz'
        exact .inr ⟨T0, b0, hm, up _ _ (Ne.symm hSn.1) q⟩
      · exact up _ _ (Ne.symm hSn.2.1) (hk' _ _ D.TIz D.TITO D.TIi1 D.TIi2 hTI)
      · obtain ⟨x', y', q⟩ := hTO'
        exact ⟨x', y', up _ _ (Ne.symm hSn.2.2.1) q⟩
      · rw [List.length_append]; exact h1'.at fun o e => up _ _ (Ne.symm hSn.2.2.2.1) e
      · rw [List.length_append]; exact h2'.at fun o e => up _ _ (Ne.symm hSn.2.2.2.2) e
    rcases hz with ⟨_, hz⟩ | ⟨T0, b0, hm, hz⟩
    · obtain ⟨x0, y0, hTO⟩ := hTO
      refine wpAny_bind (wpAny_pyNext_zip_item D hz hTI hTO h1 h2 pl1.isList pl2.isList (x := u) (y := u2) (by simpa using hu) (by simpa using hu2) fun h' z' TO' h1' h2' hT hsz hk' => ?_)
      exact turn h' ⟨_, false, by simp, z'⟩ ⟨_, _, TO'⟩ h1' h2' hT hsz hk'
    · obtain ⟨j, hj, ej⟩ := List.getElem_of_mem hm
      obtain ⟨_, _, _, _, a3, _⟩ := hgot j T0 (by rw [List.getElem?_eq_getElem hj, ej])
      obtain ⟨_, its, _, ⟨o0, ho0, _⟩⟩ := I.hok _ _ a3
      refine wpAny_bind (pyNext_zip_held D hz ho0 hTI h1 h2 pl1.isList pl2.isList (x := u) (y := u2) (by simpa using hu) (by simpa using hu2) fun h' z' h1' h2' hT hsz hk' => ?_)
      obtain ⟨x0, y0, hTO⟩ := hTO
      exact turn h' ⟨T0, true, by simp [hm], z'⟩ ⟨x0, y0, hk' _ _ D.TOz D.TOi1 D.TOi2 hTO⟩ h1' h2' hT hsz fun c o c1 _ c3 c4 e => hk' c o c1 c3 c4 e
end
end DI
end
section
set_option Elab.async false
set_option linter.all false
set_option maxRecDepth 100000
set_option maxHeartbeats 1000000
/-! DIZipC: list(zip(a, b)) as an expression. -/
namespace DI
open PySem L2
section
variable {X : Cx} {A : Around} {pins : List (Addr × Obj)} {σ : L2.St} {H : Hp} {s : Shared}
/-- an object of ours, so far untracked, is tracked -/
theorem track {S : Addr} {o : HO} (I : Inv X pins σ H s) (f : FpOk X pins H S) (new : ObjOk X.prog X.w (upd H S o) s.heap S o) : Inv X pins σ (upd H S o) s := by
  have hn : H S = none := f.1
  refine I.call (g' := s.gens) (t' := s.toks) (d' := s.drawn) (ch := [S]) ⟨fun b u q _ _ _ => q, fun b u q _ _ _ => ⟨u.slots, q⟩, fun b u q n hb => ?_, fun b u q _ => ⟨u, q⟩, fun b xs q => ?_, fun b u xs q => ?_, fun b ps q => ⟨#[], ?_⟩⟩ (fun b u e => ?_) I.bare
    (fun b hb => by rw [List.mem_singleton.mp hb]; exact ⟨f.2.2.2.1, f.2.1, f.2.2.2.2.1, f.2.2.2.2.2⟩)
  · rw [upd_ne (fun z => hb (by simp [z]))]; exact n
  · rw [upd_ne (ne_of_none q hn)]; exact q
  · rw [upd_ne (ne_of_none q hn)]; exact q
  · rw [upd_ne (ne_of_none q hn), q]; simp
  · by_cases hb : b = S
    · subst hb; rw [upd_same] at e; cases e; exact new
    · rw [upd_ne hb] at e
      exact (I.hok b u e).stay (fun _ _ _ z => z) (fun d z => by rw [upd_ne (ne_of_none z hn)]; exact z) fun d xs z => by rw [upd_ne (ne_of_none z hn)]; exact z
theorem ext_zip {R : Result → Shared → Prop} {a b z TI TO i1 i2 S : Addr} {xs ys : List V} (D : ZipApart z TI TO i1 i2 a b) (hh : A.handled = none) (hSn : S ≠ z ∧ S ≠ TI ∧ S ≠ TO ∧ S ≠ i1 ∧ S ≠ i2) (hlx : xs.length ≤ sizeLine) (I : Inv X pins σ H s) (hqa : SqL X.K H a xs) (hqb : SqL X.K H b ys)
    (hz : IsZip s.heap z TI TO .none) (hTI : IsPair s.heap TI (.ref i1) (.ref i2)) (hTO : ∃ x y, IsPair s.heap TO x y) (h1 : s.heap.IsListIter i1 a 0) (h2 : s.heap.IsListIter i2 b 0) (hf : ∀ q ∈ [z, TI, TO, i1, i2, S], FpOk X pins H q) {c : Nat}
    (hS : s.heap.get? S = some { cls := .type "list", dict := none, data := .seq #[] c, slots := #[] })
    (hR : ∀ H' s' ts' c', Inv X pins σ H' s' → (∀ b o, H b = some o → H' b = some o) → H' S = none → s'.heap.get? S = some { cls := .type "list", dict := none, data := .seq (ts'.map Value.ref).toArray c', slots := #[] } → ts'.length = min xs.length ys.length → Got H H' xs ys ts' → R (.ok (.ret .none)) s') :
    wpAny (model X.prog X.w) A.in1 (Builtin.List.listExtendWith (.ref S) (.ref z) .none)
      (fun fin s' => match fin with | .done f => R (.ok f) s' | .again c' => c'.quiet = true ∧ codeAny (model X.prog X.w) A c' R s') (fun e s' => R (.error e) s') s := by
  have hT : s.TypeIs (.ref z) "zip" := ⟨_, hz, rfl⟩
  unfold Builtin.List.listExtendWith
  refine wpAny_bind (wpAny_typeOf hT ?_)
  have e1 : Builtin.List.listSameRef (.ref S) (.ref z) = false := by simp [Builtin.List.listSameRef, hSn.1]
  have e2 : (Value.type "zip" == Value.type "list") = false := by decide
  have e3 : (Value.type "zip" == Value.type "tuple") = false := by decide
  simp only [e1, e2, e3, Bool.or_false, Bool.false_eq_true, if_false]
  refine wpAny_bind (wpAny_pyIter_zip hz ?_)
  refine wpAny_bind (wpAny_holding ?_)
  unfold Builtin.List.listLengthHint
  refine wpAny_bind (wpAny_specialOf hT F.zip_no_len ?_)
  show wpAny _ A.in1 (specialOf (Value.ref z) (Str.ofString "__length_hint__") >>= _) _ _ _
  refine wpAny_bind (wpAny_specialOf hT F.zip_no_hint ?_)
  refine wpAny_pure ?_
  show wpAny _ A.in1 (rule "list.extend.makes-room" >>= fun _ => Builtin.List.listTouch (.ref S) >>= fun _ =>
    again (.builtin "list.extend.loop" ⟨[.ref S, .ref z, .none], []⟩)) _ _ _
  refine wpAny_bind (wpAny_rule ?_)
  refine wpAny_bind ?_
  show wpAny _ A.in1 (updateSeq S (·.push .none) >>= fun _ => updateSeq S (·.pop)) _ _ _
  refine wpAny_bind (wpAny_updateSeq hS rfl ?_)
  have hS₂ := Heap.get?_update_self (Obj.mapSeq (·.push Value.none)) hS rfl
  refine wpAny_updateSeq (hz := by seq_fits) hS₂ rfl ?_
  have hS₃ := Heap.get?_update_self (Obj.mapSeq (·.pop)) hS₂ rfl
  have up : ∀ b o, b ≠ S → s.heap.get? b = some o → ((s.heap.update S (Obj.mapSeq (·.push Value.none))).update S (Obj.mapSeq (·.pop))).get? b = some o :=
    fun b o hb e => (Heap.get?_update_other _ _ (Ne.symm hb)).trans ((Heap.get?_update_other _ _ (Ne.symm hb)).trans e)
  have I1 := I.turnedL (t' := s.toks) (ch := [S]) (fun q o hb e => up q o (fun z => hb (by simp [z])) e) (fun q hq => by rw [List.mem_singleton.mp hq]; exact hf S (by simp))
  obtain ⟨x0, y0, hTO⟩ := hTO
  exact wpAny_pure ⟨plainId_quiet PySem.F.plain_extend_loop _, lz_loop (G := H) D hh hSn hlx _ _ H [] [] _ rfl (Nat.zero_le _) I1 hqa hqb (.inl ⟨rfl, up _ _ (Ne.symm hSn.1) hz⟩) (up _ _ (Ne.symm hSn.2.1) hTI) ⟨x0, y0, up _ _ (Ne.symm hSn.2.2.1) hTO⟩
    (h1.at fun o e => up _ _ (Ne.symm hSn.2.2.2.1) e) (h2.at fun o e => up _ _ (Ne.symm hSn.2.2.2.2) e) hf hS₃ rfl (fun _ _ e => e) (fun j t e => by simp at e) hR⟩
theorem call_lz {Q : Value → Shared → Prop} {E : Value → Shared → Prop} {a b z TI TO i1 i2 : Addr} {xs ys : List V} (D : ZipApart z TI TO i1 i2 a b) (hh : X.A.handled = none) (hlx : xs.length ≤ sizeLine) (I : Inv X pins σ H s) (hqa : SqL X.K H a xs) (hqb : SqL X.K H b ys)
    (hz : IsZip s.heap z TI TO .none) (hTI : IsPair s.heap TI (.ref i1) (.ref i2)) (hTO : ∃ x y, IsPair s.heap TO x y) (h1 : s.heap.IsListIter i1 a 0) (h2 : s.heap.IsListIter i2 b 0) (hf : ∀ q ∈ [z, TI, TO, i1, i2], FpOk X pins H q)
    (hQ : ∀ H' s' (ts : List Addr) p, Inv X pins σ (upd H' p (.lst (ts.map V.ref))) s' → (∀ b o, H b = some o → H' b = some o) → H' p = none → ts.length = min xs.length ys.length → Got H H' xs ys ts → Q (.ref p) s') :
    wpAny (model X.prog X.w) X.A (call (.type "list") [.ref z]) Q E s := by
  refine callType_codes (Q₁ := fun obj s₁ => obj = .ref s.heap.objs.size ∧ s₁ = { s with heap := s.heap.push { cls := .type "list", data := .seq #[] } }) PySem.F.called_list (PySem.F.typeCall_list_1 _) PySem.F.entry_list_init
    (code_list_new _ ⟨rfl, rfl⟩) fun obj s₁ h₁ => ?_
  obtain ⟨rfl, rfl⟩ := h₁
  have hS : (s.heap.push { cls := .type "list", data := .seq #[] }).get? s.heap.objs.size = some { cls := .type "list", data := .seq #[] } := Heap.get?_push_size _ rfl
  have lt : ∀ {c : Addr} {o : Obj}, s.heap.get? c = some o → c < s.heap.objs.size := fun e => Heap.lt_size e
  have pu : ∀ q o, s.heap.get? q = some o → (s.heap.push { cls := .type "list", data := .seq #[] }).get? q = some o := fun q o e => Heap.get?_push_of_some _ e
  have hSn : s.heap.objs.size ≠ z ∧ s.heap.objs.size ≠ TI ∧ s.heap.objs.size ≠ TO ∧ s.heap.objs.size ≠ i1 ∧ s.heap.objs.size ≠ i2 := by
    obtain ⟨x0, y0, hTO'⟩ := hTO
    obtain ⟨_, q1, _⟩ := id h1
    obtain ⟨_, q2, _⟩ := id h2
    exact ⟨Nat.ne_of_gt (lt hz), Nat.ne_of_gt (lt hTI), Nat.ne_of_gt (lt hTO'), Nat.ne_of_gt (lt q1), Nat.ne_of_gt (lt q2)⟩
  have I0 : Inv X pins σ H { s with heap := s.heap.push { cls := .type "list", data := .seq #[] } } := I.kept (t' := s.toks) pu
  have fS : FpOk X pins H s.heap.objs.size := I.fpOk (Nat.le_refl _) I.fresh
  refine ⟨⟨_, hS, rfl⟩, PySem.F.args_list_init_2 _ _, ?_⟩
  show wpAny _ X.A.in1.in1 (do let old ← Builtin.List.listItems (.ref s.heap.objs.size); Builtin.List.listUpdate (.ref s.heap.objs.size) (fun _ => #[]); letGo old.toList.reverse; Builtin.List.listExtendWith (.ref s.heap.objs.size) (.ref z) .none) _ _ _
  refine wpAny_bind ?_
  unfold Builtin.List.listItems
  refine wpAny_bind (wpAny_seqItems hS rfl (wpAny_pure ?_))
  show wpAny _ X.A.in1.in1 (updateSeq s.heap.objs.size (fun _ => #[]) >>= fun _ => letGo (#[] : Array Value).toList.reverse >>= fun _ => Builtin.List.listExtendWith (.ref s.heap.objs.size) (.ref z) .none) _ _ _
  refine wpAny_bind (wpAny_updateSeq hS rfl ?_)
  have hS₂ := Heap.get?_update_self (Obj.mapSeq (fun _ => (#[] : Array Value))) hS rfl
  have up : ∀ q o, q ≠ s.heap.objs.size → (s.heap.push { cls := .type "list", data := .seq #[] }).get? q = some o → ((s.heap.push { cls := .type "list", data := .seq #[] }).update s.heap.objs.size (Obj.mapSeq (fun _ => (#[] : Array Value)))).get? q = some o :=
    fun q o hb e => (Heap.get?_update_other _ _ (Ne.symm hb)).trans e
  refine wpAny_bind (wpAny_letGo ?_)
  have I1 := I0.turnedL (t' := s.toks) (ch := [s.heap.objs.size]) (fun q o hb e => up q o (fun z => hb (by simp [z])) e) (fun q hq => by rw [List.mem_singleton.mp hq]; exact fS)
  have k2 : ∀ q o, q ≠ s.heap.objs.size → s.heap.get? q = some o → ((s.heap.push { cls := .type "list", data := .seq #[] }).update s.heap.objs.size (Obj.mapSeq (fun _ => (#[] : Array Value)))).get? q = some o := fun q o n e => up q o n (pu q o e)
  obtain ⟨x0, y0, hTO'⟩ := hTO
  refine ext_zip (A := X.A.in1) D hh hSn hlx I1 hqa hqb (k2 _ _ (Ne.symm hSn.1) hz) (k2 _ _ (Ne.symm hSn.2.1) hTI) ⟨x0, y0, k2 _ _ (Ne.symm hSn.2.2.1) hTO'⟩ (h1.at fun o e => k2 _ _ (Ne.symm hSn.2.2.2.1) e) (h2.at fun o e => k2 _ _ (Ne.symm hSn.2.2.2.2) e)
    (fun q hq => by
      rcases List.mem_cons.mp hq with q' | hq
      · exact hf q (by simp [q'])
      · by_cases hqS : q = s.heap.objs.size
        · rw [hqS]; exact fS
        · exact hf q (by simp at hq ⊢; rcases hq with h | h | h | h | h <;> first | exact absurd h hqS | simp [h])) hS₂ ?_
  intro H' s' ts c' J g hn e hl got
  refine ⟨rfl, hQ H' s' ts _ ?_ g hn hl got⟩
  have hz2 : (ts.map V.ref).length ≤ sizeLine := by rw [List.length_map]; omega
  have rv : Vals (ts.map V.ref) (ts.map Value.ref) := by
    clear hl got hz2 e
    induction ts with
    | nil => exact .nil
    | cons t ts ih => exact .cons rfl ih
  exact track J ⟨hn, fS.2⟩ ⟨hz2, ts.map Value.ref, c', rv, e⟩
end
end DI
end
section
set_option Elab.async false
set_option linter.all false
set_option maxRecDepth 100000
set_option maxHeartbeats 1000000
/-! DIKb: built-ins whose arguments are kept: sum, dict, repr; list(zip); an empty display of a dict. -/
namespace DI
open PySem L2
section
variable {X : Cx} {F : Fx} {W : WX} {e a b : Expr} {es : List Expr} {p p2 pos pos2 : Pos} {x : Str} {f fa fb : Ga → Sd → Out Rs}
def tLz (K : PySem.W.Frag) (ta : TA) : TE := fun σ H Q => ta σ H fun vs H1 => ∃ (a b : Addr) (xs ys : List V), vs = [.ref a, .ref b] ∧ SqL K H1 a xs ∧ SqL K H1 b ys ∧
  ∀ H' p (ts : List Addr), (∀ b o, H1 b = some o → H' b = some o) → H' p = none → ts.length = min xs.length ys.length → Got H1 H' xs ys ts → Q (.ref p) (upd H' p (.lst (ts.map V.ref)))
theorem pe_listzip {ta : TA} (hc : X.calm = true) (hg : Gl X "list") (hm : X.mg "list" = none) (hg2 : Gl X "zip") (hm2 : X.mg "zip" = none) (ha : PA X [a, b] ta)
    (hs : starEach [a, b] X.env = (false, eval a X.env) :: starEach [b] X.env) (hpl : (backTo pos2 (starEach [b] X.env)).any (·.1) = false) :
    PE X (.Call (.Name "list" p) [.Call (.Name "zip" p2) [a, b] [] pos2] [] pos) (tLz X.K ta) := by
  refine ⟨fun pins s σ H Q I h => ?_⟩
  refine PyProof.Rows.Call_ (ld_blt I hg hm PyProof.Rows.boot_list (PyProof.Rows.callWith_type1 ?_ (by rfl) (by rfl)))
  show wpAny _ _ (spliced ((false, eval (.Call (.Name "zip" p2) [a, b] [] pos2) X.env) :: [])) _ _ s
  refine Calls.spliced_cons ?_
  refine PyProof.Rows.Call_ (ld_blt I hg2 hm2 PyProof.Rows.boot_zip (PyProof.Rows.callWith_type1 (L2.thn (ha.run pos2 pins s σ H _ I h) fun us s1 ⟨vs, H1, I1, r1, q1⟩ => ?_) hs hpl))
  obtain ⟨la, lb, xs, ys, ex, hqx, hqy, q⟩ := q1
  subst ex
  cases r1 with
  | cons r rr =>
    cases rr with
    | cons r' rr =>
      cases rr
      cases r
      cases r'
      obtain ⟨its1, rv1, pl1, hx1⟩ := I1.list hqx
      obtain ⟨its2, rv2, pl2, _⟩ := I1.list hqy
      refine call_zip_2 pl1.isList pl2.isList fun h' hz hTI hTO h1 h2 hsz hk => ?_
      refine Calls.spliced_nil ?_
      have kp : ∀ c o, s1.heap.get? c = some o → h'.get? c = some o := hk
      have I2 : Inv X pins σ H1 { s1 with heap := h' } := I1.kept (t' := s1.toks) kp
      obtain ⟨o1, ho1, _⟩ := pl1.isList
      obtain ⟨o2, ho2, _⟩ := pl2.isList
      refine call_lz (PySem.W.ktu_apart s1.heap.objs.size la lb (Heap.lt_size ho1) (Heap.lt_size ho2)) (I2.ok.hd hc) hx1 I2 hqx hqy hz hTI ⟨_, _, hTO⟩ h1 h2 (fun c hcm => ?_) fun H' s' ts p J g n hl got => ⟨.ref p, _, J, rfl, q H' p ts g n hl got⟩
      have e' : c = s1.heap.objs.size + 4 ∨ c = s1.heap.objs.size + 2 ∨ c = s1.heap.objs.size + 3 ∨ c = s1.heap.objs.size ∨ c = s1.heap.objs.size + 1 := by simpa using hcm
      have hle : s1.heap.objs.size ≤ c := by
        rcases e' with z | z | z | z | z <;> (rw [z]; first | exact Nat.le_add_right _ _ | exact Nat.le_refl _)
      exact I1.fpOk hle (I1.hok.fresh hle)
/-- arguments kept -/
def ManyK (X : Cx) (F : Fx) (r : List V → Hp → VK → Prop) (fn : List DI.D → Option Rs) : Prop :=
  ∀ (P : Par F) (σ : St) (H : Hp) (M : Addr → Prop) (g : Ga) (s : Sd) (vs : List V) (ds : List DI.D) (z : Rs) (Q : VK), En P σ H g s M → RpL F.K F.c (hid H M) vs ds → fn ds = some z →
    (∀ u H' M', En P σ H' g s M' → Ex (hid H M) (hid H' M') → RsR P σ H' M' g u z → Q u H') → r vs H Q
abbrev sBiK (fn : List DI.D → Option Rs) (as : Ga → Sd → Out (List DI.D)) : Ga → Sd → Out Rs := sCall (fun ds g s => optR (fn ds) g s) as
theorem post_optR {P : Par F} {σ : St} {H : Hp} {M : Addr → Prop} {g : Ga} {s : Sd} {Q : VK} : ∀ {o : Option Rs}, PostG P W σ H M (RE P σ) Q (optR o g s) → ∃ z, o = some z ∧ ∀ u H' M', En P σ H' g s M' → Ex (hid H M) (hid H' M') → RsR P σ H' M' g u z → Q u H'
  | none, h => h.elim
  | some z, h => ⟨z, rfl, h⟩
theorem manyK_imp {r : List V → Hp → VK → Prop} {fn : List DI.D → Option Rs} {fs : Ga → Sd → Out (List DI.D)} (hf : ManyK X F r fn) : ∀ σ H Q, rdG F W RE (sBiK fn fs) σ H Q → (fun σ H Q => rdG F W RA fs σ H fun xs H1 => r xs H1 Q) σ H Q := by
  rintro σ H Q ⟨P, g, s, M, E, h⟩
  refine rdG.seq (R := RA) (R' := RE) (Q' := Q) E h fun vs ds H1 g1 s1 M1 E1 x1 rr h1 => ?_
  obtain ⟨z, e, h3⟩ := post_optR h1
  exact hf P σ H1 M1 g1 s1 vs ds z Q E1 rr e h3
theorem d_biK {id : String} {r : List V → Hp → VK → Prop} {fn : List DI.D → Option Rs} {fs : Ga → Sd → Out (List DI.D)} (hc : CallR X (.builtin id) r) (hf : ManyK X F r fn) (hg : Gl X x) (hm : X.mg x = none) (hv : bootBuiltins x = some (.builtin id)) (ha : PAd X F W (e :: es) fs)
    (hn : x ≠ "__name__") (hdb : (x == ("__debug__" : Str)) = false) (h1 : isStar e = false) (h2 : noStar es = true) : PEd X F W (.Call (.Name x p) (e :: es) [] pos) (sBiK fn fs) :=
  PE.imp (pe_callB hc hg hm hv ha hn hdb (star_cons h1) (star_any h2)) (manyK_imp hf)
theorem d_biKT {T : String} {r : List V → Hp → VK → Prop} {fn : List DI.D → Option Rs} {fs : Ga → Sd → Out (List DI.D)} (hc : CallR X (.type T) r) (hf : ManyK X F r fn) (hg : Gl X x) (hm : X.mg x = none) (hv : bootBuiltins x = some (.type T)) (ha : PAd X F W (e :: es) fs)
    (hn : x ≠ "__name__") (hdb : (x == ("__debug__" : Str)) = false) (h1 : isStar e = false) (h2 : noStar es = true) : PEd X F W (.Call (.Name x p) (e :: es) [] pos) (sBiK fn fs) :=
  PE.imp (pe_callTy hc hg hm hv ha hn hdb (star_cons h1) (star_any h2)) (manyK_imp hf)
/-! ### sum -/
def sumF : List DI.D → Option Rs
  | [.lst xs, .lst zs] => match lsts xs with
    | some yss => if lineOk (zs ++ yss.flatten).length then some (.fz (.lst (zs ++ yss.flatten))) else none
    | none => none
  | _ => none
theorem lsts_rp {K : PySem.W.Frag} {c : Addr} {G : Hp} : ∀ {xs : List DI.D} {dss : List (List DI.D)} {vs : List V}, RpL K c G vs xs → lsts xs = some dss → ∃ (ls : List Addr) (yss : List (List V)), vs = ls.map V.ref ∧ ls.length = yss.length ∧ (∀ (j : Nat) (l : Addr) (ys : List V), ls[j]? = some l → yss[j]? = some ys → G l = some (.lst ys)) ∧ RpL K c G yss.flatten dss.flatten
  | [], _, _, .nil, e => by cases e; exact ⟨[], [], rfl, rfl, fun j l ys h => by simp at h, .nil⟩
  | x :: xs, dss, _, .cons h t, e => by
    cases x with
    | lst ds =>
      have e : (lsts xs).map (ds :: ·) = some dss := e
      cases q : lsts xs with
      | none => rw [q] at e; cases e
      | some dss' =>
        rw [q] at e
        cases e
        obtain ⟨ls, yss, rfl, hl, hall, hr⟩ := lsts_rp t q
        cases h with
        | lst h1 h2 =>
          rename_i a vs
          refine ⟨a :: ls, vs :: yss, rfl, by simp [hl], fun j l ys e1 e2 => ?_, ?_⟩
          · cases j with
            | zero => cases e1; cases e2; exact h1
            | succ j => exact hall j l ys (by simpa using e1) (by simpa using e2)
          · rw [List.flatten_cons, List.flatten_cons]
            exact h2.append hr
    | _ => cases e
theorem manyK_sum : ManyK X F (fun xs H Q => ∃ (a b : Addr) (ls : List Addr) (yss : List (List V)) (zs : List V), xs = [.ref a, .ref b] ∧ SqL X.K H a (ls.map V.ref) ∧ ls.length = yss.length ∧
    (∀ (j : Nat) (l : Addr) (ys : List V), ls[j]? = some l → yss[j]? = some ys → H l = some (.lst ys)) ∧ H b = some (.lst zs) ∧ (zs ++ yss.flatten).length ≤ sizeLine ∧
    ∀ H' p, (∀ b o, H b = some o → H' b = some o) → H' p = some (.lst (zs ++ yss.flatten)) → (p = b ∨ H p = none) → Q (.ref p) H') sumF := by
  intro P σ H M g s vs ds z Q E h e k
  rcases ds with _ | ⟨d, _ | ⟨d', _ | ⟨d'', r⟩⟩⟩
  · cases e
  · cases d <;> cases e
  · cases d with
    | lst xs =>
      cases d' with
      | lst zs =>
        have e : (match lsts xs with | some yss => if lineOk (zs ++ yss.flatten).length then some (Rs.fz (.lst (zs ++ yss.flatten))) else none | none => none) = some z := e
        cases q : lsts xs with
        | none => rw [q] at e; cases e
        | some dss =>
          rw [q] at e
          have e : (if lineOk (zs ++ dss.flatten).length then some (Rs.fz (.lst (zs ++ dss.flatten))) else none) = some z := e
          by_cases c : lineOk (zs ++ dss.flatten).length = true
          · rw [if_pos c] at e
            cases e
            cases h with
            | cons h1 t =>
              cases t with
              | cons h2 t =>
                cases t
                cases h1 with
                | lst a1 a2 =>
                  cases h2 with
                  | lst b1 b2 =>
                    obtain ⟨ls, yss, rfl, hl, hall, hr⟩ := lsts_rp a2 q
                    have rr := b2.append hr
                    refine ⟨_, _, ls, yss, _, rfl, SqL.of (hid_some a1).2, hl, fun j l ys e1 e2 => (hid_some (hall j l ys e1 e2)).2, (hid_some b1).2, by rw [rr.length]; exact lineOk_le c, fun H' p g1 g2 g3 => ?_⟩
                    have np : ¬ M p := fun m => by
                      rcases g3 with z | z
                      · rw [z] at m; exact (hid_some b1).1 m
                      · exact E.al p m z
                    obtain ⟨E2, x2⟩ := E.after (H' := H') (s' := s) (fun b o e _ _ => g1 b o e) ⟨E.stm.1, g1 _ _ E.stm.2.1, g1 _ _ E.stm.2.2⟩
                    exact k _ H' M E2 x2 (.lst (by rw [hid_of np]; exact g2) (rr.mono x2))
          · rw [if_neg c] at e; cases e
      | _ => cases e
    | _ => cases e
  · cases d <;> first | cases e | (cases d' <;> cases e)
theorem w_sumL {fs : Ga → Sd → Out (List DI.D)} (hm : X.mg "sum" = none) (ha : PAd X F W [a, b] fs) (hc : X.calm = true := by rfl) (hg : Gl X "sum" := by rfl) (h1 : isStar a = false := by rfl) (h2 : noStar [b] = true := by rfl) : PEd X F W (.Call (.Name "sum" p) [a, b] [] pos) (sBiK sumF fs) :=
  d_biK (call_sumL hc) manyK_sum hg hm PyProof.Rows.boot_sum ha (by decide) (by decide) h1 h2
/-! ### dict([]), {} -/
def dictF : List DI.D → Option Rs
  | [.lst []] => some (.fz (.dic []))
  | _ => none
theorem En.newDic {P : Par F} {σ : St} {H : Hp} {M : Addr → Prop} {g : Ga} {s : Sd} (E : En P σ H g s M) {p : Addr} (hp : H p = none) : En P σ (upd H p (.dK [])) g s M ∧ Ex (hid H M) (hid (upd H p (.dK [])) M) ∧ Rp F.K F.c (hid (upd H p (.dK [])) M) (.ref p) (.dic []) := by
  obtain ⟨E2, x2, np⟩ := E.alloc hp (.dK [])
  exact ⟨E2, x2, .dic (by rw [hid_of np]; exact upd_same) .nil⟩
theorem manyK_dict : ManyK X F (fun xs H Q => ∃ (a : Addr) (ps : List Addr) (kvs : List (Key × V)), xs = [.ref a] ∧ SqL X.K H a (ps.map V.ref) ∧ Paired (fun p kv => SqT X.K H p [kV kv.1, kv.2]) ps kvs ∧ ∀ p, H p = none → Q (.ref p) (upd H p (.dK (mergeK [] kvs)))) dictF := by
  intro P σ H M g s vs ds z Q E h e k
  rcases ds with _ | ⟨d, _ | ⟨d', r⟩⟩
  · cases e
  · cases d with
    | lst xs =>
      cases xs with
      | cons _ _ => cases e
      | nil =>
        cases e
        cases h with
        | cons h1 t =>
          cases t
          cases h1 with
          | lst a1 a2 =>
            cases a2
            refine ⟨_, [], [], rfl, SqL.of (hid_some a1).2, .nil, fun p hp => ?_⟩
            obtain ⟨E2, x2, r2⟩ := En.newDic E hp
            exact k _ _ M E2 x2 r2
    | _ => cases e
  · cases d with
    | lst xs => cases xs <;> cases e
    | _ => cases e
theorem w_dictL {fs : Ga → Sd → Out (List DI.D)} (hm : X.mg "dict" = none) (ha : PAd X F W [a] fs) (hc : X.calm = true := by rfl) (hg : Gl X "dict" := by rfl) (h1 : isStar a = false := by rfl) : PEd X F W (.Call (.Name "dict" p) [a] [] pos) (sBiK dictF fs) :=
  d_biKT (call_dictP hc) manyK_dict hg hm PyProof.Rows.boot_dict ha (by decide) (by decide) h1 rfl
theorem w_dic0 : PEd X F W (.Dict [] [] pos) (sCon (.dic [])) := PE.imp pe_dnewK (by
  rintro σ H Q ⟨P, g, s, M, E, h⟩ p hp
  obtain ⟨E2, x2, r2⟩ := En.newDic E hp
  exact h _ _ M E2 x2 r2)
/-! ### repr -/
def reprF : List DI.D → Option Rs
  | [.lst xs] => match D.rd (.lst xs) with
    | some p => if p.showable && decide (p.shown.length ≤ sizeLine) && decide (p.depth ≤ 60) then some (.fz (.str p.shown)) else none
    | none => none
  | [.tup xs] => match D.rd (.tup xs) with
    | some p => if p.showable && decide (p.shown.length ≤ sizeLine) && decide (p.depth ≤ 60) then some (.fz (.str p.shown)) else none
    | none => none
  | _ => none
theorem reprF_one {ds : List DI.D} {z : Rs} (h : reprF ds = some z) : ∃ d p, ds = [d] ∧ ((∃ xs, d = .lst xs) ∨ ∃ xs, d = .tup xs) ∧ D.rd d = some p ∧ p.showable = true ∧ p.shown.length ≤ sizeLine ∧ p.depth ≤ 60 ∧ z = .fz (.str p.shown) := by
  have go : ∀ (o : Option PyData), (match o with | some p => if p.showable && decide (p.shown.length ≤ sizeLine) && decide (p.depth ≤ 60) then some (Rs.fz (.str p.shown)) else none | none => none) = some z → ∃ p, o = some p ∧ p.showable = true ∧ p.shown.length ≤ sizeLine ∧ p.depth ≤ 60 ∧ z = .fz (.str p.shown) := by
    intro o e
    cases o with
    | none => cases e
    | some p =>
      have e : (if p.showable && decide (p.shown.length ≤ sizeLine) && decide (p.depth ≤ 60) then some (Rs.fz (.str p.shown)) else none) = some z := e
      by_cases c : (p.showable && decide (p.shown.length ≤ sizeLine) && decide (p.depth ≤ 60)) = true
      · rw [if_pos c] at e
        cases e
        simp only [Bool.and_eq_true, decide_eq_true_eq] at c
        exact ⟨p, rfl, c.1.1, c.1.2, c.2, rfl⟩
      · rw [if_neg c] at e; cases e
  rcases ds with _ | ⟨d, _ | ⟨d', r⟩⟩
  · cases h
  · cases d with
    | lst xs => obtain ⟨p, e, h1, h2, h3, h4⟩ := go _ h; exact ⟨_, p, rfl, .inl ⟨xs, rfl⟩, e, h1, h2, h3, h4⟩
    | tup xs => obtain ⟨p, e, h1, h2, h3, h4⟩ := go _ h; exact ⟨_, p, rfl, .inr ⟨xs, rfl⟩, e, h1, h2, h3, h4⟩
    | _ => cases h
  · cases d <;> cases h
theorem manyK_repr (hK : X.K = F.K) : ManyK X F (fun xs H Q => ∃ (c : Addr) (v : V) (d : DI.D) (p : PyData), xs = [v] ∧ Rp X.K c H v d ∧ D.rd d = some p ∧ ((∃ ds, d = .lst ds) ∨ ∃ ds, d = .tup ds) ∧ p.showable = true ∧ p.shown.length ≤ sizeLine ∧ p.depth ≤ 60 ∧ Q (.str p.shown) H) reprF := by
  intro P σ H M g s vs ds z Q E h e k
  obtain ⟨d, p, rfl, hd, e1, h1, h2, h3, rfl⟩ := reprF_one e
  cases h with
  | cons r t =>
    cases t
    exact ⟨F.c, _, d, p, rfl, by rw [hK]; exact r.mono (hid_ex H M), e1, hd, h1, h2, h3, k _ H M E (Ex.refl _) (.str _)⟩
theorem w_repr {k : Nat} {fs : Ga → Sd → Out (List DI.D)} (hr : Room k X.A) (hgs : X.A.guards = some []) (hK : X.K = F.K) (hm : X.mg "repr" = none) (ha : PAd X F W [a] fs) (hg : Gl X "repr" := by rfl) (h1 : isStar a = false := by rfl) : PEd X F W (.Call (.Name "repr" p) [a] [] pos) (sBiK reprF fs) :=
  d_biK (call_repr_rp hgs (by have := hr.un; omega)) (manyK_repr hK) hg hm PyProof.Rows.boot_repr ha (by decide) (by decide) h1 rfl
/-! ### list(zip) -/
abbrev sLz (as : Ga → Sd → Out (List DI.D)) : Ga → Sd → Out Rs := sBiK (fun ds => (zipF ds).map .nw) as
theorem got_rp {K : PySem.W.Frag} {c : Addr} {G H : Hp} {M : Addr → Prop} (hn : ∀ t, G t = none → ¬ M t) (x : Ex (hid G M) (hid H M)) : ∀ {ds es : List DI.D} {xs ys : List V} {ts : List Addr}, RpL K c (hid G M) xs ds → RpL K c (hid G M) ys es → ts.length = min xs.length ys.length → Got G H xs ys ts → RpL K c (hid H M) (ts.map V.ref) (zipD ds es)
  | [], _, _, _, ts, .nil, r2, hl, _ => by
    have : ts = [] := List.eq_nil_of_length_eq_zero (by simpa using hl)
    rw [this]; exact .nil
  | _ :: _, [], _, _, ts, .cons _ _, .nil, hl, _ => by
    have : ts = [] := List.eq_nil_of_length_eq_zero (by simpa using hl)
    rw [this]; exact .nil
  | d :: ds, e :: es, v :: xs, w :: ys, ts, .cons h1 t1, .cons h2 t2, hl, got => by
    cases ts with
    | nil => simp at hl
    | cons t ts =>
      obtain ⟨x', y', q1, q2, q3, q4⟩ := got 0 t rfl
      cases q1; cases q2
      refine .cons (.tup (.inl (.inl (by rw [hid_of (hn t q4)]; exact q3))) (.cons (h1.mono x) (.cons (h2.mono x) .nil))) (got_rp hn x t1 t2 (by simp at hl; omega) fun j t' ej => ?_)
      obtain ⟨x', y', a1, a2, a3, a4⟩ := got (j + 1) t' (by simpa using ej)
      exact ⟨x', y', by simpa using a1, by simpa using a2, a3, a4⟩
theorem w_listzip {fs : Ga → Sd → Out (List DI.D)} (hK : X.K = F.K) (hm : X.mg "list" = none) (hm2 : X.mg "zip" = none) (ha : PAd X F W [a, b] fs) (hc : X.calm = true := by rfl) (hg : Gl X "list" := by rfl) (hg2 : Gl X "zip" := by rfl)
    (hs : starEach [a, b] X.env = (false, eval a X.env) :: starEach [b] X.env := by rfl) (hpl : (backTo pos2 (starEach [b] X.env)).any (·.1) = false := by rfl) :
    PEd X F W (.Call (.Name "list" p) [.Call (.Name "zip" p2) [a, b] [] pos2] [] pos) (sLz fs) := PE.imp (pe_listzip hc hg hm hg2 hm2 ha hs hpl) (by
  rintro σ H Q ⟨P, g, s, M, E, h⟩
  refine rdG.seq (R := RA) (R' := RE) (Q' := Q) E h fun vs ds H1 g1 s1 M1 E1 x1 rr h1 => ?_
  obtain ⟨z, e, h3⟩ := post_optR h1
  have e : (zipF ds).map Rs.nw = some z := e
  cases q : zipF ds with
  | none => rw [q] at e; cases e
  | some zs =>
    rw [q] at e
    cases e
    rcases ds with _ | ⟨d, _ | ⟨d', _ | ⟨d'', r⟩⟩⟩
    · cases q
    · cases d <;> cases q
    · cases d with
      | lst xs =>
        cases d' with
        | lst ys =>
          cases q
          cases rr with
          | cons r1 t =>
            cases t with
            | cons r2 t =>
              cases t
              cases r1 with
              | lst a1 a2 =>
                cases r2 with
                | lst b1 b2 =>
                  refine ⟨_, _, _, _, rfl, SqL.of (hid_some a1).2, SqL.of (hid_some b1).2, fun H' p ts g1' n hl got => ?_⟩
                  obtain ⟨E2, x2⟩ := E1.after (H' := H') (s' := s1) (fun b o e _ _ => g1' b o e) ⟨E1.stm.1, g1' _ _ E1.stm.2.1, g1' _ _ E1.stm.2.2⟩
                  have rz := got_rp (K := F.K) (c := F.c) (M := M1) (fun t ht m => E1.al t m ht) x2 a2 b2 hl got
                  obtain ⟨E3, x3, r3⟩ := E2.nwList n rz
                  exact h3 _ _ _ E3 (x2.trans x3) r3
        | _ => cases q
      | _ => cases q
    · cases d <;> first | cases q | (cases d' <;> cases q))
end
end DI
end
section
set_option Elab.async false
set_option linter.all false
set_option maxRecDepth 100000
set_option maxHeartbeats 1000000
/-! DIGuard: defs that ask for repr: promised where no repr is under way. -/
namespace DI
open PySem L2
/-- the promise of a def, where no repr is under way -/
structure FnG (P : Program) (w : World) (K : PySem.W.Frag) (mg : Str → Option Value) (base : Heap) (CX : CXT) (k : Nat) (f : Addr) (fd : FuncData) (ps : List Str) (sp : Sp) : Prop where
  len : ∀ vs H Q E, sp vs H Q E → vs.length = ps.length
  run : ∀ (A : Around) (outer : List PySem.Env) (s : Shared) (H : Hp) (args : Args) (us : List Value) (vs : List V) (Q : VK) (E : XK), Room k A → A.guards = some [] → Env0 P w K mg base A outer s H → BindsTo s fd args (ps.zip us) → Vals vs us → sp vs H Q E →
    codeAny (model P w) A (.call (.ref f) args) (CR CX outer P w H s Q E) s
section
variable {P : Program} {w : World} {K : PySem.W.Frag} {mg : Str → Option Value} {base : Heap}
theorem FnG.mono {CX : CXT} {j k : Nat} {f : Addr} {fd : FuncData} {ps : List Str} {sp : Sp} (G : FnG P w K mg base CX j f fd ps sp) (h : j ≤ k) : FnG P w K mg base CX k f fd ps sp := ⟨G.len, fun A outer s H args us vs Q E hr => G.run A outer s H args us vs Q E (hr.mono h)⟩
theorem FnG.of {CX : CXT} {k : Nat} {f : Addr} {fd : FuncData} {ps : List Str} {sp : Sp} (G : FnOk P w K mg base CX k f fd ps sp) : FnG P w K mg base CX k f fd ps sp := ⟨G.len, fun A outer s H args us vs Q E hr _ => G.run A outer s H args us vs Q E hr⟩
theorem fnG_of {CX : CXT} {k : Nat} {f : Addr} {name qual : Str} {params : Arguments} {body : List Stmt} {scope : Scope} {dV kV doc pm cdv ct oc : Value} {an od : Option Addr}
    {osl : Array (Option Value)} {N ps : List Str} {sp : Sp} (lk : K.lookup f = some ⟨oc, od, .func (PySem.W.fnOf name qual params body scope dV kV doc pm an cdv ct), osl⟩) (hcd : PySem.W.codeIn K cdv qual = true) (S : FnScope N ps scope)
    (len : ∀ vs H Q E, sp vs H Q E → vs.length = ps.length)
    (hbody : ∀ (A : Around) (outer : List PySem.Env) (s : Shared) (H : Hp) (vs : List V) (Q : VK) (E : XK), Room k (A.deeper (PyProof.Rows.envOfC qual scope s.heap.objs.size f cdv)) → A.guards = some [] → sp vs H Q E →
      ∃ t, PSs (cxOf CX P w K mg base N qual scope f cdv A outer s H E) body t ∧ t { nx := fun _ H' => Q .non H', rt := Q } (L2.start N vs) H) :
    FnG P w K mg base CX (k + 1) f (PySem.W.fnOf name qual params body scope dV kV doc pm an cdv ct) ps sp := by
  refine ⟨len, fun A outer s H args us vs Q E hr hg e0 hb r hsp => ?_⟩
  have hl := len _ _ _ _ hsp
  have KX : K.In s.heap := e0.mod.kin.keeps fun b o e => (e0.bs b o e).1
  have lim : s.heap.NoLimit := e0.mod.nolimit.keeps fun b o e => (e0.bs b o e).1
  have hkind : ∀ y ∈ ps.zip us, scope.names.lookup y.1 = some .local ∨ (scope.names.lookup y.1 = some .cell ∧ ((cellsFrom (s.heap.objs.size + 1) scope.names []).lookup y.1).isSome = true) := fun y hy => by
    rcases S.par y.1 (List.of_mem_zip hy).1 with q | q
    · exact .inl q
    · exact .inr ⟨q, PySem.W.cellsFrom_some _ _ _ (.inl q)⟩
  refine codeAny_call_function hr.depth (KX _ _ lk) rfl S.co S.gen rfl (PySem.W.codeRec_of KX hcd) (hb _ _ _ _ ?_)
  refine wpAny_newFunctionEnv_cells S.kind hkind fun env he s1 x => ?_
  subst he
  refine ⟨lim.keeps x.toInCall.keep, codeAny_func ?_⟩
  obtain ⟨t, ht, hq⟩ := hbody A outer s H vs Q E (hr.deeper _) hg hsp
  have I : Inv (cxOf CX P w K mg base N qual scope f cdv A outer s H E) [] (L2.start N vs) H s1 := inv_start S hr.hd e0 hl r x
  refine wpAny_mono (ht.run [] s1 (L2.start N vs) H _ I hq) (fun fl s' hs => ?_) fun e s' hs => hs
  have fin : ∀ {σ' : St} {H' : Hp} {v : V} {u : Value}, Inv (cxOf CX P w K mg base N qual scope f cdv A outer s H E) [] σ' H' s' → RelV v u → Q v H' → CE outer P w H s Q u s' :=
    fun {σ' H' v u} J rv q => ⟨v, H', J.os, J.bare, J.base, J.hok, rv, q⟩
  cases fl with
  | ret u =>
    obtain ⟨v, σ', H', J, rv, q⟩ := hs
    exact fin J rv q
  | next =>
    obtain ⟨σ', H', J, q⟩ := hs
    exact fin (v := V.non) (u := Value.none) J rfl q
  | brk =>
    obtain ⟨_, _, _, q⟩ := hs
    exact False.elim q
  | cont =>
    obtain ⟨_, _, _, q⟩ := hs
    exact False.elim q
theorem fn_defG {F : Fx} {x qual : Str} {st : Stmt} {f : Addr} {fd : FuncData} {N ps : List Str} {k : Nat} {b : Ga → Sd → Out DI.Flow} (Fn : Fun K x qual st f fd) (S : FnScope N ps (defScope st)) (hn : ps.length ≤ N.length)
    (hb : ∀ (cdv : Value) (A : Around) (outer : List PySem.Env) (s : Shared) (H : Hp) (E : XK), Room k (A.deeper (PyProof.Rows.envOfC qual (defScope st) s.heap.objs.size f cdv)) → A.guards = some [] → PSsd (cxOf (L2.CX P w) P w K mg base N qual (defScope st) f cdv A outer s H E) F (fun c d _ H => E c d H) (defBody st) b) :
    FnG P w K mg base (L2.CX P w) (k + 1) f fd ps (spF F ps.length (fnOf ps.length N.length b)) := by
  obtain ⟨oc, od, kV, doc, pm, an, cdv, ct, osl, rfl, lk, hcd⟩ := Fn.ex
  exact fnG_of lk hcd S (fun vs H Q E h => h.1) fun A outer s H vs Q E hr hg h => ⟨_, hb cdv A outer s H E hr hg, body_ok hn h⟩
end
section
variable {X : Cx} {F : Fx} {W : WX} {e : Expr} {es : List Expr} {p pos : Pos} {x : Str} {k : Nat}
theorem pe_callG {CX : CXT} {f : Addr} {fd : FuncData} {ps : List Str} {sp : Sp} {E : St → XK} {t : TA} (G : FnG X.prog X.w X.K X.mg X.base CX k f fd ps sp) (hr : Room k X.A) (hgs : X.A.guards = some []) (hg : Gl X x) (hm : X.mg x = some (.ref f)) (hk : PySem.W.keepIn X.K (.ref f) = true) (hb : Binds X.K fd ps []) (hx : ∀ σ, PassesAt CX X σ (E σ))
    (ha : PA X (e :: es) t) (hdb : (x == ("__debug__" : Str)) = false) (he : starEach (e :: es) X.env = (false, eval e X.env) :: starEach es X.env) (hpl : (backTo pos (starEach es X.env)).any (·.1) = false) :
    PE X (.Call (.Name x p) (e :: es) [] pos) (tCallS sp E t) := by
  refine ⟨fun pins s σ H Q I h => ?_⟩
  refine wpAny_Call_Name_kw (ld_glob I hg hm ?_ hdb)
  refine PySem.W.callWith_K (h₀ := X.base) I.ok.mod.kin hk (L2.thn (ha.run pos pins s σ H _ I h) fun us s1 ⟨vs, H1, I1, r, q⟩ => ⟨I1.kIn, ?_⟩) he hpl
  have hl : us.length = ps.length := by rw [← r.length]; exact G.len _ _ _ _ q
  have b := hb s1 us I1.kIn (by rw [List.append_nil]; exact hl)
  rw [List.append_nil] at b
  refine wpAny_call (codeAny_mono (G.run X.A X.stack s1 H1 ⟨us, []⟩ us vs Q (E σ) hr hgs I1.env0 b r q) fun r s' hq => ?_)
  cases r with
  | error e => exact hx σ pins H1 s1 e s' I1 hq
  | ok fl =>
    cases fl with
    | ret u => exact I1.after hq
    | next => exact False.elim hq
    | brk => exact False.elim hq
    | cont => exact False.elim hq
theorem w_callG {n j : Nat} {ψ : List DI.D → Sd → FOut} {fs : Ga → Sd → Out (List DI.D)} {ff : Addr} {fd : FuncData} {ps : List Str} (Fn : FnG X.prog X.w X.K X.mg X.base (L2.CX X.prog X.w) k ff fd ps (spF F n ψ)) (hψ : ∀ ds s, ds.length ≠ n → ψ ds s = .bad) (hr : Room j X.A) (hgs : X.A.guards = some []) (hm : X.mg x = some (.ref ff))
    (hk : PySem.W.keepIn X.K (.ref ff) = true) (hb : Binds X.K fd ps []) (tk : Takes X W) (ha : PAd X F W (e :: es) fs) (hj : k ≤ j := by decide) (hg : Gl X x := by rfl) (hdb : (x == ("__debug__" : Str)) = false := by decide) (h1 : isStar e = false := by rfl) (h2 : noStar es = true := by rfl) :
    PEd X F W (.Call (.Name x p) (e :: es) [] pos) (sCall (callG ψ) fs) :=
  PE.imp (pe_callG Fn (hr.mono hj) hgs hg hm hk hb (passAt tk) ha hdb (star_cons h1) (star_any h2)) (by
    rintro σ H Q ⟨P, g, s, M, E, h⟩
    refine rdG.seq (R := RA) (R' := RE) (Q' := Q) E h fun vs ds H1 g1 s1 M1 E1 x1 r1 h1 => ?_
    have post := call_post (ψ := ψ) E1 h1
    have hl : ds.length = n := Decidable.byContradiction fun z => by rw [hψ ds s1 z] at post; exact post
    exact ⟨by rw [RpL.length r1, hl], ds, s1, M1, E1.m0 _ P.m0c, E1.m0 _ P.m0k, E1.al, E1.stm, r1, post⟩)
end
end DI
end
section
set_option Elab.async false
set_option linter.all false
set_option maxRecDepth 100000
set_option maxHeartbeats 1000000
/-! DIEnd: the law's call, from a promise that holds where no repr is under way. -/
namespace DI
open PySem L2 PySem.Spec PyProof.Rows
theorem law_callG {P : Program} {w : World} {K : PySem.W.Frag} {mg mb : Str → Option Value} {CX : CXT} {k : Nat} {fa a : Addr} {fd : FuncData} {x : Str} {sp : Sp} {s₁ : Shared} {vs : List Value} {ns : List Int}
    (KX : K.In s₁.heap) (hns : s₁.heap.Ns mainGlobals mg) (hb : s₁.heap.Ns builtinsNs mb) (hbb : ∀ x : Str, x ≠ "__name__" → mb x = bootBuiltins x) (hlim : s₁.heap.NoLimit) (hg : s₁.gens = #[])
    (ha : s₁.heap.get? a = some { cls := .type "list", data := .seq vs.toArray }) (hi : IntsAre vs ns) (hl : ns.length ≤ sizeLine) (hr : Room k callerA)
    (G : ∀ base : Heap, K.In base → base.Ns mainGlobals mg → FnG P w K mg base CX k fa fd [x] sp) (hbind : ∀ (s : Shared) (u : Value), BindsTo s fd ⟨[u], []⟩ [(x, u)])
    (hsp : ∀ H : Hp, SqL K H a (ns.map V.int) → sp [.ref a] H (fun v _ => v = .bl true) fun _ _ _ => False)
    (hCX : ∀ H e s', CX [] H s₁ (fun _ _ _ => False) e s' → False) :
    codeAny (model P w) callerA (.call (.ref fa) ⟨[.ref a], []⟩) (fun r s' => r = .ok (.ret (.bool true)) ∧ OldK s₁.heap s'.heap ∧ s'.os = s₁.os ∧ AllBare s'.gens) s₁ := by
  have rv := vals_ints hi
  have lenV := hi.length
  -- either the script is the module's own list, or it alone is tracked
  obtain ⟨H, hO, hS, hok, hA, hK⟩ : ∃ H : Hp, Only H ∧ SqL K H a (ns.map V.int) ∧ HOk P w H s₁.heap ∧ (∀ b, H b ≠ none → b = a) ∧ (H a ≠ none → K.lookup a = none) := by
    cases hk : K.lookup a with
    | some o =>
      have e := KX a o hk
      rw [ha] at e
      cases e
      exact ⟨fun _ => none, fun _ => .inl rfl, .inr ⟨_, vs.toArray, _, hk, rfl, rfl, rfl, by rw [List.size_toArray, lenV]; exact hl, by simpa using rv⟩, (fun b u z => by have z' : (none : Option HO) = some u := z; cases z'), fun b z => absurd rfl z, fun z => absurd rfl z⟩
    | none =>
      refine ⟨fun b => if b = a then some (.frz { cls := .type "list", data := .seq vs.toArray } (.lst (ns.map V.int))) else none, fun b => ?_, .inl (.inr ⟨{ cls := .type "list", data := .seq vs.toArray }, if_pos rfl⟩), fun b u z => ?_, fun b z => ?_, fun _ => rfl⟩
      · by_cases hb : b = a
        · exact .inr ⟨_, _, if_pos hb⟩
        · exact .inl (if_neg hb)
      · by_cases hb : b = a
        · have z' := (if_pos hb).symm.trans z
          cases z'
          subst hb
          exact ⟨ha, by rw [List.length_map]; exact hl, vs, _, rv, ha⟩
        · have z' := (if_neg hb).symm.trans z
          cases z'
      · by_cases hb : b = a
        · exact hb
        · exact absurd (if_neg hb) z
  have at_a : ∀ {b : Addr}, H b ≠ none → b = a := fun {b} z => hA b z
  have base_of : ∀ {b : Addr} {o : Obj}, s₁.heap.get? b = some o → H b = none → (hidT s₁.heap H).get? b = some o := fun e n => hidT_get e n
  have nsK : ∀ {b : Addr} {m : Str → Option Value}, s₁.heap.Ns b m → (hidT s₁.heap H).Ns b m := fun {b m} ⟨o, es, ep, e, d, r⟩ => ⟨o, es, ep, base_of e (by
    cases q : H b with
    | none => rfl
    | some u =>
      have e' := at_a (b := b) (by rw [q]; simp)
      subst e'
      rw [ha] at e; cases e
      have d' : Data.seq vs.toArray _ = Data.dict es ep := d
      cases d'), d, r⟩
  have hKb : K.In (hidT s₁.heap H) := fun b o e => base_of (KX b o e) (by
    cases q : H b with
    | none => rfl
    | some u =>
      have e' := at_a (b := b) (by rw [q]; simp)
      subst e'
      rw [hK (by rw [q]; simp)] at e; cases e)
  have hM : Mod K mg (hidT s₁.heap H) := ⟨hKb, nsK hns, ⟨mb, nsK hb, hbb⟩, let ⟨mc, h1, h2⟩ := hlim; ⟨mc, nsK h1, h2⟩⟩
  have e0 : Env0 P w K mg (hidT s₁.heap H) callerA [] s₁ H := ⟨rfl, hM, fun b o e => of_hidT e, Nat.le_of_eq (hidT_size _ _), trivial, fun b hb => absurd (show b ∈ ([] : List Addr) from hb) (by simp), hok, .of_eq hg⟩
  refine codeAny_mono ((G _ hKb (nsK hns)).run callerA [] s₁ H ⟨[.ref a], []⟩ [.ref a] [.ref a] _ _ hr rfl e0 (hbind s₁ (.ref a)) (.cons rfl .nil) (hsp H hS)) fun r s' h => ?_
  cases r with
  | error e => exact (hCX H e s' h).elim
  | ok fl =>
    cases fl with
    | next => exact False.elim h
    | brk => exact False.elim h
    | cont => exact False.elim h
    | ret u =>
      obtain ⟨v, H', os, bare, un, hok', r', q⟩ := h
      have q' : v = .bl true := q
      subst q'
      obtain rfl : u = Value.bool true := r'
      refine ⟨rfl, OldK.of_keep fun b o e => ?_, os, bare⟩
      cases q : H b with
      | none => exact un.keep b o e q (by intro z; exact absurd (show b ∈ ([] : List Addr) from z) (by simp)) (by simp)
      | some u =>
        rcases hO b with z | ⟨ob, xs, z⟩
        · rw [q] at z; cases z
        · have z2 := un.frzs b ob _ z
          obtain ⟨e1, _⟩ := hok b _ z
          obtain ⟨e2, _⟩ := hok' b _ z2
          rw [e] at e1; cases e1
          exact e2
theorem walk_ofG {l : PySem.W.OpenLaw} {n k : Nat} {q : Program} {loose : List Str} {XP : (Str → Option Value) → Heap → Prop} {YP : World → Heap → Prop} {d : DefRec} {K : Params → PySem.W.Frag} {CX : World → CXT} {sp : World → Sp} {x : Str}
    (hn : l.most = some n) (hn2 : n ≤ sizeLine) (hdf : d.params.defaults = []) (hr : Room k callerA)
    (hY : ∀ (w : World) (h : Heap), YP w h → (K w.params).In h)
    (G : ∀ (w : World) (mg : Str → Option Value) (fa : Addr) (h : Heap), (K w.params).In h → h.Ns mainGlobals mg → mg d.name = some (.ref fa) →
      ∃ fd : FuncData, (∀ (s : Shared) (u : Value), BindsTo s fd ⟨[u], []⟩ [(x, u)]) ∧
        ∀ base : Heap, (K w.params).In base → base.Ns mainGlobals mg → FnG l.prog w (K w.params) mg base (CX w) k fa fd [x] (sp w))
    (hsp : ∀ (w : World) (H : Hp) (a : Addr) (ns : List Int), ns.length ≤ n → SqL (K w.params) H a (ns.map V.int) → sp w [.ref a] H (fun v _ => v = .bl true) fun _ _ _ => False)
    (hCX : ∀ (w : World) (H : Hp) (s : Shared) (e : Value) (s' : Shared), CX w [] H s (fun _ _ _ => False) e s' → False) :
    PySem.W.WalkO q loose XP YP l.row.toRowW d [] (fun f vs => PySem.call f vs) := by
  refine Att.attach_call hn hdf fun w s₀ s₁ mg mb fa o pm cd doc a vs ns Gr Y ho hd hcd hmg hobj hints hlen hg => ?_
  have KX := hY w _ Y
  obtain ⟨fd, hb, hF⟩ := G w mg fa _ KX Gr.T.g hmg
  exact law_callG KX Gr.T.g Gr.T.b Gr.T.builtins Gr.T.nolimit hg hobj hints (Nat.le_trans hlen hn2) hr hF hb (fun H hS => hsp w H a ns hlen hS) fun H e s' => hCX w H s₁ e s'
/-- an error of the class at S is what «except S» names -/
theorem exm_self {K : PySem.W.Frag} {S : Addr} (h1 : PySem.W.subIn K (.ref S) (.type "BaseException") = some true) (h2 : PySem.W.isClsIn K S = true) (h3 : PySem.W.typeIn K (.ref S) = some (.type "type")) (h4 : PySem.W.subIn K (.ref S) (.ref S) = some true) :
    PySem.W.exmOne K (.ref S) (.ref S) = some true := by
  have e1 : (PySem.W.subIn K (.ref S) (.type "BaseException") == some true) = true := by rw [h1] <;> rfl
  have e2 : ((PySem.W.clsIn K S).isSome && PySem.W.typeIn K (.ref S) == some (.type "type")) = true := by
    have h2' : (PySem.W.clsIn K S).isSome = true := h2
    rw [h2', h3] <;> rfl
  show (if (PySem.W.subIn K (.ref S) (.type "BaseException") == some true) = true then (if ((PySem.W.clsIn K S).isSome && PySem.W.typeIn K (.ref S) == some (.type "type")) = true then PySem.W.subIn K (.ref S) (.ref S) else none) else none) = some true
  rw [if_pos e1, if_pos e2]
  exact h4
/-- one of many readings -/
theorem pss_ex {ι : Type} {X : Cx} {sts : List Stmt} {t : ι → TS} (h : ∀ i, PSs X sts (t i)) : PSs X sts (fun D σ H => ∃ i, t i D σ H) := ⟨fun pins s σ H D I ⟨i, q⟩ => (h i).run pins s σ H D I q⟩
/-- the state at a def's entry -/
theorem start_en {F : Fx} {N : List Str} {vs : List V} {ds : List DI.D} {s : Sd} {H : Hp} {M0 : Addr → Prop} (m1 : M0 F.c) (m2 : M0 F.k) (al : ∀ a, M0 a → H a ≠ none) (st : Strm H F.c F.k s) (hn : ds.length ≤ N.length) (r : RpL F.K F.c (hid H M0) vs ds) :
    En (F := F) ⟨H, M0, m1, m2⟩ (L2.start N vs) H (startG N.length ds) s M0 := by
  refine ⟨start_len r.length hn, fun i d e => ?_, fun i xs e => ?_, fun i j a xs ys _ e _ _ _ => ?_, st, fun _ m => m, al, fun b o e _ _ => e, fun a m n => absurd m n⟩
  · rcases start_get r e with h | ⟨v, d', h1, h2, h3⟩
    · cases h
    · cases h1; exact ⟨v, h2, h3⟩
  · rcases start_get r e with h | ⟨v, d', h1, h2, h3⟩
    · cases h
    · cases h1
  · rcases start_get r e with h | ⟨v, d', h1, h2, h3⟩
    · cases h
    · cases h1
/-- the spring is made -/
def spStart (K : PySem.W.Frag) : Sp := fun vs H Q _ => ∃ (a : Addr) (ns : List Int), vs = [.ref a] ∧ SqL K H a (ns.map V.int) ∧ ∀ H' c k, Strm H' c k ⟨ns, 0, 0, 19⟩ → Q (.ref c) H'
def spLaw (K : PySem.W.Frag) : Sp := fun vs H Q _ => ∃ (a : Addr) (ns : List Int), vs = [.ref a] ∧ SqL K H a (ns.map V.int) ∧ ns.length ≤ 63 ∧ ∀ H', Q (.bl true) H'
end DI
end
section
set_option Elab.async false
set_option linter.all false
set_option maxRecDepth 100000
set_option maxHeartbeats 1000000
/-! DILend: own lists lent to a def that hands back a scalar. -/
namespace DI
open PySem L2
def scalD : DI.D → Bool
  | .non => true
  | .bl _ => true
  | .int _ => true
  | .str _ => true
  | _ => false
def callL (ψ : List DI.D → Sd → FOut) (ds : List DI.D) (g : Ga) (s : Sd) : Out Rs := match ψ ds s with
  | .ok d false s' => if scalD d then .ok (.fz d) g s' else .bad
  | _ => .bad
def lent (ψ : List DI.D → Sd → FOut) (g : Ga) (s : Sd) : Option (List DI.D) → Out Rs
  | some ds => callL ψ ds g s
  | none => .bad
def sCallL (ψ : List DI.D → Sd → FOut) (as : Ga → Sd → Out (List Rs)) : Ga → Sd → Out Rs := fun g s => (as g s).bind fun rs g1 s1 => lent ψ g1 s1 (peeks g1 rs)
section
variable {F : Fx} {P : Par F} {W : WX} {σ : St} {H : Hp} {g : Ga} {s : Sd} {M : Addr → Prop} {X : Cx} {e : Expr} {es : List Expr} {p pos : Pos} {x : Str} {k : Nat}
theorem En.open (E : En P σ H g s M) : Ex (hid H M) (hid H P.M0) := Ex.hidE fun b o m e => ⟨fun z => m (E.m0 b z), e⟩
theorem RsR.lend {v : V} {r : Rs} {d : DI.D} (E : En P σ H g s M) (h : RsR P σ H M g v r) (e : peek g r = some d) : Rp F.K F.c (hid H P.M0) v d := by
  cases r with
  | fz d' => cases e; exact Rp.mono E.open h
  | nw xs =>
    cases e
    obtain ⟨a, vs, h1, h2, h3, h4, h5, _⟩ := h
    rw [h1]
    exact .lst (by rw [hid_of h3]; exact h4) (h5.mono E.open)
  | sl i =>
    have h : σ[i]? = some (some v) := h
    have e : peekS g[i]? = some d := e
    cases q : g[i]? with
    | none => rw [q] at e; cases e
    | some l =>
      rw [q] at e
      cases l with
      | un => cases e
      | fz d' =>
        cases e
        obtain ⟨v', h1, h2⟩ := E.fz i _ q
        rw [h] at h1; cases h1
        exact h2.mono E.open
      | ow xs =>
        cases e
        obtain ⟨a, vs, h1, h2, h3, h4, h5⟩ := E.ow i _ q
        rw [h] at h1; cases h1
        exact .lst (by rw [hid_of h3]; exact h4) (h5.mono E.open)
theorem RsL.lend (E : En P σ H g s M) : ∀ {vs : List V} {rs : List Rs} {ds : List DI.D}, RsL P σ H M g vs rs → peeks g rs = some ds → RpL F.K F.c (hid H P.M0) vs ds
  | _, _, ds, .nil, e => by cases e; exact .nil
  | _, _, ds, .cons (r := r) (rs := rs) h n t, e => by
    have e : (match peek g r, peeks g rs with | some d, some ds => some (d :: ds) | _, _ => none) = some ds := e
    cases q : peek g r with
    | none => rw [q] at e; cases e
    | some d =>
      cases q2 : peeks g rs with
      | none => rw [q, q2] at e; cases e
      | some ds' =>
        rw [q, q2] at e
        cases e
        exact .cons (h.lend E q) (RsL.lend E t q2)
theorem rp_scal {K : PySem.W.Frag} {c : Addr} {G G' : Hp} {v : V} {d : DI.D} (h : Rp K c G v d) (q : scalD d = true) : Rp K c G' v d := by
  cases h <;> first | exact .non | exact .bl _ | exact .int _ | exact .str _ | cases q
theorem w_callL {n j : Nat} {ψ : List DI.D → Sd → FOut} {fs : Ga → Sd → Out (List Rs)} {ff : Addr} {fd : FuncData} {ps : List Str} (Fn : FnOk X.prog X.w X.K X.mg X.base (L2.CX X.prog X.w) k ff fd ps (spF F n ψ)) (hψ : ∀ ds s, ds.length ≠ n → ψ ds s = .bad) (hr : Room j X.A) (hm : X.mg x = some (.ref ff))
    (hk : PySem.W.keepIn X.K (.ref ff) = true) (hb : Binds X.K fd ps []) (tk : Takes X W) (ha : PLd X F W (e :: es) fs) (hj : k ≤ j := by decide) (hg : Gl X x := by rfl) (hdb : (x == ("__debug__" : Str)) = false := by decide) (h1 : isStar e = false := by rfl) (h2 : noStar es = true := by rfl) :
    PEd X F W (.Call (.Name x p) (e :: es) [] pos) (sCallL ψ fs) :=
  PE.imp (pe_callS Fn (hr.mono hj) hg hm hk hb (passAt tk) ha hdb (star_cons h1) (star_any h2)) (by
    rintro σ H Q ⟨P, g, s, M, E, h⟩
    refine rdG.seq (R := RL) (R' := RE) (Q' := Q) E h fun vs rs H1 g1 s1 M1 E1 x1 r1 h1 => ?_
    have h1 : PostG P W σ H1 M1 (RE P σ) Q (lent ψ g1 s1 (peeks g1 rs)) := h1
    cases q : peeks g1 rs with
    | none => rw [q] at h1; exact h1.elim
    | some ds =>
      rw [q] at h1
      have h1 : PostG P W σ H1 M1 (RE P σ) Q (match ψ ds s1 with | .ok d false s' => if scalD d then .ok (.fz d) g1 s' else .bad | _ => .bad) := h1
      have rr := RsL.lend E1 r1 q
      have post : PostF F P.M0 H1 Q (WE W σ) (ψ ds s1) := by
        cases o : ψ ds s1 with
        | bad => rw [o] at h1; exact h1
        | ex c d s' => rw [o] at h1; exact h1.elim
        | ok d fr s' =>
          rw [o] at h1
          cases fr with
          | true => exact h1.elim
          | false =>
            have h1 : PostG P W σ H1 M1 (RE P σ) Q (if scalD d then .ok (.fz d) g1 s' else .bad) := h1
            by_cases c : scalD d = true
            · rw [if_pos c] at h1
              intro v H' fr st r
              obtain ⟨E2, x2⟩ := E1.after fr st
              exact h1 v H' M1 E2 x2 (rp_scal r c)
            · rw [if_neg c] at h1; exact h1.elim
      have hl : ds.length = n := Decidable.byContradiction fun z => by rw [hψ ds s1 z] at post; exact post
      exact ⟨by rw [RpL.length rr, hl], ds, s1, P.M0, P.m0c, P.m0k, fun a m => E1.al a (E1.m0 a m), E1.stm, rr, post⟩)
end
end DI
end
section
set_option Elab.async false
set_option linter.all false
set_option maxRecDepth 100000
set_option maxHeartbeats 4000000
/-! the spring of draws, walked by hand -/
namespace K27
open PySem L2 DI
def top (i : Nat) : Stmt := PySem.Challenge.pw_twinforks_k27_whole_tables.main.body.getD i (.Pass ⟨0, 0, 0, 0⟩)
abbrev s_draw : Stmt := top 27
section
variable {P : Program} {w : World} {K : PySem.W.Frag} {mg : Str → Option Value} {base : Heap} {F : Fx}
theorem sc_draw : FnScope ["stream", "many", "cell", "digit", "mixed"] ["stream", "many"] (defScope s_draw) := ⟨rfl, rfl, rfl, by decide +kernel, rfl, by decide +kernel, by decide +kernel⟩
/-- what is left of the spring while cells are eaten -/
def At (F : Fx) (H0 H : Hp) (s : Sd) : Prop := Strm H F.c F.k s ∧ Frm F H0 H
theorem At.ck {H0 H : Hp} {s : Sd} (h : At F H0 H s) : F.c ≠ F.k := h.1.1
theorem At.put {H0 H : Hp} {s : Sd} (h : At F H0 H s) (s' : Sd) (hc : s'.cells = s.cells) : At F H0 (upd H F.c (.lst [.ref F.k, .int s'.big, .int s'.cnt, .int s'.mix])) s' :=
  ⟨⟨h.1.1, upd_same, by rw [upd_ne (Ne.symm h.1.1), hc]; exact h.1.2.2⟩, fun b o e n1 n2 => by rw [upd_ne n1]; exact h.2 b o e n1 n2⟩
theorem At.eat {H0 H : Hp} {s : Sd} (h : At F H0 H s) (cells : List Int) : At F H0 (upd H F.k (.lst (cells.map V.int))) ⟨cells, s.big, s.cnt, s.mix⟩ :=
  ⟨⟨h.1.1, by rw [upd_ne h.1.1]; exact h.1.2.1, upd_same⟩, fun b o e n1 n2 => by rw [upd_ne n2]; exact h.2 b o e n1 n2⟩
theorem At.ex {H0 H : Hp} {s : Sd} (h : At F H0 H s) {p : Addr} (hp : H p = none) (o : HO) : At F H0 (upd H p o) s := by
  have n1 : F.c ≠ p := fun z => by rw [← z, h.1.2.1] at hp; cases hp
  have n2 : F.k ≠ p := fun z => by rw [← z, h.1.2.2] at hp; cases hp
  exact ⟨⟨h.1.1, by rw [upd_ne n1]; exact h.1.2.1, by rw [upd_ne n2]; exact h.1.2.2⟩, fun b u e m1 m2 => by
    have e2 := h.2 b u e m1 m2
    rw [upd_ne (fun z => by rw [z, hp] at e2; cases e2)]; exact e2⟩
theorem iteT {b : Bool} {p q : Prop} (h : b = true) (hp : p) : if b = true then p else q := by rw [if_pos h]; exact hp
theorem iteF {b : Bool} {p q : Prop} (h : ¬ b = true) (hq : q) : if b = true then p else q := by rw [if_neg h]; exact hq
theorem pos_of (n : Int) (a : Int) (h : 0 < n) : (fun x j => 0 < j : Int → Int → Prop) a n := h
theorem si0 (n : Nat) : seqIndex? 0 (n+1) = some 0 := by
  unfold seqIndex?
  simp
theorem dp_ints {K : PySem.W.Frag} {H : Hp} : ∀ ns : List Int, DpAll K H (ns.map V.int) (ns.map PyData.int)
  | [] => .nil
  | n :: ns => .cons (.int n) (dp_ints ns)
theorem shaped_ints (ns : List Int) : SeqAt.shaped (.list (ns.map PyData.int)) = true := by
  have h1 : ∀ ns : List Int, PyData.canLayAll0 (ns.map PyData.int) = true := fun ns => by
    induction ns with
    | nil => rfl
    | cons n ns ih => rw [List.map_cons]; unfold PyData.canLayAll0; rw [ih]; rfl
  have h2 : ∀ ns : List Int, PyData.depthAll (ns.map PyData.int) = 0 := fun ns => by
    induction ns with
    | nil => simp [PyData.depthAll]
    | cons n ns ih => rw [List.map_cons]; unfold PyData.depthAll; rw [ih]; simp [PyData.depth]
  unfold SeqAt.shaped
  rw [Bool.and_eq_true]
  refine ⟨?_, ?_⟩
  · show PyData.canLay0 _ = true
    unfold PyData.canLay0
    exact h1 ns
  · rw [decide_eq_true_eq]
    unfold PyData.depth
    rw [h2]; decide
theorem ne_ints (ns : List Int) : (!PyData.eqv (.list (ns.map PyData.int)) (.list [])) = !ns.isEmpty := by
  cases ns <;> simp [PyData.eqv, PyData.eqvAll]
theorem ok_draw (c k : Addr) (cls : Nat → Option (Addr × Str)) {f : Addr} {fd : FuncData} (Fn : Fun K "_law_draw" "_law_draw" s_draw f fd) (hint : mg "int" = none) : FnOk P w K mg base (L2.CX P w) 1 f fd ["stream", "many"] (spF ⟨K, c, k, cls⟩ 2 ψDraw) := by
  refine Fn.okX sc_draw (fun vs H Q E h => h.1) (fun cdv A outer s H vs Q E hr h => ?_)
  obtain ⟨hl, ds, sd, M0, m1, m2, al, st, r, post⟩ := h
  -- the arguments
  obtain ⟨many, rfl, hok⟩ : ∃ many, ds = [.strm, .int many] ∧ drawOk sd many := by
    rcases ds with _ | ⟨a, _ | ⟨b, _ | ⟨d, rest⟩⟩⟩
    · exact post.elim
    · cases a <;> exact post.elim
    · cases a <;> first
        | exact post.elim
        | (cases b <;> first
            | exact post.elim
            | (rename_i many
               refine ⟨many, rfl, ?_⟩
               by_cases z : drawOk sd many
               · exact z
               · have post : PostF _ M0 H Q E (if drawOk sd many then .ok (.int (drawF sd many).1) false (drawF sd many).2 else .bad) := post
                 rw [if_neg z] at post
                 exact post.elim))
    · cases a <;> cases b <;> exact post.elim
  have post : PostF ⟨K, c, k, cls⟩ M0 H Q E (.ok (.int (drawF sd many).1) false (drawF sd many).2) := by
    have post : PostF _ M0 H Q E (if drawOk sd many then .ok (.int (drawF sd many).1) false (drawF sd many).2 else .bad) := post
    rw [if_pos hok] at post
    exact post
  obtain rfl : vs = [.ref c, .int many] := by
    cases r with
    | cons r1 r2 =>
      cases r2 with
      | cons r3 r4 =>
        cases r4
        cases r1
        cases r3
        rfl
  obtain ⟨⟨o1, o2, o3, o4⟩, o5, o6, o7⟩ := id hok
  have hu := (hr.units : _ + 64 < cLine)
  -- behind the loop
  obtain ⟨tR, hR, qR⟩ : ∃ t, PSs (cxOf (L2.CX P w) P w K mg base ["stream", "many", "cell", "digit", "mixed"] "_law_draw" (defScope s_draw) f cdv A outer s H E) ((defBody s_draw).drop 2) t ∧
      ∀ (cells : List Int) (big mix : Int) (x : Option V) (H1 : Hp), At ⟨K, c, k, cls⟩ H H1 ⟨cells, big, sd.cnt + 1, mix⟩ → eat sd.cells sd.big sd.mix = (cells, big, mix) → t { nx := fun _ H' => Q .non H', rt := Q } [some (.ref c), some (.int many), x, none, none] H1 := by
    refine ⟨_, (pss_cons (ps_if (pt_cmpR op_gt (pe_ix ix_list (pv 0) pe_int (fun _ _ => rfl)) pe_int (nomark _))
      (pss_cons (ps_set (i := 3) sc_draw.nd rfl (Or.inl rfl) (pe_op op_mod (pe_callTy call_int1 (by rfl) hint PyProof.Rows.boot_int (pa_cons (pe_ix ix_list (pv 0) pe_int (fun _ _ => rfl)) pa_nil)) (pv 1)))
      (pss_cons (ps_asg (pe_op op_fdiv (pe_ix ix_list (pv 0) pe_int (fun _ _ => rfl)) (pv 1)) (pg_sub (pv 0) pe_int set_list))
      (pss_one (ps_ret (pv 3)))))
      pss_nil)
    (pss_cons (ps_set (i := 4) sc_draw.nd rfl (Or.inl rfl) (pe_op op_mod (pe_callTy call_int1 (by rfl) hint PyProof.Rows.boot_int (pa_cons (pe_op op_pow (pe_op op_add (pe_op op_add (pe_ix ix_list (pv 0) pe_int (fun _ _ => rfl)) (pe_op op_mul pe_int (pe_ix ix_list (pv 0) pe_int (fun _ _ => rfl)))) pe_int) pe_int) pa_nil)) pe_int))
    (pss_one (ps_ret (pe_op op_mod (pe_op op_mod (pe_callTy call_int1 (by rfl) hint PyProof.Rows.boot_int (pa_cons (pe_op op_pow (pe_op op_add (pe_op op_add (pe_op op_mul (pv 4) pe_int) (pe_op op_mul pe_int (pe_ix ix_list (pv 0) pe_int (fun _ _ => rfl)))) pe_int) pe_int) pa_nil)) pe_int) (pv 1))))) ), ?_⟩
    intro cells big mix x H1 a2 he
    obtain ⟨st2, fr2⟩ := id a2
    have hc : H1 c = some (.lst [.ref k, .int big, .int (sd.cnt + 1), .int mix]) := st2.2.1
    have hb := eat_big sd.cells sd.big sd.mix o1
    have hm := eat_mix sd.cells sd.big sd.mix o2 o3
    rw [he] at hb hm
    have hb : 0 ≤ big := hb
    have hm : 0 ≤ mix ∧ mix < 2147483647 := hm
    refine ⟨_, rfl, c, _, 1, _, rfl, rfl, SqL.of hc, rfl, _, _, rfl, rfl, _, rfl, ?_⟩
    by_cases h0 : (0 : Int) < big
    · refine iteT (decide_eq_true h0) ?_
      have hdr : drawF sd many = (big % many, ⟨cells, big / many, sd.cnt + 1, mix⟩) := by
        unfold drawF
        dsimp only
        rw [he]
        exact if_pos h0
      rw [hdr] at post
      refine ⟨_, rfl, c, _, 1, _, rfl, rfl, SqL.of hc, rfl, .inl ⟨_, rfl, _, rfl, _, _, rfl, rfl, o5, ?_⟩⟩
      refine ⟨_, rfl, c, _, 1, _, rfl, rfl, SqL.of hc, rfl, _, rfl, _, _, rfl, rfl, ⟨o5, o6⟩, _, rfl, c, _, 1, 1, rfl, rfl, hc, rfl, ?_⟩
      have a3 := a2.put ⟨cells, big / many, sd.cnt + 1, mix⟩ rfl
      exact ⟨_, rfl, post _ _ a3.2 a3.1 (.int _)⟩
    · refine iteF (fun z => h0 (of_decide_eq_true z)) ?_
      have hdr : drawF sd many = (mixF mix (sd.cnt + 1) % many, ⟨cells, big, sd.cnt + 1, mix⟩) := by
        unfold drawF
        dsimp only
        rw [he]
        exact if_neg h0
      rw [hdr] at post
      refine ⟨_, rfl, c, _, 3, _, rfl, rfl, SqL.of hc, rfl, _, rfl, c, _, 2, _, rfl, rfl, SqL.of hc, rfl, _, _, rfl, rfl, .inl ⟨by decide, by decide⟩, _, _, rfl, rfl, _, _, rfl, rfl, _, _, rfl, rfl, ⟨by decide, by decide, ?_⟩, .inl ⟨_, rfl, _, _, rfl, rfl, by show (0:Int) < _; decide, ?_⟩⟩
      · show (mix + 6151 * (sd.cnt + 1) + 130003).natAbs < 2 ^ 64
        omega
      · have hx := Int.emod_lt_of_pos ((mix + 6151 * (sd.cnt + 1) + 130003) ^ 5) (b := 2147483629) (by decide)
        have hx0 := Int.emod_nonneg ((mix + 6151 * (sd.cnt + 1) + 130003) ^ 5) (b := 2147483629) (by decide)
        refine ⟨_, rfl, _, _, rfl, rfl, .inl ⟨?_, ?_⟩, _, rfl, c, _, 2, _, rfl, rfl, SqL.of hc, rfl, _, _, rfl, rfl, .inl ⟨by decide, by decide⟩, _, _, rfl, rfl, _, _, rfl, rfl, _, _, rfl, rfl, ⟨by decide, by decide, ?_⟩, .inl ⟨_, rfl, _, _, rfl, rfl, by show (0:Int) < _; decide, _, rfl, _, _, rfl, rfl, o5, ?_⟩⟩
        · show -(2 ^ 64) < (mix + 6151 * (sd.cnt + 1) + 130003) ^ 5 % 2147483629
          omega
        · show (mix + 6151 * (sd.cnt + 1) + 130003) ^ 5 % 2147483629 < 2 ^ 64
          omega
        · show ((mix + 6151 * (sd.cnt + 1) + 130003) ^ 5 % 2147483629 * 69621 + 40009 * (sd.cnt + 1) + 31).natAbs < 2 ^ 64
          omega
        · exact post _ _ fr2 st2 (.int _)
  refine ⟨_, pss_cons (ps_asg (pe_op op_add (pe_ix ix_list (pv 0) pe_int (fun _ _ => rfl)) pe_int) (pg_sub (pv 0) pe_int set_list))
    (pss_cons (ps_while (passes_of rfl) (pw_and (pt_cmpR op_eq (pe_ix ix_list (pv 0) pe_int (fun _ _ => rfl)) pe_int (nomark _)) (pw_and1 (pt_cmpR (op_neD hu) (pe_ix ix_list (pv 0) pe_int (fun _ _ => rfl)) (pe_lst pa_nil) (nomark _)))).pt
      (pss_cons (ps_set (i := 2) sc_draw.nd rfl (Or.inl rfl) (pe_bm PySem.F.plainAttrs_list PySem.F.slot_list_pop PySem.F.type_list_pop mt_popAt (pe_ix ix_list (pv 0) pe_int (fun _ _ => rfl)) (pa_cons pe_int pa_nil)))
      (pss_cons (ps_asg (pe_op op_mod (pe_callTy call_int1 (by rfl) hint PyProof.Rows.boot_int (pa_cons (pe_op op_add (pe_op op_add (pe_op op_mul (pe_ix ix_list (pv 0) pe_int (fun _ _ => rfl)) pe_int) (pv 2)) pe_int) pa_nil)) pe_int) (pg_sub (pv 0) pe_int set_list))
      (pss_one (ps_asg (pe_ifExp (pt_cmpR op_ge (pv 2) (pe_op op_pow pe_int pe_int) (nomark _)) (pv 2) pe_int) (pg_sub (pv 0) pe_int set_list))))))
    hR), ?_⟩
  -- stream[2] = stream[2] + 1
  refine ⟨_, rfl, c, _, 2, _, rfl, rfl, SqL.of st.2.1, rfl, _, _, rfl, rfl, _, rfl, c, _, 2, 2, rfl, rfl, st.2.1, rfl, ?_⟩
  have a0 : At ⟨K, c, k, cls⟩ H H sd := ⟨st, fun _ _ e _ _ => e⟩
  have a1 := a0.put ⟨sd.cells, sd.big, sd.cnt + 1, sd.mix⟩ rfl
  refine ⟨fun m σ H1 => ∃ cells big mix x, σ = [some (.ref c), some (.int many), x, none, none] ∧ m = cells.length ∧ At ⟨K, c, k, cls⟩ H H1 ⟨cells, big, sd.cnt + 1, mix⟩ ∧ eat cells big mix = eat sd.cells sd.big sd.mix ∧ 0 ≤ mix ∧ mix < 2147483647,
    ⟨_, sd.cells, sd.big, sd.mix, none, rfl, rfl, a1, rfl, o2, o3⟩, ?_⟩
  rintro m σ H1 ⟨cells, big, mix, x, rfl, rfl, a2, he, hm1, hm2⟩
  obtain ⟨st2, fr2⟩ := id a2
  have hc : H1 c = some (.lst [.ref k, .int big, .int (sd.cnt + 1), .int mix]) := st2.2.1
  refine ⟨_, rfl, c, _, 1, _, rfl, rfl, SqL.of hc, rfl, rfl, _, rfl, ?_⟩
  by_cases h0 : big = 0
  · subst h0
    refine iteT rfl ?_
    have hk : H1 k = some (.lst (cells.map V.int)) := st2.2.2
    refine ⟨_, rfl, c, _, 0, _, rfl, rfl, SqL.of hc, rfl, by decide, fun q hq => ?_⟩
    have a3 := a2.ex hq (.lst [])
    have hk3 : upd H1 q (.lst []) k = some (.lst (cells.map V.int)) := a3.1.2.2
    have hc3 : upd H1 q (.lst []) c = some (.lst [.ref k, .int 0, .int (sd.cnt + 1), .int mix]) := a3.1.2.1
    refine ⟨.list (cells.map PyData.int), .list [], .lst (SqL.of hk3) (dp_ints cells), .lst (SqL.of upd_same) .nil, shaped_ints cells, by decide, _, rfl, ?_⟩
    cases cells with
    | nil =>
      refine iteF (by decide) ?_
      exact qR [] 0 mix x _ a3 (by rw [← he]; rfl)
    | cons y ys =>
      refine iteT (by rw [ne_ints]; rfl) ?_
      refine ⟨fun σ' H' => ∃ cells big mix x, σ' = [some (.ref c), some (.int many), x, none, none] ∧ cells.length < (y :: ys).length ∧ At ⟨K, c, k, cls⟩ H H' ⟨cells, big, sd.cnt + 1, mix⟩ ∧ eat cells big mix = eat sd.cells sd.big sd.mix ∧ 0 ≤ mix ∧ mix < 2147483647,
        fun σ' H' ⟨cells, big, mix, x, e1, e2, e3, e4, e5, e6⟩ => ⟨cells.length, e2, cells, big, mix, x, e1, rfl, e3, e4, e5, e6⟩, ?_⟩
      -- cell = stream[0].pop(0)
      refine ⟨_, rfl, c, _, 0, _, rfl, rfl, SqL.of hc3, rfl, .inl ⟨rfl, _, SqL.of hk3⟩, k, _, 0, 0, _, rfl, rfl, hk3, by decide, by decide, by rw [List.length_map]; exact si0 _, rfl, ?_⟩
      have a4 := a3.eat ys
      have hc4 : upd (upd H1 q (.lst [])) k (.lst (ys.map V.int)) c = some (.lst [.ref k, .int 0, .int (sd.cnt + 1), .int mix]) := a4.1.2.1
      -- stream[3] = ..
      refine ⟨_, rfl, c, _, 3, _, rfl, rfl, SqL.of hc4, rfl, _, _, rfl, rfl, .inl ⟨by omega, by omega⟩, _, rfl, _, _, rfl, rfl, _, _, rfl, rfl, .inl ⟨_, rfl, _, _, rfl, rfl, by show (0:Int) < _; decide, _, rfl, c, _, 3, 3, rfl, rfl, hc4, rfl, ?_⟩⟩
      have a5 := a4.put ⟨ys, 0, sd.cnt + 1, (mix * 65599 + y + 7) % 2147483647⟩ rfl
      have hc5 := a5.1.2.1
      -- stream[1] = ..
      refine ⟨_, rfl, _, _, rfl, rfl, ⟨by decide, by decide, by decide⟩, _, _, rfl, rfl, _, rfl, ?_⟩
      have tail : ∀ b : Int, (if y ≥ 1000000000000000000 then y else 0) = b → At ⟨K, c, k, cls⟩ H (upd (upd (upd (upd H1 q (.lst [])) k (.lst (ys.map V.int))) c (.lst [.ref k, .int 0, .int (sd.cnt + 1), .int ((mix * 65599 + y + 7) % 2147483647)])) c (.lst [.ref k, .int b, .int (sd.cnt + 1), .int ((mix * 65599 + y + 7) % 2147483647)])) ⟨ys, b, sd.cnt + 1, (mix * 65599 + y + 7) % 2147483647⟩ ∧
          eat ys b ((mix * 65599 + y + 7) % 2147483647) = eat sd.cells sd.big sd.mix := fun b hb => by
        refine ⟨a5.put ⟨ys, b, sd.cnt + 1, (mix * 65599 + y + 7) % 2147483647⟩ rfl, ?_⟩
        rw [← he, ← hb]
        show _ = eat (y :: ys) 0 mix
        conv => rhs; unfold eat
        rw [if_pos rfl]
      by_cases hy : (10 : Int) ^ (18 : Int).toNat ≤ y
      · refine iteT (decide_eq_true hy) ?_
        have hy' : y ≥ 1000000000000000000 := hy
        obtain ⟨t1, t2⟩ := tail y (if_pos hy')
        exact ⟨_, rfl, _, rfl, c, _, 1, 1, rfl, rfl, hc5, rfl, ys, y, _, _, rfl, by simp, t1, t2, Int.emod_nonneg _ (by decide), Int.emod_lt_of_pos _ (by decide)⟩
      · refine iteF (fun z => hy (of_decide_eq_true z)) ?_
        have hy' : ¬ y ≥ 1000000000000000000 := hy
        obtain ⟨t1, t2⟩ := tail 0 (if_neg hy')
        exact ⟨_, rfl, c, _, 1, 1, rfl, rfl, hc5, rfl, ys, 0, _, _, rfl, by simp, t1, t2, Int.emod_nonneg _ (by decide), Int.emod_lt_of_pos _ (by decide)⟩
  · refine iteF (fun z => h0 (by have := of_decide_eq_true z; exact V.int.inj this)) ?_
    refine iteF Bool.false_ne_true ?_
    refine qR cells big mix x H1 a2 ?_
    rw [← he]
    cases cells with
    | nil => rfl
    | cons y ys => unfold eat; rw [if_neg h0]
end
end K27
end
section
set_option Elab.async false
set_option linter.all false
set_option maxRecDepth 100000
set_option maxHeartbeats 4000000
namespace K27
open PySem L2 DI
def c_KEPT : List Str := ["x", "y", "stop", "join", "loop", "use", "part", "net", "to", "shut"]
structure Df (K : PySem.W.Frag) (mg : Str → Option Value) (x : Str) (st : Stmt) (ps : List Str) (f : Addr) (fd : FuncData) : Prop where
  m : mg x = some (.ref f)
  F : Fun K x x st f fd
  k : PySem.W.keepIn K (.ref f) = true
  b : Binds K fd ps []
structure Tx (K : PySem.W.Frag) (cls : Nat → Option (Addr × Str)) (mg : Str → Option Value) where
  a7 : Addr
  f7 : FuncData
  d7 : Df K mg "is_integer" (top 7) ["thing"] a7 f7
  a8 : Addr
  f8 : FuncData
  d8 : Df K mg "is_name" (top 8) ["thing"] a8 f8
  a9 : Addr
  f9 : FuncData
  d9 : Df K mg "is_row" (top 9) ["thing"] a9 f9
  a10 : Addr
  f10 : FuncData
  d10 : Df K mg "checked_ends" (top 10) ["thing"] a10 f10
  a11 : Addr
  f11 : FuncData
  d11 : Df K mg "is_box_of" (top 11) ["ends", "thing"] a11 f11
  a12 : Addr
  f12 : FuncData
  d12 : Df K mg "apart_rows" (top 12) ["row", "other"] a12 f12
  a13 : Addr
  f13 : FuncData
  d13 : Df K mg "apart" (top 13) ["box", "other"] a13 f13
  a15 : Addr
  f15 : FuncData
  d15 : Df K mg "is_list" (top 15) ["thing"] a15 f15
  a17 : Addr
  f17 : FuncData
  d17 : Df K mg "as_box" (top 17) ["thing"] a17 f17
  a18 : Addr
  f18 : FuncData
  d18 : Df K mg "is_apart" (top 18) ["ends", "thing", "ahead"] a18 f18
  a19 : Addr
  f19 : FuncData
  d19 : Df K mg "table_fault_at" (top 19) ["ends", "table", "shut"] a19 f19
  a20 : Addr
  f20 : FuncData
  d20 : Df K mg "is_table" (top 20) ["ends", "table", "shut"] a20 f20
  a22 : Addr
  f22 : FuncData
  d22 : Df K mg "_law_ends" (top 22) ["stream", "many"] a22 f22
  a23 : Addr
  f23 : FuncData
  d23 : Df K mg "_law_t_halves" (top 23) ["box", "kind"] a23 f23
  a24 : Addr
  f24 : FuncData
  d24 : Df K mg "_law_t_meet" (top 24) ["one", "other"] a24 f24
  a25 : Addr
  f25 : FuncData
  d25 : Df K mg "_law_t_table" (top 25) ["stream", "ends", "cuts"] a25 f25
  a26 : Addr
  f26 : FuncData
  d26 : Df K mg "_law_start" (top 26) ["script"] a26 f26
  a27 : Addr
  f27 : FuncData
  d27 : Df K mg "_law_draw" (top 27) ["stream", "many"] a27 f27
  a28 : Addr
  f28 : FuncData
  d28 : Df K mg "_law_pick" (top 28) ["stream", "some"] a28 f28
  a29 : Addr
  f29 : FuncData
  d29 : Df K mg "_law_mixed" (top 29) ["stream", "some"] a29 f29
  a30 : Addr
  f30 : FuncData
  d30 : Df K mg "_law_same" (top 30) ["found", "due"] a30 f30
  a31 : Addr
  f31 : FuncData
  d31 : Df K mg "_law_loose" (top 31) ["stream", "thing"] a31 f31
  a32 : Addr
  f32 : FuncData
  d32 : Df K mg "_law_is_box" (top 32) ["ends", "thing"] a32 f32
  a33 : Addr
  f33 : FuncData
  d33 : Df K mg "_law_is_table" (top 33) ["ends", "table", "lids"] a33 f33
  a34 : Addr
  f34 : FuncData
  d34 : Df K mg "_law_bent_box" (top 34) ["stream", "ends", "box"] a34 f34
  a35 : Addr
  f35 : FuncData
  d35 : Df K mg "_law_bent" (top 35) ["stream", "ends", "table", "lids"] a35 f35
  a36 : Addr
  f36 : FuncData
  d36 : Df K mg "_law_right" (top 36) ["stream", "ends", "table", "lids"] a36 f36
  a37 : Addr
  f37 : FuncData
  d37 : Df K mg "_law_refused" (top 37) ["odd", "due"] a37 f37
  a38 : Addr
  f38 : FuncData
  d38 : Df K mg "law" (top 38) ["script"] a38 f38
  q_KEPT : Addr
  m_KEPT : mg "KEPT" = some (.ref q_KEPT)
  r_KEPT : ∀ H, SqT K H q_KEPT (c_KEPT.map V.str)
  u_LETTERS : Value
  m_LETTERS : mg "LETTERS" = some u_LETTERS
  r_LETTERS : RelV (.str "abcdefghijklmnopqrstuvwxyz") u_LETTERS
  u_SIGNS : Value
  m_SIGNS : mg "SIGNS" = some u_SIGNS
  r_SIGNS : RelV (.str "abcdefghijklmnopqrstuvwxyz0123456789") u_SIGNS
  C_BadEnds : Addr
  i_BadEnds : Addr
  fd_BadEnds : FuncData
  m_BadEnds : mg "BadEnds" = some (.ref C_BadEnds)
  x_BadEnds : OexC K C_BadEnds
  cl_BadEnds : cls 1 = some (C_BadEnds, ("index" : Str))
  in_BadEnds : PySem.W.findIn K (.ref C_BadEnds) "__init__" = some (some (.ref i_BadEnds))
  ty_BadEnds : PySem.W.typeIn K (.ref i_BadEnds) = some (.type "function")
  no_BadEnds : PySem.W.findIn K (.ref C_BadEnds) "index" = some none
  xf_BadEnds : XfC K C_BadEnds
  te_BadEnds : PySem.W.exmOne K (.ref C_BadEnds) (.ref C_BadEnds) = some true
  F_BadEnds : Fun K "__init__" "BadEnds.__init__" (inClass (top 2) 0) i_BadEnds fd_BadEnds
  b_BadEnds : Binds K fd_BadEnds ["self", "index"] []
  n_all : mg "all" = none
  n_any : mg "any" = none
  n_bool : mg "bool" = none
  n_dict : mg "dict" = none
  n_enumerate : mg "enumerate" = none
  n_int : mg "int" = none
  n_isinstance : mg "isinstance" = none
  n_len : mg "len" = none
  n_list : mg "list" = none
  n_range : mg "range" = none
  n_repr : mg "repr" = none
  n_str : mg "str" = none
  n_sum : mg "sum" = none
  n_tuple : mg "tuple" = none
  n_zip : mg "zip" = none
  kb20 : KBinds K f20 ["ends", "table", "shut"] ["shut", "table", "ends"] (kG [2, 1, 0]) (kG [2, 1, 0])
section
variable {P : Program} {w : World} {mg : Str → Option Value} {base : Heap} {F : Fx}
theorem sc_BadEnds : FnScope ["self", "index"] ["self", "index"] (defScope (inClass (top 2) 0)) := ⟨rfl, rfl, rfl, by decide +kernel, rfl, by decide +kernel, by decide +kernel⟩
theorem x_rais_BadEnds {X : Cx} {W : WX} {e : Expr} {f : Ga → Sd → Out Rs} {pos cpos p : Pos} {k : Nat} (T : Tx F.K F.cls X.mg) (hr : Room k X.A) (tk : Takes X W) (ha : PEd X F W e f) (hk : 2 ≤ k := by omega) (hK : X.K = F.K := by rfl) (hg : Gl X "BadEnds" := by rfl) (hc : X.calm = true := by rfl) (h1 : isStar e = false := by rfl) : PSd X F W (.Raise (some (.Call (.Name "BadEnds" p) [e] [] cpos)) none pos) (sRais 1 f) := by
  refine ds_rais (k := 1) (pn := "index") (fl := "index") (C := T.C_BadEnds) (fI := T.i_BadEnds) (fd := T.fd_BadEnds) hc tk (by rw [hK]; exact T.x_BadEnds) T.cl_BadEnds (by rw [hK]; exact T.in_BadEnds) (by rw [hK]; exact T.ty_BadEnds) ?_ (hr.mono hk) (by rw [hK]; exact T.b_BadEnds) hg T.m_BadEnds ha (by decide) h1
  rw [hK]
  exact ok_init T.F_BadEnds sc_BadEnds T.x_BadEnds T.no_BadEnds ⟨_, _, _, _, rfl⟩ (Or.inl rfl) (Or.inl rfl) (by decide) (by decide)
/-! is_integer -/
theorem sc_is_integer : FnScope ["thing"] ["thing"] (defScope (top 7)) := ⟨rfl, rfl, rfl, by decide +kernel, rfl, by decide +kernel, by decide +kernel⟩
def b_is_integer : Ga → Sd → Out DI.Flow := (sRet (sAnd (sOne (isiF [.int]) (sVar 0)) (sOne notF (sOne (isiF [.bool]) (sVar 0)))))
def ψ_is_integer : List DI.D → Sd → FOut := fnOf 1 1 (b_is_integer)
theorem ok_is_integer (T : Tx F.K F.cls mg) : FnOk P w F.K mg base (L2.CX P w) 1 T.a7 T.f7 ["thing"] (spF F 1 (ψ_is_integer)) := fn_def T.d7.F sc_is_integer (by decide) (
    fun cdv A outer s H E hr => (ds_one (ds_ret (d_and (w_isi .int rfl T.n_isinstance (w_var 0) (ty_e .int T.n_int rfl)) (d_one (d_not (w_isi .bool rfl T.n_isinstance (w_var 0) (ty_e .bool T.n_bool rfl))))))))
/-! is_name -/
theorem sc_is_name : FnScope ["thing", "sign"] ["thing"] (defScope (top 8)) := ⟨rfl, rfl, rfl, by decide +kernel, rfl, by decide +kernel, by decide +kernel⟩
def b_is_name : Ga → Sd → Out DI.Flow := (sSeq (sIff (tOrF (tNotF (tOf (sOne (isiF [.str]) (sVar 0)))) (tOrF (tOf (sCmp .isIn (sVar 0) (sCon (.tup (c_KEPT.map DI.D.str))))) (tOrF (tOf (sCmp .lt (sBi (biF .len) (lCons (sVar 0) lNil)) (sCon (.int 1)))) (tOf (sCmp .gt (sBi (biF .len) (lCons (sVar 0) lNil)) (sCon (.int 8))))))) (sRet (sCon (.bl false))) (fun g s => .ok .nx g s))
    (sRet (sAnd (sCmp .isIn (sTwo (fun x y => (subF x y).map .fz) (sVar 0) (sCon (.int 0))) (sCon (.str "abcdefghijklmnopqrstuvwxyz"))) (sBi (biF .all) (lCons (sLc [1] (iSeqF (sVar 0)) (.nm 1) (fun g s => .ok true g s) (sCmp .isIn (sVar 1) (sCon (.str "abcdefghijklmnopqrstuvwxyz0123456789")))) lNil)))))
def ψ_is_name : List DI.D → Sd → FOut := fnOf 1 2 (b_is_name)
theorem ok_is_name (T : Tx F.K F.cls mg) : FnOk P w F.K mg base (L2.CX P w) 1 T.a8 T.f8 ["thing"] (spF F 1 (ψ_is_name)) := fn_def T.d8.F sc_is_name (by decide) (
    fun cdv A outer s H E hr => (ds_cons (ds_if ((dw_or (dt_not (t_val (w_isi .str rfl T.n_isinstance (w_var 0) (ty_e .str T.n_str rfl)))) (dw_or (t_in hr rfl (w_var 0) (w_gtup T.m_KEPT T.r_KEPT)) (dw_or (t_lt (w_len rfl T.n_len (w_var 0)) w_int) (dw_or1 (t_gt (w_len rfl T.n_len (w_var 0)) w_int)))))).pt (ds_one (ds_ret w_bl)) ds_nil)
    (ds_one (ds_ret (d_and (w_in hr rfl (w_ix rfl (w_var 0) w_int) (w_gstr T.m_LETTERS T.r_LETTERS)) (d_one (w_all rfl T.n_all (w_lc [("sign", 1)] rfl sc_is_name.nd (di_seq rfl (w_var 0)) (blkOk_by (N := ["thing", "sign"]) (sc := defScope (top 8)) (by decide +kernel)) (fun _ _ _ _ _ => (pg_name (i := 1) sc_is_name.nd rfl (by first | exact Or.inl rfl | exact Or.inr rfl))) (tg_nm 1) (by decide) (fun _ _ _ _ _ => dc_nil) (fun _ _ _ _ _ => (w_in hr rfl (w_var 1) (w_gstr T.m_SIGNS T.r_SIGNS)))))))))))
/-! is_row -/
theorem sc_is_row : FnScope ["thing", "part"] ["thing"] (defScope (top 9)) := ⟨rfl, rfl, rfl, by decide +kernel, rfl, by decide +kernel, by decide +kernel⟩
def b_is_row : Ga → Sd → Out DI.Flow := (sRet (sAnd (sOne (isiF [.list, .tuple]) (sVar 0)) (sBi (biF .all) (lCons (sLc [1] (iSeqF (sVar 0)) (.nm 1) (fun g s => .ok true g s) (sAnd (sCall (callG ψ_is_integer) (aCons (sVar 1) aNil)) (sCmp .isIn (sVar 1) (sTup (aCons (sCon (.int 0)) (aCons (sCon (.int 1)) aNil)))))) lNil))))
def ψ_is_row : List DI.D → Sd → FOut := fnOf 1 2 (b_is_row)
theorem ok_is_row (T : Tx F.K F.cls mg) : FnOk P w F.K mg base (L2.CX P w) 2 T.a9 T.f9 ["thing"] (spF F 1 (ψ_is_row)) := fn_def T.d9.F sc_is_row (by decide) (
    fun cdv A outer s H E hr => (ds_one (ds_ret (d_and (w_isiT [.list, .tuple] rfl T.n_isinstance (w_var 0) (tys_cons (ty_e .list T.n_list rfl) (tys_cons (ty_e .tuple T.n_tuple rfl) tys_nil))) (d_one (w_all rfl T.n_all (w_lc [("part", 1)] rfl sc_is_row.nd (di_seq rfl (w_var 0)) (blkOk_by (N := ["thing", "part"]) (sc := defScope (top 9)) (by decide +kernel)) (fun _ _ _ _ _ => (pg_name (i := 1) sc_is_row.nd rfl (by first | exact Or.inl rfl | exact Or.inr rfl))) (tg_nm 1) (by decide) (fun _ _ _ _ _ => dc_nil) (fun _ _ _ _ _ => (d_and (w_call (ok_is_integer T) fnOf_bad hr T.d7.m T.d7.k T.d7.b takes0 (a_cons (w_var 1) da_nil) (by omega)) (d_one (w_in hr rfl (w_var 1) (d_tup (a_cons w_int (a_cons w_int da_nil))))))))))))))
/-! checked_ends -/
theorem sc_checked_ends : FnScope ["thing", "found", "at", "name"] ["thing"] (defScope (top 10)) := ⟨rfl, rfl, rfl, by decide +kernel, rfl, by decide +kernel, by decide +kernel⟩
def b_checked_ends : Ga → Sd → Out DI.Flow := (sSeq (sIff (tNotF (tOf (sOne (isiF [.list, .tuple]) (sVar 0)))) (sRais 1 (sCon (.int 0))) (fun g s => .ok .nx g s))
    (sSeq (sAsg (.nm 1) (sLst aNil))
    (sSeq (sFor (.cons (.nm 2) (.cons (.nm 3) .nil)) (iEnumF (sVar 0)) (sSeq (sIff (tOrF (tNotF (tOf (sCall (callG ψ_is_name) (aCons (sVar 3) aNil)))) (tOf (sCmp .isIn (sVar 3) (sVar 1)))) (sRais 1 (sVar 2)) (fun g s => .ok .nx g s))
    (sExp (sMth .append 1 (aCons (sVar 3) aNil)))))
    (sRet (sVar 1)))))
def ψ_checked_ends : List DI.D → Sd → FOut := fnOf 1 4 (b_checked_ends)
theorem ok_checked_ends (T : Tx F.K F.cls mg) : FnOk P w F.K mg base (L2.CX P w) 3 T.a10 T.f10 ["thing"] (spF F 1 (ψ_checked_ends)) := fn_def T.d10.F sc_checked_ends (by decide) (
    fun cdv A outer s H E hr => (ds_cons (ds_if (dt_not (t_val (w_isiT [.list, .tuple] rfl T.n_isinstance (w_var 0) (tys_cons (ty_e .list T.n_list rfl) (tys_cons (ty_e .tuple T.n_tuple rfl) tys_nil))))) (ds_one (x_rais_BadEnds T hr tk_def w_int)) ds_nil)
    (ds_cons (x_set 1 sc_checked_ends.nd (d_lst da_nil))
    (ds_cons (x_for hp_def rfl (di_enum rfl rfl T.n_enumerate (w_var 0) rfl) (pg_tup rfl (pgs_cons (pg_name (i := 2) sc_checked_ends.nd rfl (by first | exact Or.inl rfl | exact Or.inr rfl)) (pgs_cons (pg_name (i := 3) sc_checked_ends.nd rfl (by first | exact Or.inl rfl | exact Or.inr rfl)) pgs_nil))) (tg_tup (tgs_cons (tg_nm 2) (tgs_cons (tg_nm 3) tgs_nil)) rfl) (ds_cons (ds_if ((dw_or (dt_not (t_val (w_call (ok_is_name T) fnOf_bad hr T.d8.m T.d8.k T.d8.b tk_def (a_cons (w_var 3) da_nil) (by omega)))) (dw_or1 (t_in hr rfl (w_var 3) (w_var 1))))).pt (ds_one (x_rais_BadEnds T hr tk_def (w_var 2))) ds_nil)
    (ds_one (x_exp (w_append 1 (a_cons (w_var 3) da_nil))))))
    (ds_one (ds_ret (w_var 1)))))))
/-! is_box_of -/
theorem sc_is_box_of : FnScope ["ends", "thing"] ["ends", "thing"] (defScope (top 11)) := ⟨rfl, rfl, rfl, by decide +kernel, rfl, by decide +kernel, by decide +kernel⟩
def b_is_box_of : Ga → Sd → Out DI.Flow := (sSeq (sIff (tOrF (tNotF (tOf (sOne (isiF [.list, .tuple]) (sVar 1)))) (tOf (sCmp .ne (sBi (biF .len) (lCons (sVar 1) lNil)) (sCon (.int 3))))) (sRet (sCon (.bl false))) (fun g s => .ok .nx g s))
    (sRet (sAnd (sOne (isiF [.str]) (sTwo (fun x y => (subF x y).map .fz) (sVar 1) (sCon (.int 0)))) (sAnd (sCmp .isIn (sTwo (fun x y => (subF x y).map .fz) (sVar 1) (sCon (.int 0))) (sVar 0)) (sAnd (sCall (callG ψ_is_row) (aCons (sTwo (fun x y => (subF x y).map .fz) (sVar 1) (sCon (.int 1))) aNil)) (sCall (callG ψ_is_row) (aCons (sTwo (fun x y => (subF x y).map .fz) (sVar 1) (sCon (.int 2))) aNil)))))))
def ψ_is_box_of : List DI.D → Sd → FOut := fnOf 2 2 (b_is_box_of)
theorem ok_is_box_of (T : Tx F.K F.cls mg) : FnOk P w F.K mg base (L2.CX P w) 3 T.a11 T.f11 ["ends", "thing"] (spF F 2 (ψ_is_box_of)) := fn_def T.d11.F sc_is_box_of (by decide) (
    fun cdv A outer s H E hr => (ds_cons (ds_if ((dw_or (dt_not (t_val (w_isiT [.list, .tuple] rfl T.n_isinstance (w_var 1) (tys_cons (ty_e .list T.n_list rfl) (tys_cons (ty_e .tuple T.n_tuple rfl) tys_nil))))) (dw_or1 (t_ne hr rfl (w_len rfl T.n_len (w_var 1)) w_int)))).pt (ds_one (ds_ret w_bl)) ds_nil)
    (ds_one (ds_ret (d_and (w_isi .str rfl T.n_isinstance (w_ix rfl (w_var 1) w_int) (ty_e .str T.n_str rfl)) (d_and (w_in hr rfl (w_ix rfl (w_var 1) w_int) (w_var 0)) (d_and (w_call (ok_is_row T) fnOf_bad hr T.d9.m T.d9.k T.d9.b tk_def (a_cons (w_ix rfl (w_var 1) w_int) da_nil) (by omega)) (d_one (w_call (ok_is_row T) fnOf_bad hr T.d9.m T.d9.k T.d9.b tk_def (a_cons (w_ix rfl (w_var 1) w_int) da_nil) (by omega))))))))))
end
end K27
end
section
set_option Elab.async false
set_option linter.all false
set_option maxRecDepth 100000
set_option maxHeartbeats 4000000
namespace K27
open PySem L2 DI
section
variable {P : Program} {w : World} {mg : Str → Option Value} {base : Heap} {F : Fx}
/-! apart_rows -/
theorem sc_apart_rows : FnScope ["row", "other", "one", "two"] ["row", "other"] (defScope (top 12)) := ⟨rfl, rfl, rfl, by decide +kernel, rfl, by decide +kernel, by decide +kernel⟩
def b_apart_rows : Ga → Sd → Out DI.Flow := (sRet (sBi (biF .any) (lCons (sLc [2, 3] (iZipF (aCons (sVar 0) (aCons (sVar 1) aNil))) (.cons (.nm 2) (.cons (.nm 3) .nil)) (fun g s => .ok true g s) (sCmp .ne (sVar 2) (sVar 3))) lNil)))
def ψ_apart_rows : List DI.D → Sd → FOut := fnOf 2 4 (b_apart_rows)
theorem ok_apart_rows (T : Tx F.K F.cls mg) : FnOk P w F.K mg base (L2.CX P w) 1 T.a12 T.f12 ["row", "other"] (spF F 2 (ψ_apart_rows)) := fn_def T.d12.F sc_apart_rows (by decide) (
    fun cdv A outer s H E hr => (ds_one (ds_ret (w_any rfl T.n_any (w_lc [("one", 2), ("two", 3)] rfl sc_apart_rows.nd (di_zip rfl rfl T.n_zip (a_cons (w_var 0) (a_cons (w_var 1) da_nil)) rfl rfl) (blkOk_by (N := ["row", "other", "one", "two"]) (sc := defScope (top 12)) (by decide +kernel)) (fun _ _ _ _ _ => (pg_tup rfl (pgs_cons (pg_name (i := 2) sc_apart_rows.nd rfl (by first | exact Or.inl rfl | exact Or.inr rfl)) (pgs_cons (pg_name (i := 3) sc_apart_rows.nd rfl (by first | exact Or.inl rfl | exact Or.inr rfl)) pgs_nil)))) (tg_tup (tgs_cons (tg_nm 2) (tgs_cons (tg_nm 3) tgs_nil)) rfl) (by decide) (fun _ _ _ _ _ => dc_nil) (fun _ _ _ _ _ => (w_ne hr rfl (w_var 2) (w_var 3))))))))
/-! apart -/
theorem sc_apart : FnScope ["box", "other"] ["box", "other"] (defScope (top 13)) := ⟨rfl, rfl, rfl, by decide +kernel, rfl, by decide +kernel, by decide +kernel⟩
def b_apart : Ga → Sd → Out DI.Flow := (sRet (sOr (sCmp .ne (sTwo (fun x y => (subF x y).map .fz) (sVar 0) (sCon (.int 0))) (sTwo (fun x y => (subF x y).map .fz) (sVar 1) (sCon (.int 0)))) (sOr (sCall (callG ψ_apart_rows) (aCons (sTwo (fun x y => (subF x y).map .fz) (sVar 0) (sCon (.int 1))) (aCons (sTwo (fun x y => (subF x y).map .fz) (sVar 1) (sCon (.int 1))) aNil))) (sCall (callG ψ_apart_rows) (aCons (sTwo (fun x y => (subF x y).map .fz) (sVar 0) (sCon (.int 2))) (aCons (sTwo (fun x y => (subF x y).map .fz) (sVar 1) (sCon (.int 2))) aNil))))))
def ψ_apart : List DI.D → Sd → FOut := fnOf 2 2 (b_apart)
theorem ok_apart (T : Tx F.K F.cls mg) : FnOk P w F.K mg base (L2.CX P w) 2 T.a13 T.f13 ["box", "other"] (spF F 2 (ψ_apart)) := fn_def T.d13.F sc_apart (by decide) (
    fun cdv A outer s H E hr => (ds_one (ds_ret (d_or (w_ne hr rfl (w_ix rfl (w_var 0) w_int) (w_ix rfl (w_var 1) w_int)) (d_or (w_call (ok_apart_rows T) fnOf_bad hr T.d12.m T.d12.k T.d12.b tk_def (a_cons (w_ix rfl (w_var 0) w_int) (a_cons (w_ix rfl (w_var 1) w_int) da_nil)) (by omega)) (d_one (w_call (ok_apart_rows T) fnOf_bad hr T.d12.m T.d12.k T.d12.b tk_def (a_cons (w_ix rfl (w_var 0) w_int) (a_cons (w_ix rfl (w_var 1) w_int) da_nil)) (by omega))))))))
/-! is_list -/
theorem sc_is_list : FnScope ["thing"] ["thing"] (defScope (top 15)) := ⟨rfl, rfl, rfl, by decide +kernel, rfl, by decide +kernel, by decide +kernel⟩
def b_is_list : Ga → Sd → Out DI.Flow := (sRet (sOne (isiF [.list, .tuple]) (sVar 0)))
def ψ_is_list : List DI.D → Sd → FOut := fnOf 1 1 (b_is_list)
theorem ok_is_list (T : Tx F.K F.cls mg) : FnOk P w F.K mg base (L2.CX P w) 1 T.a15 T.f15 ["thing"] (spF F 1 (ψ_is_list)) := fn_def T.d15.F sc_is_list (by decide) (
    fun cdv A outer s H E hr => (ds_one (ds_ret (w_isiT [.list, .tuple] rfl T.n_isinstance (w_var 0) (tys_cons (ty_e .list T.n_list rfl) (tys_cons (ty_e .tuple T.n_tuple rfl) tys_nil))))))
/-! as_box -/
theorem sc_as_box : FnScope ["thing"] ["thing"] (defScope (top 17)) := ⟨rfl, rfl, rfl, by decide +kernel, rfl, by decide +kernel, by decide +kernel⟩
def b_as_box : Ga → Sd → Out DI.Flow := (sRet (sTup (aCons (sTwo (fun x y => (subF x y).map .fz) (sVar 0) (sCon (.int 0))) (aCons (sBi (biF .list) (lCons (sTwo (fun x y => (subF x y).map .fz) (sVar 0) (sCon (.int 1))) lNil)) (aCons (sBi (biF .list) (lCons (sTwo (fun x y => (subF x y).map .fz) (sVar 0) (sCon (.int 2))) lNil)) aNil)))))
def ψ_as_box : List DI.D → Sd → FOut := fnOf 1 1 (b_as_box)
theorem ok_as_box (T : Tx F.K F.cls mg) : FnOk P w F.K mg base (L2.CX P w) 1 T.a17 T.f17 ["thing"] (spF F 1 (ψ_as_box)) := fn_def T.d17.F sc_as_box (by decide) (
    fun cdv A outer s H E hr => (ds_one (ds_ret (d_tup (a_cons (w_ix rfl (w_var 0) w_int) (a_cons (w_list rfl T.n_list (w_ix rfl (w_var 0) w_int)) (a_cons (w_list rfl T.n_list (w_ix rfl (w_var 0) w_int)) da_nil)))))))
/-! is_apart -/
theorem sc_is_apart : FnScope ["ends", "thing", "ahead", "box"] ["ends", "thing", "ahead"] (defScope (top 18)) := ⟨rfl, rfl, rfl, by decide +kernel, rfl, by decide +kernel, by decide +kernel⟩
def b_is_apart : Ga → Sd → Out DI.Flow := (sRet (sAnd (sCall (callG ψ_is_box_of) (aCons (sVar 0) (aCons (sVar 1) aNil))) (sBi (biF .all) (lCons (sLc [3] (iSeqF (sVar 2)) (.nm 3) (fun g s => .ok true g s) (sCall (callG ψ_apart) (aCons (sCall (callG ψ_as_box) (aCons (sVar 1) aNil)) (aCons (sVar 3) aNil)))) lNil))))
def ψ_is_apart : List DI.D → Sd → FOut := fnOf 3 4 (b_is_apart)
theorem ok_is_apart (T : Tx F.K F.cls mg) : FnOk P w F.K mg base (L2.CX P w) 4 T.a18 T.f18 ["ends", "thing", "ahead"] (spF F 3 (ψ_is_apart)) := fn_def T.d18.F sc_is_apart (by decide) (
    fun cdv A outer s H E hr => (ds_one (ds_ret (d_and (w_call (ok_is_box_of T) fnOf_bad hr T.d11.m T.d11.k T.d11.b tk_def (a_cons (w_var 0) (a_cons (w_var 1) da_nil)) (by omega)) (d_one (w_all rfl T.n_all (w_lc [("box", 3)] rfl sc_is_apart.nd (di_seq rfl (w_var 2)) (blkOk_by (N := ["ends", "thing", "ahead", "box"]) (sc := defScope (top 18)) (by decide +kernel)) (fun _ _ _ _ _ => (pg_name (i := 3) sc_is_apart.nd rfl (by first | exact Or.inl rfl | exact Or.inr rfl))) (tg_nm 3) (by decide) (fun _ _ _ _ _ => dc_nil) (fun _ _ _ _ _ => (w_call (ok_apart T) fnOf_bad hr T.d13.m T.d13.k T.d13.b takes0 (a_cons (w_call (ok_as_box T) fnOf_bad hr T.d17.m T.d17.k T.d17.b takes0 (a_cons (w_var 1) da_nil) (by omega)) (a_cons (w_var 3) da_nil)) (by omega))))))))))
/-! table_fault_at -/
theorem sc_table_fault_at : FnScope ["ends", "table", "shut", "ahead", "index", "pair", "box"] ["ends", "table", "shut"] (defScope (top 19)) := ⟨rfl, rfl, rfl, by decide +kernel, rfl, by decide +kernel, by decide +kernel⟩
def b_table_fault_at : Ga → Sd → Out DI.Flow := (sSeq (sAsg (.nm 3) (sLst aNil))
    (sSeq (sIff (tNotF (tOf (sCall (callG ψ_is_list) (aCons (sVar 1) aNil)))) (sRet (sTup (aCons (sCon (.str "table")) (aCons (sCon (.int 0)) aNil)))) (fun g s => .ok .nx g s))
    (sSeq (sFor (.cons (.nm 4) (.cons (.nm 5) .nil)) (iEnumF (sVar 1)) (sSeq (sIff (tOrF (tNotF (tOf (sCall (callG ψ_is_list) (aCons (sVar 5) aNil)))) (tOf (sCmp .ne (sBi (biF .len) (lCons (sVar 5) lNil)) (sCon (.int 2))))) (sRet (sTup (aCons (sCon (.str "table")) (aCons (sVar 4) aNil)))) (fun g s => .ok .nx g s))
    (sFor (.nm 6) (iSeqF (sVar 5)) (sSeq (sIff (tNotF (tOf (sCallL ψ_is_apart (lCons (sVar 0) (lCons (sVar 6) (lCons (sVar 3) lNil)))))) (sRet (sTup (aCons (sCon (.str "table")) (aCons (sVar 4) aNil)))) (fun g s => .ok .nx g s))
    (sExp (sMth .append 3 (aCons (sCall (callG ψ_as_box) (aCons (sVar 6) aNil)) aNil)))))))
    (sSeq (sIff (tNotF (tOf (sCall (callG ψ_is_list) (aCons (sVar 2) aNil)))) (sRet (sTup (aCons (sCon (.str "shut")) (aCons (sCon (.int 0)) aNil)))) (fun g s => .ok .nx g s))
    (sSeq (sFor (.cons (.nm 4) (.cons (.nm 6) .nil)) (iEnumF (sVar 2)) (sSeq (sIff (tNotF (tOf (sCallL ψ_is_apart (lCons (sVar 0) (lCons (sVar 6) (lCons (sVar 3) lNil)))))) (sRet (sTup (aCons (sCon (.str "shut")) (aCons (sVar 4) aNil)))) (fun g s => .ok .nx g s))
    (sExp (sMth .append 3 (aCons (sCall (callG ψ_as_box) (aCons (sVar 6) aNil)) aNil)))))
    (sRet (sCon .non)))))))
def ψ_table_fault_at : List DI.D → Sd → FOut := fnOf 3 7 (b_table_fault_at)
theorem ok_table_fault_at (T : Tx F.K F.cls mg) : FnOk P w F.K mg base (L2.CX P w) 5 T.a19 T.f19 ["ends", "table", "shut"] (spF F 3 (ψ_table_fault_at)) := fn_def T.d19.F sc_table_fault_at (by decide) (
    fun cdv A outer s H E hr => (ds_cons (x_set 3 sc_table_fault_at.nd (d_lst da_nil))
    (ds_cons (ds_if (dt_not (t_val (w_call (ok_is_list T) fnOf_bad hr T.d15.m T.d15.k T.d15.b tk_def (a_cons (w_var 1) da_nil) (by omega)))) (ds_one (ds_ret (d_tup (a_cons w_str (a_cons w_int da_nil))))) ds_nil)
    (ds_cons (x_for hp_def rfl (di_enum rfl rfl T.n_enumerate (w_var 1) rfl) (pg_tup rfl (pgs_cons (pg_name (i := 4) sc_table_fault_at.nd rfl (by first | exact Or.inl rfl | exact Or.inr rfl)) (pgs_cons (pg_name (i := 5) sc_table_fault_at.nd rfl (by first | exact Or.inl rfl | exact Or.inr rfl)) pgs_nil))) (tg_tup (tgs_cons (tg_nm 4) (tgs_cons (tg_nm 5) tgs_nil)) rfl) (ds_cons (ds_if ((dw_or (dt_not (t_val (w_call (ok_is_list T) fnOf_bad hr T.d15.m T.d15.k T.d15.b tk_def (a_cons (w_var 5) da_nil) (by omega)))) (dw_or1 (t_ne hr rfl (w_len rfl T.n_len (w_var 5)) w_int)))).pt (ds_one (ds_ret (d_tup (a_cons w_str (a_cons (w_var 4) da_nil))))) ds_nil)
    (ds_one (x_for hp_def rfl (di_seq rfl (w_var 5)) (pg_name (i := 6) sc_table_fault_at.nd rfl (by first | exact Or.inl rfl | exact Or.inr rfl)) (tg_nm 6) (ds_cons (ds_if (dt_not (t_val (w_callL (ok_is_apart T) fnOf_bad hr T.d18.m T.d18.k T.d18.b tk_def (l_cons (w_var 0) (l_cons (w_var 6) (l_cons (w_var 3) dl_nil))) (by omega)))) (ds_one (ds_ret (d_tup (a_cons w_str (a_cons (w_var 4) da_nil))))) ds_nil)
    (ds_one (x_exp (w_append 3 (a_cons (w_call (ok_as_box T) fnOf_bad hr T.d17.m T.d17.k T.d17.b tk_def (a_cons (w_var 6) da_nil) (by omega)) da_nil)))))))))
    (ds_cons (ds_if (dt_not (t_val (w_call (ok_is_list T) fnOf_bad hr T.d15.m T.d15.k T.d15.b tk_def (a_cons (w_var 2) da_nil) (by omega)))) (ds_one (ds_ret (d_tup (a_cons w_str (a_cons w_int da_nil))))) ds_nil)
    (ds_cons (x_for hp_def rfl (di_enum rfl rfl T.n_enumerate (w_var 2) rfl) (pg_tup rfl (pgs_cons (pg_name (i := 4) sc_table_fault_at.nd rfl (by first | exact Or.inl rfl | exact Or.inr rfl)) (pgs_cons (pg_name (i := 6) sc_table_fault_at.nd rfl (by first | exact Or.inl rfl | exact Or.inr rfl)) pgs_nil))) (tg_tup (tgs_cons (tg_nm 4) (tgs_cons (tg_nm 6) tgs_nil)) rfl) (ds_cons (ds_if (dt_not (t_val (w_callL (ok_is_apart T) fnOf_bad hr T.d18.m T.d18.k T.d18.b tk_def (l_cons (w_var 0) (l_cons (w_var 6) (l_cons (w_var 3) dl_nil))) (by omega)))) (ds_one (ds_ret (d_tup (a_cons w_str (a_cons (w_var 4) da_nil))))) ds_nil)
    (ds_one (x_exp (w_append 3 (a_cons (w_call (ok_as_box T) fnOf_bad hr T.d17.m T.d17.k T.d17.b tk_def (a_cons (w_var 6) da_nil) (by omega)) da_nil))))))
    (ds_one (ds_ret w_non))))))))
/-! is_table -/
theorem sc_is_table : FnScope ["ends", "table", "shut"] ["ends", "table", "shut"] (defScope (top 20)) := ⟨rfl, rfl, rfl, by decide +kernel, rfl, by decide +kernel, by decide +kernel⟩
def b_is_table : Ga → Sd → Out DI.Flow := (sRet (sCmp .isN (sCall (callG ψ_table_fault_at) (aCons (sCall (callG ψ_checked_ends) (aCons (sVar 0) aNil)) (aCons (sVar 1) (aCons (sVar 2) aNil)))) (sCon .non)))
def ψ_is_table : List DI.D → Sd → FOut := fnOf 3 3 (b_is_table)
theorem ok_is_table (T : Tx F.K F.cls mg) : FnOk P w F.K mg base (L2.CX P w) 6 T.a20 T.f20 ["ends", "table", "shut"] (spF F 3 (ψ_is_table)) := fn_def T.d20.F sc_is_table (by decide) (
    fun cdv A outer s H E hr => (ds_one (ds_ret (w_is (w_call (ok_table_fault_at T) fnOf_bad hr T.d19.m T.d19.k T.d19.b tk_def (a_cons (w_call (ok_checked_ends T) fnOf_bad hr T.d10.m T.d10.k T.d10.b tk_def (a_cons (w_var 0) da_nil) (by omega)) (a_cons (w_var 1) (a_cons (w_var 2) da_nil))) (by omega)) w_non))))
/-! _law_mixed -/
theorem sc__law_mixed : FnScope ["stream", "some", "left", "k"] ["stream", "some"] (defScope (top 29)) := ⟨rfl, rfl, rfl, by decide +kernel, rfl, by decide +kernel, by decide +kernel⟩
def b__law_mixed : Ga → Sd → Out DI.Flow := (sSeq (sAsg (.nm 2) (sBi (biF .list) (lCons (sVar 1) lNil)))
    (sRet (sLc [3] (iRngF rngF1 (aCons (sBi (biF .len) (lCons (sVar 2) lNil)) aNil)) (.nm 3) (fun g s => .ok true g s) (sMth .popAt 2 (aCons (sCall (callG ψDraw) (aCons (sVar 0) (aCons (sBi (biF .len) (lCons (sVar 2) lNil)) aNil))) aNil)))))
def ψ__law_mixed : List DI.D → Sd → FOut := fnOf 2 4 (b__law_mixed)
theorem ok__law_mixed (T : Tx F.K F.cls mg) : FnOk P w F.K mg base (L2.CX P w) 2 T.a29 T.f29 ["stream", "some"] (spF F 2 (ψ__law_mixed)) := fn_def T.d29.F sc__law_mixed (by decide) (
    fun cdv A outer s H E hr => (ds_cons (x_set 2 sc__law_mixed.nd (w_list rfl T.n_list (w_var 1)))
    (ds_one (ds_ret (w_lc [("k", 3)] rfl sc__law_mixed.nd (di_rng1 rfl T.n_range (a_cons (w_len rfl T.n_len (w_var 2)) da_nil) rfl ) (blkOk_by (N := ["stream", "some", "left", "k"]) (sc := defScope (top 29)) (by decide +kernel)) (fun _ _ _ _ _ => (pg_name (i := 3) sc__law_mixed.nd rfl (by first | exact Or.inl rfl | exact Or.inr rfl))) (tg_nm 3) (by decide) (fun _ _ _ _ _ => dc_nil) (fun _ _ _ _ _ => (w_popAt 2 (a_cons (w_call (ok_draw _ _ _ T.d27.F T.n_int) ψDraw_bad hr T.d27.m T.d27.k T.d27.b takes0 (a_cons (w_var 0) (a_cons (w_len rfl T.n_len (w_var 2)) da_nil)) (by omega)) da_nil))))))))
/-! _law_ends -/
theorem sc__law_ends : FnScope ["stream", "many", "some"] ["stream", "many"] (defScope (top 22)) := ⟨rfl, rfl, rfl, by decide +kernel, rfl, by decide +kernel, by decide +kernel⟩
def b__law_ends : Ga → Sd → Out DI.Flow := (sSeq (sAsg (.nm 2) (sLst (aCons (sCon (.str "a")) (aCons (sCon (.str "b")) (aCons (sCon (.str "c")) (aCons (sCon (.str "d")) (aCons (sCon (.str "e")) (aCons (sCon (.str "w1")) (aCons (sCon (.str "w2")) (aCons (sCon (.str "in")) (aCons (sCon (.str "out")) (aCons (sCon (.str "in1")) (aCons (sCon (.str "w10")) (aCons (sCon (.str "ends")) (aCons (sCon (.str "lastname")) (aCons (sCon (.str "x0")) (aCons (sCon (.str "y1")) (aCons (sCon (.str "z")) aNil))))))))))))))))))
    (sRet (sSlc (sCall (callG ψ__law_mixed) (aCons (sVar 0) (aCons (sVar 2) aNil))) oNone (pOf (sVar 1)))))
def ψ__law_ends : List DI.D → Sd → FOut := fnOf 2 3 (b__law_ends)
theorem ok__law_ends (T : Tx F.K F.cls mg) : FnOk P w F.K mg base (L2.CX P w) 3 T.a22 T.f22 ["stream", "many"] (spF F 2 (ψ__law_ends)) := fn_def T.d22.F sc__law_ends (by decide) (
    fun cdv A outer s H E hr => (ds_cons (x_set 2 sc__law_ends.nd (d_lst (a_cons w_str (a_cons w_str (a_cons w_str (a_cons w_str (a_cons w_str (a_cons w_str (a_cons w_str (a_cons w_str (a_cons w_str (a_cons w_str (a_cons w_str (a_cons w_str (a_cons w_str (a_cons w_str (a_cons w_str (a_cons w_str da_nil))))))))))))))))))
    (ds_one (ds_ret (w_slc rfl (w_call (ok__law_mixed T) fnOf_bad hr T.d29.m T.d29.k T.d29.b tk_def (a_cons (w_var 0) (a_cons (w_var 2) da_nil)) (by omega)) do_none (do_some (w_var 1)))))))
/-! _law_t_halves -/
theorem sc__law_t_halves : FnScope ["box", "kind", "end", "s", "t"] ["box", "kind"] (defScope (top 23)) := ⟨rfl, rfl, rfl, by decide +kernel, rfl, by decide +kernel, by decide +kernel⟩
def b__law_t_halves : Ga → Sd → Out DI.Flow := (sSeq (sAsg (.cons (.nm 2) (.cons (.nm 3) (.cons (.nm 4) .nil))) (sVar 0))
    (sSeq (sIff (tOf (sCmp .eq (sVar 1) (sCon (.str "x")))) (sRet (sLst (aCons (sTup (aCons (sVar 2) (aCons (sTwo (binF .add) (sVar 3) (sLst (aCons (sCon (.int 0)) aNil))) (aCons (sVar 4) aNil)))) (aCons (sTup (aCons (sVar 2) (aCons (sTwo (binF .add) (sVar 3) (sLst (aCons (sCon (.int 1)) aNil))) (aCons (sVar 4) aNil)))) aNil)))) (fun g s => .ok .nx g s))
    (sRet (sLst (aCons (sTup (aCons (sVar 2) (aCons (sVar 3) (aCons (sTwo (binF .add) (sVar 4) (sLst (aCons (sCon (.int 0)) aNil))) aNil)))) (aCons (sTup (aCons (sVar 2) (aCons (sVar 3) (aCons (sTwo (binF .add) (sVar 4) (sLst (aCons (sCon (.int 1)) aNil))) aNil)))) aNil))))))
def ψ__law_t_halves : List DI.D → Sd → FOut := fnOf 2 5 (b__law_t_halves)
theorem ok__law_t_halves (T : Tx F.K F.cls mg) : FnOk P w F.K mg base (L2.CX P w) 1 T.a23 T.f23 ["box", "kind"] (spF F 2 (ψ__law_t_halves)) := fn_def T.d23.F sc__law_t_halves (by decide) (
    fun cdv A outer s H E hr => (ds_cons (x_asg (w_var 0) (pg_tup rfl (pgs_cons (pg_name (i := 2) sc__law_t_halves.nd rfl (by first | exact Or.inl rfl | exact Or.inr rfl)) (pgs_cons (pg_name (i := 3) sc__law_t_halves.nd rfl (by first | exact Or.inl rfl | exact Or.inr rfl)) (pgs_cons (pg_name (i := 4) sc__law_t_halves.nd rfl (by first | exact Or.inl rfl | exact Or.inr rfl)) pgs_nil)))) (tg_tup (tgs_cons (tg_nm 2) (tgs_cons (tg_nm 3) (tgs_cons (tg_nm 4) tgs_nil))) rfl))
    (ds_cons (ds_if (t_eq hr rfl (w_var 1) w_str) (ds_one (ds_ret (d_lst (a_cons (d_tup (a_cons (w_var 2) (a_cons (w_add (w_var 3) (d_lst (a_cons w_int da_nil))) (a_cons (w_var 4) da_nil)))) (a_cons (d_tup (a_cons (w_var 2) (a_cons (w_add (w_var 3) (d_lst (a_cons w_int da_nil))) (a_cons (w_var 4) da_nil)))) da_nil))))) ds_nil)
    (ds_one (ds_ret (d_lst (a_cons (d_tup (a_cons (w_var 2) (a_cons (w_var 3) (a_cons (w_add (w_var 4) (d_lst (a_cons w_int da_nil))) da_nil)))) (a_cons (d_tup (a_cons (w_var 2) (a_cons (w_var 3) (a_cons (w_add (w_var 4) (d_lst (a_cons w_int da_nil))) da_nil)))) da_nil))))))))
/-! _law_pick -/
theorem sc__law_pick : FnScope ["stream", "some"] ["stream", "some"] (defScope (top 28)) := ⟨rfl, rfl, rfl, by decide +kernel, rfl, by decide +kernel, by decide +kernel⟩
def b__law_pick : Ga → Sd → Out DI.Flow := (sRet (sTwo (fun x y => (subF x y).map .fz) (sVar 1) (sCall (callG ψDraw) (aCons (sVar 0) (aCons (sBi (biF .len) (lCons (sVar 1) lNil)) aNil)))))
def ψ__law_pick : List DI.D → Sd → FOut := fnOf 2 2 (b__law_pick)
theorem ok__law_pick (T : Tx F.K F.cls mg) : FnOk P w F.K mg base (L2.CX P w) 2 T.a28 T.f28 ["stream", "some"] (spF F 2 (ψ__law_pick)) := fn_def T.d28.F sc__law_pick (by decide) (
    fun cdv A outer s H E hr => (ds_one (ds_ret (w_ix rfl (w_var 1) (w_call (ok_draw _ _ _ T.d27.F T.n_int) ψDraw_bad hr T.d27.m T.d27.k T.d27.b tk_def (a_cons (w_var 0) (a_cons (w_len rfl T.n_len (w_var 1)) da_nil)) (by omega))))))
/-! _law_t_table -/
theorem sc__law_t_table : FnScope ["stream", "ends", "cuts", "left", "cut", "box", "is_long", "table", "pair", "end"] ["stream", "ends", "cuts"] (defScope (top 25)) := ⟨rfl, rfl, rfl, by decide +kernel, rfl, by decide +kernel, by decide +kernel⟩
def b__law_t_table : Ga → Sd → Out DI.Flow := (sSeq (sAsg (.nm 3) (sLc [9] (iSeqF (sVar 1)) (.nm 9) (fun g s => .ok true g s) (sTup (aCons (sVar 9) (aCons (sLst aNil) (aCons (sLst aNil) aNil))))))
    (sSeq (sFor (.nm 4) (iRngF rngF1 (aCons (sIte (tOf (sCmp .ne (sVar 3) (sLst aNil))) (sVar 2) (sCon (.int 0))) aNil)) (sSeq (sAsg (.nm 5) (sMth .popAt 3 (aCons (sCall (callG ψDraw) (aCons (sVar 0) (aCons (sBi (biF .len) (lCons (sVar 3) lNil)) aNil))) aNil)))
    (sSeq (sAsg (.nm 6) (sCmp .gt (sTwo (binF .add) (sBi (biF .len) (lCons (sTwo (fun x y => (subF x y).map .fz) (sVar 5) (sCon (.int 1))) lNil)) (sBi (biF .len) (lCons (sTwo (fun x y => (subF x y).map .fz) (sVar 5) (sCon (.int 2))) lNil))) (sCon (.int 10))))
    (sExp (sMth .extend 3 (aCons (sIte (tOf (sVar 6)) (sLst (aCons (sVar 5) aNil)) (sCall (callG ψ__law_t_halves) (aCons (sVar 5) (aCons (sCall (callG ψ__law_pick) (aCons (sVar 0) (aCons (sLst (aCons (sCon (.str "x")) (aCons (sCon (.str "y")) aNil))) aNil))) aNil)))) aNil))))))
    (sSeq (sPar [3, 7] (pCons (sCall (callG ψ__law_mixed) (aCons (sVar 0) (aCons (sVar 3) aNil))) (pCons (sLst aNil) lNil)))
    (sSeq (sFor (.nm 8) (iRngF rngF1 (aCons (sCall (callG ψDraw) (aCons (sVar 0) (aCons (sTwo (binF .add) (sTwo (binF .fdiv) (sBi (biF .len) (lCons (sVar 3) lNil)) (sCon (.int 2))) (sCon (.int 1))) aNil))) aNil)) (sExp (sMth .append 7 (aCons (sTup (aCons (sMth0 .pop 3) (aCons (sMth0 .pop 3) aNil))) aNil))))
    (sRet (sTup (aCons (sVar 7) (aCons (sSlc (sVar 3) oNone (pOf (sCall (callG ψDraw) (aCons (sVar 0) (aCons (sTwo (binF .add) (sBi (biF .len) (lCons (sVar 3) lNil)) (sCon (.int 1))) aNil))))) aNil))))))))
def ψ__law_t_table : List DI.D → Sd → FOut := fnOf 3 10 (b__law_t_table)
theorem ok__law_t_table (T : Tx F.K F.cls mg) : FnOk P w F.K mg base (L2.CX P w) 3 T.a25 T.f25 ["stream", "ends", "cuts"] (spF F 3 (ψ__law_t_table)) := fn_def T.d25.F sc__law_t_table (by decide) (
    fun cdv A outer s H E hr => (ds_cons (x_setLc 3 [("end", 9)] rfl sc__law_t_table.nd (di_seq rfl (w_var 1)) (blkOk_by (N := ["stream", "ends", "cuts", "left", "cut", "box", "is_long", "table", "pair", "end"]) (sc := defScope (top 25)) (by decide +kernel)) (fun _ _ _ _ _ => (pg_name (i := 9) sc__law_t_table.nd rfl (by first | exact Or.inl rfl | exact Or.inr rfl))) (tg_nm 9) (by decide) (fun _ _ _ _ _ => dc_nil) (fun _ _ _ _ _ => (d_tup (a_cons (w_var 9) (a_cons (d_lst da_nil) (a_cons (d_lst da_nil) da_nil))))) (sw_true rfl rfl rfl rfl))
    (ds_cons (x_for hp_def rfl (di_rng1 rfl T.n_range (a_cons (d_ite (t_ne hr rfl (w_var 3) (d_lst da_nil)) (w_var 2) w_int) da_nil) rfl ) (pg_name (i := 4) sc__law_t_table.nd rfl (by first | exact Or.inl rfl | exact Or.inr rfl)) (tg_nm 4) (ds_cons (x_set 5 sc__law_t_table.nd (w_popAt 3 (a_cons (w_call (ok_draw _ _ _ T.d27.F T.n_int) ψDraw_bad hr T.d27.m T.d27.k T.d27.b tk_def (a_cons (w_var 0) (a_cons (w_len rfl T.n_len (w_var 3)) da_nil)) (by omega)) da_nil)))
    (ds_cons (x_set 6 sc__law_t_table.nd (w_gt (w_add (w_len rfl T.n_len (w_ix rfl (w_var 5) w_int)) (w_len rfl T.n_len (w_ix rfl (w_var 5) w_int))) w_int))
    (ds_one (x_exp (w_extend 3 (a_cons (d_ite (t_val (w_var 6)) (d_lst (a_cons (w_var 5) da_nil)) (w_call (ok__law_t_halves T) fnOf_bad hr T.d23.m T.d23.k T.d23.b tk_def (a_cons (w_var 5) (a_cons (w_call (ok__law_pick T) fnOf_bad hr T.d28.m T.d28.k T.d28.b tk_def (a_cons (w_var 0) (a_cons (d_lst (a_cons w_str (a_cons w_str da_nil))) da_nil)) (by omega)) da_nil)) (by omega))) da_nil)))))))
    (ds_cons (x_par2 3 7 sc__law_t_table.nd (p_cons (w_call (ok__law_mixed T) fnOf_bad hr T.d29.m T.d29.k T.d29.b tk_def (a_cons (w_var 0) (a_cons (w_var 3) da_nil)) (by omega)) (p_cons (d_lst da_nil) dp_nil)))
    (ds_cons (x_for hp_def rfl (di_rng1 rfl T.n_range (a_cons (w_call (ok_draw _ _ _ T.d27.F T.n_int) ψDraw_bad hr T.d27.m T.d27.k T.d27.b tk_def (a_cons (w_var 0) (a_cons (w_add (w_fdiv (w_len rfl T.n_len (w_var 3)) w_int) w_int) da_nil)) (by omega)) da_nil) rfl ) (pg_name (i := 8) sc__law_t_table.nd rfl (by first | exact Or.inl rfl | exact Or.inr rfl)) (tg_nm 8) (ds_one (x_exp (w_append 7 (a_cons (d_tup (a_cons (w_pop 3) (a_cons (w_pop 3) da_nil))) da_nil)))))
    (ds_one (ds_ret (d_tup (a_cons (w_var 7) (a_cons (w_slc rfl (w_var 3) do_none (do_some (w_call (ok_draw _ _ _ T.d27.F T.n_int) ψDraw_bad hr T.d27.m T.d27.k T.d27.b tk_def (a_cons (w_var 0) (a_cons (w_add (w_len rfl T.n_len (w_var 3)) w_int) da_nil)) (by omega)))) da_nil))))))))))
/-! _law_same -/
theorem sc__law_same : FnScope ["found", "due", "x", "y"] ["found", "due"] (defScope (top 30)) := ⟨rfl, rfl, rfl, by decide +kernel, rfl, by decide +kernel, by decide +kernel⟩
def b__law_same (r : List DI.D → Sd → FOut) : Ga → Sd → Out DI.Flow := (sSeq (sIff (tOf (sOne (isiF [.list, .tuple]) (sVar 1))) (sSeq (sIff (tOrF (tOf (sCmp .ne (sOne (isiF [.list]) (sVar 0)) (sOne (isiF [.list]) (sVar 1)))) (tOf (sCmp .ne (sOne (isiF [.tuple]) (sVar 0)) (sOne (isiF [.tuple]) (sVar 1))))) (sRet (sCon (.bl false))) (fun g s => .ok .nx g s))
    (sRet (sAnd (sCmp .eq (sBi (biF .len) (lCons (sVar 0) lNil)) (sBi (biF .len) (lCons (sVar 1) lNil))) (sBi (biF .all) (lCons (sLc [2, 3] (iZipF (aCons (sVar 0) (aCons (sVar 1) aNil))) (.cons (.nm 2) (.cons (.nm 3) .nil)) (fun g s => .ok true g s) (sCall (callG r) (aCons (sVar 2) (aCons (sVar 3) aNil)))) lNil))))) (fun g s => .ok .nx g s))
    (sSeq (sIff (tOf (sOne (isiF [.dict]) (sVar 1))) (sRet (sAnd (sOne (isiF [.dict]) (sVar 0)) (sCall (callG r) (aCons (sBi (biF .list) (lCons (fun _ _ => .bad) lNil)) (aCons (sBi (biF .list) (lCons (fun _ _ => .bad) lNil)) aNil))))) (fun g s => .ok .nx g s))
    (sSeq (sIff (tOf (sOne (isiF [.int]) (sVar 1))) (sRet (sAnd (sOne (isiF [.int]) (sVar 0)) (sAnd (sCmp .eq (sOne (isiF [.bool]) (sVar 0)) (sOne (isiF [.bool]) (sVar 1))) (sCmp .eq (sVar 0) (sVar 1))))) (fun g s => .ok .nx g s))
    (sRet (sAnd (sOne notF (sOne (isiF [.int, .list, .tuple, .dict]) (sVar 0))) (sCmp .eq (sVar 0) (sVar 1)))))))
def ψ__law_same : Nat → List DI.D → Sd → FOut
  | 0 => fnOf 2 4 fun _ _ => .bad
  | n + 1 => fnOf 2 4 (b__law_same (ψ__law_same n))
theorem ψ__law_same_bad : ∀ n ds s, ds.length ≠ 2 → ψ__law_same n ds s = .bad
  | 0 => fnOf_bad
  | _ + 1 => fnOf_bad
theorem st__law_same (T : Tx F.K F.cls mg) {n : Nat} {r : List DI.D → Sd → FOut} (hr_bad : ∀ ds s, ds.length ≠ 2 → r ds s = .bad) (ih : FnOk P w F.K mg base (L2.CX P w) (0 + n) T.a30 T.f30 ["found", "due"] (spF F 2 r)) : FnOk P w F.K mg base (L2.CX P w) (0 + n + 1) T.a30 T.f30 ["found", "due"] (spF F 2 (fnOf 2 4 (b__law_same r))) := fn_def T.d30.F sc__law_same (by decide) (
    fun cdv A outer s H E hr => (ds_cons (ds_if (t_val (w_isiT [.list, .tuple] rfl T.n_isinstance (w_var 1) (tys_cons (ty_e .list T.n_list rfl) (tys_cons (ty_e .tuple T.n_tuple rfl) tys_nil)))) (ds_cons (ds_if ((dw_or (t_ne hr rfl (w_isi .list rfl T.n_isinstance (w_var 0) (ty_e .list T.n_list rfl)) (w_isi .list rfl T.n_isinstance (w_var 1) (ty_e .list T.n_list rfl))) (dw_or1 (t_ne hr rfl (w_isi .tuple rfl T.n_isinstance (w_var 0) (ty_e .tuple T.n_tuple rfl)) (w_isi .tuple rfl T.n_isinstance (w_var 1) (ty_e .tuple T.n_tuple rfl)))))).pt (ds_one (ds_ret w_bl)) ds_nil)
    (ds_one (ds_ret (d_and (w_eq hr rfl (w_len rfl T.n_len (w_var 0)) (w_len rfl T.n_len (w_var 1))) (d_one (w_all rfl T.n_all (w_lc [("x", 2), ("y", 3)] rfl sc__law_same.nd (di_zip rfl rfl T.n_zip (a_cons (w_var 0) (a_cons (w_var 1) da_nil)) rfl rfl) (blkOk_by (N := ["found", "due", "x", "y"]) (sc := defScope (top 30)) (by decide +kernel)) (fun _ _ _ _ _ => (pg_tup rfl (pgs_cons (pg_name (i := 2) sc__law_same.nd rfl (by first | exact Or.inl rfl | exact Or.inr rfl)) (pgs_cons (pg_name (i := 3) sc__law_same.nd rfl (by first | exact Or.inl rfl | exact Or.inr rfl)) pgs_nil)))) (tg_tup (tgs_cons (tg_nm 2) (tgs_cons (tg_nm 3) tgs_nil)) rfl) (by decide) (fun _ _ _ _ _ => dc_nil) (fun _ _ _ _ _ => (w_call ih hr_bad hr T.d30.m T.d30.k T.d30.b takes0 (a_cons (w_var 2) (a_cons (w_var 3) da_nil)) (by omega)))))))))) ds_nil)
    (ds_cons (ds_if (t_val (w_isi .dict rfl T.n_isinstance (w_var 1) (ty_e .dict T.n_dict rfl))) (ds_one (ds_ret (d_and (w_isi .dict rfl T.n_isinstance (w_var 0) (ty_e .dict T.n_dict rfl)) (d_one (w_call ih hr_bad hr T.d30.m T.d30.k T.d30.b tk_def (a_cons (w_list rfl T.n_list d_bad) (a_cons (w_list rfl T.n_list d_bad) da_nil)) (by omega)))))) ds_nil)
    (ds_cons (ds_if (t_val (w_isi .int rfl T.n_isinstance (w_var 1) (ty_e .int T.n_int rfl))) (ds_one (ds_ret (d_and (w_isi .int rfl T.n_isinstance (w_var 0) (ty_e .int T.n_int rfl)) (d_and (w_eq hr rfl (w_isi .bool rfl T.n_isinstance (w_var 0) (ty_e .bool T.n_bool rfl)) (w_isi .bool rfl T.n_isinstance (w_var 1) (ty_e .bool T.n_bool rfl))) (d_one (w_eq hr rfl (w_var 0) (w_var 1))))))) ds_nil)
    (ds_one (ds_ret (d_and (d_not (w_isiT [.int, .list, .tuple, .dict] rfl T.n_isinstance (w_var 0) (tys_cons (ty_e .int T.n_int rfl) (tys_cons (ty_e .list T.n_list rfl) (tys_cons (ty_e .tuple T.n_tuple rfl) (tys_cons (ty_e .dict T.n_dict rfl) tys_nil)))))) (d_one (w_eq hr rfl (w_var 0) (w_var 1))))))))))
theorem ok__law_same (T : Tx F.K F.cls mg) : ∀ n : Nat, FnOk P w F.K mg base (L2.CX P w) (1 + n) T.a30 T.f30 ["found", "due"] (spF F 2 (ψ__law_same n))
  | 0 => (fn_def (k := 0) (b := fun _ _ => .bad) T.d30.F sc__law_same (by decide) (fun _ _ _ _ _ _ _ => dss_bad))
  | n + 1 => (st__law_same T (n := n + 1) (ψ__law_same_bad n) ((ok__law_same T n).mono (by omega))).mono (by omega)
/-! _law_is_box -/
theorem sc__law_is_box : FnScope ["ends", "thing", "figures", "row", "one"] ["ends", "thing"] (defScope (top 32)) := ⟨rfl, rfl, rfl, by decide +kernel, rfl, by decide +kernel, by decide +kernel⟩
def b__law_is_box : Ga → Sd → Out DI.Flow := (sSeq (sIff (tOrF (tNotF (tOf (sOne (isiF [.list, .tuple]) (sVar 1)))) (tOrF (tOf (sCmp .ne (sBi (biF .len) (lCons (sVar 1) lNil)) (sCon (.int 3)))) (tNotF (tOf (sOne (isiF [.str]) (sTwo (fun x y => (subF x y).map .fz) (sVar 1) (sCon (.int 0)))))))) (sRet (sCon (.bl false))) (fun g s => .ok .nx g s))
    (sSeq (sIff (tOf (sCmp .notIn (sTwo (fun x y => (subF x y).map .fz) (sVar 1) (sCon (.int 0))) (sVar 0))) (sRet (sCon (.bl false))) (fun g s => .ok .nx g s))
    (sSeq (sIff (tNotF (tOf (sBi (biF .all) (lCons (sLc [3] (iSeqF (sSlc (sVar 1) (pOf (sCon (.int 1))) oNone)) (.nm 3) (fun g s => .ok true g s) (sOne (isiF [.list, .tuple]) (sVar 3))) lNil)))) (sRet (sCon (.bl false))) (fun g s => .ok .nx g s))
    (sSeq (sAsg (.nm 2) (sTwo (binF .add) (sBi (biF .list) (lCons (sTwo (fun x y => (subF x y).map .fz) (sVar 1) (sCon (.int 1))) lNil)) (sBi (biF .list) (lCons (sTwo (fun x y => (subF x y).map .fz) (sVar 1) (sCon (.int 2))) lNil))))
    (sRet (sBi (biF .all) (lCons (sLc [4] (iSeqF (sVar 2)) (.nm 4) (fun g s => .ok true g s) (sAnd (sOne (isiF [.int]) (sVar 4)) (sAnd (sOne notF (sOne (isiF [.bool]) (sVar 4))) (sCmp .isIn (sVar 4) (sTup (aCons (sCon (.int 0)) (aCons (sCon (.int 1)) aNil))))))) lNil)))))))
def ψ__law_is_box : List DI.D → Sd → FOut := fnOf 2 5 (b__law_is_box)
theorem ok__law_is_box (T : Tx F.K F.cls mg) : FnOk P w F.K mg base (L2.CX P w) 1 T.a32 T.f32 ["ends", "thing"] (spF F 2 (ψ__law_is_box)) := fn_def T.d32.F sc__law_is_box (by decide) (
    fun cdv A outer s H E hr => (ds_cons (ds_if ((dw_or (dt_not (t_val (w_isiT [.list, .tuple] rfl T.n_isinstance (w_var 1) (tys_cons (ty_e .list T.n_list rfl) (tys_cons (ty_e .tuple T.n_tuple rfl) tys_nil))))) (dw_or (t_ne hr rfl (w_len rfl T.n_len (w_var 1)) w_int) (dw_or1 (dt_not (t_val (w_isi .str rfl T.n_isinstance (w_ix rfl (w_var 1) w_int) (ty_e .str T.n_str rfl)))))))).pt (ds_one (ds_ret w_bl)) ds_nil)
    (ds_cons (ds_if (t_nin hr rfl (w_ix rfl (w_var 1) w_int) (w_var 0)) (ds_one (ds_ret w_bl)) ds_nil)
    (ds_cons (ds_if (dt_not (t_val (w_all rfl T.n_all (w_lc [("row", 3)] rfl sc__law_is_box.nd (di_seq rfl (w_slc rfl (w_var 1) (do_some w_int) do_none)) (blkOk_by (N := ["ends", "thing", "figures", "row", "one"]) (sc := defScope (top 32)) (by decide +kernel)) (fun _ _ _ _ _ => (pg_name (i := 3) sc__law_is_box.nd rfl (by first | exact Or.inl rfl | exact Or.inr rfl))) (tg_nm 3) (by decide) (fun _ _ _ _ _ => dc_nil) (fun _ _ _ _ _ => (w_isiT [.list, .tuple] rfl T.n_isinstance (w_var 3) (tys_cons (ty_e .list T.n_list rfl) (tys_cons (ty_e .tuple T.n_tuple rfl) tys_nil)))))))) (ds_one (ds_ret w_bl)) ds_nil)
    (ds_cons (x_set 2 sc__law_is_box.nd (w_add (w_list rfl T.n_list (w_ix rfl (w_var 1) w_int)) (w_list rfl T.n_list (w_ix rfl (w_var 1) w_int))))
    (ds_one (ds_ret (w_all rfl T.n_all (w_lc [("one", 4)] rfl sc__law_is_box.nd (di_seq rfl (w_var 2)) (blkOk_by (N := ["ends", "thing", "figures", "row", "one"]) (sc := defScope (top 32)) (by decide +kernel)) (fun _ _ _ _ _ => (pg_name (i := 4) sc__law_is_box.nd rfl (by first | exact Or.inl rfl | exact Or.inr rfl))) (tg_nm 4) (by decide) (fun _ _ _ _ _ => dc_nil) (fun _ _ _ _ _ => (d_and (w_isi .int rfl T.n_isinstance (w_var 4) (ty_e .int T.n_int rfl)) (d_and (d_not (w_isi .bool rfl T.n_isinstance (w_var 4) (ty_e .bool T.n_bool rfl))) (d_one (w_in hr rfl (w_var 4) (d_tup (a_cons w_int (a_cons w_int da_nil)))))))))))))))))
/-! _law_bent_box -/
theorem sc__law_bent_box : FnScope ["stream", "ends", "box", "end", "s", "t", "found"] ["stream", "ends", "box"] (defScope (top 34)) := ⟨rfl, rfl, rfl, by decide +kernel, rfl, by decide +kernel, by decide +kernel⟩
def b__law_bent_box : Ga → Sd → Out DI.Flow := (sSeq (sAsg (.cons (.nm 3) (.cons (.nm 4) (.cons (.nm 5) .nil))) (sVar 2))
    (sSeq (sAsg (.nm 6) (sLst (aCons (sTup (aCons (sVar 3) (aCons (sTwo (binF .add) (sVar 4) (sLst (aCons (sCon (.int 0)) aNil))) (aCons (sVar 5) aNil)))) (aCons (sTup (aCons (sVar 3) (aCons (sSlc (sVar 4) oNone (pOf (sOne negF (sCon (.int 1))))) (aCons (sVar 5) aNil)))) (aCons (sTup (aCons (sVar 3) (aCons (sVar 4) (aCons (sSlc (sVar 5) oNone (pOf (sOne negF (sCon (.int 1))))) aNil)))) (aCons (sTup (aCons (sVar 3) (aCons (sVar 4) (aCons (sTwo (binF .add) (sVar 5) (sLst (aCons (sCon (.int 1)) aNil))) aNil)))) (aCons (sTup (aCons (sVar 3) (aCons (sVar 5) (aCons (sVar 4) aNil)))) (aCons (sTup (aCons (sCon (.str "late9")) (aCons (sVar 4) (aCons (sVar 5) aNil)))) aNil))))))))
    (sSeq (sExp (sMth .extend 6 (aCons (sLst (aCons (sTup (aCons (sVar 3) (aCons (sVar 4) aNil))) (aCons (sTup (aCons (sVar 3) (aCons (sVar 4) (aCons (sVar 5) (aCons (sVar 5) aNil))))) (aCons (sTup (aCons (sVar 3) (aCons (sTwo (binF .add) (sVar 4) (sLst (aCons (sCon (.int 2)) aNil))) (aCons (sVar 5) aNil)))) (aCons (sTup (aCons (sVar 3) (aCons (sVar 4) (aCons (sTwo (binF .add) (sVar 5) (sLst (aCons (sCon (.bl true)) aNil))) aNil)))) (aCons (sTup (aCons (sVar 3) (aCons (sCon (.str "0")) (aCons (sVar 5) aNil)))) (aCons (sTup (aCons (sVar 3) (aCons (sVar 4) (aCons (sCon .non) aNil)))) aNil))))))) aNil)))
    (sSeq (sExp (sMth .extend 6 (aCons (sLst (aCons (sTup (aCons (sCon (.int 5)) (aCons (sVar 4) (aCons (sVar 5) aNil)))) (aCons (sTup (aCons (sLst (aCons (sVar 3) aNil)) (aCons (sVar 4) (aCons (sVar 5) aNil)))) (aCons (sTup (aCons (sVar 3) (aCons (sVar 4) (aCons (sLst (aCons (sCon .non) aNil)) aNil)))) (aCons (sTup (aCons (sVar 3) (aCons (sLst (aCons (sLst (aCons (sCon (.int 0)) aNil)) aNil)) (aCons (sVar 5) aNil)))) (aCons (sTup (aCons (sVar 3) (aCons (sVar 4) (aCons (sVar 5) aNil)))) (aCons (sCon .non) (aCons (sVar 3) aNil)))))))) aNil)))
    (sRet (sCall (callG ψ__law_pick) (aCons (sVar 0) (aCons (sTwo (binF .add) (sVar 6) (sLst (aCons (sTup (aCons (sCall (callG ψ__law_pick) (aCons (sVar 0) (aCons (sVar 1) aNil))) (aCons (sVar 4) (aCons (sVar 5) aNil)))) aNil))) aNil))))))))
def ψ__law_bent_box : List DI.D → Sd → FOut := fnOf 3 7 (b__law_bent_box)
theorem ok__law_bent_box (T : Tx F.K F.cls mg) : FnOk P w F.K mg base (L2.CX P w) 3 T.a34 T.f34 ["stream", "ends", "box"] (spF F 3 (ψ__law_bent_box)) := fn_def T.d34.F sc__law_bent_box (by decide) (
    fun cdv A outer s H E hr => (ds_cons (x_asg (w_var 2) (pg_tup rfl (pgs_cons (pg_name (i := 3) sc__law_bent_box.nd rfl (by first | exact Or.inl rfl | exact Or.inr rfl)) (pgs_cons (pg_name (i := 4) sc__law_bent_box.nd rfl (by first | exact Or.inl rfl | exact Or.inr rfl)) (pgs_cons (pg_name (i := 5) sc__law_bent_box.nd rfl (by first | exact Or.inl rfl | exact Or.inr rfl)) pgs_nil)))) (tg_tup (tgs_cons (tg_nm 3) (tgs_cons (tg_nm 4) (tgs_cons (tg_nm 5) tgs_nil))) rfl))
    (ds_cons (x_set 6 sc__law_bent_box.nd (d_lst (a_cons (d_tup (a_cons (w_var 3) (a_cons (w_add (w_var 4) (d_lst (a_cons w_int da_nil))) (a_cons (w_var 5) da_nil)))) (a_cons (d_tup (a_cons (w_var 3) (a_cons (w_slc rfl (w_var 4) do_none (do_some (w_neg w_int))) (a_cons (w_var 5) da_nil)))) (a_cons (d_tup (a_cons (w_var 3) (a_cons (w_var 4) (a_cons (w_slc rfl (w_var 5) do_none (do_some (w_neg w_int))) da_nil)))) (a_cons (d_tup (a_cons (w_var 3) (a_cons (w_var 4) (a_cons (w_add (w_var 5) (d_lst (a_cons w_int da_nil))) da_nil)))) (a_cons (d_tup (a_cons (w_var 3) (a_cons (w_var 5) (a_cons (w_var 4) da_nil)))) (a_cons (d_tup (a_cons w_str (a_cons (w_var 4) (a_cons (w_var 5) da_nil)))) da_nil))))))))
    (ds_cons (x_exp (w_extend 6 (a_cons (d_lst (a_cons (d_tup (a_cons (w_var 3) (a_cons (w_var 4) da_nil))) (a_cons (d_tup (a_cons (w_var 3) (a_cons (w_var 4) (a_cons (w_var 5) (a_cons (w_var 5) da_nil))))) (a_cons (d_tup (a_cons (w_var 3) (a_cons (w_add (w_var 4) (d_lst (a_cons w_int da_nil))) (a_cons (w_var 5) da_nil)))) (a_cons (d_tup (a_cons (w_var 3) (a_cons (w_var 4) (a_cons (w_add (w_var 5) (d_lst (a_cons w_bl da_nil))) da_nil)))) (a_cons (d_tup (a_cons (w_var 3) (a_cons w_str (a_cons (w_var 5) da_nil)))) (a_cons (d_tup (a_cons (w_var 3) (a_cons (w_var 4) (a_cons w_non da_nil)))) da_nil))))))) da_nil)))
    (ds_cons (x_exp (w_extend 6 (a_cons (d_lst (a_cons (d_tup (a_cons w_int (a_cons (w_var 4) (a_cons (w_var 5) da_nil)))) (a_cons (d_tup (a_cons (d_lst (a_cons (w_var 3) da_nil)) (a_cons (w_var 4) (a_cons (w_var 5) da_nil)))) (a_cons (d_tup (a_cons (w_var 3) (a_cons (w_var 4) (a_cons (d_lst (a_cons w_non da_nil)) da_nil)))) (a_cons (d_tup (a_cons (w_var 3) (a_cons (d_lst (a_cons (d_lst (a_cons w_int da_nil)) da_nil)) (a_cons (w_var 5) da_nil)))) (a_cons (d_tup (a_cons (w_var 3) (a_cons (w_var 4) (a_cons (w_var 5) da_nil)))) (a_cons w_non (a_cons (w_var 3) da_nil)))))))) da_nil)))
    (ds_one (ds_ret (w_call (ok__law_pick T) fnOf_bad hr T.d28.m T.d28.k T.d28.b tk_def (a_cons (w_var 0) (a_cons (w_add (w_var 6) (d_lst (a_cons (d_tup (a_cons (w_call (ok__law_pick T) fnOf_bad hr T.d28.m T.d28.k T.d28.b tk_def (a_cons (w_var 0) (a_cons (w_var 1) da_nil)) (by omega)) (a_cons (w_var 4) (a_cons (w_var 5) da_nil)))) da_nil))) da_nil)) (by omega)))))))))
end
end K27
end
section
set_option Elab.async false
set_option linter.all false
set_option maxRecDepth 100000
set_option maxHeartbeats 4000000
namespace K27
open PySem L2 DI
section
variable {P : Program} {w : World} {mg : Str → Option Value} {base : Heap} {F : Fx}
/-! _law_t_meet -/
theorem sc__law_t_meet : FnScope ["one", "other", "rows", "x", "y"] ["one", "other"] (defScope (top 24)) := ⟨rfl, rfl, rfl, by decide +kernel, rfl, by decide +kernel, by decide +kernel⟩
def b__law_t_meet : Ga → Sd → Out DI.Flow := (sSeq (sAsg (.nm 2) (sTwo (binF .add) (sLz (aCons (sTwo (fun x y => (subF x y).map .fz) (sVar 0) (sCon (.int 1))) (aCons (sTwo (fun x y => (subF x y).map .fz) (sVar 1) (sCon (.int 1))) aNil))) (sLz (aCons (sTwo (fun x y => (subF x y).map .fz) (sVar 0) (sCon (.int 2))) (aCons (sTwo (fun x y => (subF x y).map .fz) (sVar 1) (sCon (.int 2))) aNil)))))
    (sRet (sAnd (sCmp .eq (sTwo (fun x y => (subF x y).map .fz) (sVar 0) (sCon (.int 0))) (sTwo (fun x y => (subF x y).map .fz) (sVar 1) (sCon (.int 0)))) (sBi (biF .all) (lCons (sLc [3, 4] (iSeqF (sVar 2)) (.cons (.nm 3) (.cons (.nm 4) .nil)) (fun g s => .ok true g s) (sCmp .eq (sVar 3) (sVar 4))) lNil)))))
def ψ__law_t_meet : List DI.D → Sd → FOut := fnOf 2 5 (b__law_t_meet)
theorem ok__law_t_meet (T : Tx F.K F.cls mg) : FnOk P w F.K mg base (L2.CX P w) 1 T.a24 T.f24 ["one", "other"] (spF F 2 (ψ__law_t_meet)) := fn_def T.d24.F sc__law_t_meet (by decide) (
    fun cdv A outer s H E hr => (ds_cons (x_set 2 sc__law_t_meet.nd (w_add (w_listzip rfl T.n_list T.n_zip (a_cons (w_ix rfl (w_var 0) w_int) (a_cons (w_ix rfl (w_var 1) w_int) da_nil))) (w_listzip rfl T.n_list T.n_zip (a_cons (w_ix rfl (w_var 0) w_int) (a_cons (w_ix rfl (w_var 1) w_int) da_nil)))))
    (ds_one (ds_ret (d_and (w_eq hr rfl (w_ix rfl (w_var 0) w_int) (w_ix rfl (w_var 1) w_int)) (d_one (w_all rfl T.n_all (w_lc [("x", 3), ("y", 4)] rfl sc__law_t_meet.nd (di_seq rfl (w_var 2)) (blkOk_by (N := ["one", "other", "rows", "x", "y"]) (sc := defScope (top 24)) (by decide +kernel)) (fun _ _ _ _ _ => (pg_tup rfl (pgs_cons (pg_name (i := 3) sc__law_t_meet.nd rfl (by first | exact Or.inl rfl | exact Or.inr rfl)) (pgs_cons (pg_name (i := 4) sc__law_t_meet.nd rfl (by first | exact Or.inl rfl | exact Or.inr rfl)) pgs_nil)))) (tg_tup (tgs_cons (tg_nm 3) (tgs_cons (tg_nm 4) tgs_nil)) rfl) (by decide) (fun _ _ _ _ _ => dc_nil) (fun _ _ _ _ _ => (w_eq hr rfl (w_var 3) (w_var 4)))))))))))
/-! _law_loose -/
theorem sc__law_loose : FnScope ["stream", "thing", "found", "key", "part"] ["stream", "thing"] (defScope (top 31)) := ⟨rfl, rfl, rfl, by decide +kernel, rfl, by decide +kernel, by decide +kernel⟩
def b__law_loose (r : List DI.D → Sd → FOut) : Ga → Sd → Out DI.Flow := (sSeq (sIff (tOf (sOne (isiF [.dict]) (sVar 1))) (sRet (sBiK dictF (aCons (sLc [3] (iSeqF (sCall (callG ψ__law_mixed) (aCons (sVar 0) (aCons (sBi (biF .list) (lCons (sVar 1) lNil)) aNil)))) (.nm 3) (fun g s => .ok true g s) (sTup (aCons (sVar 3) (aCons (sCall (callG r) (aCons (sVar 0) (aCons (sTwo (fun x y => (subF x y).map .fz) (sVar 1) (sVar 3)) aNil))) aNil)))) aNil))) (fun g s => .ok .nx g s))
    (sSeq (sIff (tNotF (tOf (sOne (isiF [.list, .tuple]) (sVar 1)))) (sRet (sVar 1)) (fun g s => .ok .nx g s))
    (sSeq (sAsg (.nm 2) (sLc [4] (iSeqF (sVar 1)) (.nm 4) (fun g s => .ok true g s) (sCall (callG r) (aCons (sVar 0) (aCons (sVar 4) aNil)))))
    (sRet (sIte (tOf (sCmp .eq (sCall (callG ψDraw) (aCons (sVar 0) (aCons (sCon (.int 3)) aNil))) (sCon (.int 0)))) (sVar 2) (sBi (biF .tuple) (lCons (sVar 2) lNil)))))))
def ψ__law_loose : Nat → List DI.D → Sd → FOut
  | 0 => fnOf 2 5 fun _ _ => .bad
  | n + 1 => fnOf 2 5 (b__law_loose (ψ__law_loose n))
theorem ψ__law_loose_bad : ∀ n ds s, ds.length ≠ 2 → ψ__law_loose n ds s = .bad
  | 0 => fnOf_bad
  | _ + 1 => fnOf_bad
theorem st__law_loose (T : Tx F.K F.cls mg) {n : Nat} {r : List DI.D → Sd → FOut} (hr_bad : ∀ ds s, ds.length ≠ 2 → r ds s = .bad) (ih : FnOk P w F.K mg base (L2.CX P w) (2 + n) T.a31 T.f31 ["stream", "thing"] (spF F 2 r)) : FnOk P w F.K mg base (L2.CX P w) (2 + n + 1) T.a31 T.f31 ["stream", "thing"] (spF F 2 (fnOf 2 5 (b__law_loose r))) := fn_def T.d31.F sc__law_loose (by decide) (
    fun cdv A outer s H E hr => (ds_cons (ds_if (t_val (w_isi .dict rfl T.n_isinstance (w_var 1) (ty_e .dict T.n_dict rfl))) (ds_one (ds_ret (w_dictL T.n_dict (a_cons (w_lc [("key", 3)] rfl sc__law_loose.nd (di_seq rfl (w_call (ok__law_mixed T) fnOf_bad hr T.d29.m T.d29.k T.d29.b tk_def (a_cons (w_var 0) (a_cons (w_list rfl T.n_list (w_var 1)) da_nil)) (by omega))) (blkOk_by (N := ["stream", "thing", "found", "key", "part"]) (sc := defScope (top 31)) (by decide +kernel)) (fun _ _ _ _ _ => (pg_name (i := 3) sc__law_loose.nd rfl (by first | exact Or.inl rfl | exact Or.inr rfl))) (tg_nm 3) (by decide) (fun _ _ _ _ _ => dc_nil) (fun _ _ _ _ _ => (d_tup (a_cons (w_var 3) (a_cons (w_call ih hr_bad hr T.d31.m T.d31.k T.d31.b takes0 (a_cons (w_var 0) (a_cons (w_ix rfl (w_var 1) (w_var 3)) da_nil)) (by omega)) da_nil))))) da_nil)))) ds_nil)
    (ds_cons (ds_if (dt_not (t_val (w_isiT [.list, .tuple] rfl T.n_isinstance (w_var 1) (tys_cons (ty_e .list T.n_list rfl) (tys_cons (ty_e .tuple T.n_tuple rfl) tys_nil))))) (ds_one (ds_ret (w_var 1))) ds_nil)
    (ds_cons (x_setLc 2 [("part", 4)] rfl sc__law_loose.nd (di_seq rfl (w_var 1)) (blkOk_by (N := ["stream", "thing", "found", "key", "part"]) (sc := defScope (top 31)) (by decide +kernel)) (fun _ _ _ _ _ => (pg_name (i := 4) sc__law_loose.nd rfl (by first | exact Or.inl rfl | exact Or.inr rfl))) (tg_nm 4) (by decide) (fun _ _ _ _ _ => dc_nil) (fun _ _ _ _ _ => (w_call ih hr_bad hr T.d31.m T.d31.k T.d31.b takes0 (a_cons (w_var 0) (a_cons (w_var 4) da_nil)) (by omega))) (sw_true rfl rfl rfl rfl))
    (ds_one (ds_ret (d_ite (t_eq hr rfl (w_call (ok_draw _ _ _ T.d27.F T.n_int) ψDraw_bad hr T.d27.m T.d27.k T.d27.b tk_def (a_cons (w_var 0) (a_cons w_int da_nil)) (by omega)) w_int) (w_var 2) (w_tuple rfl T.n_tuple (w_var 2)))))))))
theorem ok__law_loose (T : Tx F.K F.cls mg) : ∀ n : Nat, FnOk P w F.K mg base (L2.CX P w) (3 + n) T.a31 T.f31 ["stream", "thing"] (spF F 2 (ψ__law_loose n))
  | 0 => (fn_def (k := 2) (b := fun _ _ => .bad) T.d31.F sc__law_loose (by decide) (fun _ _ _ _ _ _ _ => dss_bad))
  | n + 1 => (st__law_loose T (n := n + 1) (ψ__law_loose_bad n) ((ok__law_loose T n).mono (by omega))).mono (by omega)
/-! _law_is_table -/
theorem sc__law_is_table : FnScope ["ends", "table", "lids", "boxes", "pair", "box", "at", "one"] ["ends", "table", "lids"] (defScope (top 33)) := ⟨rfl, rfl, rfl, by decide +kernel, rfl, by decide +kernel, by decide +kernel⟩
def b__law_is_table : Ga → Sd → Out DI.Flow := (sSeq (sIff (tOrF (tNotF (tOf (sOne (isiF [.list, .tuple]) (sVar 1)))) (tNotF (tOf (sOne (isiF [.list, .tuple]) (sVar 2))))) (sRet (sCon (.bl false))) (fun g s => .ok .nx g s))
    (sSeq (sIff (tNotF (tOf (sBi (biF .all) (lCons (sLc [4] (iSeqF (sVar 1)) (.nm 4) (fun g s => .ok true g s) (sAnd (sOne (isiF [.list, .tuple]) (sVar 4)) (sCmp .eq (sBi (biF .len) (lCons (sVar 4) lNil)) (sCon (.int 2))))) lNil)))) (sRet (sCon (.bl false))) (fun g s => .ok .nx g s))
    (sSeq (sAsg (.nm 3) (sTwo (binF .add) (sBiK sumF (aCons (sLc [4] (iSeqF (sVar 1)) (.nm 4) (fun g s => .ok true g s) (sBi (biF .list) (lCons (sVar 4) lNil))) (aCons (sLst aNil) aNil))) (sBi (biF .list) (lCons (sVar 2) lNil))))
    (sSeq (sIff (tNotF (tOf (sBi (biF .all) (lCons (sLc [5] (iSeqF (sVar 3)) (.nm 5) (fun g s => .ok true g s) (sCall (callG ψ__law_is_box) (aCons (sVar 0) (aCons (sVar 5) aNil)))) lNil)))) (sRet (sCon (.bl false))) (fun g s => .ok .nx g s))
    (sRet (sOne notF (sBi (biF .any) (lCons (sLc [6, 5] (iEnumF (sVar 3)) (.cons (.nm 6) (.cons (.nm 5) .nil)) (fun g s => .ok true g s) (sBi (biF .any) (lCons (sLc [7] (iSeqF (sSlc (sVar 3) oNone (pOf (sVar 6)))) (.nm 7) (fun g s => .ok true g s) (sCall (callG ψ__law_t_meet) (aCons (sVar 5) (aCons (sVar 7) aNil)))) lNil))) lNil))))))))
def ψ__law_is_table : List DI.D → Sd → FOut := fnOf 3 8 (b__law_is_table)
theorem ok__law_is_table (T : Tx F.K F.cls mg) : FnOk P w F.K mg base (L2.CX P w) 2 T.a33 T.f33 ["ends", "table", "lids"] (spF F 3 (ψ__law_is_table)) := fn_def T.d33.F sc__law_is_table (by decide) (
    fun cdv A outer s H E hr => (ds_cons (ds_if ((dw_or (dt_not (t_val (w_isiT [.list, .tuple] rfl T.n_isinstance (w_var 1) (tys_cons (ty_e .list T.n_list rfl) (tys_cons (ty_e .tuple T.n_tuple rfl) tys_nil))))) (dw_or1 (dt_not (t_val (w_isiT [.list, .tuple] rfl T.n_isinstance (w_var 2) (tys_cons (ty_e .list T.n_list rfl) (tys_cons (ty_e .tuple T.n_tuple rfl) tys_nil)))))))).pt (ds_one (ds_ret w_bl)) ds_nil)
    (ds_cons (ds_if (dt_not (t_val (w_all rfl T.n_all (w_lc [("pair", 4)] rfl sc__law_is_table.nd (di_seq rfl (w_var 1)) (blkOk_by (N := ["ends", "table", "lids", "boxes", "pair", "box", "at", "one"]) (sc := defScope (top 33)) (by decide +kernel)) (fun _ _ _ _ _ => (pg_name (i := 4) sc__law_is_table.nd rfl (by first | exact Or.inl rfl | exact Or.inr rfl))) (tg_nm 4) (by decide) (fun _ _ _ _ _ => dc_nil) (fun _ _ _ _ _ => (d_and (w_isiT [.list, .tuple] rfl T.n_isinstance (w_var 4) (tys_cons (ty_e .list T.n_list rfl) (tys_cons (ty_e .tuple T.n_tuple rfl) tys_nil))) (d_one (w_eq hr rfl (w_len rfl T.n_len (w_var 4)) w_int)))))))) (ds_one (ds_ret w_bl)) ds_nil)
    (ds_cons (x_set 3 sc__law_is_table.nd (w_add (w_sumL T.n_sum (a_cons (w_lc [("pair", 4)] rfl sc__law_is_table.nd (di_seq rfl (w_var 1)) (blkOk_by (N := ["ends", "table", "lids", "boxes", "pair", "box", "at", "one"]) (sc := defScope (top 33)) (by decide +kernel)) (fun _ _ _ _ _ => (pg_name (i := 4) sc__law_is_table.nd rfl (by first | exact Or.inl rfl | exact Or.inr rfl))) (tg_nm 4) (by decide) (fun _ _ _ _ _ => dc_nil) (fun _ _ _ _ _ => (w_list rfl T.n_list (w_var 4)))) (a_cons (d_lst da_nil) da_nil))) (w_list rfl T.n_list (w_var 2))))
    (ds_cons (ds_if (dt_not (t_val (w_all rfl T.n_all (w_lc [("box", 5)] rfl sc__law_is_table.nd (di_seq rfl (w_var 3)) (blkOk_by (N := ["ends", "table", "lids", "boxes", "pair", "box", "at", "one"]) (sc := defScope (top 33)) (by decide +kernel)) (fun _ _ _ _ _ => (pg_name (i := 5) sc__law_is_table.nd rfl (by first | exact Or.inl rfl | exact Or.inr rfl))) (tg_nm 5) (by decide) (fun _ _ _ _ _ => dc_nil) (fun _ _ _ _ _ => (w_call (ok__law_is_box T) fnOf_bad hr T.d32.m T.d32.k T.d32.b takes0 (a_cons (w_var 0) (a_cons (w_var 5) da_nil)) (by omega))))))) (ds_one (ds_ret w_bl)) ds_nil)
    (ds_one (ds_ret (d_not (w_any rfl T.n_any (w_lc [("at", 6), ("box", 5)] rfl sc__law_is_table.nd (di_enum rfl rfl T.n_enumerate (w_var 3) rfl) (blkOk_by (N := ["ends", "table", "lids", "boxes", "pair", "box", "at", "one"]) (sc := defScope (top 33)) (by decide +kernel)) (fun _ _ _ _ _ => (pg_tup rfl (pgs_cons (pg_name (i := 6) sc__law_is_table.nd rfl (by first | exact Or.inl rfl | exact Or.inr rfl)) (pgs_cons (pg_name (i := 5) sc__law_is_table.nd rfl (by first | exact Or.inl rfl | exact Or.inr rfl)) pgs_nil)))) (tg_tup (tgs_cons (tg_nm 6) (tgs_cons (tg_nm 5) tgs_nil)) rfl) (by decide) (fun _ _ _ _ _ => dc_nil) (fun _ _ _ _ _ => (w_any rfl T.n_any (w_lc [("one", 7)] rfl sc__law_is_table.nd (di_seq rfl (w_slc rfl (w_var 3) do_none (do_some (w_var 6)))) (blkOk_by (by rfl)) (fun _ _ _ _ _ => (pg_name (i := 7) sc__law_is_table.nd rfl (by first | exact Or.inl rfl | exact Or.inr rfl))) (tg_nm 7) (by decide) (fun _ _ _ _ _ => dc_nil) (fun _ _ _ _ _ => (w_call (ok__law_t_meet T) fnOf_bad hr T.d24.m T.d24.k T.d24.b takes0 (a_cons (w_var 5) (a_cons (w_var 7) da_nil)) (by omega))))))))))))))))
/-! _law_bent -/
theorem sc__law_bent : FnScope ["stream", "ends", "table", "lids", "road", "at", "side", "pair", "some"] ["stream", "ends", "table", "lids"] (defScope (top 35)) := ⟨rfl, rfl, rfl, by decide +kernel, rfl, by decide +kernel, by decide +kernel⟩
def b__law_bent : Ga → Sd → Out DI.Flow := (sSeq (sPar [4, 2, 3] (pCons (sCall (callG ψDraw) (aCons (sVar 0) (aCons (sCon (.int 8)) aNil))) (pCons (sBi (biF .list) (lCons (sVar 2) lNil)) (pCons (sBi (biF .list) (lCons (sVar 3) lNil)) lNil))))
    (sSeq (sIff (tAndF (tOf (sCmp .lt (sVar 4) (sCon (.int 3)))) (tOf (sCmp .ne (sVar 2) (sLst aNil)))) (sSeq (sPar [5, 6] (pCons (sCall (callG ψDraw) (aCons (sVar 0) (aCons (sBi (biF .len) (lCons (sVar 2) lNil)) aNil))) (pCons (sCall (callG ψDraw) (aCons (sVar 0) (aCons (sCon (.int 2)) aNil))) lNil)))
    (sSeq (sAsg (.nm 7) (sBi (biF .list) (lCons (sTwo (fun x y => (subF x y).map .fz) (sVar 2) (sVar 5)) lNil)))
    (sSeq (sSto 7 (sVar 6) (sCall (callG ψ__law_bent_box) (aCons (sVar 0) (aCons (sVar 1) (aCons (sTwo (fun x y => (subF x y).map .fz) (sVar 7) (sVar 6)) aNil)))))
    (sSto 2 (sVar 5) (sBi (biF .tuple) (lCons (sVar 7) lNil)))))) (sIff (tAndF (tOf (sCmp .lt (sVar 4) (sCon (.int 5)))) (tOf (sCmp .ne (sVar 3) (sLst aNil)))) (sSeq (sAsg (.nm 5) (sCall (callG ψDraw) (aCons (sVar 0) (aCons (sBi (biF .len) (lCons (sVar 3) lNil)) aNil))))
    (sSto 3 (sVar 5) (sCall (callG ψ__law_bent_box) (aCons (sVar 0) (aCons (sVar 1) (aCons (sTwo (fun x y => (subF x y).map .fz) (sVar 3) (sVar 5)) aNil)))))) (sIff (tAndF (tOf (sCmp .eq (sVar 4) (sCon (.int 5)))) (tOf (sCmp .ne (sVar 2) (sLst aNil)))) (sExp (sMth .append 3 (aCons (sTwo (fun x y => (subF x y).map .fz) (sCall (callG ψ__law_pick) (aCons (sVar 0) (aCons (sVar 2) aNil))) (sCon (.int 0))) aNil))) (sIff (tOf (sCmp .eq (sVar 4) (sCon (.int 6)))) (sSeq (sAsg (.nm 8) (sLst (aCons (sCon .non) (aCons (sTup aNil) (aCons (sLst aNil) (aCons (sCon (.int 5)) (aCons (sCon (.str "ab")) (aCons (sTup (aCons (sTup aNil) (aCons (sTup aNil) aNil))) (aCons (sTup (aCons (sCon (.dic [])) (aCons (sCon (.dic [])) aNil))) (aCons (sTup (aCons (sCon (.int 1)) aNil)) aNil))))))))))
    (sExp (sMth .insert 2 (aCons (sCall (callG ψDraw) (aCons (sVar 0) (aCons (sTwo (binF .add) (sBi (biF .len) (lCons (sVar 2) lNil)) (sCon (.int 1))) aNil))) (aCons (sCall (callG ψ__law_pick) (aCons (sVar 0) (aCons (sVar 8) aNil))) aNil))))) (sExp (sMth .insert 3 (aCons (sCall (callG ψDraw) (aCons (sVar 0) (aCons (sTwo (binF .add) (sBi (biF .len) (lCons (sVar 3) lNil)) (sCon (.int 1))) aNil))) (aCons (sCall (callG ψ__law_pick) (aCons (sVar 0) (aCons (sLst (aCons (sCon .non) (aCons (sTup aNil) (aCons (sCon (.int 5)) (aCons (sCon (.str "a")) (aCons (sCon (.dic [])) (aCons (sLst (aCons (sLst aNil) aNil)) (aCons (sTup (aCons (sCon (.int 1)) (aCons (sCon (.int 2)) (aCons (sCon (.int 3)) aNil)))) aNil)))))))) aNil))) aNil))))))))
    (sRet (sTup (aCons (sVar 2) (aCons (sVar 3) aNil))))))
def ψ__law_bent : List DI.D → Sd → FOut := fnOf 4 9 (b__law_bent)
theorem ok__law_bent (T : Tx F.K F.cls mg) : FnOk P w F.K mg base (L2.CX P w) 4 T.a35 T.f35 ["stream", "ends", "table", "lids"] (spF F 4 (ψ__law_bent)) := fn_def T.d35.F sc__law_bent (by decide) (
    fun cdv A outer s H E hr => (ds_cons (x_par3 4 2 3 sc__law_bent.nd (p_cons (w_call (ok_draw _ _ _ T.d27.F T.n_int) ψDraw_bad hr T.d27.m T.d27.k T.d27.b tk_def (a_cons (w_var 0) (a_cons w_int da_nil)) (by omega)) (p_cons (w_list rfl T.n_list (w_var 2)) (p_cons (w_list rfl T.n_list (w_var 3)) dp_nil))))
    (ds_cons (ds_if ((dw_and (t_lt (w_var 4) w_int) (dw_and1 (t_ne hr rfl (w_var 2) (d_lst da_nil))))).pt (ds_cons (x_par2 5 6 sc__law_bent.nd (p_cons (w_call (ok_draw _ _ _ T.d27.F T.n_int) ψDraw_bad hr T.d27.m T.d27.k T.d27.b tk_def (a_cons (w_var 0) (a_cons (w_len rfl T.n_len (w_var 2)) da_nil)) (by omega)) (p_cons (w_call (ok_draw _ _ _ T.d27.F T.n_int) ψDraw_bad hr T.d27.m T.d27.k T.d27.b tk_def (a_cons (w_var 0) (a_cons w_int da_nil)) (by omega)) dp_nil)))
    (ds_cons (x_set 7 sc__law_bent.nd (w_list rfl T.n_list (w_ix rfl (w_var 2) (w_var 5))))
    (ds_cons (x_sto 7 (w_call (ok__law_bent_box T) fnOf_bad hr T.d34.m T.d34.k T.d34.b tk_def (a_cons (w_var 0) (a_cons (w_var 1) (a_cons (w_ix rfl (w_var 7) (w_var 6)) da_nil))) (by omega)) (w_var 6))
    (ds_one (x_sto 2 (w_tuple rfl T.n_tuple (w_var 7)) (w_var 5)))))) (ds_one (ds_if ((dw_and (t_lt (w_var 4) w_int) (dw_and1 (t_ne hr rfl (w_var 3) (d_lst da_nil))))).pt (ds_cons (x_set 5 sc__law_bent.nd (w_call (ok_draw _ _ _ T.d27.F T.n_int) ψDraw_bad hr T.d27.m T.d27.k T.d27.b tk_def (a_cons (w_var 0) (a_cons (w_len rfl T.n_len (w_var 3)) da_nil)) (by omega)))
    (ds_one (x_sto 3 (w_call (ok__law_bent_box T) fnOf_bad hr T.d34.m T.d34.k T.d34.b tk_def (a_cons (w_var 0) (a_cons (w_var 1) (a_cons (w_ix rfl (w_var 3) (w_var 5)) da_nil))) (by omega)) (w_var 5)))) (ds_one (ds_if ((dw_and (t_eq hr rfl (w_var 4) w_int) (dw_and1 (t_ne hr rfl (w_var 2) (d_lst da_nil))))).pt (ds_one (x_exp (w_append 3 (a_cons (w_ix rfl (w_call (ok__law_pick T) fnOf_bad hr T.d28.m T.d28.k T.d28.b tk_def (a_cons (w_var 0) (a_cons (w_var 2) da_nil)) (by omega)) w_int) da_nil)))) (ds_one (ds_if (t_eq hr rfl (w_var 4) w_int) (ds_cons (x_set 8 sc__law_bent.nd (d_lst (a_cons w_non (a_cons (d_tup da_nil) (a_cons (d_lst da_nil) (a_cons w_int (a_cons w_str (a_cons (d_tup (a_cons (d_tup da_nil) (a_cons (d_tup da_nil) da_nil))) (a_cons (d_tup (a_cons w_dic0 (a_cons w_dic0 da_nil))) (a_cons (d_tup (a_cons w_int da_nil)) da_nil))))))))))
    (ds_one (x_exp (w_insert 2 (a_cons (w_call (ok_draw _ _ _ T.d27.F T.n_int) ψDraw_bad hr T.d27.m T.d27.k T.d27.b tk_def (a_cons (w_var 0) (a_cons (w_add (w_len rfl T.n_len (w_var 2)) w_int) da_nil)) (by omega)) (a_cons (w_call (ok__law_pick T) fnOf_bad hr T.d28.m T.d28.k T.d28.b tk_def (a_cons (w_var 0) (a_cons (w_var 8) da_nil)) (by omega)) da_nil)))))) (ds_one (x_exp (w_insert 3 (a_cons (w_call (ok_draw _ _ _ T.d27.F T.n_int) ψDraw_bad hr T.d27.m T.d27.k T.d27.b tk_def (a_cons (w_var 0) (a_cons (w_add (w_len rfl T.n_len (w_var 3)) w_int) da_nil)) (by omega)) (a_cons (w_call (ok__law_pick T) fnOf_bad hr T.d28.m T.d28.k T.d28.b tk_def (a_cons (w_var 0) (a_cons (d_lst (a_cons w_non (a_cons (d_tup da_nil) (a_cons w_int (a_cons w_str (a_cons w_dic0 (a_cons (d_lst (a_cons (d_lst da_nil) da_nil)) (a_cons (d_tup (a_cons w_int (a_cons w_int (a_cons w_int da_nil)))) da_nil)))))))) da_nil)) (by omega)) da_nil))))))))))))
    (ds_one (ds_ret (d_tup (a_cons (w_var 2) (a_cons (w_var 3) da_nil))))))))
/-! _law_right -/
theorem sc__law_right : FnScope ["stream", "ends", "table", "lids", "due", "passed", "was", "found"] ["stream", "ends", "table", "lids"] (defScope (top 36)) := ⟨rfl, rfl, rfl, by decide +kernel, rfl, by decide +kernel, by decide +kernel⟩
def b__law_right : Ga → Sd → Out DI.Flow := (sSeq (sAsg (.nm 4) (sCall (callG ψ__law_is_table) (aCons (sVar 1) (aCons (sVar 2) (aCons (sVar 3) aNil)))))
    (sSeq (sAsg (.nm 5) (sLst (aCons (sCall (callG (ψ__law_loose 8)) (aCons (sVar 0) (aCons (sVar 1) aNil))) (aCons (sCall (callG (ψ__law_loose 8)) (aCons (sVar 0) (aCons (sVar 2) aNil))) (aCons (sCall (callG (ψ__law_loose 8)) (aCons (sVar 0) (aCons (sVar 3) aNil))) aNil)))))
    (sSeq (sAsg (.nm 6) (sBiK reprF (aCons (sVar 5) aNil)))
    (sSeq (sAsg (.nm 7) (sLst (aCons (sCall (callG ψ_is_table) (aCons (sTwo (fun x y => (subF x y).map .fz) (sVar 5) (sCon (.int 0))) (aCons (sTwo (fun x y => (subF x y).map .fz) (sVar 5) (sCon (.int 1))) (aCons (sTwo (fun x y => (subF x y).map .fz) (sVar 5) (sCon (.int 2))) aNil)))) (aCons (sCall (fun ds => callG ψ_is_table (permL [2, 1, 0] ds)) (aCons (sTwo (fun x y => (subF x y).map .fz) (sVar 5) (sCon (.int 2))) (aCons (sTwo (fun x y => (subF x y).map .fz) (sVar 5) (sCon (.int 1))) (aCons (sTwo (fun x y => (subF x y).map .fz) (sVar 5) (sCon (.int 0))) aNil)))) aNil))))
    (sRet (sAnd (sCall (callG (ψ__law_same 8)) (aCons (sVar 7) (aCons (sLst (aCons (sVar 4) (aCons (sVar 4) aNil))) aNil))) (sCmp .eq (sBiK reprF (aCons (sVar 5) aNil)) (sVar 6))))))))
def ψ__law_right : List DI.D → Sd → FOut := fnOf 4 8 b__law_right
theorem ok__law_right (T : Tx F.K F.cls mg) : FnG P w F.K mg base (L2.CX P w) 12 T.a36 T.f36 ["stream", "ends", "table", "lids"] (spF F 4 ψ__law_right) := fn_defG T.d36.F sc__law_right (by decide) (
    fun cdv A outer s H E hr hgs => (ds_cons (x_set 4 sc__law_right.nd (w_call (ok__law_is_table T) fnOf_bad hr T.d33.m T.d33.k T.d33.b tk_def (a_cons (w_var 1) (a_cons (w_var 2) (a_cons (w_var 3) da_nil))) (by omega)))
    (ds_cons (x_set 5 sc__law_right.nd (d_lst (a_cons (w_call (ok__law_loose T 8) (ψ__law_loose_bad _) hr T.d31.m T.d31.k T.d31.b tk_def (a_cons (w_var 0) (a_cons (w_var 1) da_nil)) (by omega)) (a_cons (w_call (ok__law_loose T 8) (ψ__law_loose_bad _) hr T.d31.m T.d31.k T.d31.b tk_def (a_cons (w_var 0) (a_cons (w_var 2) da_nil)) (by omega)) (a_cons (w_call (ok__law_loose T 8) (ψ__law_loose_bad _) hr T.d31.m T.d31.k T.d31.b tk_def (a_cons (w_var 0) (a_cons (w_var 3) da_nil)) (by omega)) da_nil)))))
    (ds_cons (x_set 6 sc__law_right.nd (w_repr hr hgs rfl T.n_repr (a_cons (w_var 5) da_nil)))
    (ds_cons (x_set 7 sc__law_right.nd (d_lst (a_cons (w_call (ok_is_table T) fnOf_bad hr T.d20.m T.d20.k T.d20.b tk_def (a_cons (w_ix rfl (w_var 5) w_int) (a_cons (w_ix rfl (w_var 5) w_int) (a_cons (w_ix rfl (w_var 5) w_int) da_nil))) (by omega)) (a_cons (d_callK (pm := [2, 1, 0]) (ks := ["shut", "table", "ends"]) rfl (ok_is_table T) fnOf_bad (hr.mono (by omega)) rfl T.d20.m T.d20.k T.kb20 tk_def (dk_cons (w_ix rfl (w_var 5) w_int) (dk_cons (w_ix rfl (w_var 5) w_int) (dk_cons (w_ix rfl (w_var 5) w_int) dk_nil))) (by decide) rfl rfl rfl) da_nil))))
    (ds_one (ds_ret (d_and (w_call (ok__law_same T 8) (ψ__law_same_bad _) hr T.d30.m T.d30.k T.d30.b tk_def (a_cons (w_var 7) (a_cons (d_lst (a_cons (w_var 4) (a_cons (w_var 4) da_nil))) da_nil)) (by omega)) (d_one (w_eq hr rfl (w_repr hr hgs rfl T.n_repr (a_cons (w_var 5) da_nil)) (w_var 6)))))))))))
end
end K27
end
section
set_option Elab.async false
set_option linter.all false
set_option maxRecDepth 100000
set_option maxHeartbeats 4000000
/-! the spring made; the try -/
namespace K27
open PySem L2 DI
section
variable {P : Program} {w : World} {K : PySem.W.Frag} {mg : Str → Option Value} {base : Heap}
theorem sc_start : FnScope ["script"] ["script"] (defScope (top 26)) := ⟨rfl, rfl, rfl, by decide +kernel, rfl, by decide +kernel, by decide +kernel⟩
theorem ok_start {f : Addr} {fd : FuncData} (Fn : Fun K "_law_start" "_law_start" (top 26) f fd) (hl : mg "list" = none) : FnOk P w K mg base (L2.CX P w) 1 f fd ["script"] (spStart K) := by
  refine Fn.okX sc_start (fun vs H Q E h => ?_) (fun cdv A outer s H vs Q E hr h => ?_)
  · obtain ⟨a, ns, rfl, _⟩ := h
    rfl
  · obtain ⟨a, ns, rfl, hq, post⟩ := h
    refine ⟨_, pss_one (ps_ret (pe_lst (pa_cons (pe_callTy call_list_of (by rfl) hl PyProof.Rows.boot_list (pa_cons (pv 0) pa_nil)) (pa_cons pe_int (pa_cons pe_int (pa_cons pe_int pa_nil)))))), ?_⟩
    refine ⟨_, rfl, a, _, rfl, .inl hq, fun k hk => ⟨by show 4 ≤ sizeLine; decide, fun c hc => ?_⟩⟩
    have n : c ≠ k := fun z => by rw [z, upd_same] at hc; cases hc
    exact post _ c k ⟨n, upd_same, by rw [upd_ne n.symm, upd_same]⟩
end
section
variable {P : Program} {w : World} {mg : Str → Option Value} {base : Heap} {F : Fx}
theorem sc__law_refused : FnScope ["odd", "due", "e"] ["odd", "due"] (defScope (top 37)) := ⟨rfl, rfl, rfl, by decide +kernel, rfl, by decide +kernel, by decide +kernel⟩
def ψ__law_refused : List DI.D → Sd → FOut
  | [odd, .int j], s => match ψ_is_table [odd, .non, .non] s with
    | .ok (.bl _) _ s' => .ok (.bl false) false s'
    | .ex 1 (.int i) s' => .ok (.bl (i == j)) false s'
    | _ => .bad
  | _, _ => .bad
theorem ψ__law_refused_bad : ∀ ds s, ds.length ≠ 2 → ψ__law_refused ds s = .bad := fun ds s h => by
  rcases ds with _ | ⟨a, _ | ⟨b, _ | ⟨d, rest⟩⟩⟩
  · rfl
  · rfl
  · exact absurd rfl h
  · cases b <;> rfl
theorem ok__law_refused (T : Tx F.K F.cls mg) : FnOk P w F.K mg base (L2.CX P w) 7 T.a37 T.f37 ["odd", "due"] (spF F 2 ψ__law_refused) := by
  refine T.d37.F.okX sc__law_refused (fun vs H Q E h => h.1) (fun cdv A outer s H vs Q E hr h => ?_)
  have hu := hr.units
  refine ⟨_, pss_one (ps_try_as (i := 2) (tb := fun W => rdS F W (sRet (sCmp .eq (sCall (callG ψ_is_table) (aCons (sVar 0) (aCons (sCon .non) (aCons (sCon .non) aNil)))) (sCon (.str "refused")))))
    (ts := fun a cls d => tRet (tOp rEq (tXf a cls d T.C_BadEnds "index" (tVar 2)) (tVar 1))) (Wout := fun _ _ _ _ => False) rfl rfl sc__law_refused.nd rfl rfl ⟨rfl, by decide, Or.inl T.m_BadEnds⟩ takes0
    (fun W pn xe tk _ => ds_one (ds_ret (w_eq (k := 6) hr rfl (w_call (k := 6) (ok_is_table T) fnOf_bad hr T.d20.m T.d20.k T.d20.b tk (a_cons (w_var 0) (a_cons w_non (a_cons w_non da_nil))) (by omega)) w_str)))
    (fun a oe cls d pn hz hf => pss_one (ps_ret (pe_cmpR op_eq (pe_xf T.xf_BadEnds T.no_BadEnds hz hf (pv 2)) (pv 1) (nomark _))))), ?_⟩
  obtain ⟨hl, ds, sd, M0, m1, m2, al, st, r, post⟩ := h
  obtain ⟨odd, j, rfl⟩ : ∃ odd j, ds = [odd, .int j] := by
    rcases ds with _ | ⟨a, _ | ⟨b, _ | ⟨d, rest⟩⟩⟩
    · exact post.elim
    · exact post.elim
    · cases b <;> first
        | exact ⟨_, _, rfl⟩
        | exact post.elim
    · cases b <;> exact post.elim
  have E0 := start_en (N := ["odd", "due", "e"]) m1 m2 al st (by show 2 ≤ 3; decide) r
  refine ⟨⟨H, M0, m1, m2⟩, startG 3 [odd, .int j], sd, M0, E0, ?_⟩
  have ps : PostF F M0 H Q E (match ψ_is_table [odd, .non, .non] sd with
    | .ok (.bl _) _ s' => .ok (.bl false) false s'
    | .ex 1 (.int i) s' => .ok (.bl (i == j)) false s'
    | _ => .bad) := post
  have e1 : sRet (sCmp .eq (sCall (callG ψ_is_table) (aCons (sVar 0) (aCons (sCon .non) (aCons (sCon .non) aNil)))) (sCon (.str "refused"))) (startG 3 [odd, .int j]) sd = ((callG ψ_is_table [odd, .non, .non] (startG 3 [odd, .int j]) sd).settle.bind fun r g1 s1 => (Out.ok (.fz (.str "refused")) g1 s1).settle.bind fun r' g2 s2 => two (fun x y => (cmpF .eq x y).map fun k => .fz (.bl k)) g2 s2 (peek g2 r) (peek g2 r')).bind fun r g1 s1 => .ok (.ret r) g1 s1 := rfl
  rw [e1]
  unfold callG
  have fr : ∀ {σ' : St} {H' : Hp} {g' : Ga} {s' : Sd} {M' : Addr → Prop}, En (F := F) ⟨H, M0, m1, m2⟩ σ' H' g' s' M' → Frm F H H' := fun E' b o e n1 n2 => E'.fr b o e n1 n2
  cases o : ψ_is_table [odd, .non, .non] sd with
  | bad => rw [o] at ps; exact ps.elim
  | ok d fr' s' =>
    rw [o] at ps
    cases d with
    | bl b =>
      have e2 : (cmpF .eq (.bl b) (.str "refused")).map (fun k => Rs.fz (.bl k)) = some (.fz (.bl false)) := by
        have e3 : cmpF .eq (.bl b) (.str "refused") = some false := by cases b <;> (simp [cmpF, eqF, eqP, D.pd, SeqAt.shaped, PyData.canLay0, PyData.depth, PyData.eqv]; decide +kernel)
        rw [e3]; rfl
      have hgoal : PostS ⟨H, M0, m1, m2⟩ (wAs F.K (.ref T.C_BadEnds) 2 (fun a cls d => tRet (tOp rEq (tXf a cls d T.C_BadEnds "index" (tVar 2)) (tVar 1))) (fun _ _ _ _ => False) { nx := fun _ H' => Q .non H', rt := Q }) { nx := fun _ H' => Q .non H', rt := Q } H M0 ((optR ((cmpF .eq (.bl b) (.str "refused")).map (fun k => Rs.fz (.bl k))) (startG 3 [odd, .int j]) s').bind fun r g1 s1 => .ok (.ret r) g1 s1) := by
        rw [e2]
        intro v σ' H' M' E' _ rr
        have rr : Rp F.K F.c (hid H' M') v (.bl false) := rr
        cases rr
        exact ps _ _ (fr E') E'.stm (.bl false)
      cases fr' <;> exact hgoal
    | _ => cases fr' <;> exact ps.elim
  | ex c d s' =>
    rw [o] at ps
    intro cv dx σ' H' M' E' x' hx
    obtain ⟨C, fl, a, v, h1, h2, h3, h4, h5, h6⟩ := hx
    have ps2 : c = 1 ∧ ∃ i, d = .int i := by
      rcases c with _ | _ | c
      · exact ps.elim
      · cases d <;> first | exact ⟨rfl, _, rfl⟩ | exact ps.elim
      · exact ps.elim
    obtain ⟨rfl, i, rfl⟩ := ps2
    have h1 : F.cls 1 = some (C, fl) := h1
    rw [T.cl_BadEnds] at h1
    cases h1
    subst h2
    obtain ⟨w1, k1, k2⟩ := E'.fz 1 (.int j) rfl
    cases k2
    cases h6
    refine ⟨true, T.te_BadEnds, fun _ a' _ => ?_, fun z => absurd z (by decide)⟩
    refine ⟨.ref a', List.getElem?_set_self (by rw [E'.len]; show 2 < 3; decide), rfl, rfl, a, _, .int i, h3, h4, rfl, .int j, ?_, rfl, ?_⟩
    · rw [List.getElem?_set_ne (by decide)]; exact k1
    · have q := ps (.bl (i == j)) H' (fr E') E'.stm (.bl _)
      show Q (.bl (decide (V.int i = V.int j))) H'
      rw [dec_int]
      exact q
end
end K27
end
section
set_option Elab.async false
set_option linter.all false
set_option maxRecDepth 100000
set_option maxHeartbeats 4000000
namespace K27
open PySem L2 DI
section
variable {P : Program} {w : World} {mg : Str → Option Value} {base : Heap} {F : Fx}
/-! law -/
theorem sc_law : FnScope ["script", "stream", "turn", "ends", "table", "lids", "k", "some", "odds", "odd", "due"] ["script"] (defScope (top 38)) := ⟨rfl, rfl, rfl, by decide +kernel, rfl, by decide +kernel, by decide +kernel⟩
def b_law : Ga → Sd → Out DI.Flow := (sSeq (sFor (.nm 2) (iRngF rngF1 (aCons (sCon (.int 10)) aNil)) (sSeq (sAsg (.nm 3) (sCall (callG ψ__law_ends) (aCons (sVar 1) (aCons (sTwo (binF .add) (sCon (.int 1)) (sCall (callG ψDraw) (aCons (sVar 1) (aCons (sCon (.int 4)) aNil)))) aNil))))
    (sSeq (sAsg (.cons (.nm 4) (.cons (.nm 5) .nil)) (sCall (callG ψ__law_t_table) (aCons (sVar 1) (aCons (sVar 3) (aCons (sCall (callG ψDraw) (aCons (sVar 1) (aCons (sCon (.int 9)) aNil))) aNil)))))
    (sSeq (sIff (tOrF (tNotF (tOf (sCall (callG ψ__law_is_table) (aCons (sVar 3) (aCons (sVar 4) (aCons (sVar 5) aNil)))))) (tNotF (tOf (sCall (callG ψ__law_right) (aCons (sVar 1) (aCons (sVar 3) (aCons (sVar 4) (aCons (sVar 5) aNil)))))))) (sRet (sCon (.bl false))) (fun g s => .ok .nx g s))
    (sSeq (sFor (.nm 6) (iRngF rngF1 (aCons (sCon (.int 7)) aNil)) (sSeq (sAsg (.nm 7) (sCall (callG ψ__law_bent) (aCons (sVar 1) (aCons (sVar 3) (aCons (sVar 4) (aCons (sVar 5) aNil))))))
    (sIff (tNotF (tOf (sCall (callG ψ__law_right) (aCons (sVar 1) (aCons (sVar 3) (aCons (sTwo (fun x y => (subF x y).map .fz) (sVar 7) (sCon (.int 0))) (aCons (sTwo (fun x y => (subF x y).map .fz) (sVar 7) (sCon (.int 1))) aNil))))))) (sRet (sCon (.bl false))) (fun g s => .ok .nx g s))))
    (sSeq (sAsg (.nm 8) (sLst (aCons (sCon .non) (aCons (sCon (.int 5)) (aCons (sCon (.str "ab")) (aCons (sCon (.dic [])) (aCons (sLst aNil) (aCons (sTup aNil) (aCons (sCon (.bl true)) (aCons (sLst (aCons (sTup aNil) aNil)) (aCons (sLst (aCons (sCon .non) aNil)) (aCons (sLst (aCons (sLst aNil) aNil)) aNil))))))))))))
    (sIff (tNotF (tOf (sBi (biF .all) (lCons (sLc [9] (iSeqF (sVar 8)) (.nm 9) (fun g s => .ok true g s) (sAnd (sCall (callG ψ__law_right) (aCons (sVar 1) (aCons (sVar 3) (aCons (sVar 9) (aCons (sVar 5) aNil))))) (sCall (callG ψ__law_right) (aCons (sVar 1) (aCons (sVar 3) (aCons (sVar 4) (aCons (sVar 9) aNil))))))) lNil)))) (sRet (sCon (.bl false))) (fun g s => .ok .nx g s))))))))
    (sSeq (sAsg (.nm 8) (sLst (aCons (sTup (aCons (sCon .non) (aCons (sCon (.int 0)) aNil))) (aCons (sTup (aCons (sCon (.str "ab")) (aCons (sCon (.int 0)) aNil))) (aCons (sTup (aCons (sCon (.dic [])) (aCons (sCon (.int 0)) aNil))) (aCons (sTup (aCons (sLst (aCons (sCon (.str "a")) (aCons (sCon (.str "a")) aNil))) (aCons (sCon (.int 1)) aNil))) (aCons (sTup (aCons (sLst (aCons (sCon (.str "a")) (aCons (sCon (.int 5)) aNil))) (aCons (sCon (.int 1)) aNil))) (aCons (sTup (aCons (sLst (aCons (sCon (.str "x")) aNil)) (aCons (sCon (.int 0)) aNil))) (aCons (sTup (aCons (sLst (aCons (sCon (.str "a")) (aCons (sCon (.str "b")) (aCons (sCon (.str "stop")) aNil)))) (aCons (sCon (.int 2)) aNil))) aNil)))))))))
    (sSeq (sIff (tNotF (tOf (sBi (biF .all) (lCons (sLc [9, 10] (iSeqF (sVar 8)) (.cons (.nm 9) (.cons (.nm 10) .nil)) (fun g s => .ok true g s) (sCall (callG ψ__law_refused) (aCons (sVar 9) (aCons (sVar 10) aNil)))) lNil)))) (sRet (sCon (.bl false))) (fun g s => .ok .nx g s))
    (sRet (sCall (callG (ψ__law_same 8)) (aCons (sLst (aCons (sCall (callG ψ_is_table) (aCons (sLst aNil) (aCons (sLst aNil) (aCons (sLst aNil) aNil)))) (aCons (sCall (callG ψ_is_table) (aCons (sLst aNil) (aCons (sLst aNil) (aCons (sLst (aCons (sTup (aCons (sCon (.str "a")) (aCons (sLst aNil) (aCons (sLst aNil) aNil)))) aNil)) aNil)))) aNil))) (aCons (sLst (aCons (sCon (.bl true)) (aCons (sCon (.bl false)) aNil))) aNil)))))))
theorem dv_law (T : Tx F.K F.cls mg) {cdv : Value} {A : Around} {outer : List PySem.Env} {s : Shared} {H : Hp} {E : XK} (hr : Room 12 (A.deeper (PyProof.Rows.envOfC "law" (defScope (top 38)) s.heap.objs.size T.a38 cdv))) (hgs : A.guards = some []) : PSsd (cxOf (L2.CX P w) P w F.K mg base ["script", "stream", "turn", "ends", "table", "lids", "k", "some", "odds", "odd", "due"] "law" (defScope (top 38)) T.a38 cdv A outer s H E) F (fun c d _ H => E c d H) ((defBody (top 38)).drop 1) b_law := (
    (ds_cons (x_for hp_def rfl (di_rng1 rfl T.n_range (a_cons w_int da_nil) rfl ) (pg_name (i := 2) sc_law.nd rfl (by first | exact Or.inl rfl | exact Or.inr rfl)) (tg_nm 2) (ds_cons (x_set 3 sc_law.nd (w_call (ok__law_ends T) fnOf_bad hr T.d22.m T.d22.k T.d22.b tk_def (a_cons (w_var 1) (a_cons (w_add w_int (w_call (ok_draw _ _ _ T.d27.F T.n_int) ψDraw_bad hr T.d27.m T.d27.k T.d27.b tk_def (a_cons (w_var 1) (a_cons w_int da_nil)) (by omega))) da_nil)) (by omega)))
    (ds_cons (x_asg (w_call (ok__law_t_table T) fnOf_bad hr T.d25.m T.d25.k T.d25.b tk_def (a_cons (w_var 1) (a_cons (w_var 3) (a_cons (w_call (ok_draw _ _ _ T.d27.F T.n_int) ψDraw_bad hr T.d27.m T.d27.k T.d27.b tk_def (a_cons (w_var 1) (a_cons w_int da_nil)) (by omega)) da_nil))) (by omega)) (pg_tup rfl (pgs_cons (pg_name (i := 4) sc_law.nd rfl (by first | exact Or.inl rfl | exact Or.inr rfl)) (pgs_cons (pg_name (i := 5) sc_law.nd rfl (by first | exact Or.inl rfl | exact Or.inr rfl)) pgs_nil))) (tg_tup (tgs_cons (tg_nm 4) (tgs_cons (tg_nm 5) tgs_nil)) rfl))
    (ds_cons (ds_if ((dw_or (dt_not (t_val (w_call (ok__law_is_table T) fnOf_bad hr T.d33.m T.d33.k T.d33.b tk_def (a_cons (w_var 3) (a_cons (w_var 4) (a_cons (w_var 5) da_nil))) (by omega)))) (dw_or1 (dt_not (t_val (w_callG (ok__law_right T) fnOf_bad hr hgs T.d36.m T.d36.k T.d36.b tk_def (a_cons (w_var 1) (a_cons (w_var 3) (a_cons (w_var 4) (a_cons (w_var 5) da_nil)))) (by omega))))))).pt (ds_one (ds_ret w_bl)) ds_nil)
    (ds_cons (x_for hp_def rfl (di_rng1 rfl T.n_range (a_cons w_int da_nil) rfl ) (pg_name (i := 6) sc_law.nd rfl (by first | exact Or.inl rfl | exact Or.inr rfl)) (tg_nm 6) (ds_cons (x_set 7 sc_law.nd (w_call (ok__law_bent T) fnOf_bad hr T.d35.m T.d35.k T.d35.b tk_def (a_cons (w_var 1) (a_cons (w_var 3) (a_cons (w_var 4) (a_cons (w_var 5) da_nil)))) (by omega)))
    (ds_one (ds_if (dt_not (t_val (w_callG (ok__law_right T) fnOf_bad hr hgs T.d36.m T.d36.k T.d36.b tk_def (a_cons (w_var 1) (a_cons (w_var 3) (a_cons (w_ix rfl (w_var 7) w_int) (a_cons (w_ix rfl (w_var 7) w_int) da_nil)))) (by omega)))) (ds_one (ds_ret w_bl)) ds_nil))))
    (ds_cons (x_set 8 sc_law.nd (d_lst (a_cons w_non (a_cons w_int (a_cons w_str (a_cons w_dic0 (a_cons (d_lst da_nil) (a_cons (d_tup da_nil) (a_cons w_bl (a_cons (d_lst (a_cons (d_tup da_nil) da_nil)) (a_cons (d_lst (a_cons w_non da_nil)) (a_cons (d_lst (a_cons (d_lst da_nil) da_nil)) da_nil))))))))))))
    (ds_one (ds_if (dt_not (t_val (w_all rfl T.n_all (w_lc [("odd", 9)] rfl sc_law.nd (di_seq rfl (w_var 8)) (blkOk_by (N := ["script", "stream", "turn", "ends", "table", "lids", "k", "some", "odds", "odd", "due"]) (sc := defScope (top 38)) (by decide +kernel)) (fun _ _ _ _ _ => (pg_name (i := 9) sc_law.nd rfl (by first | exact Or.inl rfl | exact Or.inr rfl))) (tg_nm 9) (by decide) (fun _ _ _ _ _ => dc_nil) (fun _ _ _ _ _ => (d_and (w_callG (ok__law_right T) fnOf_bad hr hgs T.d36.m T.d36.k T.d36.b takes0 (a_cons (w_var 1) (a_cons (w_var 3) (a_cons (w_var 9) (a_cons (w_var 5) da_nil)))) (by omega)) (d_one (w_callG (ok__law_right T) fnOf_bad hr hgs T.d36.m T.d36.k T.d36.b takes0 (a_cons (w_var 1) (a_cons (w_var 3) (a_cons (w_var 4) (a_cons (w_var 9) da_nil)))) (by omega))))))))) (ds_one (ds_ret w_bl)) ds_nil))))))))
    (ds_cons (x_set 8 sc_law.nd (d_lst (a_cons (d_tup (a_cons w_non (a_cons w_int da_nil))) (a_cons (d_tup (a_cons w_str (a_cons w_int da_nil))) (a_cons (d_tup (a_cons w_dic0 (a_cons w_int da_nil))) (a_cons (d_tup (a_cons (d_lst (a_cons w_str (a_cons w_str da_nil))) (a_cons w_int da_nil))) (a_cons (d_tup (a_cons (d_lst (a_cons w_str (a_cons w_int da_nil))) (a_cons w_int da_nil))) (a_cons (d_tup (a_cons (d_lst (a_cons w_str da_nil)) (a_cons w_int da_nil))) (a_cons (d_tup (a_cons (d_lst (a_cons w_str (a_cons w_str (a_cons w_str da_nil)))) (a_cons w_int da_nil))) da_nil)))))))))
    (ds_cons (ds_if (dt_not (t_val (w_all rfl T.n_all (w_lc [("odd", 9), ("due", 10)] rfl sc_law.nd (di_seq rfl (w_var 8)) (blkOk_by (N := ["script", "stream", "turn", "ends", "table", "lids", "k", "some", "odds", "odd", "due"]) (sc := defScope (top 38)) (by decide +kernel)) (fun _ _ _ _ _ => (pg_tup rfl (pgs_cons (pg_name (i := 9) sc_law.nd rfl (by first | exact Or.inl rfl | exact Or.inr rfl)) (pgs_cons (pg_name (i := 10) sc_law.nd rfl (by first | exact Or.inl rfl | exact Or.inr rfl)) pgs_nil)))) (tg_tup (tgs_cons (tg_nm 9) (tgs_cons (tg_nm 10) tgs_nil)) rfl) (by decide) (fun _ _ _ _ _ => dc_nil) (fun _ _ _ _ _ => (w_call (ok__law_refused T) ψ__law_refused_bad hr T.d37.m T.d37.k T.d37.b takes0 (a_cons (w_var 9) (a_cons (w_var 10) da_nil)) (by omega))))))) (ds_one (ds_ret w_bl)) ds_nil)
    (ds_one (ds_ret (w_call (ok__law_same T 8) (ψ__law_same_bad _) hr T.d30.m T.d30.k T.d30.b tk_def (a_cons (d_lst (a_cons (w_call (ok_is_table T) fnOf_bad hr T.d20.m T.d20.k T.d20.b tk_def (a_cons (d_lst da_nil) (a_cons (d_lst da_nil) (a_cons (d_lst da_nil) da_nil))) (by omega)) (a_cons (w_call (ok_is_table T) fnOf_bad hr T.d20.m T.d20.k T.d20.b tk_def (a_cons (d_lst da_nil) (a_cons (d_lst da_nil) (a_cons (d_lst (a_cons (d_tup (a_cons w_str (a_cons (d_lst da_nil) (a_cons (d_lst da_nil) da_nil)))) da_nil)) da_nil))) (by omega)) da_nil))) (a_cons (d_lst (a_cons w_bl (a_cons w_bl da_nil))) da_nil)) (by omega))))))))
end
end K27
end
section
set_option Elab.async false
set_option linter.all false
set_option maxRecDepth 100000
set_option maxHeartbeats 4000000
/-! the law's own def -/
namespace K27
open PySem L2 DI
section
variable {P : Program} {w : World} {K : PySem.W.Frag} {mg : Str → Option Value} {base : Heap} {cls : Nat → Option (Addr × Str)}
/-- the law's names at the start: the spring alone -/
def g0 : Ga := [.un, .fz .strm, .un, .un, .un, .un, .un, .un, .un, .un, .un]
theorem ok_law (T : Tx K cls mg) (law : ∀ ns : List Int, ns.length ≤ 63 → ∃ g' s', b_law g0 ⟨ns, 0, 0, 19⟩ = .ok (.ret (.fz (.bl true))) g' s') : FnG P w K mg base (L2.CX P w) 13 T.a38 T.f38 ["script"] (spLaw K) := by
  obtain ⟨oc, od, kV, doc, pm, an, cdv, ct, osl, e, lk, hcd⟩ := T.d38.F.ex
  rw [e] at lk ⊢
  refine fnG_of (k := 12) lk hcd sc_law (fun vs H Q E h => ?_) fun A outer s H vs Q E hr hgs h => ?_
  · obtain ⟨a, ns, rfl, _⟩ := h
    rfl
  · obtain ⟨a, ns, rfl, hq, hl, post⟩ := h
    refine ⟨_, pss_cons (ps_set (i := 1) sc_law.nd rfl (by first | exact Or.inl rfl | exact Or.inr rfl) (pe_callS (ok_start T.d26.F T.n_list) (hr.mono (by decide)) rfl T.d26.m T.d26.k T.d26.b (passAt tk_def) (pa_cons (pv 0) pa_nil)))
      (pss_ex (ι := Addr × Addr) (t := fun ck => rdS ⟨K, ck.1, ck.2, cls⟩ (fun c d _ H => E c d H) b_law) fun ck => dv_law (F := ⟨K, ck.1, ck.2, cls⟩) T hr hgs), ?_⟩
    refine ⟨_, rfl, a, ns, rfl, hq, fun H' c k st => ⟨(c, k), ?_⟩⟩
    obtain ⟨g', s', hb⟩ := law ns hl
    have E0 : En (F := ⟨K, c, k, cls⟩) ⟨H', fun b => b = c ∨ b = k, .inl rfl, .inr rfl⟩ ((L2.start ["script", "stream", "turn", "ends", "table", "lids", "k", "some", "odds", "odd", "due"] [V.ref a]).set 1 (some (.ref c))) H' g0 ⟨ns, 0, 0, 19⟩ (fun b => b = c ∨ b = k) := by
      refine ⟨rfl, fun i d e => ?_, fun i xs e => ?_, fun i j a xs ys _ e _ _ _ => ?_, st, fun _ m => m, fun b m z => ?_, fun b o e _ _ => e, fun a m n => absurd m n⟩
      · have q : i = 1 ∧ d = .strm := by
          rcases i with _ | _ | _ | _ | _ | _ | _ | _ | _ | _ | _ | i <;> simp [g0] at e
          exact ⟨rfl, e.symm⟩
        obtain ⟨rfl, rfl⟩ := q
        exact ⟨.ref c, rfl, .strm⟩
      · rcases i with _ | _ | _ | _ | _ | _ | _ | _ | _ | _ | _ | i <;> simp [g0] at e
      · rcases i with _ | _ | _ | _ | _ | _ | _ | _ | _ | _ | _ | i <;> simp [g0] at e
      · rcases m with rfl | rfl
        · rw [st.2.1] at z; cases z
        · rw [st.2.2] at z; cases z
    refine ⟨_, g0, _, _, E0, ?_⟩
    rw [hb]
    intro v σ' H2 M' E' _ rr
    have rr : Rp K c (hid H2 M') v (.bl true) := rr
    cases rr
    exact post H2
end
end K27
end
section
set_option Elab.async false
set_option linter.all false
set_option maxRecDepth 100000
set_option maxHeartbeats 4000000
/-! PM0: how the combinators are evaluated. -/
namespace DI
open PySem L2
section
variable {g g' : Ga} {s s' : Sd} {i : Nat} {d : D} {xs ys : List D} {f fa fb : Ga → Sd → Out Rs} {ta tb : Ga → Sd → Out Bool} {u v : Ga → Sd → Out DI.Flow}
@[simp] theorem bind_ok {α β : Type} (a : α) (k : α → Ga → Sd → Out β) : (Out.ok a g s).bind k = k a g s := rfl
@[simp] theorem bind_ex {α β : Type} (c : Nat) (k : α → Ga → Sd → Out β) : (Out.ex c d g s).bind k = .ex c d g s := rfl
@[simp] theorem settle_fz (d : D) : (Out.ok (Rs.fz d) g s).settle = .ok (.fz d) g s := rfl
@[simp] theorem settle_nw (xs : List D) : (Out.ok (Rs.nw xs) g s).settle = .ok (.fz (.lst xs)) g s := rfl
@[simp] theorem settle_sl (i : Nat) : (Out.ok (Rs.sl i) g s).settle = .ok (.sl i) g s := rfl
@[simp] theorem settle_ex (c : Nat) : (Out.ex c d g s : Out Rs).settle = .ex c d g s := rfl
@[simp] theorem keep_fz (d : D) : (Out.ok (Rs.fz d) g s).keep = .ok d g s := rfl
@[simp] theorem keep_nw (xs : List D) : (Out.ok (Rs.nw xs) g s).keep = .ok (.lst xs) g s := rfl
@[simp] theorem keep_sl (i : Nat) : (Out.ok (Rs.sl i) g s).keep = kept s (keepS g i g[i]?) := rfl
@[simp] theorem keep_ex (c : Nat) : (Out.ex c d g s : Out Rs).keep = .ex c d g s := rfl
@[simp] theorem peek_fz (d : D) : peek g (.fz d) = some d := rfl
@[simp] theorem peek_nw (xs : List D) : peek g (.nw xs) = some (.lst xs) := rfl
@[simp] theorem peek_sl (i : Nat) : peek g (.sl i) = peekS g[i]? := rfl
@[simp] theorem peekS_fz (d : D) : peekS (some (.fz d)) = some d := rfl
@[simp] theorem peekS_ow (xs : List D) : peekS (some (.ow xs)) = some (.lst xs) := rfl
@[simp] theorem peeks_nil : peeks g [] = some [] := rfl
theorem peeks_cons {r : Rs} {rs : List Rs} {ds : List D} (h : peek g r = some d) (h2 : peeks g rs = some ds) : peeks g (r :: rs) = some (d :: ds) := by
  show (match peek g r, peeks g rs with | some d, some ds => some (d :: ds) | _, _ => none) = _
  rw [h, h2]
@[simp] theorem keepS_ow (xs : List D) : keepS g i (some (.ow xs)) = some (.lst xs, g.set i (.fz (.lst xs))) := rfl
@[simp] theorem keepS_fz (d : D) : keepS g i (some (.fz d)) = some (d, g) := rfl
@[simp] theorem kept_some : kept s (some (d, g)) = .ok d g s := rfl
@[simp] theorem e_var : sVar i g s = sVarS i g s g[i]? := rfl
@[simp] theorem e_varfz : sVarS i g s (some (.fz d)) = .ok (.fz d) g s := rfl
@[simp] theorem e_varow : sVarS i g s (some (.ow xs)) = .ok (.sl i) g s := rfl
@[simp] theorem e_con : sCon d g s = .ok (.fz d) g s := rfl
@[simp] theorem e_two (fn : D → D → Option Rs) : sTwo fn fa fb g s = (fa g s).settle.bind fun r g1 s1 => (fb g1 s1).settle.bind fun r' g2 s2 => two fn g2 s2 (peek g2 r) (peek g2 r') := rfl
@[simp] theorem e_two2 (fn : D → D → Option Rs) (x y : D) : two fn g s (some x) (some y) = optR (fn x y) g s := rfl
@[simp] theorem e_one (fn : D → Option Rs) : sOne fn fa g s = (fa g s).settle.bind fun r g1 s1 => one fn g1 s1 (peek g1 r) := rfl
@[simp] theorem e_one2 {α : Type} (fn : α → Option Rs) (x : α) : one fn g s (some x) = optR (fn x) g s := rfl
@[simp] theorem optR_some (r : Rs) : optR (some r) g s = .ok r g s := rfl
@[simp] theorem optD_some {α : Type} (r : α) : optD (some r) g s = .ok r g s := rfl
@[simp] theorem e_and : sAnd fa fb g s = (fa g s).bind fun r g1 s1 => match r with | .fz (.bl true) => fb g1 s1 | .fz (.bl false) => .ok (.fz (.bl false)) g1 s1 | _ => .bad := rfl
@[simp] theorem e_or : sOr fa fb g s = (fa g s).bind fun r g1 s1 => match r with | .fz (.bl true) => .ok (.fz (.bl true)) g1 s1 | .fz (.bl false) => fb g1 s1 | _ => .bad := rfl
@[simp] theorem e_tand : tAndF ta tb g s = (ta g s).bind fun k g1 s1 => match k with | true => tb g1 s1 | false => .ok false g1 s1 := rfl
@[simp] theorem e_tor : tOrF ta tb g s = (ta g s).bind fun k g1 s1 => match k with | true => .ok true g1 s1 | false => tb g1 s1 := rfl
@[simp] theorem e_tnot : tNotF ta g s = (ta g s).bind fun k g1 s1 => .ok (!k) g1 s1 := rfl
@[simp] theorem e_tof : tOf f g s = (f g s).bind fun r g1 s1 => match r with | .fz (.bl k) => .ok k g1 s1 | _ => .bad := rfl
@[simp] theorem e_pof : pOf f g s = (f g s).bind fun r g1 s1 => match r with | .fz (.int i) => .ok (some i) g1 s1 | _ => .bad := rfl
@[simp] theorem e_ite : sIte ta fa fb g s = (ta g s).bind fun k g1 s1 => match k with | true => fa g1 s1 | false => fb g1 s1 := rfl
@[simp] theorem e_call (h : List D → Ga → Sd → Out Rs) (as : Ga → Sd → Out (List D)) : sCall h as g s = (as g s).bind h := rfl
@[simp] theorem e_bi (h : List D → Option Rs) (as : Ga → Sd → Out (List Rs)) : sBi h as g s = (as g s).bind fun rs g1 s1 => one h g1 s1 (peeks g1 rs) := rfl
@[simp] theorem e_slc (lo hi : Ga → Sd → Out (Option Int)) : sSlc fa lo hi g s = (fa g s).settle.bind fun r g1 s1 => (lo g1 s1).bind fun l g2 s2 => (hi g2 s2).bind fun h g3 s3 => one (fun x => slcF x l h) g3 s3 (peek g3 r) := rfl
@[simp] theorem e_lst (as : Ga → Sd → Out (List D)) : sLst as g s = (as g s).bind fun ds g1 s1 => if lineOk ds.length then .ok (.nw ds) g1 s1 else .bad := rfl
@[simp] theorem e_tup (as : Ga → Sd → Out (List D)) : sTup as g s = (as g s).bind fun ds g1 s1 => if lineOk ds.length then .ok (.fz (.tup ds)) g1 s1 else .bad := rfl
@[simp] theorem e_acons (as : Ga → Sd → Out (List D)) : aCons f as g s = (f g s).keep.bind fun d g1 s1 => (as g1 s1).bind fun ds g2 s2 => .ok (d :: ds) g2 s2 := rfl
@[simp] theorem e_anil : aNil g s = .ok [] g s := rfl
@[simp] theorem e_lcons (as : Ga → Sd → Out (List Rs)) : lCons f as g s = (f g s).settle.bind fun r g1 s1 => (as g1 s1).bind fun rs g2 s2 => .ok (r :: rs) g2 s2 := rfl
@[simp] theorem e_lnil : lNil g s = .ok [] g s := rfl
@[simp] theorem e_onone : oNone g s = .ok none g s := rfl
@[simp] theorem e_ret : sRet f g s = (f g s).bind fun r g1 s1 => .ok (.ret r) g1 s1 := rfl
@[simp] theorem e_exp : sExp f g s = (f g s).settle.bind fun _ g1 s1 => .ok .nx g1 s1 := rfl
@[simp] theorem e_iff : sIff ta u v g s = (ta g s).bind fun k g1 s1 => match k with | true => u g1 s1 | false => v g1 s1 := rfl
@[simp] theorem e_seq : sSeq u v g s = (u g s).bind fun f g1 s1 => match f with | .nx => v g1 s1 | f => .ok f g1 s1 := rfl
@[simp] theorem e_asg (t : Tg) : sAsg t f g s = (f g s).bind fun r g1 s1 => asgTo t r g1 s1 := rfl
@[simp] theorem asg_fz (d : D) : asgTo (.nm i) (.fz d) g s = if i < g.length then .ok .nx (g.set i (.fz d)) s else .bad := by
  show (match (if i < g.length then some (g.set i (.fz d)) else none) with | some g2 => (Out.ok DI.Flow.nx g2 s) | none => .bad) = _
  by_cases h : i < g.length
  · rw [if_pos h, if_pos h]
  · rw [if_neg h, if_neg h]
@[simp] theorem asg_nw (xs : List D) : asgTo (.nm i) (.nw xs) g s = if i < g.length then .ok .nx (g.set i (.ow xs)) s else .bad := rfl
@[simp] theorem e_for (t : Tg) (it : Ga → Sd → Out (List D)) : sFor t it u g s = (it g s).bind fun xs g1 s1 => forL (forTurn t u) xs g1 s1 := rfl
@[simp] theorem e_iseq : iSeqF f g s = (f g s).keep.bind fun d g1 s1 => optD (itemsOf d) g1 s1 := rfl
@[simp] theorem e_irng (fn : List D → Option (List D)) (as : Ga → Sd → Out (List D)) : iRngF fn as g s = (as g s).bind fun ds g1 s1 => optD (fn ds) g1 s1 := rfl
@[simp] theorem e_ienum : iEnumF f g s = (f g s).keep.bind fun d g1 s1 => optD (d.seq.map (enumD 0)) g1 s1 := rfl
@[simp] theorem e_izip (as : Ga → Sd → Out (List D)) : iZipF as g s = (as g s).bind fun ds g1 s1 => optD (zipF ds) g1 s1 := rfl
@[simp] theorem items_lst (xs : List D) : itemsOf (.lst xs) = some xs := rfl
@[simp] theorem items_tup (xs : List D) : itemsOf (.tup xs) = some xs := rfl
@[simp] theorem seq_lst (xs : List D) : D.seq (.lst xs) = some xs := rfl
@[simp] theorem seq_tup (xs : List D) : D.seq (.tup xs) = some xs := rfl
@[simp] theorem zipF_lst (xs ys : List D) : zipF [.lst xs, .lst ys] = some (zipD xs ys) := rfl
@[simp] theorem e_lc (own : List Nat) (it : Ga → Sd → Out (List D)) (t : Tg) (c : Ga → Sd → Out Bool) : sLc own it t c f g s = (it g s).bind fun xs g1 s1 => (lcL (lcTurn own t c f) xs [] (wipeG g1 own) s1).bind fun ds g2 s2 => .ok (.nw ds) g2 s2 := rfl
@[simp] theorem fin_ret (r : Rs) : finish (.ok (.ret r) g s) = finS g s r := rfl
@[simp] theorem fin_fz (d : D) : finS g s (.fz d) = .ok d false s := rfl
@[simp] theorem fin_nw (xs : List D) : finS g s (.nw xs) = .ok (.lst xs) true s := rfl
@[simp] theorem fin_ex (c : Nat) : finish (.ex c d g s) = .ex c d s := rfl
@[simp] theorem callG_ok {ψ : List D → Sd → FOut} {ds : List D} (h : ψ ds s = .ok d false s') : callG ψ ds g s = .ok (.fz d) g s' := by
  unfold callG; rw [h]; cases d <;> rfl
theorem callG_lst {ψ : List D → Sd → FOut} {ds : List D} (h : ψ ds s = .ok (.lst xs) true s') : callG ψ ds g s = .ok (.nw xs) g s' := by
  unfold callG; rw [h]
theorem callG_ex {ψ : List D → Sd → FOut} {ds : List D} {c : Nat} (h : ψ ds s = .ex c d s') : callG ψ ds g s = .ex c d g s' := by
  unfold callG; rw [h]
theorem fn1 {m : Nat} {b : Ga → Sd → Out DI.Flow} {x : D} : fnOf 1 m b [x] s = finish (b (startG m [x]) s) := rfl
theorem fn2 {m : Nat} {b : Ga → Sd → Out DI.Flow} {x y : D} : fnOf 2 m b [x, y] s = finish (b (startG m [x, y]) s) := rfl
theorem fn3 {m : Nat} {b : Ga → Sd → Out DI.Flow} {x y z : D} : fnOf 3 m b [x, y, z] s = finish (b (startG m [x, y, z]) s) := rfl
theorem fn4 {m : Nat} {b : Ga → Sd → Out DI.Flow} {x y z w : D} : fnOf 4 m b [x, y, z, w] s = finish (b (startG m [x, y, z, w]) s) := rfl
theorem fn_eq {n m : Nat} {b : Ga → Sd → Out DI.Flow} {ds : List D} (h : ds.length = n) : fnOf n m b ds s = finish (b (startG m ds) s) := by
  unfold fnOf; rw [if_pos h]
theorem e_mth {m : Mt} {as : Ga → Sd → Out (List D)} {xs0 ds : List D} {g1 : Ga} {s1 : Sd} (h0 : g[i]? = some (.ow xs0)) (h1 : as g s = .ok ds g1 s1) (h2 : g1[i]? = some (.ow xs)) (h3 : mtF m xs ds = some (d, ys)) : sMth m i as g s = .ok (.fz d) (g1.set i (.ow ys)) s1 := by
  unfold sMth
  rw [h0]
  show (as g s).bind _ = _
  rw [h1]
  show (match g1[i]? with | some (.ow xs) => (match mtF m xs ds with | some (d, ys) => (Out.ok (Rs.fz d) (g1.set i (.ow ys)) s1 : Out Rs) | none => .bad) | _ => .bad) = _
  rw [h2]
  show (match mtF m xs ds with | some (d, ys) => (Out.ok (Rs.fz d) (g1.set i (.ow ys)) s1 : Out Rs) | none => .bad) = _
  rw [h3]
theorem lc_map {F : D → Ga → Sd → Out (Option D)} {h : D → D} {g : Ga} {s : Sd} : ∀ (xs acc : List D), (∀ x ∈ xs, F x g s = .ok (some (h x)) g s) → acc.length + xs.length ≤ sizeLine → lcL F xs acc g s = .ok (acc ++ xs.map h) g s
  | [], acc, _, _ => by simp [lcL]
  | x :: xs, acc, hx, hl => by
    have e := hx x List.mem_cons_self
    have hl' : acc.length < sizeLine := by simp at hl; omega
    unfold lcL
    rw [e]
    show (if acc.length < sizeLine then lcL F xs (acc ++ [h x]) g s else .bad) = _
    rw [if_pos hl', lc_map xs (acc ++ [h x]) (fun y hy => hx y (List.mem_cons_of_mem _ hy)) (by simp at hl ⊢; omega)]
    simp
theorem bools_map (p : D → Bool) : ∀ xs : List D, bools (xs.map fun x => .bl (p x)) = some (xs.map p)
  | [] => rfl
  | x :: xs => by
    show (bools (xs.map fun x => .bl (p x))).map (p x :: ·) = _
    rw [bools_map p xs]; rfl
theorem all_map (p : D → Bool) (xs : List D) : biF .all [.lst (xs.map fun x => .bl (p x))] = some (.fz (.bl (xs.all p))) := by
  show (bools (xs.map fun x => .bl (p x))).map (fun bs => Rs.fz (.bl (bs.all id))) = _
  rw [bools_map]
  show some (Rs.fz (.bl ((xs.map p).all id))) = _
  rw [List.all_map]; rfl
theorem any_map (p : D → Bool) (xs : List D) : biF .any [.lst (xs.map fun x => .bl (p x))] = some (.fz (.bl (xs.any p))) := by
  show (bools (xs.map fun x => .bl (p x))).map (fun bs => Rs.fz (.bl (bs.any id))) = _
  rw [bools_map]
  show some (Rs.fz (.bl ((xs.map p).any id))) = _
  rw [List.any_map]; rfl
end
end DI
end
section
set_option Elab.async false
set_option linter.all false
set_option maxRecDepth 100000
set_option maxHeartbeats 4000000
/-! PM1: what the small defs answer. -/
namespace K27
open PySem L2 DI
/-- data: no spring within -/
def noS : D → Bool
  | .strm => false
  | _ => true
def isInt : D → Bool
  | .int _ => true
  | _ => false
def isBit : D → Bool
  | .int i => i == 0 || i == 1
  | _ => false
theorem isi_of (tys : List Ty) {d : D} (h : noS d = true) : isiF tys d = some (.fz (.bl (tys.any fun t => D.isTy t d))) := by
  cases d <;> first | rfl | cases h
theorem s_is_integer {d : D} {s : Sd} (h : noS d = true) : ψ_is_integer [d] s = .ok (.bl (isInt d)) false s := by
  unfold ψ_is_integer
  rw [fn1]
  cases d with
  | strm => cases h
  | _ => rfl
/-- rows by their items -/
def rowB (d : D) : Bool := match d.seq with
  | some xs => xs.all isBit
  | none => false
theorem line_small {n : Nat} (h : n ≤ 1000) : lineOk n = true := by
  unfold lineOk
  rw [decide_eq_true_eq]
  exact Nat.le_trans h (by decide)
theorem turn_bit {x : D} {d0 : D} {s : Sd} (h : noS x = true) : lcTurn [1] (.nm 1) (fun g s => .ok true g s) (sAnd (sCall (callG ψ_is_integer) (aCons (sVar 1) aNil)) (sCmp .isIn (sVar 1) (sTup (aCons (sCon (.int 0)) (aCons (sCon (.int 1)) aNil))))) x [.fz d0, .un] s = .ok (some (.bl (isBit x))) [.fz d0, .un] s := by
  unfold lcTurn
  simp [bindT, bnd]
  rw [callG_ok (s_is_integer h)]
  cases x with
  | int i =>
    simp [isInt, isBit, line_small, cmpF, inF, flatD, eqD, wipeG]
    rw [Bool.beq_comm (a := 0), Bool.beq_comm (a := 1)]
  | strm => cases h
  | _ => simp [isInt, isBit, wipeG]
theorem s_is_row {d : D} {s : Sd} (h : noS d = true) (hx : ∀ xs, d.seq = some xs → xs.length ≤ sizeLine ∧ ∀ x ∈ xs, noS x = true) : ψ_is_row [d] s = .ok (.bl (rowB d)) false s := by
  unfold ψ_is_row
  rw [fn1]
  have go : ∀ xs : List D, itemsOf d = some xs → (∀ x ∈ xs, noS x = true) → xs.length ≤ sizeLine → isiF [.list, .tuple] d = some (.fz (.bl true)) → rowB d = xs.all isBit → DI.finish (b_is_row (startG 2 [d]) s) = .ok (.bl (rowB d)) false s := by
    intro xs e1 e2 e3 e4 e5
    have lc := lc_map (F := lcTurn [1] (.nm 1) (fun g s => .ok true g s) (sAnd (sCall (callG ψ_is_integer) (aCons (sVar 1) aNil)) (sCmp .isIn (sVar 1) (sTup (aCons (sCon (.int 0)) (aCons (sCon (.int 1)) aNil)))))) (h := fun x => .bl (isBit x)) (g := [.fz d, .un]) (s := s) xs [] (fun x hx => turn_bit (e2 x hx)) (by simpa using e3)
    simp [b_is_row, startG, e4, e1, wipeG, lc, peeks, all_map, e5]
  cases d with
  | strm => cases h
  | lst xs => exact go xs rfl (hx xs rfl).2 (hx xs rfl).1 rfl rfl
  | tup xs => exact go xs rfl (hx xs rfl).2 (hx xs rfl).1 rfl rfl
  | _ => simp [b_is_row, startG, isiF, D.isTy, rowB, D.seq]
end K27
end
section
set_option Elab.async false
set_option linter.all false
set_option maxRecDepth 100000
set_option maxHeartbeats 4000000
/-! PM2: boxes. -/
namespace K27
open PySem L2 DI
mutual
/-- data that is met: short, its texts whole, no dict but an empty one -/
def okD : D → Bool
  | .str x => PyData.strOk x
  | .lst xs => decide (xs.length ≤ 1000) && okDs xs
  | .tup xs => decide (xs.length ≤ 1000) && okDs xs
  | .dic [] => true
  | .dic _ => false
  | .strm => false
  | _ => true
def okDs : List D → Bool
  | [] => true
  | x :: xs => okD x && okDs xs
end
theorem okDs_mem : ∀ {xs : List D}, okDs xs = true → ∀ x ∈ xs, okD x = true
  | [], _, x, hx => by cases hx
  | y :: ys, h, x, hx => by
    have h : (okD y && okDs ys) = true := h
    rw [Bool.and_eq_true] at h
    rcases List.mem_cons.mp hx with rfl | hx
    · exact h.1
    · exact okDs_mem h.2 x hx
theorem okDs_of : ∀ {xs : List D}, (∀ x ∈ xs, okD x = true) → okDs xs = true
  | [], _ => rfl
  | y :: ys, h => by
    show (okD y && okDs ys) = true
    rw [h y List.mem_cons_self, okDs_of fun x hx => h x (List.mem_cons_of_mem _ hx)]
    rfl
theorem ok_lst {xs : List D} (h : okD (.lst xs) = true) : xs.length ≤ 1000 ∧ ∀ x ∈ xs, okD x = true := by
  have h : (decide (xs.length ≤ 1000) && okDs xs) = true := h
  rw [Bool.and_eq_true, decide_eq_true_eq] at h
  exact ⟨h.1, okDs_mem h.2⟩
theorem ok_tup {xs : List D} (h : okD (.tup xs) = true) : xs.length ≤ 1000 ∧ ∀ x ∈ xs, okD x = true := by
  have h : (decide (xs.length ≤ 1000) && okDs xs) = true := h
  rw [Bool.and_eq_true, decide_eq_true_eq] at h
  exact ⟨h.1, okDs_mem h.2⟩
theorem ok_seq {d : D} {xs : List D} (h : okD d = true) (e : d.seq = some xs) : xs.length ≤ 1000 ∧ ∀ x ∈ xs, okD x = true := by
  cases d with
  | lst ys => cases e; exact ok_lst h
  | tup ys => cases e; exact ok_tup h
  | _ => cases e
theorem ok_noS {d : D} (h : okD d = true) : noS d = true := by
  cases d <;> first | rfl | cases h
theorem le_line {n : Nat} (h : n ≤ 1000) : n ≤ sizeLine := Nat.le_trans h (by decide)
def intOf : D → Int
  | .int i => i
  | _ => 0
theorem bits_map : ∀ {xs : List D}, xs.all isBit = true → xs = (xs.map intOf).map D.int
  | [], _ => rfl
  | x :: xs, h => by
    rw [List.all_cons, Bool.and_eq_true] at h
    cases x with
    | int i =>
      show _ :: _ = _ :: _
      rw [← bits_map h.2]
      rfl
    | _ => cases h.1
structure Bx where
  e : Str
  s : List Int
  t : List Int
def rowN (d : D) : Option (List Int) := match d.seq with
  | some xs => if xs.all isBit then some (xs.map intOf) else none
  | none => none
def boxI (ends : List Str) : List D → Option Bx
  | [.str e, r1, r2] => if ends.contains e then match rowN r1, rowN r2 with
    | some a, some b => some ⟨e, a, b⟩
    | _, _ => none
    else none
  | _ => none
/-- the box that a thing is -/
def boxN (ends : List Str) (d : D) : Option Bx := match d.seq with
  | some xs => boxI ends xs
  | none => none
def bxD (b : Bx) : D := .tup [.str b.e, .lst (b.s.map .int), .lst (b.t.map .int)]
def endsD (ends : List Str) : D := .lst (ends.map .str)
theorem rowN_some {d : D} : (rowN d).isSome = rowB d := by
  unfold rowN rowB
  cases d.seq with
  | none => rfl
  | some xs =>
    show (if xs.all isBit then some (xs.map intOf) else none : Option (List Int)).isSome = xs.all isBit
    cases xs.all isBit <;> rfl
theorem s_row {d : D} {s : Sd} (h : okD d = true) : ψ_is_row [d] s = .ok (.bl (rowN d).isSome) false s := by
  rw [rowN_some]
  exact s_is_row (ok_noS h) fun xs e => ⟨le_line (ok_seq h e).1, fun x hx => ok_noS ((ok_seq h e).2 x hx)⟩
/-! ### texts in a list -/
theorem pdAll_strs : ∀ es : List Str, D.pdAll (es.map D.str) = some (es.map PyData.str)
  | [] => by simp [D.pdAll]
  | e :: es => by simp [D.pdAll, D.pd, pdAll_strs es]
theorem canLay_strs : ∀ es : List Str, (∀ e ∈ es, PyData.strOk e = true) → PyData.canLayAll0 (es.map PyData.str) = true
  | [], _ => by simp [PyData.canLayAll0]
  | e :: es, h => by simp [PyData.canLayAll0, PyData.canLay0, h e List.mem_cons_self, canLay_strs es fun x hx => h x (List.mem_cons_of_mem _ hx)]
theorem depth_strs : ∀ es : List Str, PyData.depthAll (es.map PyData.str) = 0
  | [] => by simp [PyData.depthAll]
  | e :: es => by simp [PyData.depthAll, PyData.depth, depth_strs es]
theorem shaped_str {e : Str} (h : PyData.strOk e = true) : SeqAt.shaped (.str e) = true := by
  simp [SeqAt.shaped, PyData.canLay0, PyData.depth, h]
theorem any_str (e : Str) : ∀ es : List Str, ((es.map PyData.str).any fun z => PyData.eqv z (.str e)) = es.contains e
  | [] => rfl
  | x :: es => by
    rw [List.map_cons, List.any_cons, any_str e es, List.contains_cons]
    have q : PyData.eqv (.str x) (.str e) = (e == x) := by
      unfold PyData.eqv
      exact Bool.beq_comm
    rw [q]
theorem in_ends {ends : List Str} {e : Str} (he : ∀ x ∈ ends, PyData.strOk x = true) (h : PyData.strOk e = true) : cmpF .isIn (.str e) (endsD ends) = some (ends.contains e) := by
  show inL (some (.str e)) (D.pdAll (ends.map D.str)) = _
  rw [pdAll_strs]
  show (if SeqAt.shaped (.str e) && SeqAt.shaped (.list (ends.map PyData.str)) then some ((ends.map PyData.str).any fun z => PyData.eqv z (.str e)) else none) = _
  have q : SeqAt.shaped (.list (ends.map PyData.str)) = true := by
    simp [SeqAt.shaped, PyData.canLay0, PyData.depth, canLay_strs ends he, depth_strs]
  rw [shaped_str h, q, any_str]
  rfl
theorem in_one {d : D} {g : Ga} {s : Sd} : isiF [.str] d = some (.fz (.bl true)) → ∃ e, d = .str e := by
  intro h
  cases d <;> first | exact ⟨_, rfl⟩ | (simp [isiF, D.isTy] at h)
theorem ne_int (i j : Int) : cmpF .ne (.int i) (.int j) = some (i != j) := by
  simp [cmpF, eqF, eqP, D.pd, SeqAt.shaped, PyData.canLay0, PyData.depth, PyData.eqv, bne]
theorem eq_int' (i j : Int) : cmpF .eq (.int i) (.int j) = some (i == j) := by
  simp [cmpF, eqF, eqP, D.pd, SeqAt.shaped, PyData.canLay0, PyData.depth, PyData.eqv]
theorem ne_str {a b : Str} (h1 : PyData.strOk a = true) (h2 : PyData.strOk b = true) : cmpF .ne (.str a) (.str b) = some (a != b) := by
  simp [cmpF, eqF, eqP, D.pd, SeqAt.shaped, PyData.canLay0, PyData.depth, PyData.eqv, bne, h1, h2]
theorem at30 (a b c : D) : atI [a, b, c] 0 = some a := rfl
theorem at31 (a b c : D) : atI [a, b, c] 1 = some b := rfl
theorem at32 (a b c : D) : atI [a, b, c] 2 = some c := rfl
theorem box3 {ends : List Str} {d a b c : D} {s : Sd} (he : ∀ x ∈ ends, PyData.strOk x = true) (ha : okD a = true) (hb : okD b = true) (hc : okD c = true) (h1 : isiF [.list, .tuple] d = some (.fz (.bl true))) (h2 : biF .len [d] = some (.fz (.int 3))) (h3 : ∀ i, subF d (.int i) = atI [a, b, c] i) :
    DI.finish (b_is_box_of (startG 2 [endsD ends, d]) s) = .ok (.bl (boxI ends [a, b, c]).isSome) false s := by
  have nos : isiF [.str] a = some (.fz (.bl false)) → (boxI ends [a, b, c]) = none → DI.finish (b_is_box_of (startG 2 [endsD ends, d]) s) = .ok (.bl (boxI ends [a, b, c]).isSome) false s := fun e1 e2 => by
    rw [e2]
    simp [b_is_box_of, startG, h1, h2, h3, ne_int, peeks, at30, e1]
  cases a with
  | str e =>
    have he' : PyData.strOk e = true := ha
    have e1 : isiF [.str] (.str e) = some (.fz (.bl true)) := rfl
    have e2 : boxI ends [.str e, b, c] = (if ends.contains e then match rowN b, rowN c with | some a, some b => some ⟨e, a, b⟩ | _, _ => none else none) := rfl
    rw [e2]
    have hin := in_ends he he'
    cases q : ends.contains e with
    | false =>
      rw [q] at hin
      simp [b_is_box_of, startG, h1, h2, h3, ne_int, peeks, at30, e1, hin]
    | true =>
      rw [q] at hin
      cases qb : rowN b with
      | none => simp [b_is_box_of, startG, h1, h2, h3, ne_int, peeks, at30, at31, e1, hin, callG_ok (s_row hb), qb]
      | some x =>
        cases qc : rowN c with
        | none => simp [b_is_box_of, startG, h1, h2, h3, ne_int, peeks, at30, at31, at32, e1, hin, callG_ok (s_row hb), callG_ok (s_row hc), qb, qc]
        | some y => simp [b_is_box_of, startG, h1, h2, h3, ne_int, peeks, at30, at31, at32, e1, hin, callG_ok (s_row hb), callG_ok (s_row hc), qb, qc]
  | strm => cases ha
  | _ => exact nos rfl rfl
theorem boxX {ends : List Str} {d : D} {n : Int} {s : Sd} (h1 : isiF [.list, .tuple] d = some (.fz (.bl true))) (h2 : biF .len [d] = some (.fz (.int n))) (h3 : n ≠ 3) : DI.finish (b_is_box_of (startG 2 [endsD ends, d]) s) = .ok (.bl false) false s := by
  have q : (n != 3) = true := by simpa using h3
  simp [b_is_box_of, startG, h1, h2, ne_int, peeks, q]
theorem s_is_box_of {ends : List Str} {d : D} {s : Sd} (he : ∀ x ∈ ends, PyData.strOk x = true) (h : okD d = true) : ψ_is_box_of [endsD ends, d] s = .ok (.bl (boxN ends d).isSome) false s := by
  unfold ψ_is_box_of
  rw [fn2]
  have go : ∀ xs : List D, d.seq = some xs → isiF [.list, .tuple] d = some (.fz (.bl true)) → biF .len [d] = some (.fz (.int xs.length)) → (∀ i, subF d (.int i) = atI xs i) → DI.finish (b_is_box_of (startG 2 [endsD ends, d]) s) = .ok (.bl (boxI ends xs).isSome) false s := by
    intro xs e1 e2 e3 e4
    have hx := (ok_seq h e1).2
    rcases xs with _ | ⟨a, _ | ⟨b, _ | ⟨c, _ | ⟨x, r⟩⟩⟩⟩
    · exact boxX e2 e3 (by simp)
    · rw [boxX e2 e3 (by simp)]; cases a <;> rfl
    · rw [boxX e2 e3 (by simp)]; cases a <;> rfl
    · exact box3 he (hx a (by simp)) (hx b (by simp)) (hx c (by simp)) e2 e3 e4
    · rw [boxX e2 e3 (by simp; omega)]; cases a <;> rfl
  cases d with
  | lst xs => exact go xs rfl rfl rfl fun _ => rfl
  | tup xs => exact go xs rfl rfl rfl fun _ => rfl
  | strm => cases h
  | _ => simp [b_is_box_of, startG, isiF, D.isTy, boxN, D.seq]
end K27
end
section
set_option Elab.async false
set_option linter.all false
set_option maxRecDepth 100000
set_option maxHeartbeats 4000000
/-! PM3: boxes apart. -/
namespace K27
open PySem L2 DI
theorem rowN_items {d : D} {xs : List Int} (h : rowN d = some xs) : d = .lst (xs.map .int) ∨ d = .tup (xs.map .int) := by
  have go : ∀ ys : List D, d.seq = some ys → ys = xs.map .int := fun ys e => by
    unfold rowN at h
    rw [e] at h
    have h : (if ys.all isBit then some (ys.map intOf) else none) = some xs := h
    cases q : ys.all isBit with
    | false => rw [q] at h; cases h
    | true =>
      rw [q] at h
      cases h
      exact bits_map q
  cases d with
  | lst ys => rw [go ys rfl]; exact .inl rfl
  | tup ys => rw [go ys rfl]; exact .inr rfl
  | _ => cases h
theorem list_row {d : D} {xs : List Int} (h : rowN d = some xs) : biF .list [d] = some (.nw (xs.map .int)) := by
  rcases rowN_items h with rfl | rfl <;> rfl
theorem boxN_items {ends : List Str} {d : D} {b : Bx} (h : boxN ends d = some b) : ∃ r1 r2, (d = .lst [.str b.e, r1, r2] ∨ d = .tup [.str b.e, r1, r2]) ∧ rowN r1 = some b.s ∧ rowN r2 = some b.t ∧ ends.contains b.e = true := by
  have go : ∀ ys : List D, boxI ends ys = some b → ∃ r1 r2, ys = [.str b.e, r1, r2] ∧ rowN r1 = some b.s ∧ rowN r2 = some b.t ∧ ends.contains b.e = true := by
    intro ys e
    rcases ys with _ | ⟨a, _ | ⟨r1, _ | ⟨r2, _ | ⟨x, r⟩⟩⟩⟩
    · cases e
    · cases a <;> cases e
    · cases a <;> cases e
    · cases a with
      | str z =>
        have e : (if ends.contains z then match rowN r1, rowN r2 with | some a, some b => some (⟨z, a, b⟩ : Bx) | _, _ => none else none) = some b := e
        cases q : ends.contains z with
        | false => rw [q] at e; cases e
        | true =>
          rw [q] at e
          cases q1 : rowN r1 with
          | none => rw [q1] at e; cases e
          | some x =>
            cases q2 : rowN r2 with
            | none => rw [q1, q2] at e; cases e
            | some y => rw [q1, q2] at e; cases e; exact ⟨r1, r2, rfl, q1, q2, q⟩
      | _ => cases e
    · cases a <;> cases e
  cases d with
  | lst ys => obtain ⟨r1, r2, rfl, h1, h2, h3⟩ := go ys h; exact ⟨r1, r2, .inl rfl, h1, h2, h3⟩
  | tup ys => obtain ⟨r1, r2, rfl, h1, h2, h3⟩ := go ys h; exact ⟨r1, r2, .inr rfl, h1, h2, h3⟩
  | _ => cases h
theorem s_as_box {ends : List Str} {d : D} {b : Bx} {s : Sd} (h : boxN ends d = some b) : ψ_as_box [d] s = .ok (bxD b) false s := by
  obtain ⟨r1, r2, hd, h1, h2, _⟩ := boxN_items h
  unfold ψ_as_box
  rw [fn1]
  have e0 : subF d (.int 0) = some (.str b.e) := by rcases hd with rfl | rfl <;> rfl
  have e1 : subF d (.int 1) = some r1 := by rcases hd with rfl | rfl <;> rfl
  have e2 : subF d (.int 2) = some r2 := by rcases hd with rfl | rfl <;> rfl
  simp [b_as_box, startG, e0, e1, e2, peeks, list_row h1, list_row h2, line_small, bxD]
def rowsApart : List Int → List Int → Bool
  | x :: xs, y :: ys => x != y || rowsApart xs ys
  | _, _ => false
def apartB (b c : Bx) : Bool := b.e != c.e || (rowsApart b.s c.s || rowsApart b.t c.t)
def neP : D → D
  | .tup [.int i, .int j] => .bl (i != j)
  | _ => .bl false
theorem zip_ints : ∀ (xs ys : List Int), zipD (xs.map D.int) (ys.map D.int) = (List.zip xs ys).map fun p => .tup [.int p.1, .int p.2]
  | [], _ => rfl
  | _ :: _, [] => rfl
  | x :: xs, y :: ys => by
    show _ :: zipD (xs.map D.int) (ys.map D.int) = _
    rw [zip_ints xs ys]; rfl
theorem any_zip : ∀ xs ys : List Int, (List.zip xs ys).any (fun p => p.1 != p.2) = rowsApart xs ys
  | [], _ => rfl
  | _ :: _, [] => rfl
  | x :: xs, y :: ys => by
    show ((x != y) || (List.zip xs ys).any (fun p => p.1 != p.2)) = _
    rw [any_zip xs ys]; rfl
theorem lc_mapP {α : Type} {F : D → Ga → Sd → Out (Option D)} {e : α → D} {h : α → D} {g : Ga} {s : Sd} : ∀ (xs : List α) (acc : List D), (∀ x ∈ xs, F (e x) g s = .ok (some (h x)) g s) → acc.length + xs.length ≤ sizeLine → lcL F (xs.map e) acc g s = .ok (acc ++ xs.map h) g s
  | [], acc, _, _ => by simp [lcL]
  | x :: xs, acc, hx, hl => by
    have q := hx x List.mem_cons_self
    have hl' : acc.length < sizeLine := by simp at hl; omega
    rw [List.map_cons]
    unfold lcL
    rw [q]
    show (if acc.length < sizeLine then lcL F (xs.map e) (acc ++ [h x]) g s else .bad) = _
    rw [if_pos hl', lc_mapP xs (acc ++ [h x]) (fun y hy => hx y (List.mem_cons_of_mem _ hy)) (by simp at hl ⊢; omega)]
    simp
theorem any_mapP {α : Type} (p : α → Bool) (xs : List α) : biF .any [.lst (xs.map fun x => .bl (p x))] = some (.fz (.bl (xs.any p))) := by
  have q : ∀ ys : List α, bools (ys.map fun x => D.bl (p x)) = some (ys.map p) := fun ys => by
    induction ys with
    | nil => rfl
    | cons y ys ih =>
      show (bools (ys.map fun x => D.bl (p x))).map (p y :: ·) = _
      rw [ih]; rfl
  show (bools (xs.map fun x => D.bl (p x))).map (fun bs => Rs.fz (.bl (bs.any id))) = _
  rw [q]
  show some (Rs.fz (.bl ((xs.map p).any id))) = _
  rw [List.any_map]; rfl
theorem all_mapP {α : Type} (p : α → Bool) (xs : List α) : biF .all [.lst (xs.map fun x => .bl (p x))] = some (.fz (.bl (xs.all p))) := by
  have q : ∀ ys : List α, bools (ys.map fun x => D.bl (p x)) = some (ys.map p) := fun ys => by
    induction ys with
    | nil => rfl
    | cons y ys ih =>
      show (bools (ys.map fun x => D.bl (p x))).map (p y :: ·) = _
      rw [ih]; rfl
  show (bools (xs.map fun x => D.bl (p x))).map (fun bs => Rs.fz (.bl (bs.all id))) = _
  rw [q]
  show some (Rs.fz (.bl ((xs.map p).all id))) = _
  rw [List.all_map]; rfl
theorem s_apart_rows {xs ys : List Int} {s : Sd} (h : xs.length ≤ 1000) : ψ_apart_rows [.lst (xs.map .int), .lst (ys.map .int)] s = .ok (.bl (rowsApart xs ys)) false s := by
  unfold ψ_apart_rows
  rw [fn2]
  have lc := lc_mapP (F := lcTurn [2, 3] (.cons (.nm 2) (.cons (.nm 3) .nil)) (fun g s => .ok true g s) (sCmp .ne (sVar 2) (sVar 3))) (e := fun p : Int × Int => .tup [.int p.1, .int p.2]) (h := fun p => .bl (p.1 != p.2)) (g := [.fz (.lst (xs.map .int)), .fz (.lst (ys.map .int)), .un, .un]) (s := s) (List.zip xs ys) []
    (fun p _ => by
      unfold lcTurn
      simp [bindT, bnd, bndT, bndM, bnd0, ne_int, wipeG]) (by
      have : (List.zip xs ys).length ≤ xs.length := by simp; omega
      have := le_line (Nat.le_trans this h)
      simpa using this)
  simp only [List.nil_append] at lc
  simp [b_apart_rows, startG, wipeG, zip_ints, lc, peeks, any_mapP, any_zip]
theorem atB0 (a b c : D) : subF (.tup [a, b, c]) (.int 0) = some a := rfl
theorem atB1 (a b c : D) : subF (.tup [a, b, c]) (.int 1) = some b := rfl
theorem atB2 (a b c : D) : subF (.tup [a, b, c]) (.int 2) = some c := rfl
/-- a box of whole texts, its rows short -/
structure Bok (b : Bx) : Prop where
  e : PyData.strOk b.e = true
  s : b.s.length ≤ 1000
  t : b.t.length ≤ 1000
theorem rowN_len {d : D} {xs : List Int} (h : okD d = true) (e : rowN d = some xs) : xs.length ≤ 1000 := by
  rcases rowN_items e with rfl | rfl
  · simpa using (ok_lst h).1
  · simpa using (ok_tup h).1
theorem boxN_ok {ends : List Str} {d : D} {b : Bx} (h : okD d = true) (e : boxN ends d = some b) : Bok b := by
  obtain ⟨r1, r2, hd, h1, h2, _⟩ := boxN_items e
  have hx : okD (.str b.e) = true ∧ okD r1 = true ∧ okD r2 = true := by
    rcases hd with rfl | rfl
    · exact ⟨(ok_lst h).2 _ (by simp), (ok_lst h).2 _ (by simp), (ok_lst h).2 _ (by simp)⟩
    · exact ⟨(ok_tup h).2 _ (by simp), (ok_tup h).2 _ (by simp), (ok_tup h).2 _ (by simp)⟩
  exact ⟨hx.1, rowN_len hx.2.1 h1, rowN_len hx.2.2 h2⟩
theorem s_apart {b c : Bx} {s : Sd} (hb : Bok b) (hc : Bok c) : ψ_apart [bxD b, bxD c] s = .ok (.bl (apartB b c)) false s := by
  unfold ψ_apart
  rw [fn2]
  have e1 := ne_str hb.e hc.e
  unfold apartB
  cases q : b.e != c.e with
  | true => rw [q] at e1; simp [b_apart, startG, bxD, atB0, e1]
  | false =>
    rw [q] at e1
    cases q2 : rowsApart b.s c.s with
    | true => simp [b_apart, startG, bxD, atB0, atB1, e1, callG_ok (s_apart_rows hb.s), q2]
    | false => simp [b_apart, startG, bxD, atB0, atB1, atB2, e1, callG_ok (s_apart_rows hb.s), callG_ok (s_apart_rows hb.t), q2]
/-- a thing is a box, apart from those ahead -/
def freshB (ends : List Str) (ahead : List Bx) (d : D) : Bool := match boxN ends d with
  | some b => ahead.all (apartB b)
  | none => false
theorem s_is_apart {ends : List Str} {d : D} {ahead : List Bx} {s : Sd} (he : ∀ x ∈ ends, PyData.strOk x = true) (h : okD d = true) (ha : ∀ b ∈ ahead, Bok b) (hl : ahead.length ≤ 1000) :
    ψ_is_apart [endsD ends, d, .lst (ahead.map bxD)] s = .ok (.bl (freshB ends ahead d)) false s := by
  unfold ψ_is_apart
  rw [fn3]
  have e1 := callG_ok (g := [.fz (endsD ends), .fz d, .fz (.lst (ahead.map bxD)), .un]) (s_is_box_of (s := s) he h)
  unfold freshB
  cases q : boxN ends d with
  | none => rw [q] at e1; simp [b_is_apart, startG, e1]
  | some b =>
    rw [q] at e1
    have lc := lc_mapP (F := lcTurn [3] (.nm 3) (fun g s => .ok true g s) (sCall (callG ψ_apart) (aCons (sCall (callG ψ_as_box) (aCons (sVar 1) aNil)) (aCons (sVar 3) aNil)))) (e := bxD) (h := fun c => .bl (apartB b c)) (g := [.fz (endsD ends), .fz d, .fz (.lst (ahead.map bxD)), .un]) (s := s) ahead []
      (fun c hc => by
        unfold lcTurn
        simp [bindT, bnd, callG_ok (s_as_box q), callG_ok (s_apart (boxN_ok h q) (ha c hc)), wipeG]) (by simpa using le_line hl)
    simp only [List.nil_append] at lc
    simp [b_is_apart, startG, e1, wipeG, lc, peeks, all_mapP]
end K27
end
section
set_option Elab.async false
set_option linter.all false
set_option maxRecDepth 100000
set_option maxHeartbeats 4000000
/-! PM4: a table's boxes, one by one. -/
namespace K27
open PySem L2 DI
/-- boxes laid one by one, each apart from all ahead -/
def runB (ends : List Str) : List Bx → List D → Option (List Bx)
  | ahead, [] => some ahead
  | ahead, d :: ds => match boxN ends d with
    | some b => if ahead.all (apartB b) then runB ends (ahead ++ [b]) ds else none
    | none => none
def runP (ends : List Str) : List Bx → List D → Option (List Bx)
  | ahead, [] => some ahead
  | ahead, p :: ps => match p.seq with
    | some [a, b] => match runB ends ahead [a, b] with
      | some ahead' => runP ends ahead' ps
      | none => none
    | _ => none
abbrev inB (tag : Str) : Ga → Sd → Out DI.Flow := sSeq (sIff (tNotF (tOf (sCallL ψ_is_apart (lCons (sVar 0) (lCons (sVar 6) (lCons (sVar 3) lNil)))))) (sRet (sTup (aCons (sCon (.str tag)) (aCons (sVar 4) aNil)))) (fun g s => .ok .nx g s))
    (sExp (sMth .append 3 (aCons (sCall (callG ψ_as_box) (aCons (sVar 6) aNil)) aNil)))
abbrev gT (e : D) (t sh : D) (ahead : List Bx) (x4 x5 x6 : Sl) : Ga := [.fz e, .fz t, .fz sh, .ow (ahead.map bxD), x4, x5, x6]
theorem callL_bl {ψ : List D → Sd → FOut} {ds : List D} {b : Bool} {g : Ga} {s : Sd} (h : ψ ds s = .ok (.bl b) false s) : callL ψ ds g s = .ok (.fz (.bl b)) g s := by
  unfold callL; rw [h]; rfl
theorem in_turn {ends : List Str} {d t sh : D} {ahead : List Bx} {i : Int} {x5 : Sl} {tag : Str} {s : Sd} (he : ∀ x ∈ ends, PyData.strOk x = true) (h : okD d = true) (ha : ∀ b ∈ ahead, Bok b) (hl : ahead.length < 1000) :
    inB tag (gT (endsD ends) t sh ahead (.fz (.int i)) x5 (.fz d)) s = match boxN ends d with
      | some b => if ahead.all (apartB b) then .ok .nx (gT (endsD ends) t sh (ahead ++ [b]) (.fz (.int i)) x5 (.fz d)) s else .ok (.ret (.fz (.tup [.str tag, .int i]))) (gT (endsD ends) t sh ahead (.fz (.int i)) x5 (.fz d)) s
      | none => .ok (.ret (.fz (.tup [.str tag, .int i]))) (gT (endsD ends) t sh ahead (.fz (.int i)) x5 (.fz d)) s := by
  have e1 := callL_bl (g := gT (endsD ends) t sh ahead (.fz (.int i)) x5 (.fz d)) (s_is_apart (s := s) he h ha (Nat.le_of_lt hl))
  have e2 : peeks (gT (endsD ends) t sh ahead (.fz (.int i)) x5 (.fz d)) [.fz (endsD ends), .fz d, .sl 3] = some [endsD ends, d, .lst (ahead.map bxD)] := rfl
  unfold freshB at e1
  have out : callL ψ_is_apart [endsD ends, d, .lst (ahead.map bxD)] (gT (endsD ends) t sh ahead (.fz (.int i)) x5 (.fz d)) s = .ok (.fz (.bl false)) (gT (endsD ends) t sh ahead (.fz (.int i)) x5 (.fz d)) s → inB tag (gT (endsD ends) t sh ahead (.fz (.int i)) x5 (.fz d)) s = .ok (.ret (.fz (.tup [.str tag, .int i]))) (gT (endsD ends) t sh ahead (.fz (.int i)) x5 (.fz d)) s := fun q => by
    simp [inB, sCallL, e2, lent, q, line_small]
  cases q : boxN ends d with
  | none => rw [q] at e1; exact out e1
  | some b =>
    rw [q] at e1
    have e1 : callL ψ_is_apart [endsD ends, d, .lst (ahead.map bxD)] (gT (endsD ends) t sh ahead (.fz (.int i)) x5 (.fz d)) s = .ok (.fz (.bl (ahead.all (apartB b)))) (gT (endsD ends) t sh ahead (.fz (.int i)) x5 (.fz d)) s := e1
    show _ = if ahead.all (apartB b) = true then _ else _
    cases q2 : ahead.all (apartB b) with
    | false => rw [q2] at e1; rw [if_neg Bool.false_ne_true]; exact out e1
    | true =>
      rw [q2] at e1
      rw [if_pos rfl]
      have hz : (ahead.map bxD).length < sizeLine := by rw [List.length_map]; exact Nat.lt_of_lt_of_le hl (by decide)
      have e4 : mtF .append (ahead.map bxD) [bxD b] = some (.non, ahead.map bxD ++ [bxD b]) := if_pos hz
      have e6 := e_mth (i := 3) (g := gT (endsD ends) t sh ahead (.fz (.int i)) x5 (.fz d)) (s := s) (as := aCons (sCall (callG ψ_as_box) (aCons (sVar 6) aNil)) aNil) (xs0 := ahead.map bxD) (g1 := gT (endsD ends) t sh ahead (.fz (.int i)) x5 (.fz d)) (s1 := s) rfl (by simp [callG_ok (s_as_box q)]) rfl e4
      have e7 : (gT (endsD ends) t sh ahead (.fz (.int i)) x5 (.fz d)).set 3 (.ow (ahead.map bxD ++ [bxD b])) = gT (endsD ends) t sh (ahead ++ [b]) (.fz (.int i)) x5 (.fz d) := by simp [gT]
      rw [e7] at e6
      simp only [inB, e_seq, e_iff, e_tnot, e_tof, e_exp]
      rw [show sCallL ψ_is_apart (lCons (sVar 0) (lCons (sVar 6) (lCons (sVar 3) lNil))) (gT (endsD ends) t sh ahead (.fz (.int i)) x5 (.fz d)) s = .ok (.fz (.bl true)) (gT (endsD ends) t sh ahead (.fz (.int i)) x5 (.fz d)) s from by simp [sCallL, e2, lent, e1]]
      simp only [bind_ok, Bool.not_true]
      rw [e6]
      simp
theorem forL_nx {F : D → Ga → Sd → Out DI.Flow} {x : D} {xs : List D} {g g' : Ga} {s s' : Sd} (h : F x g s = .ok .nx g' s') : forL F (x :: xs) g s = forL F xs g' s' := by
  unfold forL
  rw [h]
  show forL F xs g' s' = _
  cases xs <;> rfl
theorem forL_ret {F : D → Ga → Sd → Out DI.Flow} {x : D} {xs : List D} {g g' : Ga} {s s' : Sd} {r : Rs} (h : F x g s = .ok (.ret r) g' s') : forL F (x :: xs) g s = .ok (.ret r) g' s' := by
  unfold forL
  rw [h]
/-- one box ahead of the loop's rest -/
theorem runB_cons {ends : List Str} {ahead : List Bx} {d : D} {ds : List D} : runB ends ahead (d :: ds) = match boxN ends d with
    | some b => if ahead.all (apartB b) then runB ends (ahead ++ [b]) ds else none
    | none => none := rfl
/-- what a loop over boxes leaves -/
def LeftB (ends : List Str) (t sh : D) (x5 : Sl) (s : Sd) (o : Option (List Bx)) (r : Out DI.Flow) : Prop := match o with
  | some ahead => (∀ b ∈ ahead, Bok b) ∧ ∃ x4 x6, r = .ok .nx (gT (endsD ends) t sh ahead x4 x5 x6) s
  | none => ∃ l g', r = .ok (.ret (.fz (.tup l))) g' s
theorem loop_in {ends : List Str} {t sh : D} {x5 : Sl} {tag : Str} {s : Sd} (he : ∀ x ∈ ends, PyData.strOk x = true) : ∀ (ds : List D) (ahead : List Bx) (i : Int) (x6 : Sl), (∀ d ∈ ds, okD d = true) → (∀ b ∈ ahead, Bok b) → ahead.length + ds.length ≤ 1000 →
    LeftB ends t sh x5 s (runB ends ahead ds) (forL (forTurn (.nm 6) (inB tag)) ds (gT (endsD ends) t sh ahead (.fz (.int i)) x5 x6) s)
  | [], ahead, i, x6, _, ha, _ => ⟨ha, _, x6, rfl⟩
  | d :: ds, ahead, i, x6, hd, ha, hl => by
    have h := hd d List.mem_cons_self
    have e1 : forTurn (.nm 6) (inB tag) d (gT (endsD ends) t sh ahead (.fz (.int i)) x5 x6) s = inB tag (gT (endsD ends) t sh ahead (.fz (.int i)) x5 (.fz d)) s := rfl
    rw [in_turn he h ha (by simp at hl; omega)] at e1
    rw [runB_cons]
    cases q : boxN ends d with
    | none =>
      rw [q] at e1
      exact ⟨_, _, forL_ret e1⟩
    | some b =>
      rw [q] at e1
      have e1 : forTurn (.nm 6) (inB tag) d (gT (endsD ends) t sh ahead (.fz (.int i)) x5 x6) s = if ahead.all (apartB b) = true then .ok .nx (gT (endsD ends) t sh (ahead ++ [b]) (.fz (.int i)) x5 (.fz d)) s else .ok (.ret (.fz (.tup [.str tag, .int i]))) (gT (endsD ends) t sh ahead (.fz (.int i)) x5 (.fz d)) s := e1
      show LeftB ends t sh x5 s (if ahead.all (apartB b) = true then runB ends (ahead ++ [b]) ds else none) _
      cases q2 : ahead.all (apartB b) with
      | false =>
        rw [q2, if_neg Bool.false_ne_true] at e1
        rw [if_neg Bool.false_ne_true]
        exact ⟨_, _, forL_ret e1⟩
      | true =>
        rw [q2, if_pos rfl] at e1
        rw [if_pos rfl, forL_nx e1]
        exact loop_in he ds (ahead ++ [b]) i _ (fun x hx => hd x (List.mem_cons_of_mem _ hx)) (fun c hc => by
          rcases List.mem_append.mp hc with hc | hc
          · exact ha c hc
          · rw [List.mem_singleton.mp hc]; exact boxN_ok h q) (by simp at hl ⊢; omega)
theorem loop_lids {ends : List Str} {t sh : D} {x5 : Sl} {tag : Str} {s : Sd} (he : ∀ x ∈ ends, PyData.strOk x = true) : ∀ (ds : List D) (n : Nat) (ahead : List Bx) (x4 : Sl) (x6 : Sl), (∀ d ∈ ds, okD d = true) → (∀ b ∈ ahead, Bok b) → ahead.length + ds.length ≤ 1000 →
    LeftB ends t sh x5 s (runB ends ahead ds) (forL (forTurn (.cons (.nm 4) (.cons (.nm 6) .nil)) (inB tag)) (enumD n ds) (gT (endsD ends) t sh ahead x4 x5 x6) s)
  | [], n, ahead, x4, x6, _, ha, _ => ⟨ha, x4, x6, rfl⟩
  | d :: ds, n, ahead, x4, x6, hd, ha, hl => by
    have h := hd d List.mem_cons_self
    have e1 : forTurn (.cons (.nm 4) (.cons (.nm 6) .nil)) (inB tag) (.tup [.int n, d]) (gT (endsD ends) t sh ahead x4 x5 x6) s = inB tag (gT (endsD ends) t sh ahead (.fz (.int n)) x5 (.fz d)) s := rfl
    rw [in_turn he h ha (by simp at hl; omega)] at e1
    rw [runB_cons]
    show LeftB ends t sh x5 s _ (forL _ (.tup [.int n, d] :: enumD (n + 1) ds) _ _)
    cases q : boxN ends d with
    | none =>
      rw [q] at e1
      exact ⟨_, _, forL_ret e1⟩
    | some b =>
      rw [q] at e1
      have e1 : forTurn (.cons (.nm 4) (.cons (.nm 6) .nil)) (inB tag) (.tup [.int n, d]) (gT (endsD ends) t sh ahead x4 x5 x6) s = if ahead.all (apartB b) = true then .ok .nx (gT (endsD ends) t sh (ahead ++ [b]) (.fz (.int n)) x5 (.fz d)) s else .ok (.ret (.fz (.tup [.str tag, .int n]))) (gT (endsD ends) t sh ahead (.fz (.int n)) x5 (.fz d)) s := e1
      show LeftB ends t sh x5 s (if ahead.all (apartB b) = true then runB ends (ahead ++ [b]) ds else none) _
      cases q2 : ahead.all (apartB b) with
      | false =>
        rw [q2, if_neg Bool.false_ne_true] at e1
        rw [if_neg Bool.false_ne_true]
        exact ⟨_, _, forL_ret e1⟩
      | true =>
        rw [q2, if_pos rfl] at e1
        rw [if_pos rfl, forL_nx e1]
        exact loop_lids he ds (n + 1) (ahead ++ [b]) _ _ (fun x hx => hd x (List.mem_cons_of_mem _ hx)) (fun c hc => by
          rcases List.mem_append.mp hc with hc | hc
          · exact ha c hc
          · rw [List.mem_singleton.mp hc]; exact boxN_ok h q) (by simp at hl ⊢; omega)
theorem runB_len {ends : List Str} : ∀ {ds : List D} {ahead r : List Bx}, runB ends ahead ds = some r → r.length = ahead.length + ds.length
  | [], _, _, h => by cases h; rfl
  | d :: ds, ahead, r, h => by
    rw [runB_cons] at h
    cases q : boxN ends d with
    | none => rw [q] at h; cases h
    | some b =>
      rw [q] at h
      have h : (if ahead.all (apartB b) = true then runB ends (ahead ++ [b]) ds else none) = some r := h
      cases q2 : ahead.all (apartB b) with
      | false => rw [q2] at h; cases h
      | true =>
        rw [q2, if_pos rfl] at h
        rw [runB_len h]
        simp; omega
theorem s_is_list {d : D} {s : Sd} (h : okD d = true) : ψ_is_list [d] s = .ok (.bl d.seq.isSome) false s := by
  cases d with
  | strm => cases h
  | _ => rfl
abbrev outB : Ga → Sd → Out DI.Flow := sSeq (sIff (tOrF (tNotF (tOf (sCall (callG ψ_is_list) (aCons (sVar 5) aNil)))) (tOf (sCmp .ne (sBi (biF .len) (lCons (sVar 5) lNil)) (sCon (.int 2))))) (sRet (sTup (aCons (sCon (.str "table")) (aCons (sVar 4) aNil)))) (fun g s => .ok .nx g s))
    (sFor (.nm 6) (iSeqF (sVar 5)) (inB "table"))
theorem out_turn {e t sh p : D} {ahead : List Bx} {n : Int} {x6 : Sl} {s : Sd} (h : okD p = true) : (∃ a b, p.seq = some [a, b] ∧ outB (gT e t sh ahead (.fz (.int n)) (.fz p) x6) s = forL (forTurn (.nm 6) (inB "table")) [a, b] (gT e t sh ahead (.fz (.int n)) (.fz p) x6) s) ∨
    ((∀ a b, p.seq ≠ some [a, b]) ∧ outB (gT e t sh ahead (.fz (.int n)) (.fz p) x6) s = .ok (.ret (.fz (.tup [.str "table", .int n]))) (gT e t sh ahead (.fz (.int n)) (.fz p) x6) s) := by
  have e1 := callG_ok (g := gT e t sh ahead (.fz (.int n)) (.fz p) x6) (s_is_list (s := s) h)
  have go : ∀ xs : List D, p.seq = some xs → itemsOf p = some xs → biF .len [p] = some (.fz (.int xs.length)) → (∃ a b, p.seq = some [a, b] ∧ outB (gT e t sh ahead (.fz (.int n)) (.fz p) x6) s = forL (forTurn (.nm 6) (inB "table")) [a, b] (gT e t sh ahead (.fz (.int n)) (.fz p) x6) s) ∨
    ((∀ a b, p.seq ≠ some [a, b]) ∧ outB (gT e t sh ahead (.fz (.int n)) (.fz p) x6) s = .ok (.ret (.fz (.tup [.str "table", .int n]))) (gT e t sh ahead (.fz (.int n)) (.fz p) x6) s) := by
    intro xs h1 h2 h3
    rw [h1] at e1
    by_cases hl : xs.length = 2
    · obtain ⟨a, b, rfl⟩ : ∃ a b, xs = [a, b] := by
        rcases xs with _ | ⟨a, _ | ⟨b, _ | ⟨c, r⟩⟩⟩
        · simp at hl
        · simp at hl
        · exact ⟨a, b, rfl⟩
        · simp at hl
      refine .inl ⟨a, b, h1, ?_⟩
      have q : cmpF .ne (.int ([a, b] : List D).length) (.int 2) = some false := by rw [ne_int]; rfl
      simp only [outB, e_seq, e_iff, e_tor, e_tnot, e_tof]
      rw [show sCall (callG ψ_is_list) (aCons (sVar 5) aNil) (gT e t sh ahead (.fz (.int n)) (.fz p) x6) s = .ok (.fz (.bl true)) (gT e t sh ahead (.fz (.int n)) (.fz p) x6) s from e1]
      simp only [bind_ok, Bool.not_true]
      rw [show sCmp .ne (sBi (biF .len) (lCons (sVar 5) lNil)) (sCon (.int 2)) (gT e t sh ahead (.fz (.int n)) (.fz p) x6) s = .ok (.fz (.bl false)) (gT e t sh ahead (.fz (.int n)) (.fz p) x6) s from by simp [peeks, h3, ne_int]]
      simp only [bind_ok, e_for]
      rw [show iSeqF (sVar 5) (gT e t sh ahead (.fz (.int n)) (.fz p) x6) s = .ok [a, b] (gT e t sh ahead (.fz (.int n)) (.fz p) x6) s from by simp [h2]]
      rfl
    · refine .inr ⟨fun a b z => ?_, ?_⟩
      · rw [h1] at z; cases z; exact hl rfl
      · have q : cmpF .ne (.int xs.length) (.int 2) = some true := by rw [ne_int]; simp; omega
        simp only [outB, e_seq, e_iff, e_tor, e_tnot, e_tof]
        rw [show sCall (callG ψ_is_list) (aCons (sVar 5) aNil) (gT e t sh ahead (.fz (.int n)) (.fz p) x6) s = .ok (.fz (.bl true)) (gT e t sh ahead (.fz (.int n)) (.fz p) x6) s from e1]
        simp only [bind_ok, Bool.not_true]
        rw [show sCmp .ne (sBi (biF .len) (lCons (sVar 5) lNil)) (sCon (.int 2)) (gT e t sh ahead (.fz (.int n)) (.fz p) x6) s = .ok (.fz (.bl true)) (gT e t sh ahead (.fz (.int n)) (.fz p) x6) s from by simp [peeks, h3, q]]
        simp [line_small]
  have no : p.seq = none → ((∀ a b, p.seq ≠ some [a, b]) ∧ outB (gT e t sh ahead (.fz (.int n)) (.fz p) x6) s = .ok (.ret (.fz (.tup [.str "table", .int n]))) (gT e t sh ahead (.fz (.int n)) (.fz p) x6) s) := fun h1 => by
    rw [h1] at e1
    refine ⟨fun a b z => (by rw [h1] at z; cases z), ?_⟩
    simp only [outB, e_seq, e_iff, e_tor, e_tnot, e_tof]
    rw [show sCall (callG ψ_is_list) (aCons (sVar 5) aNil) (gT e t sh ahead (.fz (.int n)) (.fz p) x6) s = .ok (.fz (.bl false)) (gT e t sh ahead (.fz (.int n)) (.fz p) x6) s from e1]
    simp [line_small]
  cases p with
  | lst xs => exact go xs rfl rfl rfl
  | tup xs => exact go xs rfl rfl rfl
  | _ => exact .inr (no rfl)
theorem loop_pairs {ends : List Str} {t sh : D} {s : Sd} (he : ∀ x ∈ ends, PyData.strOk x = true) : ∀ (ps : List D) (n : Nat) (ahead : List Bx) (x4' x5' x6' : Sl), (∀ d ∈ ps, okD d = true) → (∀ b ∈ ahead, Bok b) → ahead.length + 2 * ps.length ≤ 1000 →
    match runP ends ahead ps with
      | some ahead' => (∀ b ∈ ahead', Bok b) ∧ ahead'.length = ahead.length + 2 * ps.length ∧ ∃ x4 x5 x6, forL (forTurn (.cons (.nm 4) (.cons (.nm 5) .nil)) outB) (enumD n ps) (gT (endsD ends) t sh ahead x4' x5' x6') s = .ok .nx (gT (endsD ends) t sh ahead' x4 x5 x6) s
      | none => ∃ l g', forL (forTurn (.cons (.nm 4) (.cons (.nm 5) .nil)) outB) (enumD n ps) (gT (endsD ends) t sh ahead x4' x5' x6') s = .ok (.ret (.fz (.tup l))) g' s
  | [], n, ahead, x4, x5, x6, _, ha, _ => ⟨ha, rfl, x4, x5, x6, rfl⟩
  | p :: ps, n, ahead, x4, x5, x6, hd, ha, hl => by
    have h := hd p List.mem_cons_self
    have e1 : forTurn (.cons (.nm 4) (.cons (.nm 5) .nil)) outB (.tup [.int n, p]) (gT (endsD ends) t sh ahead x4 x5 x6) s = outB (gT (endsD ends) t sh ahead (.fz (.int n)) (.fz p) x6) s := rfl
    show match runP ends ahead (p :: ps) with
      | some ahead' => (∀ b ∈ ahead', Bok b) ∧ ahead'.length = ahead.length + 2 * (p :: ps).length ∧ ∃ x4' x5' x6', forL (forTurn (.cons (.nm 4) (.cons (.nm 5) .nil)) outB) (.tup [.int n, p] :: enumD (n + 1) ps) (gT (endsD ends) t sh ahead x4 x5 x6) s = .ok .nx (gT (endsD ends) t sh ahead' x4' x5' x6') s
      | none => ∃ l g', forL (forTurn (.cons (.nm 4) (.cons (.nm 5) .nil)) outB) (.tup [.int n, p] :: enumD (n + 1) ps) (gT (endsD ends) t sh ahead x4 x5 x6) s = .ok (.ret (.fz (.tup l))) g' s
    rcases out_turn (e := endsD ends) (t := t) (sh := sh) (ahead := ahead) (n := n) (x6 := x6) (s := s) h with ⟨a, b, h1, h2⟩ | ⟨h1, h2⟩
    · have hab := (ok_seq h h1).2
      have lp := loop_in (t := t) (sh := sh) (x5 := .fz p) (tag := "table") (s := s) he [a, b] ahead n x6 (fun x hx => hab x hx) ha (by simp at hl ⊢; omega)
      rw [h2] at e1
      have er : runP ends ahead (p :: ps) = match runB ends ahead [a, b] with | some ahead' => runP ends ahead' ps | none => none := by
        show (match p.seq with | some [a, b] => (match runB ends ahead [a, b] with | some ahead' => runP ends ahead' ps | none => none) | _ => none) = _
        rw [h1]
      rw [er]
      cases q : runB ends ahead [a, b] with
      | none =>
        rw [q] at lp
        obtain ⟨l, g', h3⟩ := lp
        rw [h3] at e1
        exact ⟨l, g', forL_ret e1⟩
      | some ahead' =>
        rw [q] at lp
        obtain ⟨h4, x4', x6', h3⟩ := lp
        rw [h3] at e1
        have hlen := runB_len q
        have ih := loop_pairs (t := t) (sh := sh) (s := s) he ps (n + 1) ahead' x4' (.fz p) x6' (fun x hx => hd x (List.mem_cons_of_mem _ hx)) h4 (by simp at hl hlen ⊢; omega)
        show match runP ends ahead' ps with
          | some ahead' => _ ∧ _ ∧ _
          | none => _
        rw [forL_nx e1]
        cases q2 : runP ends ahead' ps with
        | none => rw [q2] at ih; exact ih
        | some r =>
          rw [q2] at ih
          obtain ⟨i1, i2, i3⟩ := ih
          exact ⟨i1, by rw [i2, hlen]; simp; omega, i3⟩
    · rw [h2] at e1
      have er : runP ends ahead (p :: ps) = none := by
        show (match p.seq with | some [a, b] => (match runB ends ahead [a, b] with | some ahead' => runP ends ahead' ps | none => none) | _ => none) = none
        split
        · rename_i a b z; exact absurd z (h1 a b)
        · rfl
      rw [er]
      exact ⟨_, _, forL_ret e1⟩
end K27
end
section
set_option Elab.async false
set_option linter.all false
set_option maxRecDepth 100000
set_option maxHeartbeats 4000000
/-! PM5: is_table. -/
namespace K27
open PySem L2 DI
def lidB (ends : List Str) (a : List Bx) (l : D) : Bool := match l.seq with
  | some ls => (runB ends a ls).isSome
  | none => false
def tblP (ends : List Str) (l : D) : Option (List Bx) → Bool
  | some a => lidB ends a l
  | none => false
def tblB (ends : List Str) (t l : D) : Bool := match t.seq with
  | some ps => tblP ends l (runP ends [] ps)
  | none => false
abbrev tailB : Ga → Sd → Out DI.Flow := sSeq (sIff (tNotF (tOf (sCall (callG ψ_is_list) (aCons (sVar 2) aNil)))) (sRet (sTup (aCons (sCon (.str "shut")) (aCons (sCon (.int 0)) aNil)))) (fun g s => .ok .nx g s))
    (sSeq (sFor (.cons (.nm 4) (.cons (.nm 6) .nil)) (iEnumF (sVar 2)) (inB "shut"))
    (sRet (sCon .non)))
theorem fault_eq {e t l : D} {s : Sd} : ψ_table_fault_at [e, t, l] s = DI.finish ((sSeq (sAsg (.nm 3) (sLst aNil)) (sSeq (sIff (tNotF (tOf (sCall (callG ψ_is_list) (aCons (sVar 1) aNil)))) (sRet (sTup (aCons (sCon (.str "table")) (aCons (sCon (.int 0)) aNil)))) (fun g s => .ok .nx g s))
    (sSeq (sFor (.cons (.nm 4) (.cons (.nm 5) .nil)) (iEnumF (sVar 1)) outB) tailB))) (startG 7 [e, t, l]) s) := rfl
/-- what the search for a fault gives -/
def Fault (ok : Bool) (s : Sd) (r : FOut) : Prop := if ok = true then r = .ok .non false s else ∃ l, r = .ok (.tup l) false s
theorem tail_run {ends : List Str} {t l : D} {a : List Bx} {x4 x5 x6 : Sl} {s : Sd} (he : ∀ x ∈ ends, PyData.strOk x = true) (hl : okD l = true) (ha : ∀ b ∈ a, Bok b) (hn : ∀ ls, l.seq = some ls → a.length + ls.length ≤ 1000) :
    Fault (lidB ends a l) s (DI.finish (tailB (gT (endsD ends) t l a x4 x5 x6) s)) := by
  have e1 := callG_ok (g := gT (endsD ends) t l a x4 x5 x6) (s_is_list (s := s) hl)
  have e2 : sCall (callG ψ_is_list) (aCons (sVar 2) aNil) (gT (endsD ends) t l a x4 x5 x6) s = .ok (.fz (.bl l.seq.isSome)) (gT (endsD ends) t l a x4 x5 x6) s := e1
  unfold lidB
  cases q : l.seq with
  | none =>
    rw [q] at e2
    simp only [tailB, e_seq, e_iff, e_tnot, e_tof]
    rw [e2]
    simp only [bind_ok, Option.isSome_none, Bool.not_false]
    exact ⟨[.str "shut", .int 0], by simp [line_small]⟩
  | some ls =>
    rw [q] at e2
    have lp := loop_lids (t := t) (sh := l) (x5 := x5) (tag := "shut") (s := s) he ls 0 a x4 x6 (ok_seq hl q).2 ha (hn ls q)
    have e3 : iEnumF (sVar 2) (gT (endsD ends) t l a x4 x5 x6) s = .ok (enumD 0 ls) (gT (endsD ends) t l a x4 x5 x6) s := by
      show optD (l.seq.map (enumD 0)) _ _ = _
      rw [q]; rfl
    simp only [tailB, e_seq, e_iff, e_tnot, e_tof, e_for]
    rw [e2]
    simp only [bind_ok, Option.isSome_some, Bool.not_true]
    rw [e3]
    simp only [bind_ok]
    cases q2 : runB ends a ls with
    | none =>
      rw [q2] at lp
      obtain ⟨r, g', h⟩ := lp
      rw [h]
      exact ⟨r, rfl⟩
    | some a' =>
      rw [q2] at lp
      obtain ⟨_, x4', x6', h⟩ := lp
      rw [h]
      rfl
theorem s_fault {ends : List Str} {t l : D} {s : Sd} (he : ∀ x ∈ ends, PyData.strOk x = true) (ht : okD t = true) (hl : okD l = true) (hn : ∀ ps, t.seq = some ps → 2 * ps.length + (l.seq.getD []).length ≤ 1000) :
    Fault (tblB ends t l) s (ψ_table_fault_at [endsD ends, t, l] s) := by
  rw [fault_eq]
  have e0 : sAsg (.nm 3) (sLst aNil) (startG 7 [endsD ends, t, l]) s = .ok .nx (gT (endsD ends) t l [] .un .un .un) s := rfl
  rw [e_seq, e0]
  simp only [bind_ok]
  have e1 := callG_ok (g := gT (endsD ends) t l [] .un .un .un) (s_is_list (s := s) ht)
  have e2 : sCall (callG ψ_is_list) (aCons (sVar 1) aNil) (gT (endsD ends) t l [] .un .un .un) s = .ok (.fz (.bl t.seq.isSome)) (gT (endsD ends) t l [] .un .un .un) s := e1
  unfold tblB
  cases q : t.seq with
  | none =>
    rw [q] at e2
    simp only [e_seq, e_iff, e_tnot, e_tof]
    rw [e2]
    simp only [bind_ok, Option.isSome_none, Bool.not_false]
    exact ⟨[.str "table", .int 0], by simp [line_small]⟩
  | some ps =>
    rw [q] at e2
    have e3 : iEnumF (sVar 1) (gT (endsD ends) t l [] .un .un .un) s = .ok (enumD 0 ps) (gT (endsD ends) t l [] .un .un .un) s := by
      show optD (t.seq.map (enumD 0)) _ _ = _
      rw [q]; rfl
    rw [e_seq, e_iff, e_tnot, e_tof, e2]
    simp only [bind_ok, Option.isSome_some, Bool.not_true]
    rw [e_seq, e_for, e3]
    simp only [bind_ok]
    have hps := hn ps q
    have lp := loop_pairs (t := t) (sh := l) (s := s) he ps 0 [] .un .un .un (ok_seq ht q).2 (fun b hb => by cases hb) (by simp; omega)
    show Fault (tblP ends l (runP ends [] ps)) s _
    cases q2 : runP ends [] ps with
    | none =>
      rw [q2] at lp
      obtain ⟨r, g', h⟩ := lp
      rw [h]
      exact ⟨r, rfl⟩
    | some a =>
      rw [q2] at lp
      obtain ⟨h1, h2, x4, x5, x6, h⟩ := lp
      rw [h]
      exact tail_run (t := t) (x4 := x4) (x5 := x5) (x6 := x6) (s := s) he hl h1 fun ls e => by
        rw [e] at hps
        simp at h2 hps
        omega
end K27
end
section
set_option Elab.async false
set_option linter.all false
set_option maxRecDepth 100000
set_option maxHeartbeats 4000000
/-! PM6: names of ends; is_table whole. -/
namespace K27
open PySem L2 DI
/-- the names that are drawn -/
def names16 : List Str := ["a", "b", "c", "d", "e", "w1", "w2", "in", "out", "in1", "w10", "ends", "lastname", "x0", "y1", "z"]
def isT (r : FOut) : Bool := match r with
  | .ok (.bl b) false _ => b
  | _ => false
def cntOf (r : FOut) : Bool := match r with
  | .ok _ _ ⟨[], 0, 0, 0⟩ => true
  | _ => false
theorem names_ok : ∀ x ∈ names16, PyData.strOk x = true := by decide +kernel
theorem names_is {s : Sd} : ∀ x ∈ names16, ψ_is_name [.str x] s = .ok (.bl true) false s := by
  unfold names16
  simp only [List.forall_mem_cons]
  refine ⟨?_, ?_, ?_, ?_, ?_, ?_, ?_, ?_, ?_, ?_, ?_, ?_, ?_, ?_, ?_, ?_, fun x hx => by cases hx⟩ <;> kernel_rfl
/-- names of ends: drawn ones, no two alike, at most four -/
structure Ends (ends : List Str) : Prop where
  mem : ∀ x ∈ ends, x ∈ names16
  nd : ends.Nodup
theorem Ends.ok {ends : List Str} (h : Ends ends) : ∀ x ∈ ends, PyData.strOk x = true := fun x hx => names_ok x (h.mem x hx)
abbrev gC (t : D) (found : List Str) (x2 x3 : Sl) : Ga := [.fz t, .ow (found.map .str), x2, x3]
abbrev endB : Ga → Sd → Out DI.Flow := sSeq (sIff (tOrF (tNotF (tOf (sCall (callG ψ_is_name) (aCons (sVar 3) aNil)))) (tOf (sCmp .isIn (sVar 3) (sVar 1)))) (sRais 1 (sVar 2)) (fun g s => .ok .nx g s))
    (sExp (sMth .append 1 (aCons (sVar 3) aNil)))
theorem checked_eq {t : D} {s : Sd} : ψ_checked_ends [t] s = DI.finish ((sSeq (sIff (tNotF (tOf (sOne (isiF [.list, .tuple]) (sVar 0)))) (sRais 1 (sCon (.int 0))) (fun g s => .ok .nx g s))
    (sSeq (sAsg (.nm 1) (sLst aNil))
    (sSeq (sFor (.cons (.nm 2) (.cons (.nm 3) .nil)) (iEnumF (sVar 0)) endB)
    (sRet (sVar 1))))) (startG 4 [t]) s) := rfl
theorem end_turn {t : D} {found : List Str} {x : Str} {i : Int} {s : Sd} (hx : x ∈ names16) (hf : ∀ y ∈ found, y ∈ names16) (hn : x ∉ found) (hl : found.length ≤ 1000) :
    endB (gC t found (.fz (.int i)) (.fz (.str x))) s = .ok .nx (gC t (found ++ [x]) (.fz (.int i)) (.fz (.str x))) s := by
  have e1 : sCall (callG ψ_is_name) (aCons (sVar 3) aNil) (gC t found (.fz (.int i)) (.fz (.str x))) s = .ok (.fz (.bl true)) (gC t found (.fz (.int i)) (.fz (.str x))) s := callG_ok (names_is x hx)
  have e2 : sCmp .isIn (sVar 3) (sVar 1) (gC t found (.fz (.int i)) (.fz (.str x))) s = .ok (.fz (.bl false)) (gC t found (.fz (.int i)) (.fz (.str x))) s := by
    show optR ((cmpF .isIn (.str x) (endsD found)).map fun k => .fz (.bl k)) _ _ = _
    rw [in_ends (fun y hy => names_ok y (hf y hy)) (names_ok x hx)]
    have q : found.contains x = false := by simpa using hn
    rw [q]; rfl
  have hz : (found.map D.str).length < sizeLine := by rw [List.length_map]; exact Nat.lt_of_le_of_lt hl (by decide)
  have e4 : mtF .append (found.map D.str) [.str x] = some (.non, found.map D.str ++ [.str x]) := if_pos hz
  have e6 := e_mth (i := 1) (g := gC t found (.fz (.int i)) (.fz (.str x))) (s := s) (as := aCons (sVar 3) aNil) (xs0 := found.map .str) (g1 := gC t found (.fz (.int i)) (.fz (.str x))) (s1 := s) rfl rfl rfl e4
  have e7 : (gC t found (.fz (.int i)) (.fz (.str x))).set 1 (.ow (found.map .str ++ [.str x])) = gC t (found ++ [x]) (.fz (.int i)) (.fz (.str x)) := by simp [gC]
  rw [e7] at e6
  simp only [endB, e_seq, e_iff, e_tor, e_tnot, e_tof, e_exp]
  rw [e1]
  simp only [bind_ok, Bool.not_true]
  rw [e2]
  simp only [bind_ok]
  rw [e6]
  rfl
theorem end_loop {t : D} {s : Sd} : ∀ (xs : List Str) (n : Nat) (found : List Str) (x2 x3 : Sl), (∀ x ∈ xs, x ∈ names16) → (∀ y ∈ found, y ∈ names16) → (found ++ xs).Nodup → found.length + xs.length ≤ 1000 →
    ∃ x2' x3', forL (forTurn (.cons (.nm 2) (.cons (.nm 3) .nil)) endB) (enumD n (xs.map .str)) (gC t found x2 x3) s = .ok .nx (gC t (found ++ xs) x2' x3') s
  | [], n, found, x2, x3, _, _, _, _ => ⟨x2, x3, by rw [List.append_nil]; rfl⟩
  | x :: xs, n, found, x2, x3, hx, hf, hd, hl => by
    have nin : x ∉ found := fun h => by
      have := (List.nodup_append.mp hd).2.2 x h x List.mem_cons_self
      exact this rfl
    have e1 : forTurn (.cons (.nm 2) (.cons (.nm 3) .nil)) endB (.tup [.int n, .str x]) (gC t found x2 x3) s = .ok .nx (gC t (found ++ [x]) (.fz (.int n)) (.fz (.str x))) s := end_turn (hx x List.mem_cons_self) hf nin (by simp at hl; omega)
    obtain ⟨a, b, h⟩ := end_loop xs (n + 1) (found ++ [x]) (.fz (.int n)) (.fz (.str x)) (fun y hy => hx y (List.mem_cons_of_mem _ hy)) (fun y hy => by
      rcases List.mem_append.mp hy with hy | hy
      · exact hf y hy
      · rw [List.mem_singleton.mp hy]; exact hx x List.mem_cons_self) (by rw [List.append_assoc]; exact hd) (by simp at hl ⊢; omega)
    refine ⟨a, b, ?_⟩
    show forL _ (.tup [.int n, .str x] :: enumD (n + 1) (xs.map .str)) _ _ = _
    rw [forL_nx e1, h, List.append_assoc]
    rfl
theorem s_checked {e : D} {ends : List Str} {s : Sd} (h : Ends ends) (he : e.seq = some (ends.map .str)) (hl : ends.length ≤ 1000) : ψ_checked_ends [e] s = .ok (endsD ends) true s := by
  rw [checked_eq]
  have e1 : isiF [.list, .tuple] e = some (.fz (.bl true)) := by cases e <;> first | rfl | cases he
  obtain ⟨a, b, lp⟩ := end_loop (t := e) (s := s) ends 0 [] .un .un h.mem (fun y hy => by cases hy) (by simpa using h.nd) (by simpa using hl)
  have e3 : iEnumF (sVar 0) (gC e [] .un .un) s = .ok (enumD 0 (ends.map .str)) (gC e [] .un .un) s := by
    show optD (e.seq.map (enumD 0)) _ _ = _
    rw [he]; rfl
  have e4 : sOne (isiF [.list, .tuple]) (sVar 0) (startG 4 [e]) s = .ok (.fz (.bl true)) (startG 4 [e]) s := by
    show optR (isiF [.list, .tuple] e) _ _ = _
    rw [e1]; rfl
  have e5 : sAsg (.nm 1) (sLst aNil) (startG 4 [e]) s = .ok .nx (gC e [] .un .un) s := rfl
  rw [e_seq, e_iff, e_tnot, e_tof, e4]
  simp only [bind_ok, Bool.not_true]
  rw [e_seq, e5]
  simp only [bind_ok]
  rw [e_seq, e_for, e3]
  simp only [bind_ok]
  rw [lp]
  rfl
theorem s_is_table {e t l : D} {ends : List Str} {s : Sd} (h : Ends ends) (he : e.seq = some (ends.map .str)) (hen : ends.length ≤ 1000) (ht : okD t = true) (hl : okD l = true) (hn : ∀ ps, t.seq = some ps → 2 * ps.length + (l.seq.getD []).length ≤ 1000) :
    ψ_is_table [e, t, l] s = .ok (.bl (tblB ends t l)) false s := by
  unfold ψ_is_table
  rw [fn3]
  have e1 := callG_lst (g := [.fz e, .fz t, .fz l]) (s_checked (s := s) h he hen)
  have f := s_fault (s := s) h.ok ht hl hn
  have e2 : startG 3 [e, t, l] = [.fz e, .fz t, .fz l] := rfl
  rw [e2]
  have e3 : b_is_table [.fz e, .fz t, .fz l] s = (((callG ψ_table_fault_at [endsD ends, t, l] [.fz e, .fz t, .fz l] s).settle.bind fun r g1 s1 => (Out.ok (.fz .non) g1 s1).settle.bind fun r' g2 s2 => two (fun x y => (cmpF .isN x y).map fun k => .fz (.bl k)) g2 s2 (peek g2 r) (peek g2 r')).bind fun r g1 s1 => .ok (.ret r) g1 s1) := by
    unfold b_is_table
    simp [e1]
    rfl
  rw [e3]
  unfold Fault at f
  cases q : tblB ends t l with
  | true =>
    rw [q, if_pos rfl] at f
    rw [callG_ok f]
    rfl
  | false =>
    rw [q, if_neg Bool.false_ne_true] at f
    obtain ⟨r, f⟩ := f
    rw [callG_ok f]
    rfl
end K27
end
section
set_option Elab.async false
set_option linter.all false
set_option maxRecDepth 100000
set_option maxHeartbeats 4000000
/-! PM7: the law's own look at a box. -/
namespace K27
open PySem L2 DI
theorem turn_fig {x : D} {g0 g1 g2 g3 : Sl} {s : Sd} (h : noS x = true) : lcTurn [4] (.nm 4) (fun g s => .ok true g s) (sAnd (sOne (isiF [.int]) (sVar 4)) (sAnd (sOne notF (sOne (isiF [.bool]) (sVar 4))) (sCmp .isIn (sVar 4) (sTup (aCons (sCon (.int 0)) (aCons (sCon (.int 1)) aNil)))))) x [g0, g1, g2, g3, .un] s = .ok (some (.bl (isBit x))) [g0, g1, g2, g3, .un] s := by
  unfold lcTurn
  simp [bindT, bnd]
  cases x with
  | int i =>
    simp [isBit, line_small, isiF, D.isTy, notF, cmpF, inF, flatD, eqD, wipeG]
    rw [Bool.beq_comm (a := 0), Bool.beq_comm (a := 1)]
  | bl b => simp [isBit, line_small, isiF, D.isTy, notF, wipeG]
  | strm => cases h
  | _ => simp [isBit, isiF, D.isTy, wipeG]
theorem turn_isq {x : D} {g0 g1 g2 g4 : Sl} {s : Sd} (h : noS x = true) : lcTurn [3] (.nm 3) (fun g s => .ok true g s) (sOne (isiF [.list, .tuple]) (sVar 3)) x [g0, g1, g2, .un, g4] s = .ok (some (.bl x.seq.isSome)) [g0, g1, g2, .un, g4] s := by
  unfold lcTurn
  simp [bindT, bnd]
  cases x with
  | strm => cases h
  | _ => simp [isiF, D.isTy, wipeG, D.seq]
theorem nin_ends {ends : List Str} {e : Str} (he : ∀ x ∈ ends, PyData.strOk x = true) (h : PyData.strOk e = true) : cmpF .notIn (.str e) (endsD ends) = some (!ends.contains e) := by
  have q := in_ends he h
  show ((inF (.str e) (endsD ends)).map (!·)) = _
  rw [show inF (.str e) (endsD ends) = some (ends.contains e) from q]
  rfl
theorem seq_list {d : D} {xs : List D} (h : d.seq = some xs) : biF .list [d] = some (.nw xs) := by
  cases d <;> first | (cases h; rfl) | cases h
theorem rowN_seq {d : D} {xs : List D} (h : d.seq = some xs) : rowN d = if xs.all isBit then some (xs.map intOf) else none := by
  unfold rowN; rw [h]
theorem rowN_no {d : D} (h : d.seq = none) : rowN d = none := by
  unfold rowN; rw [h]
theorem lbox3 {ends : List Str} {d a b c : D} {s : Sd} (he : ∀ x ∈ ends, PyData.strOk x = true) (ha : okD a = true) (hb : okD b = true) (hc : okD c = true) (h1 : isiF [.list, .tuple] d = some (.fz (.bl true))) (h2 : biF .len [d] = some (.fz (.int 3))) (h3 : ∀ i, subF d (.int i) = atI [a, b, c] i)
    (h4 : ∃ r, slcF d (some 1) none = some r ∧ (r = .nw [b, c] ∨ r = .fz (.tup [b, c]))) :
    DI.finish (b__law_is_box (startG 5 [endsD ends, d]) s) = .ok (.bl (boxI ends [a, b, c]).isSome) false s := by
  have nos : isiF [.str] a = some (.fz (.bl false)) → (boxI ends [a, b, c]) = none → DI.finish (b__law_is_box (startG 5 [endsD ends, d]) s) = .ok (.bl (boxI ends [a, b, c]).isSome) false s := fun e1 e2 => by
    rw [e2]
    simp [b__law_is_box, startG, h1, h2, h3, ne_int, peeks, at30, e1]
  cases a with
  | str e =>
    have he' : PyData.strOk e = true := ha
    have e1 : isiF [.str] (.str e) = some (.fz (.bl true)) := rfl
    have e2 : boxI ends [.str e, b, c] = (if ends.contains e then match rowN b, rowN c with | some a, some b => some ⟨e, a, b⟩ | _, _ => none else none) := rfl
    rw [e2]
    have hin := nin_ends he he'
    cases q : ends.contains e with
    | false =>
      rw [q] at hin
      simp [b__law_is_box, startG, h1, h2, h3, ne_int, peeks, at30, e1, hin]
    | true =>
      rw [q] at hin
      obtain ⟨r, h5, h6⟩ := h4
      have lc := lc_map (F := lcTurn [3] (.nm 3) (fun g s => .ok true g s) (sOne (isiF [.list, .tuple]) (sVar 3))) (h := fun x => .bl x.seq.isSome) (g := [.fz (endsD ends), .fz d, .un, .un, .un]) (s := s) [b, c] [] (fun x hx => turn_isq (by
        simp at hx; rcases hx with rfl | rfl
        · exact ok_noS hb
        · exact ok_noS hc)) (by show 2 ≤ sizeLine; decide)
      have al : biF .all [.lst (([b, c] : List D).map fun x => .bl x.seq.isSome)] = some (.fz (.bl (b.seq.isSome && c.seq.isSome))) := by
        rw [all_map (fun x => x.seq.isSome) [b, c]]
        simp
      simp only [List.nil_append, List.map_cons, List.map_nil] at lc al
      cases qb : b.seq with
      | none =>
        rw [qb] at al lc
        simp only [Option.isSome_none, Bool.false_and] at al lc
        rw [rowN_no qb]
        rcases h6 with rfl | rfl <;> simp [b__law_is_box, startG, h1, h2, h3, ne_int, peeks, at30, e1, hin, h5, wipeG, lc, al, qb]
      | some xb =>
        cases qc : c.seq with
        | none =>
          rw [qb, qc] at al lc
          simp only [Option.isSome_none, Option.isSome_some, Bool.and_false] at al lc
          rw [rowN_no qc]
          rcases h6 with rfl | rfl <;> simp [b__law_is_box, startG, h1, h2, h3, ne_int, peeks, at30, e1, hin, h5, wipeG, lc, al, qb, qc]
        | some xc =>
          rw [qb, qc] at al lc
          simp only [Option.isSome_some, Bool.and_true] at al lc
          have lb := ok_seq hb qb
          have l2 := ok_seq hc qc
          have hadd : binF .add (.lst xb) (.lst xc) = some (.nw (xb ++ xc)) := by
            show (if lineOk (xb.length + xc.length) then some (Rs.nw (xb ++ xc)) else none) = _
            rw [if_pos]
            unfold lineOk
            rw [decide_eq_true_eq]
            exact Nat.le_trans (Nat.add_le_add lb.1 l2.1) (by decide)
          have lf := lc_map (F := lcTurn [4] (.nm 4) (fun g s => .ok true g s) (sAnd (sOne (isiF [.int]) (sVar 4)) (sAnd (sOne notF (sOne (isiF [.bool]) (sVar 4))) (sCmp .isIn (sVar 4) (sTup (aCons (sCon (.int 0)) (aCons (sCon (.int 1)) aNil))))))) (h := fun x => .bl (isBit x)) (g := [.fz (endsD ends), .fz d, .fz (.lst (xb ++ xc)), .un, .un]) (s := s) (xb ++ xc) [] (fun x hx => turn_fig (by
            rcases List.mem_append.mp hx with hx | hx
            · exact ok_noS (lb.2 x hx)
            · exact ok_noS (l2.2 x hx))) (by
              have := lb.1; have := l2.1
              have q3 : (2000 : Nat) ≤ sizeLine := by decide
              rw [List.length_append, List.length_nil]; omega)
          simp only [List.nil_append] at lf
          have al2 := all_map isBit (xb ++ xc)
          rw [rowN_seq qb, rowN_seq qc]
          have fin : (xb ++ xc).all isBit = (xb.all isBit && xc.all isBit) := List.all_append
          rw [fin, List.map_append] at al2
          have step : DI.finish (b__law_is_box (startG 5 [endsD ends, d]) s) = .ok (.bl (xb.all isBit && xc.all isBit)) false s := by
            rcases h6 with rfl | rfl <;> simp [b__law_is_box, startG, h1, h2, h3, ne_int, peeks, at30, at31, at32, e1, hin, h5, wipeG, lc, al, qb, qc, seq_list qb, seq_list qc, hadd, lf, al2]
          rw [step]
          cases xb.all isBit <;> cases xc.all isBit <;> rfl
  | strm => cases ha
  | _ => exact nos rfl rfl
theorem lboxX {ends : List Str} {d : D} {n : Int} {s : Sd} (h1 : isiF [.list, .tuple] d = some (.fz (.bl true))) (h2 : biF .len [d] = some (.fz (.int n))) (h3 : n ≠ 3) : DI.finish (b__law_is_box (startG 5 [endsD ends, d]) s) = .ok (.bl false) false s := by
  have q : (n != 3) = true := by simpa using h3
  simp [b__law_is_box, startG, h1, h2, ne_int, peeks, q]
theorem s_law_is_box {ends : List Str} {d : D} {s : Sd} (he : ∀ x ∈ ends, PyData.strOk x = true) (h : okD d = true) : ψ__law_is_box [endsD ends, d] s = .ok (.bl (boxN ends d).isSome) false s := by
  unfold ψ__law_is_box
  rw [fn2]
  have go : ∀ xs : List D, d.seq = some xs → isiF [.list, .tuple] d = some (.fz (.bl true)) → biF .len [d] = some (.fz (.int xs.length)) → (∀ i, subF d (.int i) = atI xs i) → (∀ a b c, xs = [a, b, c] → ∃ r, slcF d (some 1) none = some r ∧ (r = .nw [b, c] ∨ r = .fz (.tup [b, c]))) →
      DI.finish (b__law_is_box (startG 5 [endsD ends, d]) s) = .ok (.bl (boxI ends xs).isSome) false s := by
    intro xs e1 e2 e3 e4 e5
    have hx := (ok_seq h e1).2
    rcases xs with _ | ⟨a, _ | ⟨b, _ | ⟨c, _ | ⟨x, r⟩⟩⟩⟩
    · exact lboxX e2 e3 (by simp)
    · rw [lboxX e2 e3 (by simp)]; cases a <;> rfl
    · rw [lboxX e2 e3 (by simp)]; cases a <;> rfl
    · exact lbox3 he (hx a (by simp)) (hx b (by simp)) (hx c (by simp)) e2 e3 e4 (e5 a b c rfl)
    · rw [lboxX e2 e3 (by simp; omega)]; cases a <;> rfl
  cases d with
  | lst xs => exact go xs rfl rfl rfl (fun _ => rfl) fun a b c e => by subst e; exact ⟨_, rfl, .inl rfl⟩
  | tup xs => exact go xs rfl rfl rfl (fun _ => rfl) fun a b c e => by subst e; exact ⟨_, rfl, .inr rfl⟩
  | strm => cases h
  | _ => simp [b__law_is_box, startG, isiF, D.isTy, boxN, D.seq]
theorem e_lz {as : Ga → Sd → Out (List D)} {g : Ga} {s : Sd} : sLz as g s = (as g s).bind fun ds g1 s1 => optR ((zipF ds).map .nw) g1 s1 := rfl
/-- two boxes with an address in common, by the law -/
theorem eq_str {a b : Str} (h1 : PyData.strOk a = true) (h2 : PyData.strOk b = true) : cmpF .eq (.str a) (.str b) = some (a == b) := by
  simp [cmpF, eqF, eqP, D.pd, SeqAt.shaped, PyData.canLay0, PyData.depth, PyData.eqv, h1, h2]
theorem all_zip : ∀ xs ys : List Int, (List.zip xs ys).all (fun p => p.1 == p.2) = !rowsApart xs ys
  | [], _ => rfl
  | _ :: _, [] => rfl
  | x :: xs, y :: ys => by
    show ((x == y) && (List.zip xs ys).all (fun p => p.1 == p.2)) = !((x != y) || rowsApart xs ys)
    rw [all_zip xs ys, Bool.not_or]
    cases q : x == y <;> simp_all [bne]
/-- a box of the law's own: its rows are lists -/
def rawBox (b : Bx) (d : D) : Prop := d.seq = some [.str b.e, .lst (b.s.map .int), .lst (b.t.map .int)]
theorem raw_sub {b : Bx} {d : D} (h : rawBox b d) : subF d (.int 0) = some (.str b.e) ∧ subF d (.int 1) = some (.lst (b.s.map .int)) ∧ subF d (.int 2) = some (.lst (b.t.map .int)) := by
  unfold rawBox at h
  cases d <;> first | (cases h; exact ⟨rfl, rfl, rfl⟩) | cases h
theorem s_meet {b c : Bx} {d e : D} {s : Sd} (hb : Bok b) (hc : Bok c) (h1 : rawBox b d) (h2 : rawBox c e) : ψ__law_t_meet [d, e] s = .ok (.bl (!apartB b c)) false s := by
  obtain ⟨d0, d1, d2⟩ := raw_sub h1
  obtain ⟨e0, e1, e2⟩ := raw_sub h2
  unfold ψ__law_t_meet
  rw [fn2]
  have zs : zipF [.lst (b.s.map .int), .lst (c.s.map .int)] = some ((List.zip b.s c.s).map fun p => .tup [.int p.1, .int p.2]) := by rw [zipF_lst, zip_ints]
  have zt : zipF [.lst (b.t.map .int), .lst (c.t.map .int)] = some ((List.zip b.t c.t).map fun p => .tup [.int p.1, .int p.2]) := by rw [zipF_lst, zip_ints]
  have hadd : binF .add (.lst ((List.zip b.s c.s).map fun p => .tup [.int p.1, .int p.2])) (.lst ((List.zip b.t c.t).map fun p => .tup [.int p.1, .int p.2])) = some (.nw ((List.zip b.s c.s ++ List.zip b.t c.t).map fun p => .tup [.int p.1, .int p.2])) := by
    have hs := hb.s; have ht := hb.t
    have q3 : (2000 : Nat) ≤ sizeLine := by decide
    rw [List.map_append]
    refine if_pos ?_
    unfold lineOk
    rw [decide_eq_true_eq]
    simp
    omega
  have lc := lc_mapP (F := lcTurn [3, 4] (.cons (.nm 3) (.cons (.nm 4) .nil)) (fun g s => .ok true g s) (sCmp .eq (sVar 3) (sVar 4))) (e := fun p : Int × Int => .tup [.int p.1, .int p.2]) (h := fun p => .bl (p.1 == p.2)) (g := [.fz d, .fz e, .fz (.lst ((List.zip b.s c.s ++ List.zip b.t c.t).map fun p => .tup [.int p.1, .int p.2])), .un, .un]) (s := s) (List.zip b.s c.s ++ List.zip b.t c.t) []
    (fun p _ => by
      unfold lcTurn
      simp [bindT, bnd, bndT, bndM, bnd0, eq_int', wipeG]) (by
      have hs := hb.s; have ht := hb.t
      have q3 : (2000 : Nat) ≤ sizeLine := by decide
      simp; omega)
  simp only [List.nil_append] at lc
  have al := all_mapP (fun p : Int × Int => p.1 == p.2) (List.zip b.s c.s ++ List.zip b.t c.t)
  rw [List.all_append, all_zip, all_zip] at al
  have hq := eq_str hb.e hc.e
  have hres : (!apartB b c) = ((b.e == c.e) && ((!rowsApart b.s c.s) && (!rowsApart b.t c.t))) := by
    unfold apartB bne
    cases (b.e == c.e) <;> simp
  rw [hres]
  have z1 : sLz (aCons (sTwo (fun x y => (subF x y).map .fz) (sVar 0) (sCon (.int 1))) (aCons (sTwo (fun x y => (subF x y).map .fz) (sVar 1) (sCon (.int 1))) aNil)) (startG 5 [d, e]) s = .ok (.nw ((List.zip b.s c.s).map fun p => .tup [.int p.1, .int p.2])) (startG 5 [d, e]) s := by
    rw [e_lz, show aCons (sTwo (fun x y => (subF x y).map .fz) (sVar 0) (sCon (.int 1))) (aCons (sTwo (fun x y => (subF x y).map .fz) (sVar 1) (sCon (.int 1))) aNil) (startG 5 [d, e]) s = .ok [.lst (b.s.map .int), .lst (c.s.map .int)] (startG 5 [d, e]) s from by simp [startG, d1, e1]]
    rw [bind_ok, zs]; rfl
  have z2 : sLz (aCons (sTwo (fun x y => (subF x y).map .fz) (sVar 0) (sCon (.int 2))) (aCons (sTwo (fun x y => (subF x y).map .fz) (sVar 1) (sCon (.int 2))) aNil)) (startG 5 [d, e]) s = .ok (.nw ((List.zip b.t c.t).map fun p => .tup [.int p.1, .int p.2])) (startG 5 [d, e]) s := by
    rw [e_lz, show aCons (sTwo (fun x y => (subF x y).map .fz) (sVar 0) (sCon (.int 2))) (aCons (sTwo (fun x y => (subF x y).map .fz) (sVar 1) (sCon (.int 2))) aNil) (startG 5 [d, e]) s = .ok [.lst (b.t.map .int), .lst (c.t.map .int)] (startG 5 [d, e]) s from by simp [startG, d2, e2]]
    rw [bind_ok, zt]; rfl
  generalize hZ : ((List.zip b.s c.s ++ List.zip b.t c.t).map fun p : Int × Int => D.tup [.int p.1, .int p.2]) = Z at hadd lc
  have pre : sAsg (.nm 2) (sTwo (binF .add) (sLz (aCons (sTwo (fun x y => (subF x y).map .fz) (sVar 0) (sCon (.int 1))) (aCons (sTwo (fun x y => (subF x y).map .fz) (sVar 1) (sCon (.int 1))) aNil))) (sLz (aCons (sTwo (fun x y => (subF x y).map .fz) (sVar 0) (sCon (.int 2))) (aCons (sTwo (fun x y => (subF x y).map .fz) (sVar 1) (sCon (.int 2))) aNil)))) (startG 5 [d, e]) s = .ok .nx [.fz d, .fz e, .ow Z, .un, .un] s := by
    rw [e_asg, e_two, z1]
    simp only [settle_nw, bind_ok]
    rw [z2]
    simp only [settle_nw, bind_ok, peek_fz, e_two2]
    rw [hadd]
    rfl
  have hb0 : b__law_t_meet (startG 5 [d, e]) s = (sRet (sAnd (sCmp .eq (sTwo (fun x y => (subF x y).map .fz) (sVar 0) (sCon (.int 0))) (sTwo (fun x y => (subF x y).map .fz) (sVar 1) (sCon (.int 0)))) (sBi (biF .all) (lCons (sLc [3, 4] (iSeqF (sVar 2)) (.cons (.nm 3) (.cons (.nm 4) .nil)) (fun g s => .ok true g s) (sCmp .eq (sVar 3) (sVar 4))) lNil)))) [.fz d, .fz e, .ow Z, .un, .un] s := by
    unfold b__law_t_meet
    rw [e_seq, pre]; rfl
  rw [hb0]
  cases q : (b.e == c.e) with
  | false =>
    rw [q] at hq
    simp [d0, e0, hq]
  | true =>
    rw [q] at hq
    generalize hY : ((List.zip b.s c.s ++ List.zip b.t c.t).map fun p : Int × Int => D.bl (p.1 == p.2)) = Y at lc al
    simp [d0, e0, hq, wipeG, lc, peeks, al]
end K27
end
section
set_option Elab.async false
set_option linter.all false
set_option maxRecDepth 100000
set_option maxHeartbeats 4000000
/-! PM8: the law's own look at a table. -/
namespace K27
open PySem L2 DI
def pairB (p : D) : Bool := match p.seq with
  | some [_, _] => true
  | _ => false
def itemsD (p : D) : List D := p.seq.getD []
theorem runB_app {ends : List Str} : ∀ (xs ys : List D) (ahead : List Bx), runB ends ahead (xs ++ ys) = (runB ends ahead xs).bind fun a => runB ends a ys
  | [], _, _ => rfl
  | x :: xs, ys, ahead => by
    rw [List.cons_append, runB_cons, runB_cons]
    cases boxN ends x with
    | none => rfl
    | some b =>
      show (if ahead.all (apartB b) = true then runB ends (ahead ++ [b]) (xs ++ ys) else none) = (if ahead.all (apartB b) = true then runB ends (ahead ++ [b]) xs else none).bind _
      cases ahead.all (apartB b) with
      | false => rfl
      | true => rw [if_pos rfl, if_pos rfl]; exact runB_app xs ys (ahead ++ [b])
theorem runP_cons {ends : List Str} {ahead : List Bx} {p : D} {ps : List D} : runP ends ahead (p :: ps) = match p.seq with
    | some [a, b] => (runB ends ahead [a, b]).bind fun a' => runP ends a' ps
    | _ => none := by
  show (match p.seq with | some [a, b] => (match runB ends ahead [a, b] with | some ahead' => runP ends ahead' ps | none => none) | _ => none) = _
  split
  · cases runB ends ahead _ <;> rfl
  · rfl
theorem runP_pairs {ends : List Str} : ∀ (ps : List D) (ahead : List Bx), ps.all pairB = true → runP ends ahead ps = runB ends ahead (ps.flatMap itemsD)
  | [], _, _ => rfl
  | p :: ps, ahead, h => by
    rw [List.all_cons, Bool.and_eq_true] at h
    obtain ⟨a, b, e⟩ : ∃ a b, p.seq = some [a, b] := by
      have h1 := h.1
      unfold pairB at h1
      split at h1
      · exact ⟨_, _, by assumption⟩
      · cases h1
    rw [runP_cons, e, List.flatMap_cons]
    have e2 : itemsD p = [a, b] := by unfold itemsD; rw [e]; rfl
    rw [e2, runB_app]
    show (runB ends ahead [a, b]).bind _ = _
    congr 1
    funext a'
    exact runP_pairs ps a' h.2
theorem runP_bad {ends : List Str} : ∀ (ps : List D) (ahead : List Bx), ps.all pairB = false → runP ends ahead ps = none
  | [], _, h => by cases h
  | p :: ps, ahead, h => by
    rw [runP_cons]
    rw [List.all_cons] at h
    cases q : pairB p with
    | false =>
      unfold pairB at q
      split at q
      · cases q
      · rfl
    | true =>
      rw [q, Bool.true_and] at h
      split
      · cases runB ends ahead _ with
        | none => rfl
        | some a' => exact runP_bad ps a' h
      · rfl
def meetD (ends : List Str) (d o : D) : Bool := match boxN ends d, boxN ends o with
  | some b, some c => !apartB b c
  | _, _ => false
/-- each box met by none ahead -/
def sepD (ends : List Str) : List D → List D → Bool
  | _, [] => true
  | front, d :: ds => !(front.any fun o => meetD ends d o) && sepD ends (front ++ [d]) ds
theorem run_sep {ends : List Str} : ∀ (ds front : List D) (ahead : List Bx), front.map (boxN ends) = ahead.map some → (∀ d ∈ ds, (boxN ends d).isSome = true) → (runB ends ahead ds).isSome = sepD ends front ds
  | [], _, _, _, _ => rfl
  | d :: ds, front, ahead, hf, hd => by
    obtain ⟨b, e⟩ := Option.isSome_iff_exists.mp (hd d List.mem_cons_self)
    rw [runB_cons, e]
    have q : ahead.all (apartB b) = !(front.any fun o => meetD ends d o) := by
      clear hd
      induction front generalizing ahead with
      | nil => cases ahead <;> first | rfl | cases hf
      | cons o os ih =>
        cases ahead with
        | nil => cases hf
        | cons c cs =>
          rw [List.map_cons, List.map_cons, List.cons.injEq] at hf
          rw [List.all_cons, List.any_cons, ih cs hf.2]
          have m : meetD ends d o = !apartB b c := by unfold meetD; rw [e, hf.1]
          rw [m]
          cases apartB b c <;> simp
    show (if ahead.all (apartB b) = true then runB ends (ahead ++ [b]) ds else none).isSome = (!(front.any fun o => meetD ends d o) && sepD ends (front ++ [d]) ds)
    rw [← q]
    cases ahead.all (apartB b) with
    | false => rfl
    | true =>
      rw [if_pos rfl, Bool.true_and]
      exact run_sep ds (front ++ [d]) (ahead ++ [b]) (by rw [List.map_append, List.map_append, hf, List.map_singleton, List.map_singleton, e]) fun x hx => hd x (List.mem_cons_of_mem _ hx)
theorem run_none {ends : List Str} : ∀ (ds : List D) (ahead : List Bx), (ds.all fun d => (boxN ends d).isSome) = false → (runB ends ahead ds).isSome = false
  | [], _, h => by cases h
  | d :: ds, ahead, h => by
    rw [List.all_cons] at h
    rw [runB_cons]
    cases e : boxN ends d with
    | none => rfl
    | some b =>
      rw [e] at h
      have h : (ds.all fun d => (boxN ends d).isSome) = false := by simpa using h
      show (if ahead.all (apartB b) = true then runB ends (ahead ++ [b]) ds else none).isSome = false
      cases ahead.all (apartB b) with
      | false => rfl
      | true => rw [if_pos rfl]; exact run_none ds _ h
theorem any_ix {ends : List Str} : ∀ (ds front : List D), ((ds.zipIdx front.length).any fun p => ((front ++ ds).take p.2).any fun o => meetD ends p.1 o) = !sepD ends front ds
  | [], front => rfl
  | d :: ds, front => by
    rw [List.zipIdx_cons, List.any_cons]
    have e1 : ((front ++ d :: ds).take front.length) = front := List.take_left' rfl
    have e2 := any_ix (ends := ends) ds (front ++ [d])
    rw [List.length_append, List.append_assoc] at e2
    have e3 : front ++ ([d] ++ ds) = front ++ d :: ds := rfl
    rw [e3] at e2
    rw [e1]
    have e2 : ((ds.zipIdx (front.length + 1)).any fun p => ((front ++ d :: ds).take p.2).any fun o => meetD ends p.1 o) = !sepD ends (front ++ [d]) ds := e2
    rw [e2]
    show _ = !(!(front.any fun o => meetD ends d o) && sepD ends (front ++ [d]) ds)
    rw [Bool.not_and, Bool.not_not]
/-- the law's look, plainly -/
theorem tblB_eq {ends : List Str} {t l : D} {ps ls : List D} (ht : t.seq = some ps) (hl : l.seq = some ls) : tblB ends t l = (ps.all pairB && ((ps.flatMap itemsD ++ ls).all (fun d => (boxN ends d).isSome) && !(((ps.flatMap itemsD ++ ls).zipIdx 0).any fun p => ((ps.flatMap itemsD ++ ls).take p.2).any fun o => meetD ends p.1 o))) := by
  unfold tblB
  rw [ht]
  show tblP ends l (runP ends [] ps) = _
  cases q : ps.all pairB with
  | false => rw [runP_bad ps [] q]; rfl
  | true =>
    rw [runP_pairs ps [] q, Bool.true_and]
    have e1 : tblP ends l (runB ends [] (ps.flatMap itemsD)) = (runB ends [] (ps.flatMap itemsD ++ ls)).isSome := by
      rw [runB_app]
      cases runB ends [] (ps.flatMap itemsD) with
      | none => rfl
      | some a => show lidB ends a l = _; unfold lidB; rw [hl]; rfl
    rw [e1]
    cases q2 : (ps.flatMap itemsD ++ ls).all (fun d => (boxN ends d).isSome) with
    | false => rw [run_none _ _ q2]; rfl
    | true =>
      rw [Bool.true_and]
      have e2 := any_ix (ends := ends) (ps.flatMap itemsD ++ ls) []
      rw [run_sep (ps.flatMap itemsD ++ ls) [] [] rfl (fun d hd => List.all_eq_true.mp q2 d hd)]
      have e2 : (((ps.flatMap itemsD ++ ls).zipIdx 0).any fun p => ((ps.flatMap itemsD ++ ls).take p.2).any fun o => meetD ends p.1 o) = !sepD ends [] (ps.flatMap itemsD ++ ls) := e2
      rw [e2, Bool.not_not]
end K27
end
section
set_option Elab.async false
set_option linter.all false
set_option maxRecDepth 100000
set_option maxHeartbeats 4000000
/-! PM9: the law's own look at a table is that look. -/
namespace K27
open PySem L2 DI
abbrev gL (e t l : D) (x3 : Sl) : Ga := [.fz e, .fz t, .fz l, x3, .un, .un, .un, .un]
abbrev cPair : Ga → Sd → Out Rs := sLc [4] (iSeqF (sVar 1)) (.nm 4) (fun g s => .ok true g s) (sAnd (sOne (isiF [.list, .tuple]) (sVar 4)) (sCmp .eq (sBi (biF .len) (lCons (sVar 4) lNil)) (sCon (.int 2))))
abbrev cList : Ga → Sd → Out Rs := sLc [4] (iSeqF (sVar 1)) (.nm 4) (fun g s => .ok true g s) (sBi (biF .list) (lCons (sVar 4) lNil))
abbrev cBox : Ga → Sd → Out Rs := sLc [5] (iSeqF (sVar 3)) (.nm 5) (fun g s => .ok true g s) (sCall (callG ψ__law_is_box) (aCons (sVar 0) (aCons (sVar 5) aNil)))
abbrev cOne : Ga → Sd → Out Rs := sLc [7] (iSeqF (sSlc (sVar 3) oNone (pOf (sVar 6)))) (.nm 7) (fun g s => .ok true g s) (sCall (callG ψ__law_t_meet) (aCons (sVar 5) (aCons (sVar 7) aNil)))
abbrev cMeet : Ga → Sd → Out Rs := sLc [6, 5] (iEnumF (sVar 3)) (.cons (.nm 6) (.cons (.nm 5) .nil)) (fun g s => .ok true g s) (sBi (biF .any) (lCons cOne lNil))
theorem table_eq {e t l : D} {s : Sd} : ψ__law_is_table [e, t, l] s = DI.finish ((sSeq (sIff (tOrF (tNotF (tOf (sOne (isiF [.list, .tuple]) (sVar 1)))) (tNotF (tOf (sOne (isiF [.list, .tuple]) (sVar 2))))) (sRet (sCon (.bl false))) (fun g s => .ok .nx g s))
    (sSeq (sIff (tNotF (tOf (sBi (biF .all) (lCons cPair lNil)))) (sRet (sCon (.bl false))) (fun g s => .ok .nx g s))
    (sSeq (sAsg (.nm 3) (sTwo (binF .add) (sBiK sumF (aCons cList (aCons (sLst aNil) aNil))) (sBi (biF .list) (lCons (sVar 2) lNil))))
    (sSeq (sIff (tNotF (tOf (sBi (biF .all) (lCons cBox lNil)))) (sRet (sCon (.bl false))) (fun g s => .ok .nx g s))
    (sRet (sOne notF (sBi (biF .any) (lCons cMeet lNil)))))))) (gL e t l .un) s) := rfl
theorem turn_pair {x e t l : D} {x3 : Sl} {s : Sd} (h : okD x = true) : lcTurn [4] (.nm 4) (fun g s => .ok true g s) (sAnd (sOne (isiF [.list, .tuple]) (sVar 4)) (sCmp .eq (sBi (biF .len) (lCons (sVar 4) lNil)) (sCon (.int 2)))) x (gL e t l x3) s = .ok (some (.bl (pairB x))) (gL e t l x3) s := by
  unfold lcTurn
  have go : ∀ xs : List D, x.seq = some xs → isiF [.list, .tuple] x = some (.fz (.bl true)) → biF .len [x] = some (.fz (.int xs.length)) → pairB x = (((xs.length : Nat) : Int) == 2) := by
    intro xs h1 _ _
    unfold pairB
    rw [h1]
    rcases xs with _ | ⟨a, _ | ⟨b, _ | ⟨c, r⟩⟩⟩
    · rfl
    · rfl
    · rfl
    · show false = _
      symm
      simp
      omega
  simp [bindT, bnd]
  cases x with
  | lst xs =>
    have q := go xs rfl rfl rfl
    rw [q]
    simp [isiF, D.isTy, peeks, biF, eq_int', wipeG]
  | tup xs =>
    have q := go xs rfl rfl rfl
    rw [q]
    simp [isiF, D.isTy, peeks, biF, eq_int', wipeG]
  | strm => cases h
  | _ => simp [isiF, D.isTy, pairB, D.seq, wipeG]
theorem pairB_list {x : D} (h : pairB x = true) : biF .list [x] = some (.nw (itemsD x)) := by
  unfold itemsD
  cases x <;> first | rfl | cases h
theorem turn_items {x e t l : D} {x3 : Sl} {s : Sd} (h : pairB x = true) : lcTurn [4] (.nm 4) (fun g s => .ok true g s) (sBi (biF .list) (lCons (sVar 4) lNil)) x (gL e t l x3) s = .ok (some (.lst (itemsD x))) (gL e t l x3) s := by
  unfold lcTurn
  simp [bindT, bnd, peeks, pairB_list h, wipeG]
theorem turn_isbox {ends : List Str} {x t l : D} {x3 : Sl} {s : Sd} (he : ∀ x ∈ ends, PyData.strOk x = true) (h : okD x = true) : lcTurn [5] (.nm 5) (fun g s => .ok true g s) (sCall (callG ψ__law_is_box) (aCons (sVar 0) (aCons (sVar 5) aNil))) x (gL (endsD ends) t l x3) s = .ok (some (.bl (boxN ends x).isSome)) (gL (endsD ends) t l x3) s := by
  unfold lcTurn
  simp [bindT, bnd, callG_ok (s_law_is_box he h), wipeG]
theorem seq_isi {d : D} {xs : List D} (h : d.seq = some xs) : isiF [.list, .tuple] d = some (.fz (.bl true)) := by
  cases d <;> first | rfl | cases h
theorem seq_items {d : D} {xs : List D} (h : d.seq = some xs) : itemsOf d = some xs := by
  cases d <;> first | exact h | cases h
theorem noseq_isi {d : D} (ok : okD d = true) (h : d.seq = none) : isiF [.list, .tuple] d = some (.fz (.bl false)) := by
  cases d with
  | strm => cases ok
  | lst _ => cases h
  | tup _ => cases h
  | _ => rfl
theorem lsts_map {α : Type} (f : α → List D) : ∀ xs : List α, lsts (xs.map fun x => .lst (f x)) = some (xs.map f)
  | [] => rfl
  | x :: xs => by
    show (lsts (xs.map fun x => .lst (f x))).map (f x :: ·) = _
    rw [lsts_map f xs]; rfl
theorem line_le {n : Nat} (h : n ≤ 2000) : lineOk n = true := by
  unfold lineOk
  rw [decide_eq_true_eq]
  exact Nat.le_trans h (by decide)
theorem enumD_zip : ∀ (xs : List D) (n : Nat), enumD n xs = (xs.zipIdx n).map fun p => .tup [.int (p.2 : Nat), p.1]
  | [], _ => rfl
  | x :: xs, n => by
    rw [List.zipIdx_cons, List.map_cons, ← enumD_zip xs (n + 1)]
    rfl
theorem cut_take (xs : List D) (n : Nat) : cutL xs none (some (n : Int)) = xs.take n := by
  unfold cutL
  rw [HT.sIx_none, HT.sIx_nat, List.drop_zero, Nat.sub_zero]
  by_cases h : n ≤ xs.length
  · rw [Nat.min_eq_left h]
  · rw [Nat.min_eq_right (by omega), List.take_length, List.take_of_length_le (by omega)]
/-- the boxes, all of them boxes of the law's own -/
structure Raws (ends : List Str) (ds : List D) : Prop where
  box : ∀ d ∈ ds, ∃ b, boxN ends d = some b ∧ rawBox b d ∧ Bok b
  len : ds.length ≤ 1000
theorem turn_one {ends : List Str} {ds : List D} {d o e t l : D} {n : Int} {s : Sd} (R : Raws ends ds) (hd : d ∈ ds) (ho : o ∈ ds) : lcTurn [7] (.nm 7) (fun g s => .ok true g s) (sCall (callG ψ__law_t_meet) (aCons (sVar 5) (aCons (sVar 7) aNil))) o [.fz e, .fz t, .fz l, .fz (.lst ds), .un, .fz d, .fz (.int n), .un] s = .ok (some (.bl (meetD ends d o))) [.fz e, .fz t, .fz l, .fz (.lst ds), .un, .fz d, .fz (.int n), .un] s := by
  obtain ⟨b, b1, b2, b3⟩ := R.box d hd
  obtain ⟨c, c1, c2, c3⟩ := R.box o ho
  have m : meetD ends d o = !apartB b c := by unfold meetD; rw [b1, c1]
  rw [m]
  unfold lcTurn
  simp [bindT, bnd, callG_ok (s_meet b3 c3 b2 c2), wipeG]
theorem turn_meet {ends : List Str} {ds : List D} {d e t l : D} {n : Nat} {s : Sd} (R : Raws ends ds) (hd : d ∈ ds) :
    lcTurn [6, 5] (.cons (.nm 6) (.cons (.nm 5) .nil)) (fun g s => .ok true g s) (sBi (biF .any) (lCons cOne lNil)) (.tup [.int n, d]) (gL e t l (.fz (.lst ds))) s = .ok (some (.bl ((ds.take n).any fun o => meetD ends d o))) (gL e t l (.fz (.lst ds))) s := by
  have lc := lc_map (F := lcTurn [7] (.nm 7) (fun g s => .ok true g s) (sCall (callG ψ__law_t_meet) (aCons (sVar 5) (aCons (sVar 7) aNil)))) (h := fun o => .bl (meetD ends d o)) (g := [.fz e, .fz t, .fz l, .fz (.lst ds), .un, .fz d, .fz (.int n), .un]) (s := s) (ds.take n) [] (fun o ho => turn_one R hd (List.mem_of_mem_take ho)) (by
    have := R.len
    have q : (ds.take n).length ≤ ds.length := by simp; omega
    exact le_line (by simpa using Nat.le_trans q this))
  simp only [List.nil_append] at lc
  have an := any_map (fun o => meetD ends d o) (ds.take n)
  have e1 : cOne [.fz e, .fz t, .fz l, .fz (.lst ds), .un, .fz d, .fz (.int n), .un] s = .ok (.nw ((ds.take n).map fun o => .bl (meetD ends d o))) [.fz e, .fz t, .fz l, .fz (.lst ds), .un, .fz d, .fz (.int n), .un] s := by
    unfold cOne
    rw [e_lc]
    have q : iSeqF (sSlc (sVar 3) oNone (pOf (sVar 6))) [.fz e, .fz t, .fz l, .fz (.lst ds), .un, .fz d, .fz (.int n), .un] s = .ok (ds.take n) [.fz e, .fz t, .fz l, .fz (.lst ds), .un, .fz d, .fz (.int n), .un] s := by
      simp [slcF, cut_take]
    rw [q, bind_ok]
    have w : wipeG [.fz e, .fz t, .fz l, .fz (.lst ds), .un, .fz d, .fz (.int n), .un] [7] = ([.fz e, .fz t, .fz l, .fz (.lst ds), .un, .fz d, .fz (.int n), .un] : Ga) := rfl
    rw [w, lc]
    rfl
  have bt : bindT (.cons (.nm 6) (.cons (.nm 5) .nil)) (.tup [.int n, d]) (gL e t l (.fz (.lst ds))) = some [.fz e, .fz t, .fz l, .fz (.lst ds), .un, .fz d, .fz (.int n), .un] := rfl
  have e2 : sBi (biF .any) (lCons cOne lNil) [.fz e, .fz t, .fz l, .fz (.lst ds), .un, .fz d, .fz (.int n), .un] s = .ok (.fz (.bl ((ds.take n).any fun o => meetD ends d o))) [.fz e, .fz t, .fz l, .fz (.lst ds), .un, .fz d, .fz (.int n), .un] s := by
    rw [e_bi, e_lcons, e1]
    simp only [settle_nw, bind_ok, e_lnil, peeks, peek_fz, e_one2]
    rw [an]
    rfl
  unfold lcTurn
  rw [bt]
  simp only
  rw [e2]
  rfl
theorem itemsD_ok {p d : D} (h : okD p = true) (hd : d ∈ itemsD p) : okD d = true := by
  unfold itemsD at hd
  cases q : p.seq with
  | none => rw [q] at hd; cases hd
  | some xs => rw [q] at hd; exact (ok_seq h q).2 d hd
theorem tbl_nol {ends : List Str} {t l : D} (h : l.seq = none) : tblB ends t l = false := by
  unfold tblB
  cases t.seq with
  | none => rfl
  | some ps =>
    show tblP ends l (runP ends [] ps) = false
    cases runP ends [] ps with
    | none => rfl
    | some a => show lidB ends a l = false; unfold lidB; rw [h]
theorem s_law_is_table {ends : List Str} {t l : D} {s : Sd} (he : ∀ x ∈ ends, PyData.strOk x = true) (ht : okD t = true) (hl : okD l = true)
    (raw : ∀ ps ls, t.seq = some ps → l.seq = some ls → ∀ d ∈ ps.flatMap itemsD ++ ls, ∀ b, boxN ends d = some b → rawBox b d) (sz : ∀ ps ls, t.seq = some ps → l.seq = some ls → (ps.flatMap itemsD ++ ls).length ≤ 1000) :
    ψ__law_is_table [endsD ends, t, l] s = .ok (.bl (tblB ends t l)) false s := by
  rw [table_eq]
  cases qt : t.seq with
  | none =>
    have e1 := noseq_isi ht qt
    have e2 : tblB ends t l = false := by unfold tblB; rw [qt]
    rw [e2]
    simp [e1]
  | some ps =>
    cases ql : l.seq with
    | none =>
      rw [tbl_nol ql]
      simp [seq_isi qt, noseq_isi hl ql]
    | some ls =>
      have hps := ok_seq ht qt
      have hls := ok_seq hl ql
      have hsz := sz ps ls qt ql
      have hraw := raw ps ls qt ql
      have htb := tblB_eq (ends := ends) qt ql
      -- the pairs
      have lp := lc_map (F := lcTurn [4] (.nm 4) (fun g s => .ok true g s) (sAnd (sOne (isiF [.list, .tuple]) (sVar 4)) (sCmp .eq (sBi (biF .len) (lCons (sVar 4) lNil)) (sCon (.int 2))))) (h := fun x => .bl (pairB x)) (g := gL (endsD ends) t l .un) (s := s) ps [] (fun x hx => turn_pair (hps.2 x hx)) (le_line (by simpa using hps.1))
      simp only [List.nil_append] at lp
      have c1 : cPair (gL (endsD ends) t l .un) s = .ok (.nw (ps.map fun x => .bl (pairB x))) (gL (endsD ends) t l .un) s := by
        unfold cPair
        rw [e_lc, show iSeqF (sVar 1) (gL (endsD ends) t l .un) s = .ok ps (gL (endsD ends) t l .un) s from by simp [seq_items qt], bind_ok]
        rw [show wipeG (gL (endsD ends) t l .un) [4] = gL (endsD ends) t l .un from rfl, lp]
        rfl
      have a1 : sBi (biF .all) (lCons cPair lNil) (gL (endsD ends) t l .un) s = .ok (.fz (.bl (ps.all pairB))) (gL (endsD ends) t l .un) s := by
        rw [e_bi, e_lcons, c1]
        simp only [settle_nw, bind_ok, e_lnil, peeks, peek_fz, e_one2]
        rw [all_map pairB ps]
        rfl
      have t1 : tOrF (tNotF (tOf (sOne (isiF [.list, .tuple]) (sVar 1)))) (tNotF (tOf (sOne (isiF [.list, .tuple]) (sVar 2)))) (gL (endsD ends) t l .un) s = .ok false (gL (endsD ends) t l .un) s := by
        simp [seq_isi qt, seq_isi ql]
      rw [e_seq, e_iff, t1]
      simp only [bind_ok]
      rw [e_seq, e_iff, e_tnot, e_tof, a1]
      simp only [bind_ok]
      cases qp : ps.all pairB with
      | false =>
        rw [htb, qp]
        rfl
      | true =>
        rw [qp, Bool.true_and] at htb
        -- the boxes
        have li := lc_map (F := lcTurn [4] (.nm 4) (fun g s => .ok true g s) (sBi (biF .list) (lCons (sVar 4) lNil))) (h := fun x => .lst (itemsD x)) (g := gL (endsD ends) t l .un) (s := s) ps [] (fun x hx => turn_items (List.all_eq_true.mp qp x hx)) (le_line (by simpa using hps.1))
        simp only [List.nil_append] at li
        have c2 : cList (gL (endsD ends) t l .un) s = .ok (.nw (ps.map fun x => .lst (itemsD x))) (gL (endsD ends) t l .un) s := by
          unfold cList
          rw [e_lc, show iSeqF (sVar 1) (gL (endsD ends) t l .un) s = .ok ps (gL (endsD ends) t l .un) s from by simp [seq_items qt], bind_ok]
          rw [show wipeG (gL (endsD ends) t l .un) [4] = gL (endsD ends) t l .un from rfl, li]
          rfl
        have hfl : (ps.map itemsD).flatten = ps.flatMap itemsD := by rw [List.flatMap_def]
        have hb : lineOk (ps.flatMap itemsD).length = true := line_le (by simp at hsz; simp; omega)
        have c3 : sBiK sumF (aCons cList (aCons (sLst aNil) aNil)) (gL (endsD ends) t l .un) s = .ok (.fz (.lst (ps.flatMap itemsD))) (gL (endsD ends) t l .un) s := by
          show (aCons cList (aCons (sLst aNil) aNil) (gL (endsD ends) t l .un) s).bind (fun ds g s => optR (sumF ds) g s) = _
          rw [show aCons cList (aCons (sLst aNil) aNil) (gL (endsD ends) t l .un) s = .ok [.lst (ps.map fun x => .lst (itemsD x)), .lst []] (gL (endsD ends) t l .un) s from by
            rw [e_acons, c2]; rfl]
          rw [bind_ok]
          have q : sumF [.lst (ps.map fun x => .lst (itemsD x)), .lst []] = some (.fz (.lst (ps.flatMap itemsD))) := by
            show (match lsts (ps.map fun x => .lst (itemsD x)) with | some yss => if lineOk (([] : List D) ++ yss.flatten).length then some (Rs.fz (.lst ([] ++ yss.flatten))) else none | none => none) = _
            rw [lsts_map]
            show (if lineOk (([] : List D) ++ (ps.map itemsD).flatten).length then some (Rs.fz (.lst ([] ++ (ps.map itemsD).flatten))) else none) = _
            rw [hfl, List.nil_append, if_pos hb]
          rw [q]
          rfl
        generalize hB : ps.flatMap itemsD ++ ls = B at hsz hraw htb
        have c4 : sAsg (.nm 3) (sTwo (binF .add) (sBiK sumF (aCons cList (aCons (sLst aNil) aNil))) (sBi (biF .list) (lCons (sVar 2) lNil))) (gL (endsD ends) t l .un) s = .ok .nx (gL (endsD ends) t l (.ow B)) s := by
          rw [e_asg, e_two, c3]
          simp only [settle_fz, bind_ok]
          rw [show sBi (biF .list) (lCons (sVar 2) lNil) (gL (endsD ends) t l .un) s = .ok (.nw ls) (gL (endsD ends) t l .un) s from by simp [peeks, seq_list ql]]
          simp only [settle_nw, bind_ok, peek_fz, e_two2]
          rw [show binF .add (.lst (ps.flatMap itemsD)) (.lst ls) = some (.nw B) from by
            rw [← hB]
            refine if_pos (line_le ?_)
            rw [← hB] at hsz
            rw [List.length_append] at hsz
            omega]
          rfl
        simp only [Bool.not_true, bind_ok]
        rw [e_seq, c4]
        simp only [bind_ok]
        -- all of them boxes
        have hBok : ∀ d ∈ B, okD d = true := fun d hd => by
          rw [← hB] at hd
          rcases List.mem_append.mp hd with hd | hd
          · obtain ⟨p, hp, hd⟩ := List.mem_flatMap.mp hd
            exact itemsD_ok (hps.2 p hp) hd
          · exact hls.2 d hd
        have lb := lc_map (F := lcTurn [5] (.nm 5) (fun g s => .ok true g s) (sCall (callG ψ__law_is_box) (aCons (sVar 0) (aCons (sVar 5) aNil)))) (h := fun x => .bl (boxN ends x).isSome) (g := gL (endsD ends) t l (.fz (.lst B))) (s := s) B [] (fun x hx => turn_isbox he (hBok x hx)) (le_line (by simpa using hsz))
        simp only [List.nil_append] at lb
        have c5 : cBox (gL (endsD ends) t l (.ow B)) s = .ok (.nw (B.map fun x => .bl (boxN ends x).isSome)) (gL (endsD ends) t l (.fz (.lst B))) s := by
          unfold cBox
          rw [e_lc, show iSeqF (sVar 3) (gL (endsD ends) t l (.ow B)) s = .ok B (gL (endsD ends) t l (.fz (.lst B))) s from rfl, bind_ok]
          rw [show wipeG (gL (endsD ends) t l (.fz (.lst B))) [5] = gL (endsD ends) t l (.fz (.lst B)) from rfl, lb]
          rfl
        have a5 : sBi (biF .all) (lCons cBox lNil) (gL (endsD ends) t l (.ow B)) s = .ok (.fz (.bl (B.all fun d => (boxN ends d).isSome))) (gL (endsD ends) t l (.fz (.lst B))) s := by
          rw [e_bi, e_lcons, c5]
          simp only [settle_nw, bind_ok, e_lnil, peeks, peek_fz, e_one2]
          rw [all_map (fun d => (boxN ends d).isSome) B]
          rfl
        rw [e_seq, e_iff, e_tnot, e_tof, a5]
        simp only [bind_ok]
        cases qb : B.all fun d => (boxN ends d).isSome with
        | false =>
          rw [htb, qb]
          rfl
        | true =>
          rw [qb, Bool.true_and] at htb
          have R : Raws ends B := ⟨fun d hd => by
            obtain ⟨b, e⟩ := Option.isSome_iff_exists.mp (List.all_eq_true.mp qb d hd)
            exact ⟨b, e, hraw d hd b e, boxN_ok (hBok d hd) e⟩, hsz⟩
          have lm := lc_mapP (F := lcTurn [6, 5] (.cons (.nm 6) (.cons (.nm 5) .nil)) (fun g s => .ok true g s) (sBi (biF .any) (lCons cOne lNil))) (e := fun p : D × Nat => .tup [.int (p.2 : Nat), p.1]) (h := fun p => .bl ((B.take p.2).any fun o => meetD ends p.1 o)) (g := gL (endsD ends) t l (.fz (.lst B))) (s := s) (B.zipIdx 0) [] (fun p hp => turn_meet R (by
            have := List.mem_zipIdx hp
            exact this.2.2 ▸ List.getElem_mem _)) (le_line (by simpa using hsz))
          simp only [List.nil_append] at lm
          have c6 : cMeet (gL (endsD ends) t l (.fz (.lst B))) s = .ok (.nw ((B.zipIdx 0).map fun p => .bl ((B.take p.2).any fun o => meetD ends p.1 o))) (gL (endsD ends) t l (.fz (.lst B))) s := by
            unfold cMeet
            rw [e_lc, show iEnumF (sVar 3) (gL (endsD ends) t l (.fz (.lst B))) s = .ok (enumD 0 B) (gL (endsD ends) t l (.fz (.lst B))) s from rfl, bind_ok]
            rw [show wipeG (gL (endsD ends) t l (.fz (.lst B))) [6, 5] = gL (endsD ends) t l (.fz (.lst B)) from rfl, enumD_zip, lm]
            rfl
          have a6 : sBi (biF .any) (lCons cMeet lNil) (gL (endsD ends) t l (.fz (.lst B))) s = .ok (.fz (.bl ((B.zipIdx 0).any fun p => (B.take p.2).any fun o => meetD ends p.1 o))) (gL (endsD ends) t l (.fz (.lst B))) s := by
            rw [e_bi, e_lcons, c6]
            simp only [settle_nw, bind_ok, e_lnil, peeks, peek_fz, e_one2]
            rw [any_mapP]
            rfl
          simp only [Bool.not_true, bind_ok]
          rw [e_ret, e_one, a6, htb]
          rfl
end K27
end
section
set_option Elab.async false
set_option linter.all false
set_option maxRecDepth 100000
set_option maxHeartbeats 4000000
/-! PM10: draws that are left; lists for tuples. -/
namespace K27
open PySem L2 DI
/-- k draws are left -/
def Bud (s : Sd) (k : Nat) : Prop := s.Ok ∧ s.cnt + k ≤ 1099511627776
theorem Bud.le {s : Sd} {k j : Nat} (h : Bud s k) (q : j ≤ k) : Bud s j := ⟨h.1, by have := h.2; omega⟩
theorem draw_of {s : Sd} {k : Nat} {many : Int} (h : Bud s (k + 1)) (h0 : 0 < many) (h1 : many < 1073741824) : ∃ v s', 0 ≤ v ∧ v < many ∧ Bud s' k ∧ ψDraw [.strm, .int many] s = .ok (.int v) false s' := by
  have ok : drawOk s many := ⟨h.1, h0, h1, by have := h.2; omega⟩
  obtain ⟨a, b, c, d⟩ := drawF_ok ok
  exact ⟨_, _, a, b, ⟨c, by rw [d]; have := h.2; omega⟩, if_pos ok⟩
mutual
/-- the same but for lists and tuples -/
inductive Lo : D → D → Prop
  | same {d : D} : d.seq = none → Lo d d
  | seq {d d' : D} {xs ys : List D} : d.seq = some xs → d'.seq = some ys → LoL xs ys → Lo d d'
inductive LoL : List D → List D → Prop
  | nil : LoL [] []
  | cons {x y : D} {xs ys : List D} : Lo x y → LoL xs ys → LoL (x :: xs) (y :: ys)
end
mutual
/-- how many draws loosening takes -/
def nd : D → Nat
  | .lst xs => 1 + ndL xs
  | .tup xs => 1 + ndL xs
  | _ => 0
def ndL : List D → Nat
  | [] => 0
  | x :: xs => nd x + ndL xs
end
mutual
/-- how deep -/
def dep : D → Nat
  | .lst xs => 1 + depL xs
  | .tup xs => 1 + depL xs
  | _ => 0
def depL : List D → Nat
  | [] => 0
  | x :: xs => max (dep x) (depL xs)
end
theorem nd_seq {d : D} {xs : List D} (h : d.seq = some xs) : nd d = 1 + ndL xs := by
  cases d <;> first | (cases h; rfl) | cases h
theorem dep_seq {d : D} {xs : List D} (h : d.seq = some xs) : dep d = 1 + depL xs := by
  cases d <;> first | (cases h; rfl) | cases h
theorem depL_mem : ∀ {xs : List D} {x : D}, x ∈ xs → dep x ≤ depL xs
  | y :: ys, x, h => by
    show _ ≤ max (dep y) (depL ys)
    rcases List.mem_cons.mp h with rfl | h
    · exact Nat.le_max_left _ _
    · exact Nat.le_trans (depL_mem h) (Nat.le_max_right _ _)
theorem LoL.len : ∀ {xs ys : List D}, LoL xs ys → xs.length = ys.length
  | _, _, .nil => rfl
  | _, _, .cons _ t => by rw [List.length_cons, List.length_cons, LoL.len t]
theorem LoL.append : ∀ {xs ys xs' ys' : List D}, LoL xs ys → LoL xs' ys' → LoL (xs ++ xs') (ys ++ ys')
  | _, _, _, _, .nil, h => h
  | _, _, _, _, .cons a t, h => .cons a (LoL.append t h)
mutual
theorem Lo.ok : ∀ {d d' : D}, Lo d d' → okD d = true → okD d' = true
  | d, _, .same _, h => h
  | d, d', .seq (xs := xs) (ys := ys) h1 h2 t, h => by
    have q := ok_seq h h1
    have q2 : okDs ys = true := LoL.ok t (okDs_of q.2)
    have q3 : ys.length ≤ 1000 := by rw [← t.len]; exact q.1
    cases d' <;> first
      | (cases h2; show (decide _ && _) = true; rw [q2, decide_eq_true q3]; rfl)
      | cases h2
theorem LoL.ok : ∀ {xs ys : List D}, LoL xs ys → okDs xs = true → okDs ys = true
  | _, _, .nil, _ => rfl
  | _, _, .cons (x := x) (y := y) (xs := xs) (ys := ys) a t, h => by
    have h : (okD x && okDs xs) = true := h
    rw [Bool.and_eq_true] at h
    show (okD y && okDs ys) = true
    rw [Lo.ok a h.1, LoL.ok t h.2]
    rfl
end
theorem seq_nobit {d : D} {xs : List D} (h : d.seq = some xs) : isBit d = false := by
  cases d <;> first | rfl | cases h
theorem boxI_seq {ends : List Str} {x : D} {xs r : List D} (h : x.seq = some xs) : boxI ends (x :: r) = none := by
  cases x with
  | lst _ => rcases r with _ | ⟨a, _ | ⟨b, _ | ⟨c, r⟩⟩⟩ <;> rfl
  | tup _ => rcases r with _ | ⟨a, _ | ⟨b, _ | ⟨c, r⟩⟩⟩ <;> rfl
  | _ => cases h
theorem LoL.bits : ∀ {xs ys : List D}, LoL xs ys → xs.all isBit = true → ys = xs
  | _, _, .nil, _ => rfl
  | _, _, .cons (x := x) (y := y) (xs := xs) (ys := ys) a t, h => by
    rw [List.all_cons, Bool.and_eq_true] at h
    have e : y = x := by
      cases a with
      | same _ => rfl
      | seq h1 _ _ => rw [seq_nobit h1] at h; cases h.1
    rw [e, LoL.bits t h.2]
theorem LoL.bits' : ∀ {xs ys : List D}, LoL xs ys → ys.all isBit = true → ys = xs
  | _, _, .nil, _ => rfl
  | _, _, .cons (x := x) (y := y) (xs := xs) (ys := ys) a t, h => by
    rw [List.all_cons, Bool.and_eq_true] at h
    have e : y = x := by
      cases a with
      | same _ => rfl
      | seq _ h1 _ => rw [seq_nobit h1] at h; cases h.1
    rw [e, LoL.bits' t h.2]
theorem Lo.row {d d' : D} (h : Lo d d') : rowN d' = rowN d := by
  cases h with
  | same _ => rfl
  | seq h1 h2 t =>
    rename_i xs ys
    rw [rowN_seq h1, rowN_seq h2]
    cases q : xs.all isBit with
    | true => rw [t.bits q, q]
    | false =>
      cases q2 : ys.all isBit with
      | true => rw [← t.bits' q2, q2] at q; cases q
      | false => rfl
theorem Lo.boxI {ends : List Str} {xs ys : List D} (h : LoL xs ys) : boxI ends ys = boxI ends xs := by
  cases h with
  | nil => rfl
  | cons a t =>
    rename_i x y xs ys
    cases t with
    | nil =>
      cases a with
      | same _ => rfl
      | seq h1 h2 _ => rw [boxI_seq h1, boxI_seq h2]
    | cons b t =>
      cases t with
      | nil =>
        cases a with
        | same _ => cases x <;> rfl
        | seq h1 h2 _ => rw [boxI_seq h1, boxI_seq h2]
      | cons c t =>
        cases t with
        | nil =>
          cases a with
          | same _ =>
            cases x with
            | str e =>
              show (if ends.contains e then match rowN _, rowN _ with | some a, some b => some (⟨e, a, b⟩ : Bx) | _, _ => none else none) = (if ends.contains e then match rowN _, rowN _ with | some a, some b => some (⟨e, a, b⟩ : Bx) | _, _ => none else none)
              rw [b.row, c.row]
            | _ => rfl
          | seq h1 h2 _ => rw [boxI_seq h1, boxI_seq h2]
        | cons d t =>
          cases a with
          | same _ => cases x <;> rfl
          | seq h1 h2 _ => rw [boxI_seq h1, boxI_seq h2]
theorem Lo.box {ends : List Str} {d d' : D} (h : Lo d d') : boxN ends d' = boxN ends d := by
  cases h with
  | same _ => rfl
  | seq h1 h2 t =>
    unfold boxN
    rw [h1, h2]
    exact Lo.boxI t
theorem LoL.runB {ends : List Str} : ∀ {xs ys : List D}, LoL xs ys → ∀ ahead : List Bx, runB ends ahead ys = runB ends ahead xs
  | _, _, .nil, _ => rfl
  | _, _, .cons a t, ahead => by
    rw [runB_cons, runB_cons, a.box]
    split
    · split
      · exact LoL.runB t _
      · rfl
    · rfl
theorem LoL.runP {ends : List Str} : ∀ {xs ys : List D}, LoL xs ys → ∀ ahead : List Bx, runP ends ahead ys = runP ends ahead xs
  | _, _, .nil, _ => rfl
  | _, _, .cons (x := x) (y := y) (xs := xs) (ys := ys) a t, ahead => by
    rw [runP_cons, runP_cons]
    cases a with
    | same h => rw [h]
    | seq h1 h2 u =>
      rename_i as bs
      rw [h1, h2]
      cases u with
      | nil => rfl
      | cons u1 u =>
        cases u with
        | nil => rfl
        | cons u2 u =>
          cases u with
          | nil =>
            show (K27.runB ends ahead _).bind _ = (K27.runB ends ahead _).bind _
            rw [LoL.runB (.cons u1 (.cons u2 .nil)) ahead]
            congr 1
            funext a'
            exact LoL.runP t a'
          | cons _ _ => rfl
theorem Lo.tbl {ends : List Str} {t t' l l' : D} (h : Lo t t') (h2 : Lo l l') : tblB ends t' l' = tblB ends t l := by
  have hl : ∀ o, tblP ends l' o = tblP ends l o := fun o => by
    cases o with
    | none => rfl
    | some a =>
      show lidB ends a l' = lidB ends a l
      unfold lidB
      cases h2 with
      | same q => rfl
      | seq q1 q2 u => rw [q1, q2]; show (K27.runB ends a _).isSome = (K27.runB ends a _).isSome; rw [LoL.runB u a]
  unfold tblB
  cases h with
  | same q => rw [q]
  | seq q1 q2 u =>
    rw [q1, q2]
    show tblP ends l' (K27.runP ends [] _) = tblP ends l (K27.runP ends [] _)
    rw [LoL.runP u [], hl]
end K27
end
section
set_option Elab.async false
set_option linter.all false
set_option maxRecDepth 100000
set_option maxHeartbeats 4000000
/-! PM11: loosening. -/
namespace K27
open PySem L2 DI
theorem callG_any {ψ : List D → Sd → FOut} {ds : List D} {d : D} {fr : Bool} {g : Ga} {s s' : Sd} (h : ψ ds s = .ok d fr s') : (callG ψ ds g s).keep = .ok d g s' := by
  unfold callG
  rw [h]
  cases fr <;> cases d <;> rfl
abbrev gO (d : D) (x2 : Sl) : Ga := [.fz .strm, .fz d, x2, .un, .un]
abbrev cLoose (r : List D → Sd → FOut) : Ga → Sd → Out Rs := sLc [4] (iSeqF (sVar 1)) (.nm 4) (fun g s => .ok true g s) (sCall (callG r) (aCons (sVar 0) (aCons (sVar 4) aNil)))
theorem loose_eq {n : Nat} {d : D} {s : Sd} : ψ__law_loose (n + 1) [.strm, d] s = DI.finish ((sSeq (sIff (tOf (sOne (isiF [.dict]) (sVar 1))) (sRet (sBiK dictF (aCons (sLc [3] (iSeqF (sCall (callG ψ__law_mixed) (aCons (sVar 0) (aCons (sBi (biF .list) (lCons (sVar 1) lNil)) aNil)))) (.nm 3) (fun g s => .ok true g s) (sTup (aCons (sVar 3) (aCons (sCall (callG (ψ__law_loose n)) (aCons (sVar 0) (aCons (sTwo (fun x y => (subF x y).map .fz) (sVar 1) (sVar 3)) aNil))) aNil)))) aNil))) (fun g s => .ok .nx g s))
    (sSeq (sIff (tNotF (tOf (sOne (isiF [.list, .tuple]) (sVar 1)))) (sRet (sVar 1)) (fun g s => .ok .nx g s))
    (sSeq (sAsg (.nm 2) (cLoose (ψ__law_loose n)))
    (sRet (sIte (tOf (sCmp .eq (sCall (callG ψDraw) (aCons (sVar 0) (aCons (sCon (.int 3)) aNil))) (sCon (.int 0)))) (sVar 2) (sBi (biF .tuple) (lCons (sVar 2) lNil))))))) (gO d .un) s) := rfl
theorem lc_loose {r : List D → Sd → FOut} {d : D} : ∀ (xs acc : List D) (s : Sd) (k : Nat), (∀ x ∈ xs, ∀ s k, Bud s (k + nd x) → ∃ y fr s', r [.strm, x] s = .ok y fr s' ∧ Lo x y ∧ Bud s' k) → Bud s (k + ndL xs) → acc.length + xs.length ≤ sizeLine →
    ∃ ys s', lcL (lcTurn [4] (.nm 4) (fun g s => .ok true g s) (sCall (callG r) (aCons (sVar 0) (aCons (sVar 4) aNil)))) xs acc (gO d .un) s = .ok (acc ++ ys) (gO d .un) s' ∧ LoL xs ys ∧ Bud s' k
  | [], acc, s, k, _, hb, _ => ⟨[], s, by rw [List.append_nil]; rfl, .nil, hb⟩
  | x :: xs, acc, s, k, hx, hb, hl => by
    have e1 : k + ndL (x :: xs) = (k + ndL xs) + nd x := by show k + (nd x + ndL xs) = _; omega
    rw [e1] at hb
    obtain ⟨y, fr, s1, h1, h2, h3⟩ := hx x List.mem_cons_self s _ hb
    have e2 : lcTurn [4] (.nm 4) (fun g s => .ok true g s) (sCall (callG r) (aCons (sVar 0) (aCons (sVar 4) aNil))) x (gO d .un) s = .ok (some y) (gO d .un) s1 := by
      unfold lcTurn
      have q := callG_any (g := [.fz .strm, .fz d, .un, .un, .fz x]) h1
      rw [show bindT (.nm 4) x (gO d .un) = some [.fz .strm, .fz d, .un, .un, .fz x] from rfl]
      simp only
      rw [show sCall (callG r) (aCons (sVar 0) (aCons (sVar 4) aNil)) [.fz .strm, .fz d, .un, .un, .fz x] s = callG r [.strm, x] [.fz .strm, .fz d, .un, .un, .fz x] s from rfl, q]
      rfl
    have hl' : acc.length < sizeLine := by simp at hl; omega
    obtain ⟨ys, s', i1, i2, i3⟩ := lc_loose xs (acc ++ [y]) s1 k (fun z hz => hx z (List.mem_cons_of_mem _ hz)) h3 (by simp at hl ⊢; omega)
    refine ⟨y :: ys, s', ?_, .cons h2 i2, i3⟩
    unfold lcL
    rw [e2]
    show (if acc.length < sizeLine then lcL _ xs (acc ++ [y]) (gO d .un) s1 else .bad) = _
    rw [if_pos hl', i1, List.append_assoc]
    rfl
theorem mixed_nil {s : Sd} : ψ__law_mixed [.strm, .lst []] s = .ok (.lst []) true s := rfl
theorem s_loose : ∀ (n : Nat) (d : D) (s : Sd) (k : Nat), okD d = true → dep d < n → Bud s (k + nd d) → ∃ y fr s', ψ__law_loose n [.strm, d] s = .ok y fr s' ∧ Lo d y ∧ Bud s' k
  | 0, d, s, k, _, h, _ => absurd h (Nat.not_lt_zero _)
  | n + 1, d, s, k, ok, hd, hb => by
    rw [loose_eq]
    have go : ∀ xs : List D, d.seq = some xs → isiF [.dict] d = some (.fz (.bl false)) → ∃ y fr s', DI.finish ((sSeq (sIff (tOf (sOne (isiF [.dict]) (sVar 1))) (sRet (sBiK dictF (aCons (sLc [3] (iSeqF (sCall (callG ψ__law_mixed) (aCons (sVar 0) (aCons (sBi (biF .list) (lCons (sVar 1) lNil)) aNil)))) (.nm 3) (fun g s => .ok true g s) (sTup (aCons (sVar 3) (aCons (sCall (callG (ψ__law_loose n)) (aCons (sVar 0) (aCons (sTwo (fun x y => (subF x y).map .fz) (sVar 1) (sVar 3)) aNil))) aNil)))) aNil))) (fun g s => .ok .nx g s))
    (sSeq (sIff (tNotF (tOf (sOne (isiF [.list, .tuple]) (sVar 1)))) (sRet (sVar 1)) (fun g s => .ok .nx g s))
    (sSeq (sAsg (.nm 2) (cLoose (ψ__law_loose n)))
    (sRet (sIte (tOf (sCmp .eq (sCall (callG ψDraw) (aCons (sVar 0) (aCons (sCon (.int 3)) aNil))) (sCon (.int 0)))) (sVar 2) (sBi (biF .tuple) (lCons (sVar 2) lNil))))))) (gO d .un) s) = .ok y fr s' ∧ Lo d y ∧ Bud s' k := by
      intro xs e1 e2
      have hx := ok_seq ok e1
      have hn : nd d = 1 + ndL xs := nd_seq e1
      have hdp : dep d = 1 + depL xs := dep_seq e1
      rw [hn] at hb
      obtain ⟨ys, s1, i1, i2, i3⟩ := lc_loose (d := d) xs [] s (k + 1) (fun x hm s k hb => s_loose n x s k (hx.2 x hm) (by have := depL_mem hm; omega) hb) (hb.le (by omega)) (le_line (by simpa using hx.1))
      simp only [List.nil_append] at i1
      obtain ⟨v, s2, v1, v2, b2, dr⟩ := draw_of i3 (many := 3) (by decide) (by decide)
      have c1 : cLoose (ψ__law_loose n) (gO d .un) s = .ok (.nw ys) (gO d .un) s1 := by
        unfold cLoose
        rw [e_lc, show iSeqF (sVar 1) (gO d .un) s = .ok xs (gO d .un) s from by simp [seq_items e1], bind_ok]
        rw [show wipeG (gO d .un) [4] = gO d .un from rfl, i1]
        rfl
      have t1 : tOf (sOne (isiF [.dict]) (sVar 1)) (gO d .un) s = .ok false (gO d .un) s := by simp [e2]
      have t2 : tNotF (tOf (sOne (isiF [.list, .tuple]) (sVar 1))) (gO d .un) s = .ok false (gO d .un) s := by simp [seq_isi e1]
      have t3 : tOf (sCmp .eq (sCall (callG ψDraw) (aCons (sVar 0) (aCons (sCon (.int 3)) aNil))) (sCon (.int 0))) (gO d (.ow ys)) s1 = .ok (v == 0) (gO d (.ow ys)) s2 := by
        unfold sCmp
        rw [e_tof, e_two, show sCall (callG ψDraw) (aCons (sVar 0) (aCons (sCon (.int 3)) aNil)) (gO d (.ow ys)) s1 = .ok (.fz (.int v)) (gO d (.ow ys)) s2 from callG_ok dr]
        simp [eq_int']
      rw [e_seq, e_iff, t1]
      simp only [bind_ok]
      rw [e_seq, e_iff, t2]
      simp only [bind_ok]
      rw [e_seq, e_asg, c1]
      simp only [bind_ok]
      rw [show asgTo (.nm 2) (.nw ys) (gO d .un) s1 = .ok .nx (gO d (.ow ys)) s1 from rfl]
      simp only [bind_ok]
      rw [e_ret, e_ite, t3]
      simp only [bind_ok]
      cases v == 0 with
      | true => exact ⟨.lst ys, true, s2, rfl, .seq e1 rfl i2, b2⟩
      | false => exact ⟨.tup ys, false, s2, rfl, .seq e1 rfl i2, b2⟩
    cases d with
    | lst xs => exact go xs rfl rfl
    | tup xs => exact go xs rfl rfl
    | strm => cases ok
    | dic kvs =>
      cases kvs with
      | cons _ _ => cases ok
      | nil => exact ⟨.dic [], false, s, rfl, .same rfl, hb.le (Nat.le_add_right _ _)⟩
    | _ => exact ⟨_, false, s, rfl, .same rfl, hb.le (Nat.le_add_right _ _)⟩
end K27
end
section
set_option Elab.async false
set_option linter.all false
set_option maxRecDepth 100000
set_option maxHeartbeats 4000000
/-! PM12: answers compared; texts of data. -/
namespace K27
open PySem L2 DI
theorem s_same2 {s : Sd} : ∀ a b c d : Bool, ψ__law_same 8 [.lst [.bl a, .bl b], .lst [.bl c, .bl d]] s = .ok (.bl (a == c && b == d)) false s := by
  intro a b c d
  cases a <;> cases b <;> cases c <;> cases d <;> kernel_rfl
mutual
/-- ints that are small -/
def fine : D → Bool
  | .int i => decide (i.natAbs ≤ 1000) && PyData.strOk (PyData.shown (.int i))
  | .str x => PyData.strOk (PyData.shown (.str x))
  | .lst xs => fineL xs
  | .tup xs => fineL xs
  | _ => true
def fineL : List D → Bool
  | [] => true
  | x :: xs => fine x && fineL xs
end
mutual
/-- a bound of the text's length -/
def wt : D → Nat
  | .lst xs => 3 + wtL xs
  | .tup xs => 3 + wtL xs
  | .non => 4
  | .bl _ => 5
  | .int i => (PyData.shown (.int i)).length
  | .str x => (PyData.shown (.str x)).length
  | _ => 2
def wtL : List D → Nat
  | [] => 0
  | x :: xs => wt x + 2 + wtL xs
end
theorem list_len (ts : List Str) : (listText ts).length ≤ 2 + piled ts := by
  cases ts with
  | nil => decide +kernel
  | cons t r =>
    have e : (listText (t :: r)).length = (textFrom 1 (("[" : Str) ++ (if 0 > 0 then ", " else "" : String) ++ t) r).length + 1 := by
      show (textFrom 1 (("[" : Str) ++ (if 0 > 0 then ", " else "" : String) ++ t) r ++ ("]" : Str)).length = _
      rw [strLen_append]; rfl
    rw [e, textFrom_length_pos _ _ _ (by decide), strLen_append, strLen_append]
    have q : (("[" : Str)).length = 1 := by decide +kernel
    have q2 : (((if 0 > 0 then ", " else "" : String) : Str)).length = 0 := by decide +kernel
    rw [q, q2]
    simp [piled]
    omega
theorem tup_len (ts : List Str) : (tupleText ts).length ≤ 3 + piled ts := by
  unfold tupleText
  rw [strLen_append, strLen_append]
  have q : (("(" : Str)).length = 1 := by decide +kernel
  have q2 : (((if ts.length == 1 then ",)" else ")" : String) : Str)).length ≤ 2 := by
    split <;> decide +kernel
  have q3 : (Str.join ", " ts).length ≤ piled ts := by
    cases ts with
    | nil => decide +kernel
    | cons t r => have := join_length_add (t :: r) (by simp); omega
  rw [q]
  omega
theorem sok_app {a b : Str} (h : PyData.strOk a = true) (q : PyData.strOk b = true) : PyData.strOk (a ++ b) = true := by
  show (a.cps ++ b.cps).all _ = true
  rw [Array.all_append, Bool.and_eq_true]
  exact ⟨h, q⟩
theorem sok_from : ∀ (ts : List Str) (n : Nat) (s : Str), PyData.strOk s = true → (∀ t ∈ ts, PyData.strOk t = true) → PyData.strOk (textFrom n s ts) = true
  | [], _, _, h, _ => h
  | t :: ts, n, s, h, q => by
    refine sok_from ts (n + 1) _ (sok_app (sok_app h ?_) (q t List.mem_cons_self)) fun x hx => q x (List.mem_cons_of_mem _ hx)
    split <;> decide +kernel
theorem sok_join : ∀ ts : List Str, (∀ t ∈ ts, PyData.strOk t = true) → PyData.strOk (Str.join ", " ts) = true
  | [], _ => by decide +kernel
  | [t], q => q t List.mem_cons_self
  | t :: u :: ts, q => sok_app (sok_app (q t List.mem_cons_self) (by decide +kernel)) (sok_join (u :: ts) fun x hx => q x (List.mem_cons_of_mem _ hx))
theorem sok_list {ts : List Str} (q : ∀ t ∈ ts, PyData.strOk t = true) : PyData.strOk (listText ts) = true :=
  sok_app (sok_from ts 0 _ (by decide +kernel) q) (by decide +kernel)
theorem sok_tup {ts : List Str} (q : ∀ t ∈ ts, PyData.strOk t = true) : PyData.strOk (tupleText ts) = true :=
  sok_app (sok_app (by decide +kernel) (sok_join ts q)) (by split <;> decide +kernel)
mutual
theorem rd_ok : ∀ d : D, okD d = true → fine d = true → ∃ p, D.rd d = some p ∧ p.showable = true ∧ p.shown.length ≤ wt d ∧ p.depth ≤ dep d + 1 ∧ PyData.strOk p.shown = true
  | .non, _, _ => ⟨.none, rfl, by simp [PyData.showable], by simp only [PyData.shown]; decide +kernel, by simp [PyData.depth], by simp only [PyData.shown]; decide +kernel⟩
  | .bl b, _, _ => ⟨.bool b, rfl, by simp [PyData.showable], by simp only [PyData.shown]; cases b <;> decide +kernel, by simp [PyData.depth], by simp only [PyData.shown]; cases b <;> decide +kernel⟩
  | .int i, _, h => ⟨.int i, rfl, by
      have h : (decide (i.natAbs ≤ 1000) && PyData.strOk (PyData.shown (.int i))) = true := h
      rw [Bool.and_eq_true, decide_eq_true_eq] at h
      have h := h.1
      simp only [PyData.showable, decide_eq_true_eq]
      have q : i.natAbs.log2 ≤ i.natAbs := Nat.log2_le_self _
      omega, Nat.le_refl _, by simp [PyData.depth], by
      have h : (decide (i.natAbs ≤ 1000) && PyData.strOk (PyData.shown (.int i))) = true := h
      rw [Bool.and_eq_true] at h
      exact h.2⟩
  | .str x, _, h => ⟨.str x, rfl, by simp [PyData.showable], Nat.le_refl _, by simp [PyData.depth], h⟩
  | .lst xs, h, f => by
    obtain ⟨ps, e, h1, h2, h3, h4⟩ := rdAll_ok xs (okDs_of (ok_lst h).2) f
    refine ⟨.list ps, ?_, ?_, ?_, ?_, by simp only [PyData.shown]; exact sok_list h4⟩
    · show (match D.rdAll xs with | some ds => some (PyData.list ds) | none => none) = _
      rw [e]
    · simpa [PyData.showable] using h1
    · simp only [PyData.shown]
      have := list_len (PyData.shownAll ps)
      show _ ≤ 3 + wtL xs
      omega
    · simp only [PyData.depth]
      show _ ≤ 1 + depL xs + 1
      omega
  | .tup xs, h, f => by
    obtain ⟨ps, e, h1, h2, h3, h4⟩ := rdAll_ok xs (okDs_of (ok_tup h).2) f
    refine ⟨.tuple ps, ?_, ?_, ?_, ?_, by simp only [PyData.shown]; exact sok_tup h4⟩
    · show (match D.rdAll xs with | some ds => some (PyData.tuple ds) | none => none) = _
      rw [e]
    · simpa [PyData.showable] using h1
    · simp only [PyData.shown]
      have := tup_len (PyData.shownAll ps)
      show _ ≤ 3 + wtL xs
      omega
    · simp only [PyData.depth]
      show _ ≤ 1 + depL xs + 1
      omega
  | .dic [], _, _ => ⟨.dict [], rfl, by simp [PyData.showable, PyData.showableKv], by simp only [PyData.shown, PyData.shownKv]; decide +kernel, by simp [PyData.depth, PyData.depthKv], by simp only [PyData.shown, PyData.shownKv]; decide +kernel⟩
  | .dic (_ :: _), h, _ => by cases h
  | .strm, h, _ => by cases h
theorem rdAll_ok : ∀ xs : List D, okDs xs = true → fineL xs = true → ∃ ps, D.rdAll xs = some ps ∧ PyData.showableAll ps = true ∧ piled (PyData.shownAll ps) ≤ wtL xs ∧ PyData.depthAll ps ≤ depL xs + 1 ∧ ∀ t ∈ PyData.shownAll ps, PyData.strOk t = true
  | [], _, _ => ⟨[], rfl, by simp [PyData.showableAll], by simp [PyData.shownAll, piled], by simp [PyData.depthAll], by simp [PyData.shownAll]⟩
  | x :: xs, h, f => by
    have h : (okD x && okDs xs) = true := h
    have f : (fine x && fineL xs) = true := f
    rw [Bool.and_eq_true] at h f
    obtain ⟨p, e1, a1, a2, a3, a4⟩ := rd_ok x h.1 f.1
    obtain ⟨ps, e2, b1, b2, b3, b4⟩ := rdAll_ok xs h.2 f.2
    refine ⟨p :: ps, ?_, ?_, ?_, ?_, by simp only [PyData.shownAll, List.forall_mem_cons]; exact ⟨a4, b4⟩⟩
    · unfold D.rdAll
      rw [e1, e2]
    · simp [PyData.showableAll, a1, b1]
    · simp only [PyData.shownAll]
      rw [piled_cons]
      show _ ≤ wt x + 2 + wtL xs
      omega
    · simp only [PyData.depthAll]
      show _ ≤ max (dep x) (depL xs) + 1
      omega
end
mutual
theorem Lo.wt : ∀ {d d' : D}, Lo d d' → K27.wt d' = K27.wt d
  | _, _, .same _ => rfl
  | d, d', .seq h1 h2 t => by
    have q := LoL.wt t
    cases d <;> first | (cases h1; cases d' <;> first | (cases h2; show 3 + _ = 3 + _; rw [q]) | cases h2) | cases h1
theorem LoL.wt : ∀ {xs ys : List D}, LoL xs ys → wtL ys = wtL xs
  | _, _, .nil => rfl
  | _, _, .cons a t => by
    show K27.wt _ + 2 + wtL _ = K27.wt _ + 2 + wtL _
    rw [Lo.wt a, LoL.wt t]
end
mutual
theorem Lo.fine : ∀ {d d' : D}, Lo d d' → K27.fine d = true → K27.fine d' = true
  | _, _, .same _, h => h
  | d, d', .seq h1 h2 t, h => by
    have q := LoL.fine t
    cases d <;> first | (cases h1; cases d' <;> first | (cases h2; exact q h) | cases h2) | cases h1
theorem LoL.fine : ∀ {xs ys : List D}, LoL xs ys → fineL xs = true → fineL ys = true
  | _, _, .nil, h => h
  | _, _, .cons (x := x) (y := y) (xs := xs) (ys := ys) a t, h => by
    have h : (K27.fine x && fineL xs) = true := h
    rw [Bool.and_eq_true] at h
    show (K27.fine y && fineL ys) = true
    rw [Lo.fine a h.1, LoL.fine t h.2]
    rfl
end
mutual
theorem Lo.dep : ∀ {d d' : D}, Lo d d' → K27.dep d' = K27.dep d
  | _, _, .same _ => rfl
  | d, d', .seq h1 h2 t => by
    rw [dep_seq h1, dep_seq h2, LoL.dep t]
theorem LoL.dep : ∀ {xs ys : List D}, LoL xs ys → depL ys = depL xs
  | _, _, .nil => rfl
  | _, _, .cons a t => by
    show max (K27.dep _) (depL _) = max (K27.dep _) (depL _)
    rw [Lo.dep a, LoL.dep t]
end
end K27
end
section
set_option Elab.async false
set_option linter.all false
set_option maxRecDepth 100000
set_option maxHeartbeats 4000000
/-! PM13: _law_right. -/
namespace K27
open PySem L2 DI
/-- data that may be passed -/
structure Fit (d : D) : Prop where
  ok : okD d = true
  fine : fine d = true
  dep : dep d ≤ 6
  wt : wt d ≤ 1000000
/-- a table and shut boxes that may be asked about -/
structure Asked (ends : List Str) (t l : D) : Prop where
  ft : Fit t
  fl : Fit l
  raw : ∀ ps ls, t.seq = some ps → l.seq = some ls → ∀ d ∈ ps.flatMap itemsD ++ ls, ∀ b, boxN ends d = some b → rawBox b d
  sz : ∀ ps ls, t.seq = some ps → l.seq = some ls → (ps.flatMap itemsD ++ ls).length ≤ 1000
  sz2 : ∀ ps, t.seq = some ps → 2 * ps.length + (l.seq.getD []).length ≤ 1000
theorem LoL.strs : ∀ {ends : List Str} {ys : List D}, LoL (ends.map D.str) ys → ys = ends.map D.str
  | [], _, .nil => rfl
  | e :: es, _, .cons a t => by
    cases a with
    | same _ => rw [LoL.strs t]; rfl
    | seq h _ _ => cases h
theorem fit_ends {ends : List Str} (h : Ends ends) (hl : ends.length ≤ 16) : Fit (endsD ends) := by
  have q1 : ∀ es : List Str, (∀ e ∈ es, e ∈ names16) → okDs (es.map D.str) = true ∧ fineL (es.map D.str) = true ∧ depL (es.map D.str) = 0 ∧ wtL (es.map D.str) ≤ 100 * es.length := by
    intro es
    induction es with
    | nil => intro _; exact ⟨rfl, rfl, rfl, Nat.le_refl _⟩
    | cons e es ih =>
      intro he
      obtain ⟨i1, i2, i3, i4⟩ := ih fun x hx => he x (List.mem_cons_of_mem _ hx)
      have hw : ∀ x ∈ names16, (PyData.shown (.str x)).length ≤ 98 := by
        simp only [PyData.shown]
        decide +kernel
      have hw' := hw e (he e List.mem_cons_self)
      refine ⟨?_, ?_, ?_, ?_⟩
      · show (PyData.strOk e && okDs (es.map D.str)) = true
        rw [names_ok e (he e List.mem_cons_self), i1]; rfl
      · show (K27.fine (.str e) && fineL (es.map D.str)) = true
        have hz : ∀ x ∈ names16, K27.fine (.str x) = true := by
          show ∀ x ∈ names16, PyData.strOk (PyData.shown (.str x)) = true
          simp only [PyData.shown]
          decide +kernel
        rw [i2, hz e (he e List.mem_cons_self)]; rfl
      · show max 0 (depL (es.map D.str)) = 0
        rw [i3]; rfl
      · show (PyData.shown (.str e)).length + 2 + wtL (es.map D.str) ≤ _
        rw [List.length_cons]
        omega
  obtain ⟨i1, i2, i3, i4⟩ := q1 ends h.mem
  refine ⟨?_, i2, ?_, ?_⟩
  · show (decide ((ends.map D.str).length ≤ 1000) && okDs (ends.map D.str)) = true
    rw [i1, decide_eq_true (by rw [List.length_map]; omega)]; rfl
  · show 1 + depL (ends.map D.str) ≤ 6
    omega
  · show 3 + wtL (ends.map D.str) ≤ _
    omega
theorem nd_ends (ends : List Str) : nd (endsD ends) = 1 := by
  have q : ∀ es : List Str, ndL (es.map D.str) = 0 := fun es => by
    induction es with
    | nil => rfl
    | cons e es ih => show 0 + ndL (es.map D.str) = 0; rw [ih]
  show 1 + ndL (ends.map D.str) = 1
  rw [q]
abbrev gR (e t l : D) (x4 x5 x6 x7 : Sl) : Ga := [.fz .strm, .fz e, .fz t, .fz l, x4, x5, x6, x7]
theorem s_right {ends : List Str} {t l : D} {s : Sd} {k : Nat} (h : Ends ends) (hl : ends.length ≤ 16) (a : Asked ends t l) (hb : Bud s (k + (1 + nd t + nd l))) : ∃ s', ψ__law_right [.strm, endsD ends, t, l] s = .ok (.bl true) false s' ∧ Bud s' k := by
  have fe := fit_ends h hl
  have ld := s_law_is_table (s := s) h.ok a.ft.ok a.fl.ok a.raw a.sz
  obtain ⟨e', f1, s1, le, loe, b1⟩ := s_loose 8 (endsD ends) s (k + nd t + nd l) fe.ok (by have := fe.dep; omega) (hb.le (by rw [nd_ends]; omega))
  obtain ⟨t', f2, s2, lt, lot, b2⟩ := s_loose 8 t s1 (k + nd l) a.ft.ok (by have := a.ft.dep; omega) (b1.le (by omega))
  obtain ⟨l', f3, s3, ll, lol, b3⟩ := s_loose 8 l s2 k a.fl.ok (by have := a.fl.dep; omega) b2
  refine ⟨s3, ?_, b3⟩
  generalize hv : tblB ends t l = v at ld
  -- what is passed
  have he' : e'.seq = some (ends.map .str) := by
    cases loe with
    | same q => cases q
    | seq q1 q2 u => cases q1; rw [q2, LoL.strs u]
  have ok' : okD (.lst [e', t', l']) = true := by
    show (decide ((3 : Nat) ≤ 1000) && (okD e' && (okD t' && (okD l' && true)))) = true
    rw [loe.ok fe.ok, lot.ok a.ft.ok, lol.ok a.fl.ok]; rfl
  have fine' : K27.fine (.lst [e', t', l']) = true := by
    show (K27.fine e' && (K27.fine t' && (K27.fine l' && true))) = true
    rw [loe.fine fe.fine, lot.fine a.ft.fine, lol.fine a.fl.fine]; rfl
  obtain ⟨p, r1, r2, r3, r4, r5⟩ := rd_ok (.lst [e', t', l']) ok' fine'
  have rep : reprF [.lst [e', t', l']] = some (.fz (.str p.shown)) := by
    show (match D.rd (.lst [e', t', l']) with | some p => if p.showable && decide (p.shown.length ≤ sizeLine) && decide (p.depth ≤ 60) then some (Rs.fz (.str p.shown)) else none | none => none) = _
    rw [r1]
    refine if_pos ?_
    have w1 : K27.wt (.lst [e', t', l']) = 3 + (K27.wt e' + 2 + (K27.wt t' + 2 + (K27.wt l' + 2 + 0))) := rfl
    have d1 : K27.dep (.lst [e', t', l']) = 1 + max (K27.dep e') (max (K27.dep t') (max (K27.dep l') 0)) := rfl
    rw [loe.wt, lot.wt, lol.wt] at w1
    rw [loe.dep, lot.dep, lol.dep] at d1
    have := fe.wt; have := a.ft.wt; have := a.fl.wt; have := fe.dep; have := a.ft.dep; have := a.fl.dep
    have q : (4000000 : Nat) ≤ sizeLine := by decide
    rw [r2, decide_eq_true (by omega), decide_eq_true (by omega)]
    rfl
  have it : ψ_is_table [e', t', l'] s3 = .ok (.bl v) false s3 := by
    rw [← hv, ← Lo.tbl (ends := ends) lot lol]
    refine s_is_table h he' (by omega) (lot.ok a.ft.ok) (lol.ok a.fl.ok) fun ps q => ?_
    cases lot with
    | same q2 => rw [q2] at q; cases q
    | seq q1 q2 u =>
      rw [q2] at q
      cases q
      have z := a.sz2 _ q1
      rw [u.len] at z
      cases lol with
      | same q3 => exact z
      | seq q3 q4 u2 => rw [q4]; rw [q3] at z; simpa [u2.len] using z
  have eq : eqF (.str p.shown) (.str p.shown) = some true := by
    show (if SeqAt.shaped (.str p.shown) && SeqAt.shaped (.str p.shown) then some (PyData.eqv (.str p.shown) (.str p.shown)) else none) = _
    have q : SeqAt.shaped (.str p.shown) = true := by
      unfold SeqAt.shaped
      simp [PyData.canLay0, PyData.depth, r5]
    rw [q]
    simp [PyData.eqv]
  have c1 : ∀ g, callG ψ__law_is_table [endsD ends, t, l] g s = .ok (.fz (.bl v)) g s := fun g => callG_ok ld
  have c2 : ∀ g, (callG (ψ__law_loose 8) [.strm, endsD ends] g s).keep = .ok e' g s1 := fun g => callG_any le
  have c3 : ∀ g, (callG (ψ__law_loose 8) [.strm, t] g s1).keep = .ok t' g s2 := fun g => callG_any lt
  have c4 : ∀ g, (callG (ψ__law_loose 8) [.strm, l] g s2).keep = .ok l' g s3 := fun g => callG_any ll
  have c5 : ∀ g, callG ψ_is_table [e', t', l'] g s3 = .ok (.fz (.bl v)) g s3 := fun g => callG_ok it
  have c6 : ∀ g, callG (ψ__law_same 8) [.lst [.bl v, .bl v], .lst [.bl v, .bl v]] g s3 = .ok (.fz (.bl true)) g s3 := fun g => callG_ok (by rw [s_same2]; simp)
  have c7 : permL [2, 1, 0] [l', t', e'] = [e', t', l'] := rfl
  have l2 : lineOk 2 = true := by decide
  have l3 : lineOk 3 = true := by decide
  show DI.finish (b__law_right (gR (endsD ends) t l .un .un .un .un) s) = _
  unfold b__law_right
  have i0 : subF (.lst [e', t', l']) (.int 0) = some e' := rfl
  have i1 : subF (.lst [e', t', l']) (.int 1) = some t' := rfl
  have i2 : subF (.lst [e', t', l']) (.int 2) = some l' := rfl
  have bk : ∀ (f : List D → Option Rs) (as : Ga → Sd → Out (List D)) g s, sBiK f as g s = (as g s).bind fun ds g1 s1 => optR (f ds) g1 s1 := fun _ _ _ _ => rfl
  simp [gR, c1, c2, c3, c4, c5, c6, c7, rep, eq, l2, l3, i0, i1, i2, bk, sCmp, cmpF]
end K27
end
section
set_option Elab.async false
set_option linter.all false
set_option maxRecDepth 100000
set_option maxHeartbeats 4000000
/-! PM14: picks, lists mixed. -/
namespace K27
open PySem L2 DI
theorem erase_perm : ∀ (xs : List D) (i : Nat) (h : i < xs.length), (xs[i] :: xs.eraseIdx i).Perm xs
  | [], _, h => absurd h (Nat.not_lt_zero _)
  | _ :: _, 0, _ => .refl _
  | x :: xs, i + 1, h => (List.Perm.swap x _ _).trans ((erase_perm xs i (Nat.lt_of_succ_lt_succ h)).cons x)
theorem pop_at {xs : List D} {v : Int} (h0 : 0 ≤ v) (h1 : v < (xs.length : Int)) (hl : xs.length ≤ 1000) : ∃ y ys, mtF .popAt xs [.int v] = some (y, ys) ∧ (y :: ys).Perm xs := by
  have hv : v.toNat < xs.length := by omega
  refine ⟨xs[v.toNat], xs.eraseIdx v.toNat, ?_, erase_perm _ _ hv⟩
  have q1 : small v = true := by unfold small; simp; omega
  have q2 : seqIndex? v xs.length = some v.toNat := by
    unfold seqIndex?
    simp
    omega
  show (if small v then (seqIndex? v xs.length).bind fun k => (xs[k]?).map fun y => (y, xs.eraseIdx k) else none) = _
  rw [if_pos q1, q2]
  show (xs[v.toNat]?).map _ = _
  rw [List.getElem?_eq_getElem hv]
  rfl
abbrev gM (d : D) (left : List D) (x : Sl) : Ga := [.fz .strm, .fz d, .ow left, x]
abbrev popB : Ga → Sd → Out Rs := sMth .popAt 2 (aCons (sCall (callG ψDraw) (aCons (sVar 0) (aCons (sBi (biF .len) (lCons (sVar 2) lNil)) aNil))) aNil)
theorem lc_mixed {d : D} : ∀ (js left acc : List D) (s : Sd) (k : Nat), js.length = left.length → Bud s (k + left.length) → acc.length + left.length ≤ 1000 →
    ∃ ys s', lcL (lcTurn [3] (.nm 3) (fun g s => .ok true g s) popB) js acc (gM d left .un) s = .ok (acc ++ ys) (gM d [] .un) s' ∧ ys.Perm left ∧ Bud s' k
  | [], left, acc, s, k, hj, hb, _ => by
    cases left with
    | nil => exact ⟨[], s, by rw [List.append_nil]; rfl, .nil, hb⟩
    | cons _ _ => cases hj
  | j :: js, left, acc, s, k, hj, hb, hl => by
    have hj' : js.length + 1 = left.length := hj
    obtain ⟨v, s1, v1, v2, b1, dr⟩ := draw_of (k := k + js.length) (s := s) (many := (left.length : Int)) (hb.le (by omega)) (by omega) (by omega)
    obtain ⟨y, ys, p1, p2⟩ := pop_at v1 v2 (by omega)
    have hy : ys.length + 1 = left.length := p2.length_eq
    have e1 : popB [.fz .strm, .fz d, .ow left, .fz j] s = .ok (.fz y) [.fz .strm, .fz d, .ow ys, .fz j] s1 := by
      refine e_mth (xs0 := left) (ds := [.int v]) (g1 := [.fz .strm, .fz d, .ow left, .fz j]) rfl ?_ rfl p1
      have c : ∀ g, callG ψDraw [.strm, .int (left.length : Int)] g s = .ok (.fz (.int v)) g s1 := fun g => callG_ok dr
      have l : biF .len [.lst left] = some (.fz (.int (left.length : Int))) := by
        rfl
      simp [c, l, peeks]
    have e2 : lcTurn [3] (.nm 3) (fun g s => .ok true g s) popB j (gM d left .un) s = .ok (some y) (gM d ys .un) s1 := by
      unfold lcTurn
      rw [show bindT (.nm 3) j (gM d left .un) = some [.fz .strm, .fz d, .ow left, .fz j] from rfl]
      simp only
      rw [e1]
      rfl
    obtain ⟨zs, s', i1, i2, i3⟩ := lc_mixed (d := d) js ys (acc ++ [y]) s1 k (by omega) (b1.le (by omega)) (by simp; omega)
    refine ⟨y :: zs, s', ?_, (i2.cons y).trans p2, i3⟩
    unfold lcL
    rw [e2]
    show (if acc.length < sizeLine then lcL _ js (acc ++ [y]) (gM d ys .un) s1 else .bad) = _
    rw [if_pos (by have q : (1000 : Nat) < sizeLine := by decide
                   omega), i1, List.append_assoc]
    rfl
theorem rng_len {n : Nat} (h : n ≤ 1000) : rngF1 [.int (n : Int)] = some ((List.range n).map fun (k : Nat) => .int (k : Int)) := by
  have q : small (n : Int) = true := by unfold small; simp; omega
  show (if small (n : Int) = true then some ((List.range (n : Int).toNat).map fun (k : Nat) => D.int (0 + (k : Int))) else none) = _
  rw [if_pos q, Int.toNat_natCast]
  simp only [Int.zero_add]
theorem s_mixed {d : D} {xs : List D} {s : Sd} {k : Nat} (e : d.seq = some xs) (hl : xs.length ≤ 1000) (hb : Bud s (k + xs.length)) : ∃ ys s', ψ__law_mixed [.strm, d] s = .ok (.lst ys) true s' ∧ ys.Perm xs ∧ Bud s' k := by
  unfold ψ__law_mixed
  rw [fn2]
  obtain ⟨ys, s', i1, i2, i3⟩ := lc_mixed (d := d) ((List.range xs.length).map fun (k : Nat) => .int (k : Int)) xs [] s k (by rw [List.length_map, List.length_range]) hb (by show 0 + _ ≤ _; omega)
  refine ⟨ys, s', ?_, i2, i3⟩
  rw [List.nil_append] at i1
  have l1 : biF .list [d] = some (.nw xs) := by
    cases d <;> first | (cases e; rfl) | cases e
  have l2 : biF .len [.lst xs] = some (.fz (.int (xs.length : Int))) := rfl
  have l3 := rng_len hl
  unfold b__law_mixed
  have a1 : sBi (biF .list) (lCons (sVar 1) lNil) [.fz .strm, .fz d, .un, .un] s = .ok (.nw xs) [.fz .strm, .fz d, .un, .un] s := by simp [l1, peeks]
  have a2 : iRngF rngF1 (aCons (sBi (biF .len) (lCons (sVar 2) lNil)) aNil) (gM d xs .un) s = .ok ((List.range xs.length).map fun (k : Nat) => .int (k : Int)) (gM d xs .un) s := by
    rw [e_irng, e_acons, show sBi (biF .len) (lCons (sVar 2) lNil) (gM d xs .un) s = .ok (.fz (.int (xs.length : Int))) (gM d xs .un) s from rfl, keep_fz, bind_ok, e_anil, bind_ok, bind_ok, l3, optD_some]
  rw [show startG 4 [.strm, d] = [Sl.fz .strm, .fz d, .un, .un] from rfl, e_seq, e_asg, a1, bind_ok]
  rw [show asgTo (.nm 2) (.nw xs) [Sl.fz .strm, .fz d, .un, .un] s = .ok .nx (gM d xs .un) s from rfl, bind_ok]
  simp only
  rw [e_ret, e_lc, a2, bind_ok, show wipeG (gM d xs .un) [3] = gM d xs .un from rfl, i1]
  rfl
theorem s_pick {d : D} {xs : List D} {s : Sd} {k : Nat} (e : d.seq = some xs) (h0 : xs ≠ []) (hl : xs.length ≤ 1000) (hb : Bud s (k + 1)) : ∃ x ∈ xs, ∃ s', ψ__law_pick [.strm, d] s = .ok x false s' ∧ Bud s' k := by
  have h0' : 0 < xs.length := List.length_pos_iff.mpr h0
  obtain ⟨v, s1, v1, v2, b1, dr⟩ := draw_of (k := k) (s := s) (many := (xs.length : Int)) hb (by omega) (by omega)
  have hv : v.toNat < xs.length := by omega
  refine ⟨xs[v.toNat], List.getElem_mem hv, s1, ?_, b1⟩
  unfold ψ__law_pick
  rw [fn2]
  have l2 : biF .len [d] = some (.fz (.int (xs.length : Int))) := by
    cases d <;> first | (cases e; rfl) | cases e
  have l3 : subF d (.int v) = some xs[v.toNat] := by
    have q : atI xs v = some xs[v.toNat] := by
      unfold L2.atI L2.ixN
      rw [if_pos v1, if_pos v2]
      exact List.getElem?_eq_getElem hv
    cases d <;> first | (cases e; exact q) | cases e
  have c : ∀ g, callG ψDraw [.strm, .int (xs.length : Int)] g s = .ok (.fz (.int v)) g s1 := fun g => callG_ok dr
  unfold b__law_pick
  simp [startG, l2, l3, peeks, c]
end K27
end
section
set_option Elab.async false
set_option linter.all false
set_option maxRecDepth 100000
set_option maxHeartbeats 4000000
/-! PM15: ends drawn; boxes drawn; halves. -/
namespace K27
open PySem L2 DI
/-- a box as it is drawn -/
structure Low (ends : List Str) (b : Bx) : Prop where
  e : b.e ∈ ends
  s : ∀ i ∈ b.s, i = 0 ∨ i = 1
  t : ∀ i ∈ b.t, i = 0 ∨ i = 1
  n : b.s.length + b.t.length ≤ 11
structure Bs (ends : List Str) (bs : List Bx) : Prop where
  low : ∀ b ∈ bs, Low ends b
  ap : bs.Pairwise fun b c => apartB b c = true
theorem rows_comm : ∀ a b : List Int, rowsApart a b = rowsApart b a
  | [], [] => rfl
  | [], _ :: _ => rfl
  | _ :: _, [] => rfl
  | x :: xs, y :: ys => by
    show (x != y || rowsApart xs ys) = (y != x || rowsApart ys xs)
    rw [rows_comm xs ys, bne_comm]
theorem apart_comm (b c : Bx) : apartB b c = apartB c b := by
  unfold apartB
  rw [rows_comm b.s, rows_comm b.t, bne_comm]
theorem rows_more : ∀ (a c b : List Int), rowsApart a b = true → rowsApart (a ++ c) b = true
  | [], _, _, h => by cases h
  | x :: xs, c, [], h => by cases h
  | x :: xs, c, y :: ys, h => by
    have h : (x != y || rowsApart xs ys) = true := h
    show (x != y || rowsApart (xs ++ c) ys) = true
    cases q : x != y with
    | true => rfl
    | false =>
      rw [q] at h
      exact rows_more xs c ys h
theorem rows_halves : ∀ a : List Int, rowsApart (a ++ [0]) (a ++ [1]) = true
  | [] => rfl
  | x :: xs => by
    show (x != x || rowsApart (xs ++ [0]) (xs ++ [1])) = true
    rw [rows_halves xs, Bool.or_true]
theorem Bs.perm {ends : List Str} {bs cs : List Bx} (h : Bs ends bs) (p : cs.Perm bs) : Bs ends cs :=
  ⟨fun b hb => h.low b (p.mem_iff.mp hb), (p.pairwise_iff (fun {x y} q => by rw [apart_comm]; exact q)).mpr h.ap⟩
theorem Bs.sub {ends : List Str} {bs cs : List Bx} (h : Bs ends bs) (p : cs.Sublist bs) : Bs ends cs :=
  ⟨fun b hb => h.low b (p.subset hb), h.ap.sublist p⟩
def halvesX (b : Bx) : List Bx := [⟨b.e, b.s ++ [0], b.t⟩, ⟨b.e, b.s ++ [1], b.t⟩]
def halvesY (b : Bx) : List Bx := [⟨b.e, b.s, b.t ++ [0]⟩, ⟨b.e, b.s, b.t ++ [1]⟩]
theorem bits_more {xs : List Int} {j : Int} (h : ∀ i ∈ xs, i = 0 ∨ i = 1) (hj : j = 0 ∨ j = 1) : ∀ i ∈ xs ++ [j], i = 0 ∨ i = 1 := fun i hi => by
  rcases List.mem_append.mp hi with q | q
  · exact h i q
  · rw [List.mem_singleton.mp q]; exact hj
theorem Bs.half {ends : List Str} {b x y : Bx} {bs : List Bx} (h : Bs ends (b :: bs)) (hx : Low ends x) (hy : Low ends y) (xy : apartB x y = true) (mx : ∀ c, apartB b c = true → apartB x c = true) (my : ∀ c, apartB b c = true → apartB y c = true) : Bs ends (bs ++ [x, y]) := by
  have q := List.pairwise_cons.mp h.ap
  have : Bs ends (x :: y :: bs) := by
    refine ⟨fun c hc => ?_, List.pairwise_cons.mpr ⟨fun c hc => ?_, List.pairwise_cons.mpr ⟨fun c hc => my c (q.1 c hc), q.2⟩⟩⟩
    · rcases List.mem_cons.mp hc with rfl | hc
      · exact hx
      · rcases List.mem_cons.mp hc with rfl | hc
        · exact hy
        · exact h.low c (List.mem_cons_of_mem _ hc)
    · rcases List.mem_cons.mp hc with rfl | hc
      · exact xy
      · exact mx c (q.1 c hc)
  exact this.perm (List.perm_append_comm (l₁ := bs) (l₂ := [x, y]))
theorem Bs.halves {ends : List Str} {b : Bx} {bs : List Bx} (h : Bs ends (b :: bs)) (hn : b.s.length + b.t.length ≤ 10) : Bs ends (bs ++ halvesX b) ∧ Bs ends (bs ++ halvesY b) := by
  have l := h.low b List.mem_cons_self
  constructor
  · refine h.half ⟨l.e, bits_more l.s (.inl rfl), l.t, ?_⟩ ⟨l.e, bits_more l.s (.inr rfl), l.t, ?_⟩ ?_ (fun c hc => ?_) (fun c hc => ?_)
    · show (b.s ++ [0]).length + b.t.length ≤ 11
      rw [List.length_append, List.length_singleton]; omega
    · show (b.s ++ [1]).length + b.t.length ≤ 11
      rw [List.length_append, List.length_singleton]; omega
    · show (b.e != b.e || (rowsApart (b.s ++ [0]) (b.s ++ [1]) || rowsApart b.t b.t)) = true
      rw [rows_halves, Bool.true_or, Bool.or_true]
    all_goals
      have hc : (b.e != c.e || (rowsApart b.s c.s || rowsApart b.t c.t)) = true := hc
      show (b.e != c.e || (rowsApart (b.s ++ [_]) c.s || rowsApart b.t c.t)) = true
      cases q : rowsApart b.s c.s with
      | true => rw [rows_more _ _ _ q, Bool.true_or, Bool.or_true]
      | false =>
        rw [q, Bool.false_or] at hc
        rcases Bool.or_eq_true_iff.mp hc with z | z
        · rw [z, Bool.true_or]
        · rw [z, Bool.or_true, Bool.or_true]
  · refine h.half ⟨l.e, l.s, bits_more l.t (.inl rfl), ?_⟩ ⟨l.e, l.s, bits_more l.t (.inr rfl), ?_⟩ ?_ (fun c hc => ?_) (fun c hc => ?_)
    · show b.s.length + (b.t ++ [0]).length ≤ 11
      rw [List.length_append, List.length_singleton]; omega
    · show b.s.length + (b.t ++ [1]).length ≤ 11
      rw [List.length_append, List.length_singleton]; omega
    · show (b.e != b.e || (rowsApart b.s b.s || rowsApart (b.t ++ [0]) (b.t ++ [1]))) = true
      rw [rows_halves, Bool.or_true, Bool.or_true]
    all_goals
      have hc : (b.e != c.e || (rowsApart b.s c.s || rowsApart b.t c.t)) = true := hc
      show (b.e != c.e || (rowsApart b.s c.s || rowsApart (b.t ++ [_]) c.t)) = true
      cases q : rowsApart b.t c.t with
      | true => rw [rows_more _ _ _ q, Bool.or_true, Bool.or_true]
      | false =>
        rw [q, Bool.or_false] at hc
        rcases Bool.or_eq_true_iff.mp hc with z | z
        · rw [z, Bool.true_or]
        · rw [z, Bool.true_or, Bool.or_true]
end K27
end
section
set_option Elab.async false
set_option linter.all false
set_option maxRecDepth 100000
set_option maxHeartbeats 4000000
/-! PM16: ends drawn; halves made. -/
namespace K27
open PySem L2 DI
theorem cut_to (xs : List D) {m : Int} (h : 0 ≤ m) : cutL xs none (some m) = xs.take m.toNat := by
  unfold cutL HT.sIx
  simp only [List.drop_zero, Nat.sub_zero]
  rw [if_neg (by omega)]
  rcases Nat.le_total m.toNat xs.length with q | q
  · rw [Nat.min_eq_left q]
  · rw [Nat.min_eq_right q, List.take_length, List.take_of_length_le q]
theorem map_str : ∀ {ys : List D} {xs : List Str}, ys.Perm (xs.map D.str) → ∃ zs : List Str, ys = zs.map D.str ∧ zs.Perm xs := by
  intro ys xs h
  have q : ∀ y ∈ ys, ∃ z, y = D.str z := fun y hy => by
    obtain ⟨z, _, e⟩ := List.mem_map.mp (h.mem_iff.mp hy)
    exact ⟨z, e.symm⟩
  have go : ∀ ys : List D, (∀ y ∈ ys, ∃ z, y = D.str z) → ∃ zs : List Str, ys = zs.map D.str := by
    intro ys
    induction ys with
    | nil => intro _; exact ⟨[], rfl⟩
    | cons y ys ih =>
      intro hy
      obtain ⟨z, e⟩ := hy y List.mem_cons_self
      obtain ⟨zs, e2⟩ := ih fun a ha => hy a (List.mem_cons_of_mem _ ha)
      exact ⟨z :: zs, by rw [e, e2]; rfl⟩
  obtain ⟨zs, e⟩ := go ys q
  refine ⟨zs, e, ?_⟩
  subst e
  have h2 := h.map (fun d : D => match d with | .str z => z | _ => "")
  rw [List.map_map, List.map_map] at h2
  have id1 : ∀ l : List Str, l.map ((fun d : D => match d with | .str z => z | _ => "") ∘ D.str) = l := fun l => by
    induction l with
    | nil => rfl
    | cons a l ih => rw [List.map_cons, ih]; rfl
  rw [id1, id1] at h2
  exact h2
theorem s_ends {m : Int} {s : Sd} {k : Nat} (h0 : 1 ≤ m) (h1 : m ≤ 4) (hb : Bud s (k + 16)) : ∃ ends s', ψ__law_ends [.strm, .int m] s = .ok (endsD ends) true s' ∧ Ends ends ∧ ends ≠ [] ∧ ends.length ≤ 4 ∧ Bud s' k := by
  obtain ⟨ys, s1, m1, m2, b1⟩ := s_mixed (d := .lst (names16.map D.str)) (s := s) (k := k) rfl (by decide) hb
  obtain ⟨zs, rfl, p⟩ := map_str m2
  have nd : names16.Nodup := by decide +kernel
  have len : zs.length = 16 := p.length_eq
  refine ⟨zs.take m.toNat, s1, ?_, ⟨fun x hx => p.mem_iff.mp (List.mem_of_mem_take hx), (p.nodup_iff.mpr nd).sublist (List.take_sublist _ _)⟩, ?_, ?_, b1⟩
  · unfold ψ__law_ends
    rw [fn2]
    have a1 : (sAsg (.nm 2) (sLst (aCons (sCon (.str "a")) (aCons (sCon (.str "b")) (aCons (sCon (.str "c")) (aCons (sCon (.str "d")) (aCons (sCon (.str "e")) (aCons (sCon (.str "w1")) (aCons (sCon (.str "w2")) (aCons (sCon (.str "in")) (aCons (sCon (.str "out")) (aCons (sCon (.str "in1")) (aCons (sCon (.str "w10")) (aCons (sCon (.str "ends")) (aCons (sCon (.str "lastname")) (aCons (sCon (.str "x0")) (aCons (sCon (.str "y1")) (aCons (sCon (.str "z")) aNil)))))))))))))))))) [Sl.fz .strm, .fz (.int m), .un] s = .ok .nx [Sl.fz .strm, .fz (.int m), .ow (names16.map D.str)] s := rfl
    unfold b__law_ends
    rw [show startG 3 [.strm, .int m] = [Sl.fz .strm, .fz (.int m), .un] from rfl, e_seq, a1, bind_ok]
    simp only
    rw [e_ret, e_slc, e_call, show aCons (sVar 0) (aCons (sVar 2) aNil) [Sl.fz .strm, .fz (.int m), .ow (names16.map D.str)] s = .ok [.strm, .lst (names16.map D.str)] [Sl.fz .strm, .fz (.int m), .fz (.lst (names16.map D.str))] s from rfl, bind_ok, callG_lst m1, settle_nw, bind_ok, e_onone, bind_ok]
    rw [show pOf (sVar 1) [Sl.fz .strm, .fz (.int m), .fz (.lst (names16.map D.str))] s1 = .ok (some m) [Sl.fz .strm, .fz (.int m), .fz (.lst (names16.map D.str))] s1 from rfl, bind_ok]
    rw [peek_fz, e_one2, show slcF (.lst (zs.map D.str)) none (some m) = some (.nw (cutL (zs.map D.str) none (some m))) from rfl, cut_to _ (by omega)]
    show FOut.ok (.lst ((zs.map D.str).take m.toNat)) true s1 = _
    rw [← List.map_take]
    rfl
  · intro e
    have := congrArg List.length e
    rw [List.length_take, len] at this
    simp at this
    omega
  · rw [List.length_take]; omega
theorem s_halves {b : Bx} {s : Sd} (hn : b.s.length + b.t.length ≤ 11) : ψ__law_t_halves [bxD b, .str "x"] s = .ok (.lst ((halvesX b).map bxD)) true s ∧ ψ__law_t_halves [bxD b, .str "y"] s = .ok (.lst ((halvesY b).map bxD)) true s := by
  have big : (1000 : Nat) < sizeLine := by decide
  have ls : lineOk ((b.s.map D.int).length + 1) = true := by
    unfold lineOk
    rw [List.length_map]
    exact decide_eq_true (by omega)
  have lt : lineOk ((b.t.map D.int).length + 1) = true := by
    unfold lineOk
    rw [List.length_map]
    exact decide_eq_true (by omega)
  have l1 : lineOk 1 = true := by decide
  have l2 : lineOk 2 = true := by decide
  have l3 : lineOk 3 = true := by decide
  have ad : ∀ (xs : List D) (y : D), lineOk (xs.length + 1) = true → binF .add (.lst xs) (.lst [y]) = some (.nw (xs ++ [y])) := fun xs y h => by
    show (if lineOk (xs.length + [y].length) = true then some (Rs.nw (xs ++ [y])) else none) = _
    rw [List.length_singleton, h]
    rfl
  have ads : ∀ y : D, binF .add (.lst (b.s.map .int)) (.lst [y]) = some (.nw (b.s.map .int ++ [y])) := fun y => ad _ _ ls
  have adt : ∀ y : D, binF .add (.lst (b.t.map .int)) (.lst [y]) = some (.nw (b.t.map .int ++ [y])) := fun y => ad _ _ lt
  have f1 : ∀ x, DI.finish (b__law_t_halves (startG 5 [bxD b, .str x]) s) = DI.finish ((sSeq (sIff (tOf (sCmp .eq (sVar 1) (sCon (.str "x")))) (sRet (sLst (aCons (sTup (aCons (sVar 2) (aCons (sTwo (binF .add) (sVar 3) (sLst (aCons (sCon (.int 0)) aNil))) (aCons (sVar 4) aNil)))) (aCons (sTup (aCons (sVar 2) (aCons (sTwo (binF .add) (sVar 3) (sLst (aCons (sCon (.int 1)) aNil))) (aCons (sVar 4) aNil)))) aNil)))) (fun g s => .ok .nx g s))
    (sRet (sLst (aCons (sTup (aCons (sVar 2) (aCons (sVar 3) (aCons (sTwo (binF .add) (sVar 4) (sLst (aCons (sCon (.int 0)) aNil))) aNil)))) (aCons (sTup (aCons (sVar 2) (aCons (sVar 3) (aCons (sTwo (binF .add) (sVar 4) (sLst (aCons (sCon (.int 1)) aNil))) aNil)))) aNil))))) [.fz (bxD b), .fz (.str x), .fz (.str b.e), .fz (.lst (b.s.map .int)), .fz (.lst (b.t.map .int))] s) := fun x => rfl
  have c1 : cmpF .eq (.str "x") (.str "x") = some true := by decide +kernel
  have c2 : cmpF .eq (.str "y") (.str "x") = some false := by decide +kernel
  unfold ψ__law_t_halves
  rw [fn2, fn2, f1, f1]
  constructor
  · rw [e_seq, e_iff, e_tof, show sCmp .eq (sVar 1) (sCon (.str "x")) [Sl.fz (bxD b), .fz (.str "x"), .fz (.str b.e), .fz (.lst (b.s.map .int)), .fz (.lst (b.t.map .int))] s = .ok (.fz (.bl true)) [Sl.fz (bxD b), .fz (.str "x"), .fz (.str b.e), .fz (.lst (b.s.map .int)), .fz (.lst (b.t.map .int))] s from by unfold sCmp; simp [c1]]
    simp [ads, adt, l1, l2, l3, halvesX, bxD]
  · rw [e_seq, e_iff, e_tof, show sCmp .eq (sVar 1) (sCon (.str "x")) [Sl.fz (bxD b), .fz (.str "y"), .fz (.str b.e), .fz (.lst (b.s.map .int)), .fz (.lst (b.t.map .int))] s = .ok (.fz (.bl false)) [Sl.fz (bxD b), .fz (.str "y"), .fz (.str b.e), .fz (.lst (b.s.map .int)), .fz (.lst (b.t.map .int))] s from by unfold sCmp; simp [c2]]
    simp [ads, adt, l1, l2, l3, halvesY, bxD]
end K27
end
section
set_option Elab.async false
set_option linter.all false
set_option maxRecDepth 100000
set_option maxHeartbeats 4000000
/-! PM17: a table drawn: the cuts. -/
namespace K27
open PySem L2 DI
theorem perm_map {α : Type} {f : α → D} (g : D → α) (hg : ∀ a, g (f a) = a) {ys : List D} {xs : List α} (h : ys.Perm (xs.map f)) : ∃ zs : List α, ys = zs.map f ∧ zs.Perm xs := by
  have id1 : ∀ l : List α, (l.map f).map g = l := fun l => by
    induction l with
    | nil => rfl
    | cons a l ih => rw [List.map_cons, List.map_cons, ih, hg]
  refine ⟨ys.map g, ?_, ?_⟩
  · have q : ∀ y ∈ ys, f (g y) = y := fun y hy => by
      obtain ⟨z, _, e⟩ := List.mem_map.mp (h.mem_iff.mp hy)
      rw [← e, hg]
    have go : ∀ ys : List D, (∀ y ∈ ys, f (g y) = y) → ys = (ys.map g).map f := by
      intro ys
      induction ys with
      | nil => intro _; rfl
      | cons y ys ih =>
        intro hy
        rw [List.map_cons, List.map_cons, hy y List.mem_cons_self, ← ih fun a ha => hy a (List.mem_cons_of_mem _ ha)]
    exact go ys q
  · have h2 := h.map g
    rw [id1] at h2
    exact h2
def ubx : D → Bx
  | .tup [.str e, .lst s, .lst t] => ⟨e, s.map intOf, t.map intOf⟩
  | _ => ⟨"", [], []⟩
theorem ubx_bx (b : Bx) : ubx (bxD b) = b := by
  have q : ∀ l : List Int, (l.map D.int).map intOf = l := fun l => by
    induction l with
    | nil => rfl
    | cons a l ih => rw [List.map_cons, List.map_cons, ih]; rfl
  show (⟨b.e, (b.s.map D.int).map intOf, (b.t.map D.int).map intOf⟩ : Bx) = b
  rw [q, q]
abbrev gU (e c : D) (left : List D) (x4 x5 x6 x7 x8 x9 : Sl) : Ga := [.fz .strm, .fz e, .fz c, .ow left, x4, x5, x6, x7, x8, x9]
abbrev popU : Ga → Sd → Out Rs := sMth .popAt 3 (aCons (sCall (callG ψDraw) (aCons (sVar 0) (aCons (sBi (biF .len) (lCons (sVar 3) lNil)) aNil))) aNil)
abbrev longU : Ga → Sd → Out Rs := sCmp .gt (sTwo (binF .add) (sBi (biF .len) (lCons (sTwo (fun x y => (subF x y).map .fz) (sVar 5) (sCon (.int 1))) lNil)) (sBi (biF .len) (lCons (sTwo (fun x y => (subF x y).map .fz) (sVar 5) (sCon (.int 2))) lNil))) (sCon (.int 10))
abbrev addU : Ga → Sd → Out (List D) := aCons (sIte (tOf (sVar 6)) (sLst (aCons (sVar 5) aNil)) (sCall (callG ψ__law_t_halves) (aCons (sVar 5) (aCons (sCall (callG ψ__law_pick) (aCons (sVar 0) (aCons (sLst (aCons (sCon (.str "x")) (aCons (sCon (.str "y")) aNil))) aNil))) aNil)))) aNil
abbrev cutB : Ga → Sd → Out DI.Flow := sSeq (sAsg (.nm 5) popU) (sSeq (sAsg (.nm 6) longU) (sExp (sMth .extend 3 addU)))
theorem cut_turn {ends : List Str} {e c : D} {bs : List Bx} {x4 x5 x6 x7 x8 x9 : Sl} {s : Sd} {k : Nat} (h : Bs ends bs) (h0 : bs ≠ []) (hl : bs.length ≤ 100) (hb : Bud s (k + 2)) :
    ∃ bs' y5 y6 s', cutB (gU e c (bs.map bxD) x4 x5 x6 x7 x8 x9) s = .ok .nx (gU e c (bs'.map bxD) x4 y5 y6 x7 x8 x9) s' ∧ Bs ends bs' ∧ bs' ≠ [] ∧ bs'.length ≤ bs.length + 1 ∧ Bud s' k := by
  have hp : 0 < bs.length := List.length_pos_iff.mpr h0
  have hm : (bs.map bxD).length = bs.length := List.length_map _
  obtain ⟨v, s1, v1, v2, b1, dr⟩ := draw_of (k := k + 1) (s := s) (many := ((bs.map bxD).length : Int)) hb (by omega) (by omega)
  obtain ⟨y, ys, p1, p2⟩ := pop_at v1 v2 (by omega)
  obtain ⟨zs, e1, p3⟩ := perm_map ubx ubx_bx p2
  cases zs with
  | nil => cases e1
  | cons b cs =>
    rw [List.map_cons, List.cons.injEq] at e1
    obtain ⟨rfl, rfl⟩ := e1
    have hB := h.perm p3
    have hlen : cs.length + 1 = bs.length := p3.length_eq
    have low := hB.low b List.mem_cons_self
    have a1 : popU (gU e c (bs.map bxD) x4 x5 x6 x7 x8 x9) s = .ok (.fz (bxD b)) (gU e c (cs.map bxD) x4 x5 x6 x7 x8 x9) s1 := by
      refine e_mth (xs0 := bs.map bxD) (ds := [.int v]) (g1 := gU e c (bs.map bxD) x4 x5 x6 x7 x8 x9) rfl ?_ rfl p1
      rw [e_acons, e_call, show aCons (sVar 0) (aCons (sBi (biF .len) (lCons (sVar 3) lNil)) aNil) (gU e c (bs.map bxD) x4 x5 x6 x7 x8 x9) s = .ok [.strm, .int ((bs.map bxD).length : Int)] (gU e c (bs.map bxD) x4 x5 x6 x7 x8 x9) s from rfl, bind_ok, callG_ok dr, keep_fz, bind_ok, e_anil, bind_ok]
    have a2 : longU (gU e c (cs.map bxD) x4 (.fz (bxD b)) x6 x7 x8 x9) s1 = .ok (.fz (.bl (decide (10 < ((b.s.map D.int).length : Int) + ((b.t.map D.int).length : Int))))) (gU e c (cs.map bxD) x4 (.fz (bxD b)) x6 x7 x8 x9) s1 := rfl
    have big : (1000 : Nat) < sizeLine := by decide
    have ext : ∀ {ds : List Bx} {g : Ga} {s2 : Sd}, addU g s1 = .ok [.lst (ds.map bxD)] g s2 → ds.length ≤ 2 → g[3]? = some (.ow (cs.map bxD)) → sMth .extend 3 addU g s1 = .ok (.fz .non) (g.set 3 (.ow ((cs ++ ds).map bxD))) s2 := by
      intro ds g s2 q1 q2 q3
      refine e_mth (xs0 := cs.map bxD) q3 q1 q3 ?_
      show (if (cs.map bxD).length + (ds.map bxD).length ≤ sizeLine then some (D.non, cs.map bxD ++ ds.map bxD) else none) = _
      rw [if_pos (by rw [List.length_map, List.length_map]; omega), List.map_append]
    have fin : ∀ {ds : List Bx} {s2 : Sd} {q : Bool}, addU (gU e c (cs.map bxD) x4 (.fz (bxD b)) (.fz (.bl q)) x7 x8 x9) s1 = .ok [.lst (ds.map bxD)] (gU e c (cs.map bxD) x4 (.fz (bxD b)) (.fz (.bl q)) x7 x8 x9) s2 → decide (10 < ((b.s.map D.int).length : Int) + ((b.t.map D.int).length : Int)) = q → ds.length ≤ 2 → cutB (gU e c (bs.map bxD) x4 x5 x6 x7 x8 x9) s = .ok .nx (gU e c ((cs ++ ds).map bxD) x4 (.fz (bxD b)) (.fz (.bl q)) x7 x8 x9) s2 := by
      intro ds s2 q q1 q2 q3
      have q4 := ext q1 q3 rfl
      unfold cutB
      rw [e_seq, e_asg, a1, bind_ok, show asgTo (.nm 5) (.fz (bxD b)) (gU e c (cs.map bxD) x4 x5 x6 x7 x8 x9) s1 = .ok .nx (gU e c (cs.map bxD) x4 (.fz (bxD b)) x6 x7 x8 x9) s1 from rfl, bind_ok]
      simp only
      rw [e_seq, e_asg, a2, q2, bind_ok, show asgTo (.nm 6) (.fz (.bl q)) (gU e c (cs.map bxD) x4 (.fz (bxD b)) x6 x7 x8 x9) s1 = .ok .nx (gU e c (cs.map bxD) x4 (.fz (bxD b)) (.fz (.bl q)) x7 x8 x9) s1 from rfl, bind_ok]
      simp only
      rw [e_exp, q4]
      rfl
    cases q : decide (10 < ((b.s.map D.int).length : Int) + ((b.t.map D.int).length : Int)) with
    | true =>
      refine ⟨cs ++ [b], _, _, s1, fin (ds := [b]) rfl q (Nat.le_succ 1), hB.perm (List.perm_append_comm (l₁ := cs) (l₂ := [b])), by simp, by rw [List.length_append, List.length_singleton]; omega, b1.le (by omega)⟩
    | false =>
      have hn : b.s.length + b.t.length ≤ 10 := by
        have := of_decide_eq_false q
        rw [List.length_map, List.length_map] at this
        omega
      obtain ⟨x, hx, s2, d1, b2⟩ := s_pick (d := .lst [.str "x", .str "y"]) (s := s1) (k := k) rfl (by simp) (by decide) b1
      obtain ⟨hX, hY⟩ := hB.halves hn
      obtain ⟨z1, z2⟩ := s_halves (b := b) (s := s2) (by omega)
      have ev : ∀ {ds : List Bx}, ψ__law_t_halves [bxD b, x] s2 = .ok (.lst (ds.map bxD)) true s2 → addU (gU e c (cs.map bxD) x4 (.fz (bxD b)) (.fz (.bl false)) x7 x8 x9) s1 = .ok [.lst (ds.map bxD)] (gU e c (cs.map bxD) x4 (.fz (bxD b)) (.fz (.bl false)) x7 x8 x9) s2 := by
        intro ds z
        unfold addU
        rw [e_acons, e_ite, show tOf (sVar 6) (gU e c (cs.map bxD) x4 (.fz (bxD b)) (.fz (.bl false)) x7 x8 x9) s1 = .ok false (gU e c (cs.map bxD) x4 (.fz (bxD b)) (.fz (.bl false)) x7 x8 x9) s1 from rfl, bind_ok]
        simp only
        rw [e_call, e_acons, show sVar 5 (gU e c (cs.map bxD) x4 (.fz (bxD b)) (.fz (.bl false)) x7 x8 x9) s1 = .ok (.fz (bxD b)) (gU e c (cs.map bxD) x4 (.fz (bxD b)) (.fz (.bl false)) x7 x8 x9) s1 from rfl, keep_fz, bind_ok, e_acons, e_call, show aCons (sVar 0) (aCons (sLst (aCons (sCon (.str "x")) (aCons (sCon (.str "y")) aNil))) aNil) (gU e c (cs.map bxD) x4 (.fz (bxD b)) (.fz (.bl false)) x7 x8 x9) s1 = .ok [.strm, .lst [.str "x", .str "y"]] (gU e c (cs.map bxD) x4 (.fz (bxD b)) (.fz (.bl false)) x7 x8 x9) s1 from rfl, bind_ok, callG_ok d1, keep_fz, bind_ok, e_anil, bind_ok, bind_ok, bind_ok, callG_lst z]
        rfl
      rcases List.mem_cons.mp hx with rfl | hx
      · exact ⟨cs ++ halvesX b, _, _, s2, fin (ev z1) q (Nat.le_refl 2), hX, by simp [halvesX], by rw [List.length_append]; show cs.length + 2 ≤ _; omega, b2⟩
      · rw [List.mem_singleton.mp hx] at ev
        exact ⟨cs ++ halvesY b, _, _, s2, fin (ev z2) q (Nat.le_refl 2), hY, by simp [halvesY], by rw [List.length_append]; show cs.length + 2 ≤ _; omega, b2⟩
end K27
end
section
set_option Elab.async false
set_option linter.all false
set_option maxRecDepth 100000
set_option maxHeartbeats 4000000
/-! PM18: a list that is not empty. -/
namespace K27
open PySem L2 DI
/-- data that may be compared -/
def Eqv (n : Nat) (d : D) : Prop := ∃ p, D.pd d = some p ∧ p.canLay0 = true ∧ p.depth ≤ n
theorem Eqv.all {n : Nat} : ∀ {xs : List D}, (∀ x ∈ xs, Eqv n x) → ∃ ps, D.pdAll xs = some ps ∧ ps.length = xs.length ∧ PyData.canLayAll0 ps = true ∧ PyData.depthAll ps ≤ n
  | [], _ => ⟨[], rfl, rfl, by simp [PyData.canLayAll0], by simp [PyData.depthAll]⟩
  | x :: xs, h => by
    obtain ⟨p, e1, a1, a2⟩ := h x List.mem_cons_self
    obtain ⟨ps, e2, b0, b1, b2⟩ := Eqv.all (xs := xs) fun y hy => h y (List.mem_cons_of_mem _ hy)
    refine ⟨p :: ps, ?_, by rw [List.length_cons, List.length_cons, b0], ?_, ?_⟩
    · unfold D.pdAll
      rw [e1, e2]
    · simp [PyData.canLayAll0, a1, b1]
    · simp only [PyData.depthAll]
      omega
theorem Eqv.lst {n : Nat} {xs : List D} (h : ∀ x ∈ xs, Eqv n x) : Eqv (n + 1) (.lst xs) := by
  obtain ⟨ps, e, _, b1, b2⟩ := Eqv.all h
  refine ⟨.list ps, ?_, ?_, ?_⟩
  · show (match D.pdAll xs with | some ds => some (PyData.list ds) | none => none) = _
    rw [e]
  · simpa [PyData.canLay0] using b1
  · simp only [PyData.depth]
    omega
theorem Eqv.tup {n : Nat} {xs : List D} (h : ∀ x ∈ xs, Eqv n x) : Eqv (n + 1) (.tup xs) := by
  obtain ⟨ps, e, _, b1, b2⟩ := Eqv.all h
  refine ⟨.tuple ps, ?_, ?_, ?_⟩
  · show (match D.pdAll xs with | some ds => some (PyData.tuple ds) | none => none) = _
    rw [e]
  · simpa [PyData.canLay0] using b1
  · simp only [PyData.depth]
    omega
theorem eqv_bx {ends : List Str} (he : Ends ends) {b : Bx} (h : b.e ∈ ends) : Eqv 3 (bxD b) := by
  have hi : ∀ l : List Int, ∀ x ∈ l.map D.int, Eqv 1 x := fun l x hx => by
    obtain ⟨i, _, rfl⟩ := List.mem_map.mp hx
    exact ⟨.int i, rfl, by simp [PyData.canLay0], by simp [PyData.depth]⟩
  refine Eqv.tup (n := 2) fun x hx => ?_
  rcases List.mem_cons.mp hx with rfl | hx
  · exact ⟨.str b.e, rfl, by simpa [PyData.canLay0] using he.ok b.e h, by simp [PyData.depth]⟩
  · rcases List.mem_cons.mp hx with rfl | hx
    · exact Eqv.lst (hi b.s)
    · rw [List.mem_singleton.mp hx]
      exact Eqv.lst (hi b.t)
theorem ne_nil {n : Nat} {xs : List D} (h : ∀ x ∈ xs, Eqv n x) (hn : n ≤ 50) : cmpF .ne (.lst xs) (.lst []) = some (!xs.isEmpty) := by
  obtain ⟨ps, e, e2, b1, b2⟩ := Eqv.all h
  show (eqP (D.pd (.lst xs)) (D.pd (.lst []))).map (!·) = _
  have q : D.pd (.lst xs) = some (.list ps) := by
    show (match D.pdAll xs with | some ds => some (PyData.list ds) | none => none) = _
    rw [e]
  rw [q]
  have s1 : SeqAt.shaped (.list ps) = true := by
    unfold SeqAt.shaped
    rw [show PyData.canLay0 (.list ps) = true from by simpa [PyData.canLay0] using b1, Bool.true_and]
    refine decide_eq_true ?_
    simp only [PyData.depth]
    omega
  have s2 : SeqAt.shaped (.list []) = true := by decide +kernel
  show (if SeqAt.shaped (.list ps) && SeqAt.shaped (.list []) then some (PyData.eqv (.list ps) (.list [])) else none).map (!·) = _
  rw [s1, s2]
  cases xs with
  | nil =>
    cases ps with
    | nil => simp [PyData.eqv, PyData.eqvAll]
    | cons _ _ => cases e2
  | cons x xs =>
    cases ps with
    | nil => cases e2
    | cons _ _ => simp [PyData.eqv, PyData.eqvAll]
end K27
end
section
set_option Elab.async false
set_option linter.all false
set_option maxRecDepth 100000
set_option maxHeartbeats 4000000
/-! PM19: a table drawn: its loops. -/
namespace K27
open PySem L2 DI
theorem cut_loop {ends : List Str} {e c : D} {x7 x8 x9 : Sl} : ∀ (js : List D) (bs : List Bx) (x4 x5 x6 : Sl) (s : Sd) (k : Nat), Bs ends bs → bs ≠ [] → bs.length + js.length ≤ 100 → Bud s (k + 2 * js.length) →
    ∃ bs' y4 y5 y6 s', forL (forTurn (.nm 4) cutB) js (gU e c (bs.map bxD) x4 x5 x6 x7 x8 x9) s = .ok .nx (gU e c (bs'.map bxD) y4 y5 y6 x7 x8 x9) s' ∧ Bs ends bs' ∧ bs' ≠ [] ∧ bs'.length ≤ bs.length + js.length ∧ Bud s' k
  | [], bs, x4, x5, x6, s, k, h, h0, _, hb => ⟨bs, x4, x5, x6, s, rfl, h, h0, Nat.le_refl _, hb⟩
  | j :: js, bs, x4, x5, x6, s, k, h, h0, hl, hb => by
    have hl' : bs.length + (js.length + 1) ≤ 100 := hl
    have hb' : Bud s ((k + 2 * js.length) + 2) := hb.le (by rw [List.length_cons]; omega)
    obtain ⟨bs1, y5, y6, s1, e1, h1, h2, h3, b1⟩ := cut_turn (e := e) (c := c) (x4 := .fz j) (x5 := x5) (x6 := x6) (x7 := x7) (x8 := x8) (x9 := x9) h h0 (by omega) hb'
    obtain ⟨bs2, z4, z5, z6, s2, i1, i2, i3, i4, i5⟩ := cut_loop (e := e) (c := c) (x7 := x7) (x8 := x8) (x9 := x9) js bs1 (.fz j) y5 y6 s1 k h1 h2 (by omega) b1
    refine ⟨bs2, z4, z5, z6, s2, ?_, i2, i3, by rw [List.length_cons]; omega, i5⟩
    show (match cutB (gU e c (bs.map bxD) (.fz j) x5 x6 x7 x8 x9) s with
      | .ok .nx g' s' => forL (forTurn (.nm 4) cutB) js g' s'
      | .ok .cnt g' s' => forL (forTurn (.nm 4) cutB) js g' s'
      | .ok .brk g' s' => .ok .nx g' s'
      | .ok (.ret r) g' s' => .ok (.ret r) g' s'
      | .ex c d g' s' => .ex c d g' s'
      | .bad => .bad) = _
    rw [e1]
    exact i1
def prD (p : Bx × Bx) : D := .tup [bxD p.1, bxD p.2]
def flat (ps : List (Bx × Bx)) : List Bx := ps.flatMap fun p => [p.1, p.2]
abbrev pairU : Ga → Sd → Out DI.Flow := sExp (sMth .append 7 (aCons (sTup (aCons (sMth0 .pop 3) (aCons (sMth0 .pop 3) aNil))) aNil))
abbrev gV (e c : D) (left : List D) (x4 x5 x6 : Sl) (tb : List D) (x8 x9 : Sl) : Ga := gU e c left x4 x5 x6 (.ow tb) x8 x9
theorem pop_end (xs : List D) (y : D) : mtF .pop (xs ++ [y]) [] = some (y, xs) := by
  show ((xs ++ [y])[(xs ++ [y]).length - 1]?).map (fun z => (z, (xs ++ [y]).dropLast)) = _
  rw [List.length_append, List.length_singleton, Nat.add_sub_cancel, List.getElem?_concat_length, List.dropLast_concat]
  rfl
theorem pair_turn {e c : D} {cs : List Bx} {x y : Bx} {ps : List (Bx × Bx)} {x4 x5 x6 x8 x9 : Sl} {s : Sd} (hl : ps.length ≤ 100) :
    pairU (gV e c ((cs ++ [y] ++ [x]).map bxD) x4 x5 x6 (ps.map prD) x8 x9) s = .ok .nx (gV e c (cs.map bxD) x4 x5 x6 ((ps ++ [(x, y)]).map prD) x8 x9) s := by
  have big : (1000 : Nat) < sizeLine := by decide
  have a1 : sMth0 .pop 3 (gV e c ((cs ++ [y] ++ [x]).map bxD) x4 x5 x6 (ps.map prD) x8 x9) s = .ok (.fz (bxD x)) (gV e c ((cs ++ [y]).map bxD) x4 x5 x6 (ps.map prD) x8 x9) s := by
    rw [List.map_append]
    exact e_mth (xs0 := (cs ++ [y]).map bxD ++ [x].map bxD) (xs := (cs ++ [y]).map bxD ++ [x].map bxD) (ds := []) rfl rfl rfl (pop_end _ _)
  have a2 : sMth0 .pop 3 (gV e c ((cs ++ [y]).map bxD) x4 x5 x6 (ps.map prD) x8 x9) s = .ok (.fz (bxD y)) (gV e c (cs.map bxD) x4 x5 x6 (ps.map prD) x8 x9) s := by
    rw [List.map_append]
    exact e_mth (xs0 := cs.map bxD ++ [y].map bxD) (xs := cs.map bxD ++ [y].map bxD) (ds := []) rfl rfl rfl (pop_end _ _)
  have a3 : aCons (sTup (aCons (sMth0 .pop 3) (aCons (sMth0 .pop 3) aNil))) aNil (gV e c ((cs ++ [y] ++ [x]).map bxD) x4 x5 x6 (ps.map prD) x8 x9) s = .ok [prD (x, y)] (gV e c (cs.map bxD) x4 x5 x6 (ps.map prD) x8 x9) s := by
    rw [e_acons, e_tup, e_acons, a1, keep_fz, bind_ok, e_acons, a2]
    rfl
  have a4 : sMth .append 7 (aCons (sTup (aCons (sMth0 .pop 3) (aCons (sMth0 .pop 3) aNil))) aNil) (gV e c ((cs ++ [y] ++ [x]).map bxD) x4 x5 x6 (ps.map prD) x8 x9) s = .ok (.fz .non) (gV e c (cs.map bxD) x4 x5 x6 ((ps ++ [(x, y)]).map prD) x8 x9) s := by
    rw [List.map_append (f := prD)]
    refine e_mth (xs0 := ps.map prD) (xs := ps.map prD) (ys := ps.map prD ++ [(x, y)].map prD) rfl a3 rfl ?_
    show (if (ps.map prD).length < sizeLine then some (D.non, ps.map prD ++ [prD (x, y)]) else none) = _
    rw [if_pos (by rw [List.length_map]; omega)]
    rfl
  unfold pairU
  rw [e_exp, a4]
  rfl
theorem last_two {bs : List Bx} (h : 2 ≤ bs.length) : ∃ cs x y, bs = cs ++ [y] ++ [x] := by
  have h1 : bs ≠ [] := fun e => by rw [e] at h; cases h
  have h2 : bs.dropLast ≠ [] := fun e => by
    have := congrArg List.length e
    rw [List.length_dropLast] at this
    simp at this
    omega
  exact ⟨bs.dropLast.dropLast, bs.getLast h1, bs.dropLast.getLast h2, by rw [List.dropLast_concat_getLast h2, List.dropLast_concat_getLast h1]⟩
theorem pair_loop {e c : D} {x4 x5 x6 x9 : Sl} : ∀ (js : List D) (bs : List Bx) (ps : List (Bx × Bx)) (x8 : Sl) (s : Sd), 2 * js.length ≤ bs.length → ps.length + js.length ≤ 100 →
    ∃ cs qs y8, forL (forTurn (.nm 8) pairU) js (gV e c (bs.map bxD) x4 x5 x6 (ps.map prD) x8 x9) s = .ok .nx (gV e c (cs.map bxD) x4 x5 x6 (qs.map prD) y8 x9) s ∧ (flat qs ++ cs).Perm (flat ps ++ bs) ∧ qs.length = ps.length + js.length ∧ cs.length ≤ bs.length
  | [], bs, ps, x8, s, _, _ => ⟨bs, ps, x8, rfl, .refl _, rfl, Nat.le_refl _⟩
  | j :: js, bs, ps, x8, s, h, hl => by
    have h' : 2 * (js.length + 1) ≤ bs.length := h
    have hl' : ps.length + (js.length + 1) ≤ 100 := hl
    obtain ⟨cs, x, y, rfl⟩ := last_two (bs := bs) (by omega)
    rw [List.length_append, List.length_append, List.length_singleton, List.length_singleton] at h'
    obtain ⟨ds, qs, y8, i1, i2, i3, i4⟩ := pair_loop (e := e) (c := c) (x4 := x4) (x5 := x5) (x6 := x6) (x9 := x9) js cs (ps ++ [(x, y)]) (.fz j) s (by omega) (by rw [List.length_append, List.length_singleton]; omega)
    refine ⟨ds, qs, y8, ?_, i2.trans ?_, by rw [i3, List.length_append, List.length_singleton, List.length_cons]; omega, by rw [List.length_append, List.length_append]; omega⟩
    · show (match pairU (gV e c ((cs ++ [y] ++ [x]).map bxD) x4 x5 x6 (ps.map prD) (.fz j) x9) s with
        | .ok .nx g' s' => forL (forTurn (.nm 8) pairU) js g' s'
        | .ok .cnt g' s' => forL (forTurn (.nm 8) pairU) js g' s'
        | .ok .brk g' s' => .ok .nx g' s'
        | .ok (.ret r) g' s' => .ok (.ret r) g' s'
        | .ex c d g' s' => .ex c d g' s'
        | .bad => .bad) = _
      rw [pair_turn (by omega)]
      exact i1
    · have e1 : flat (ps ++ [(x, y)]) = flat ps ++ [x, y] := by
        unfold flat
        rw [List.flatMap_append]
        rfl
      rw [e1, List.append_assoc]
      refine List.Perm.append_left _ ?_
      have e2 : cs ++ [y] ++ [x] = cs ++ [y, x] := by rw [List.append_assoc]; rfl
      rw [e2]
      exact (List.perm_append_comm).trans (List.Perm.append_left cs (List.Perm.swap y x []))
end K27
end
section
set_option Elab.async false
set_option linter.all false
set_option maxRecDepth 100000
set_option maxHeartbeats 4000000
/-! PM20: a table drawn. -/
namespace K27
open PySem L2 DI
def bx0 (e : Str) : Bx := ⟨e, [], []⟩
theorem start_bs {ends : List Str} (h : Ends ends) : Bs ends (ends.map bx0) := by
  refine ⟨fun b hb => ?_, ?_⟩
  · obtain ⟨e, he, rfl⟩ := List.mem_map.mp hb
    exact ⟨he, fun i hi => (List.not_mem_nil hi).elim, fun i hi => (List.not_mem_nil hi).elim, by show 0 + 0 ≤ 11; omega⟩
  · refine List.pairwise_map.mpr (h.nd.imp fun {x y} q => ?_)
    show (x != y || _) = true
    rw [bne_iff_ne.mpr q]
    rfl
abbrev cStart : Ga → Sd → Out Rs := sLc [9] (iSeqF (sVar 1)) (.nm 9) (fun g s => .ok true g s) (sTup (aCons (sVar 9) (aCons (sLst aNil) (aCons (sLst aNil) aNil))))
abbrev gS (e c : D) : Ga := [.fz .strm, .fz e, .fz c, .un, .un, .un, .un, .un, .un, .un]
theorem t_start {ends : List Str} {c : D} {s : Sd} (hl : ends.length ≤ 16) : cStart (gS (endsD ends) c) s = .ok (.nw ((ends.map bx0).map bxD)) (gS (endsD ends) c) s := by
  have big : (1000 : Nat) < sizeLine := by decide
  have m := lc_map (F := lcTurn [9] (.nm 9) (fun g s => .ok true g s) (sTup (aCons (sVar 9) (aCons (sLst aNil) (aCons (sLst aNil) aNil))))) (h := fun d => .tup [d, .lst [], .lst []]) (g := gS (endsD ends) c) (s := s) (ends.map D.str) [] (fun x hx => rfl) (by rw [List.length_map]; show 0 + _ ≤ _; omega)
  rw [List.nil_append] at m
  unfold cStart
  rw [e_lc, show iSeqF (sVar 1) (gS (endsD ends) c) s = .ok (ends.map D.str) (gS (endsD ends) c) s from rfl, bind_ok, show wipeG (gS (endsD ends) c) [9] = gS (endsD ends) c from rfl, m, bind_ok]
  rw [List.map_map, List.map_map]
  rfl
abbrev rngU : Ga → Sd → Out (List D) := iRngF rngF1 (aCons (sIte (tOf (sCmp .ne (sVar 3) (sLst aNil))) (sVar 2) (sCon (.int 0))) aNil)
abbrev parU : Ga → Sd → Out DI.Flow := sPar [3, 7] (pCons (sCall (callG ψ__law_mixed) (aCons (sVar 0) (aCons (sVar 3) aNil))) (pCons (sLst aNil) lNil))
abbrev rngV : Ga → Sd → Out (List D) := iRngF rngF1 (aCons (sCall (callG ψDraw) (aCons (sVar 0) (aCons (sTwo (binF .add) (sTwo (binF .fdiv) (sBi (biF .len) (lCons (sVar 3) lNil)) (sCon (.int 2))) (sCon (.int 1))) aNil))) aNil)
abbrev retV : Ga → Sd → Out DI.Flow := sRet (sTup (aCons (sVar 7) (aCons (sSlc (sVar 3) oNone (pOf (sCall (callG ψDraw) (aCons (sVar 0) (aCons (sTwo (binF .add) (sBi (biF .len) (lCons (sVar 3) lNil)) (sCon (.int 1))) aNil))))) aNil)))
theorem t_eq {e c : D} {s : Sd} : ψ__law_t_table [.strm, e, c] s = DI.finish ((sSeq (sAsg (.nm 3) cStart) (sSeq (sFor (.nm 4) rngU cutB) (sSeq parU (sSeq (sFor (.nm 8) rngV pairU) retV)))) (gS e c) s) := rfl
theorem t_rng {ends : List Str} {e : D} {m : Int} {bs : List Bx} {x4 x5 x6 x7 x8 x9 : Sl} {s : Sd} (he : Ends ends) (h : Bs ends bs) (h0 : bs ≠ []) (m0 : 0 ≤ m) (m1 : m ≤ 8) : rngU (gU e (.int m) (bs.map bxD) x4 x5 x6 x7 x8 x9) s = .ok ((List.range m.toNat).map fun (k : Nat) => .int (k : Int)) (gU e (.int m) (bs.map bxD) x4 x5 x6 x7 x8 x9) s := by
  have q : cmpF .ne (.lst (bs.map bxD)) (.lst []) = some true := by
    rw [ne_nil (n := 3) (fun x hx => by
      obtain ⟨b, hb, rfl⟩ := List.mem_map.mp hx
      exact eqv_bx he (h.low b hb).e) (by decide)]
    cases bs with
    | nil => exact absurd rfl h0
    | cons _ _ => rfl
  have a1 : tOf (sCmp .ne (sVar 3) (sLst aNil)) (gU e (.int m) (bs.map bxD) x4 x5 x6 x7 x8 x9) s = .ok true (gU e (.int m) (bs.map bxD) x4 x5 x6 x7 x8 x9) s := by
    unfold sCmp
    rw [e_tof, e_two, show sVar 3 (gU e (.int m) (bs.map bxD) x4 x5 x6 x7 x8 x9) s = .ok (.sl 3) (gU e (.int m) (bs.map bxD) x4 x5 x6 x7 x8 x9) s from rfl, settle_sl, bind_ok, show sLst aNil (gU e (.int m) (bs.map bxD) x4 x5 x6 x7 x8 x9) s = .ok (.nw []) (gU e (.int m) (bs.map bxD) x4 x5 x6 x7 x8 x9) s from rfl, settle_nw, bind_ok, show peek (gU e (.int m) (bs.map bxD) x4 x5 x6 x7 x8 x9) (.sl 3) = some (.lst (bs.map bxD)) from rfl, peek_fz, e_two2, q]
    rfl
  have r := rng_len (n := m.toNat) (by omega)
  rw [show ((m.toNat : Nat) : Int) = m from Int.toNat_of_nonneg m0] at r
  unfold rngU
  rw [e_irng, e_acons, e_ite, a1, bind_ok]
  simp only
  rw [show sVar 2 (gU e (.int m) (bs.map bxD) x4 x5 x6 x7 x8 x9) s = .ok (.fz (.int m)) (gU e (.int m) (bs.map bxD) x4 x5 x6 x7 x8 x9) s from rfl, keep_fz, bind_ok, e_anil, bind_ok, bind_ok, r, optD_some]
/-- a table as drawn: pairs, shut boxes -/
structure Tbl (ends : List Str) (t l : D) : Prop where
  ex : ∃ ps ls, t = .lst (ps.map prD) ∧ l = .lst (ls.map bxD) ∧ Bs ends (flat ps ++ ls) ∧ 2 * ps.length + ls.length ≤ 12
end K27
end
section
set_option Elab.async false
set_option linter.all false
set_option maxRecDepth 100000
set_option maxHeartbeats 4000000
/-! PM21: a table drawn, whole. -/
namespace K27
open PySem L2 DI
theorem t_par {e c : D} {bs : List Bx} {x4 x5 x6 x8 x9 : Sl} {s : Sd} {k : Nat} (hl : bs.length ≤ 100) (hb : Bud s (k + bs.length)) : ∃ (zs : List Bx) (s' : Sd), parU (gU e c (bs.map bxD) x4 x5 x6 .un x8 x9) s = .ok .nx (gV e c (zs.map bxD) x4 x5 x6 [] x8 x9) s' ∧ zs.Perm bs ∧ Bud s' k := by
  have hm : (bs.map bxD).length = bs.length := List.length_map _
  obtain ⟨ys, s1, m1, m2, b1⟩ := s_mixed (d := .lst (bs.map bxD)) (s := s) (k := k) rfl (by omega) (hb.le (by omega))
  obtain ⟨zs, rfl, p⟩ := perm_map ubx ubx_bx m2
  refine ⟨zs, s1, ?_, p, b1⟩
  have a1 : sCall (callG ψ__law_mixed) (aCons (sVar 0) (aCons (sVar 3) aNil)) (gU e c (bs.map bxD) x4 x5 x6 .un x8 x9) s = .ok (.nw (zs.map bxD)) [.fz .strm, .fz e, .fz c, .fz (.lst (bs.map bxD)), x4, x5, x6, .un, x8, x9] s1 := by
    rw [e_call, show aCons (sVar 0) (aCons (sVar 3) aNil) (gU e c (bs.map bxD) x4 x5 x6 .un x8 x9) s = .ok [.strm, .lst (bs.map bxD)] [.fz .strm, .fz e, .fz c, .fz (.lst (bs.map bxD)), x4, x5, x6, .un, x8, x9] s from rfl, bind_ok, callG_lst m1]
  unfold parU sPar
  have a2 : pCons (sCall (callG ψ__law_mixed) (aCons (sVar 0) (aCons (sVar 3) aNil))) (pCons (sLst aNil) lNil) (gU e c (bs.map bxD) x4 x5 x6 .un x8 x9) s = .ok [.nw (zs.map bxD), .nw []] [.fz .strm, .fz e, .fz c, .fz (.lst (bs.map bxD)), x4, x5, x6, .un, x8, x9] s1 := by
    unfold pCons sHalf
    rw [a1]
    rfl
  rw [a2]
  rfl
theorem t_rngV {e c : D} {bs : List Bx} {tb : List D} {x4 x5 x6 x8 x9 : Sl} {s : Sd} {k : Nat} (hl : bs.length ≤ 100) (hb : Bud s (k + 1)) : ∃ js s', rngV (gV e c (bs.map bxD) x4 x5 x6 tb x8 x9) s = .ok js (gV e c (bs.map bxD) x4 x5 x6 tb x8 x9) s' ∧ 2 * js.length ≤ bs.length ∧ Bud s' k := by
  have hm : (bs.map bxD).length = bs.length := List.length_map _
  obtain ⟨v, s1, v1, v2, b1, dr⟩ := draw_of (s := s) (k := k) (many := ((bs.map bxD).length : Int) / 2 + 1) hb (by omega) (by omega)
  refine ⟨(List.range v.toNat).map fun (k : Nat) => .int (k : Int), s1, ?_, by rw [List.length_map, List.length_range]; omega, b1⟩
  have r := rng_len (n := v.toNat) (by omega)
  rw [show ((v.toNat : Nat) : Int) = v from Int.toNat_of_nonneg v1] at r
  have a1 : aCons (sVar 0) (aCons (sTwo (binF .add) (sTwo (binF .fdiv) (sBi (biF .len) (lCons (sVar 3) lNil)) (sCon (.int 2))) (sCon (.int 1))) aNil) (gV e c (bs.map bxD) x4 x5 x6 tb x8 x9) s = .ok [.strm, .int (((bs.map bxD).length : Int) / 2 + 1)] (gV e c (bs.map bxD) x4 x5 x6 tb x8 x9) s := rfl
  unfold rngV
  rw [e_irng, e_acons, e_call, a1, bind_ok, callG_ok dr, keep_fz, bind_ok, e_anil, bind_ok, bind_ok, r, optD_some]
theorem t_ret {e c : D} {bs : List Bx} {tb : List D} {x4 x5 x6 x8 x9 : Sl} {s : Sd} {k : Nat} (hl : bs.length ≤ 100) (hb : Bud s (k + 1)) : ∃ (ls : List Bx) (s' : Sd), DI.finish (retV (gV e c (bs.map bxD) x4 x5 x6 tb x8 x9) s) = .ok (.tup [.lst tb, .lst (ls.map bxD)]) false s' ∧ ls.Sublist bs ∧ Bud s' k := by
  have hm : (bs.map bxD).length = bs.length := List.length_map _
  obtain ⟨v, s1, v1, v2, b1, dr⟩ := draw_of (s := s) (k := k) (many := ((bs.map bxD).length : Int) + 1) hb (by omega) (by omega)
  refine ⟨bs.take v.toNat, s1, ?_, List.take_sublist _ _, b1⟩
  have a0 : sVar 7 (gV e c (bs.map bxD) x4 x5 x6 tb x8 x9) s = .ok (.sl 7) (gV e c (bs.map bxD) x4 x5 x6 tb x8 x9) s := rfl
  have a1 : (Out.ok (Rs.sl 7) (gV e c (bs.map bxD) x4 x5 x6 tb x8 x9) s).keep = .ok (.lst tb) (gU e c (bs.map bxD) x4 x5 x6 (.fz (.lst tb)) x8 x9) s := rfl
  have a2 : aCons (sVar 0) (aCons (sTwo (binF .add) (sBi (biF .len) (lCons (sVar 3) lNil)) (sCon (.int 1))) aNil) (gU e c (bs.map bxD) x4 x5 x6 (.fz (.lst tb)) x8 x9) s = .ok [.strm, .int (((bs.map bxD).length : Int) + 1)] (gU e c (bs.map bxD) x4 x5 x6 (.fz (.lst tb)) x8 x9) s := rfl
  have a3 : sSlc (sVar 3) oNone (pOf (sCall (callG ψDraw) (aCons (sVar 0) (aCons (sTwo (binF .add) (sBi (biF .len) (lCons (sVar 3) lNil)) (sCon (.int 1))) aNil)))) (gU e c (bs.map bxD) x4 x5 x6 (.fz (.lst tb)) x8 x9) s = .ok (.nw ((bs.take v.toNat).map bxD)) (gU e c (bs.map bxD) x4 x5 x6 (.fz (.lst tb)) x8 x9) s1 := by
    rw [e_slc, show sVar 3 (gU e c (bs.map bxD) x4 x5 x6 (.fz (.lst tb)) x8 x9) s = .ok (.sl 3) (gU e c (bs.map bxD) x4 x5 x6 (.fz (.lst tb)) x8 x9) s from rfl, settle_sl, bind_ok, e_onone, bind_ok, e_pof, e_call, a2, bind_ok, callG_ok dr, bind_ok]
    simp only [bind_ok]
    rw [show peek (gU e c (bs.map bxD) x4 x5 x6 (.fz (.lst tb)) x8 x9) (.sl 3) = some (.lst (bs.map bxD)) from rfl, e_one2, show slcF (.lst (bs.map bxD)) none (some v) = some (.nw (cutL (bs.map bxD) none (some v))) from rfl, cut_to _ v1, ← List.map_take, optR_some]
  unfold retV
  rw [e_ret, e_tup, e_acons, a0, a1, bind_ok, e_acons, a3]
  rfl
theorem s_t_table {ends : List Str} {m : Int} {s : Sd} {k : Nat} (he : Ends ends) (h0 : ends ≠ []) (hl : ends.length ≤ 4) (m0 : 0 ≤ m) (m1 : m ≤ 8) (hb : Bud s (k + 100)) : ∃ t l s', ψ__law_t_table [.strm, endsD ends, .int m] s = .ok (.tup [t, l]) false s' ∧ Tbl ends t l ∧ Bud s' k := by
  have w : (ends.map bx0).length = ends.length := List.length_map _
  have wj : ((List.range m.toNat).map fun (k : Nat) => D.int (k : Int)).length = m.toNat := by rw [List.length_map, List.length_range]
  obtain ⟨bs, y4, y5, y6, s1, c1, c2, c3, c4, b1⟩ := cut_loop (ends := ends) (e := endsD ends) (c := .int m) (x7 := .un) (x8 := .un) (x9 := .un) ((List.range m.toNat).map fun (k : Nat) => D.int (k : Int)) (ends.map bx0) .un .un .un s (k + 14) (start_bs he) (by simpa using h0) (by omega) (hb.le (by omega))
  obtain ⟨zs, s2, p1, p2, b2⟩ := t_par (e := endsD ends) (c := .int m) (x4 := y4) (x5 := y5) (x6 := y6) (x8 := .un) (x9 := .un) (s := s1) (k := k + 2) (bs := bs) (by omega) (b1.le (by omega))
  have lz := p2.length_eq
  obtain ⟨js, s3, r1, r2, b3⟩ := t_rngV (e := endsD ends) (c := .int m) (tb := []) (x4 := y4) (x5 := y5) (x6 := y6) (x8 := .un) (x9 := .un) (s := s2) (k := k + 1) (bs := zs) (by omega) b2
  obtain ⟨cs, qs, y8, q1, q2, q3, q4⟩ := pair_loop (e := endsD ends) (c := .int m) (x4 := y4) (x5 := y5) (x6 := y6) (x9 := .un) js zs [] .un s3 r2 (by show 0 + _ ≤ _; omega)
  obtain ⟨ls, s4, t1, t2, b4⟩ := t_ret (e := endsD ends) (c := .int m) (tb := qs.map prD) (x4 := y4) (x5 := y5) (x6 := y6) (x8 := y8) (x9 := .un) (s := s3) (k := k) (bs := cs) (by omega) b3
  have B := (c2.perm p2).perm q2
  have ln := q2.length_eq
  have fl : ∀ ps : List (Bx × Bx), (flat ps).length = 2 * ps.length := fun ps => by
    induction ps with
    | nil => rfl
    | cons p ps ih =>
      show ([p.1, p.2] ++ flat ps).length = _
      rw [List.length_append, ih]
      show 2 + 2 * ps.length = 2 * (ps.length + 1)
      omega
  rw [List.length_append, fl] at ln
  have ln2 : (flat ([] : List (Bx × Bx)) ++ zs).length = zs.length := rfl
  have sl := t2.length_le
  have l0 : ([] : List (Bx × Bx)).length = 0 := rfl
  refine ⟨.lst (qs.map prD), .lst (ls.map bxD), s4, ?_, ⟨qs, ls, rfl, rfl, B.sub (t2.append_left _), by omega⟩, b4⟩
  rw [t_eq, e_seq, e_asg, t_start (by omega), bind_ok, show asgTo (.nm 3) (.nw ((ends.map bx0).map bxD)) (gS (endsD ends) (.int m)) s = .ok .nx (gU (endsD ends) (.int m) ((ends.map bx0).map bxD) .un .un .un .un .un .un) s from rfl, bind_ok]
  simp only
  rw [e_seq, e_for, t_rng he (start_bs he) (by simpa using h0) m0 m1, bind_ok, c1, bind_ok]
  simp only
  rw [e_seq, p1, bind_ok]
  simp only
  rw [e_seq, e_for, r1, bind_ok, show gV (endsD ends) (.int m) (zs.map bxD) y4 y5 y6 [] .un .un = gV (endsD ends) (.int m) (zs.map bxD) y4 y5 y6 (([] : List (Bx × Bx)).map prD) .un .un from rfl, q1, bind_ok]
  simp only
  exact t1
end K27
end
section
set_option Elab.async false
set_option linter.all false
set_option maxRecDepth 100000
set_option maxHeartbeats 4000000
/-! PM22: what may be asked: sizes. -/
namespace K27
open PySem L2 DI
theorem ints_back (l : List Int) : (l.map D.int).map intOf = l := by
  induction l with
  | nil => rfl
  | cons a l ih => rw [List.map_cons, List.map_cons, ih]; rfl
theorem bits_all {l : List Int} (h : ∀ i ∈ l, i = 0 ∨ i = 1) : (l.map D.int).all isBit = true := by
  rw [List.all_eq_true]
  intro x hx
  obtain ⟨i, hi, rfl⟩ := List.mem_map.mp hx
  rcases h i hi with rfl | rfl <;> rfl
theorem row_bits {l : List Int} (h : ∀ i ∈ l, i = 0 ∨ i = 1) : rowN (.lst (l.map D.int)) = some l := by
  show (if (l.map D.int).all isBit then some ((l.map D.int).map intOf) else none) = _
  rw [if_pos (bits_all h), ints_back]
theorem box_low {ends : List Str} {b : Bx} (h : Low ends b) : boxN ends (bxD b) = some b := by
  show (if ends.contains b.e then match rowN (.lst (b.s.map D.int)), rowN (.lst (b.t.map D.int)) with
    | some a, some c => some (⟨b.e, a, c⟩ : Bx)
    | _, _ => none
    else none) = _
  rw [if_pos (List.contains_iff_mem.mpr h.e), row_bits h.s, row_bits h.t]
theorem run_bs {ends : List Str} : ∀ (bs ahead : List Bx), (∀ b ∈ bs, Low ends b) → ((ahead ++ bs).Pairwise fun b c => apartB b c = true) → runB ends ahead (bs.map bxD) = some (ahead ++ bs)
  | [], ahead, _, _ => by rw [List.append_nil]; rfl
  | b :: bs, ahead, h, p => by
    rw [List.map_cons, runB_cons, box_low (h b List.mem_cons_self)]
    have q : ahead.all (apartB b) = true := by
      rw [List.all_eq_true]
      intro c hc
      rw [apart_comm]
      exact (List.pairwise_append.mp p).2.2 c hc b List.mem_cons_self
    show (if ahead.all (apartB b) = true then runB ends (ahead ++ [b]) (bs.map bxD) else none) = _
    rw [if_pos q, run_bs bs (ahead ++ [b]) (fun x hx => h x (List.mem_cons_of_mem _ hx)) (by rw [List.append_assoc]; exact p), List.append_assoc]
    rfl
theorem tbl_flat (ps : List (Bx × Bx)) : (ps.map prD).flatMap itemsD = (flat ps).map bxD := by
  induction ps with
  | nil => rfl
  | cons p ps ih =>
    rw [List.map_cons, List.flatMap_cons, ih]
    show _ = ([p.1, p.2] ++ flat ps).map bxD
    rw [List.map_append]
    rfl
theorem tbl_true {ends : List Str} {t l : D} (h : Tbl ends t l) : tblB ends t l = true := by
  obtain ⟨ps, ls, rfl, rfl, B, _⟩ := h.ex
  have q : (ps.map prD).all pairB = true := by
    rw [List.all_eq_true]
    intro x hx
    obtain ⟨p, _, rfl⟩ := List.mem_map.mp hx
    rfl
  show tblP ends (.lst (ls.map bxD)) (runP ends [] (ps.map prD)) = true
  rw [runP_pairs _ _ q, tbl_flat, run_bs (flat ps) [] (fun b hb => B.low b (List.mem_append_left _ hb)) (by rw [List.nil_append]; exact (List.pairwise_append.mp B.ap).1), List.nil_append]
  show (runB ends (flat ps) (ls.map bxD)).isSome = true
  rw [run_bs ls (flat ps) (fun b hb => B.low b (List.mem_append_right _ hb)) B.ap]
  rfl
/-- small data -/
structure Sm (k w n : Nat) (d : D) : Prop where
  ok : okD d = true
  fi : fine d = true
  dp : dep d ≤ k
  wd : wt d ≤ w
  dr : nd d ≤ n
theorem Sm.up {k w n k' w' n' : Nat} {d : D} (h : Sm k w n d) (a : k ≤ k') (b : w ≤ w') (c : n ≤ n') : Sm k' w' n' d :=
  ⟨h.ok, h.fi, Nat.le_trans h.dp a, Nat.le_trans h.wd b, Nat.le_trans h.dr c⟩
theorem sm_all {k w n : Nat} : ∀ {xs : List D}, (∀ x ∈ xs, Sm k w n x) → okDs xs = true ∧ fineL xs = true ∧ depL xs ≤ k ∧ wtL xs ≤ xs.length * (w + 2) ∧ ndL xs ≤ xs.length * n
  | [], _ => ⟨rfl, rfl, Nat.zero_le _, Nat.zero_le _, Nat.zero_le _⟩
  | x :: xs, h => by
    have a := h x List.mem_cons_self
    obtain ⟨i1, i2, i3, i4, i5⟩ := sm_all (xs := xs) fun y hy => h y (List.mem_cons_of_mem _ hy)
    have := a.dp
    have := a.wd
    have := a.dr
    refine ⟨?_, ?_, ?_, ?_, ?_⟩
    · show (okD x && okDs xs) = true
      rw [a.ok, i1]; rfl
    · show (fine x && fineL xs) = true
      rw [a.fi, i2]; rfl
    · show max (dep x) (depL xs) ≤ k
      omega
    · show wt x + 2 + wtL xs ≤ (xs.length + 1) * (w + 2)
      rw [Nat.succ_mul]; omega
    · show nd x + ndL xs ≤ (xs.length + 1) * n
      rw [Nat.succ_mul]; omega
theorem Sm.lst {k w n L : Nat} {xs : List D} (h : ∀ x ∈ xs, Sm k w n x) (hl : xs.length ≤ L) (hL : L ≤ 1000) : Sm (k + 1) (3 + L * (w + 2)) (1 + L * n) (.lst xs) := by
  obtain ⟨i1, i2, i3, i4, i5⟩ := sm_all h
  refine ⟨?_, i2, ?_, ?_, ?_⟩
  · show (decide (xs.length ≤ 1000) && okDs xs) = true
    rw [i1, decide_eq_true (by omega)]; rfl
  · show 1 + depL xs ≤ k + 1
    omega
  · show 3 + wtL xs ≤ _
    have := Nat.mul_le_mul_right (w + 2) hl
    omega
  · show 1 + ndL xs ≤ _
    have := Nat.mul_le_mul_right n hl
    omega
theorem Sm.tup {k w n L : Nat} {xs : List D} (h : ∀ x ∈ xs, Sm k w n x) (hl : xs.length ≤ L) (hL : L ≤ 1000) : Sm (k + 1) (3 + L * (w + 2)) (1 + L * n) (.tup xs) := by
  obtain ⟨i1, i2, i3, i4, i5⟩ := sm_all h
  refine ⟨?_, i2, ?_, ?_, ?_⟩
  · show (decide (xs.length ≤ 1000) && okDs xs) = true
    rw [i1, decide_eq_true (by omega)]; rfl
  · show 1 + depL xs ≤ k + 1
    omega
  · show 3 + wtL xs ≤ _
    have := Nat.mul_le_mul_right (w + 2) hl
    omega
  · show 1 + ndL xs ≤ _
    have := Nat.mul_le_mul_right n hl
    omega
def Raw (ends : List Str) (d : D) : Prop := ∀ b, boxN ends d = some b → rawBox b d
/-- a thing in a box's place -/
structure Item (ends : List Str) (d : D) : Prop where
  sm : Sm 3 5611 9 d
  raw : Raw ends d
/-- a thing in a pair's place -/
structure PairOk (ends : List Str) (p : D) : Prop where
  sm : Sm 4 11229 19 p
  len : (itemsD p).length ≤ 3
  raw : ∀ d ∈ itemsD p, Raw ends d
structure TOk (ends : List Str) (t : D) : Prop where
  sm : Sm 5 224623 381 t
  it : ∀ ps, t.seq = some ps → ps.length ≤ 20 ∧ ∀ p ∈ ps, (itemsD p).length ≤ 3 ∧ ∀ d ∈ itemsD p, Raw ends d
structure LOk (ends : List Str) (l : D) : Prop where
  sm : Sm 4 112263 181 l
  it : ∀ ls, l.seq = some ls → ls.length ≤ 20 ∧ ∀ d ∈ ls, Raw ends d
theorem Item.pair {ends : List Str} {x y : D} (a : Item ends x) (b : Item ends y) : PairOk ends (.tup [x, y]) := by
  refine ⟨Sm.tup (k := 3) (w := 5611) (n := 9) (L := 2) (fun z hz => ?_) (Nat.le_refl _) (by decide), by show 2 ≤ 3; decide, fun z hz => ?_⟩
  · rcases List.mem_cons.mp hz with rfl | hz
    · exact a.sm
    · rw [List.mem_singleton.mp hz]; exact b.sm
  · rcases List.mem_cons.mp hz with rfl | hz
    · exact a.raw
    · rw [List.mem_singleton.mp hz]; exact b.raw
theorem TOk.of {ends : List Str} {ps : List D} (h : ∀ p ∈ ps, PairOk ends p) (hl : ps.length ≤ 20) : TOk ends (.lst ps) :=
  ⟨Sm.lst (k := 4) (w := 11229) (n := 19) (L := 20) (fun p hp => (h p hp).sm) hl (by decide), fun qs e => by cases e; exact ⟨hl, fun p hp => ⟨(h p hp).len, (h p hp).raw⟩⟩⟩
theorem LOk.of {ends : List Str} {ls : List D} (h : ∀ d ∈ ls, Item ends d) (hl : ls.length ≤ 20) : LOk ends (.lst ls) :=
  ⟨Sm.lst (k := 3) (w := 5611) (n := 9) (L := 20) (fun p hp => (h p hp).sm) hl (by decide), fun qs e => by cases e; exact ⟨hl, fun p hp => (h p hp).raw⟩⟩
theorem flat_len : ∀ {ps : List D}, (∀ p ∈ ps, (itemsD p).length ≤ 3) → (ps.flatMap itemsD).length ≤ 3 * ps.length
  | [], _ => Nat.le_refl _
  | p :: ps, h => by
    have := h p List.mem_cons_self
    have := flat_len (ps := ps) fun q hq => h q (List.mem_cons_of_mem _ hq)
    rw [List.flatMap_cons, List.length_append, List.length_cons]
    omega
theorem asked {ends : List Str} {t l : D} (h : TOk ends t) (q : LOk ends l) : Asked ends t l := by
  refine ⟨⟨h.sm.ok, h.sm.fi, Nat.le_trans h.sm.dp (by decide), Nat.le_trans h.sm.wd (by decide)⟩, ⟨q.sm.ok, q.sm.fi, Nat.le_trans q.sm.dp (by decide), Nat.le_trans q.sm.wd (by decide)⟩, fun ps ls e1 e2 d hd => ?_, fun ps ls e1 e2 => ?_, fun ps e1 => ?_⟩
  · rcases List.mem_append.mp hd with hd | hd
    · obtain ⟨p, hp, hd⟩ := List.mem_flatMap.mp hd
      exact ((h.it ps e1).2 p hp).2 d hd
    · exact (q.it ls e2).2 d hd
  · have a := h.it ps e1
    have b := q.it ls e2
    have := flat_len fun p hp => (a.2 p hp).1
    rw [List.length_append]
    omega
  · have a := h.it ps e1
    cases e2 : l.seq with
    | none => show 2 * ps.length + 0 ≤ 1000; omega
    | some ls =>
      have b := q.it ls e2
      show 2 * ps.length + ls.length ≤ 1000
      omega
theorem s_right' {ends : List Str} {t l : D} {s : Sd} {k : Nat} (h : Ends ends) (hl : ends.length ≤ 4) (a : TOk ends t) (b : LOk ends l) (hb : Bud s (k + 600)) : ∃ s', ψ__law_right [.strm, endsD ends, t, l] s = .ok (.bl true) false s' ∧ Bud s' k :=
  s_right h (by omega) (asked a b) (hb.le (by have := a.sm.dr; have := b.sm.dr; omega))
end K27
end
section
set_option Elab.async false
set_option linter.all false
set_option maxRecDepth 100000
set_option maxHeartbeats 4000000
/-! PM23: a box bent. -/
namespace K27
open PySem L2 DI
theorem sm_ints : ∀ i ∈ ([0, 1, 2, 3, 5] : List Int), Sm 0 100 0 (.int i) := by
  have h : ∀ i ∈ ([0, 1, 2, 3, 5] : List Int), (decide (i.natAbs ≤ 1000) && PyData.strOk (PyData.shown (.int i))) = true ∧ (PyData.shown (.int i)).length ≤ 100 := by
    simp only [PyData.shown]
    decide +kernel
  exact fun i hi => ⟨rfl, (h i hi).1, Nat.le_refl _, (h i hi).2, Nat.le_refl _⟩
def words : List Str := names16 ++ (["late9", "0", "ab"] : List Str)
theorem sm_strs : ∀ x ∈ words, Sm 0 100 0 (.str x) := by
  have h : ∀ x ∈ words, PyData.strOk x = true ∧ PyData.strOk (PyData.shown (.str x)) = true ∧ (PyData.shown (.str x)).length ≤ 100 := by
    simp only [PyData.shown]
    decide +kernel
  exact fun i hi => ⟨(h i hi).1, (h i hi).2.1, Nat.le_refl _, (h i hi).2.2, Nat.le_refl _⟩
theorem sm_non : Sm 0 100 0 .non := ⟨rfl, rfl, Nat.le_refl _, by decide, Nat.le_refl _⟩
theorem sm_bl (b : Bool) : Sm 0 100 0 (.bl b) := ⟨rfl, rfl, Nat.le_refl _, by show 5 ≤ 100; decide, Nat.le_refl _⟩
theorem sm_dic : Sm 0 100 0 (.dic []) := ⟨rfl, rfl, Nat.le_refl _, by show 2 ≤ 100; decide, Nat.le_refl _⟩
theorem part0 {d : D} (h : Sm 0 100 0 d) : Sm 2 1400 2 d := h.up (by decide) (by decide) (by decide)
theorem part_lst {xs : List D} (h : ∀ x ∈ xs, Sm 0 100 0 x) (hl : xs.length ≤ 13) : Sm 2 1400 2 (.lst xs) :=
  (Sm.lst (L := 13) h hl (by decide)).up (by decide) (by decide) (by decide)
theorem box_sm {xs : List D} (h : ∀ x ∈ xs, Sm 2 1400 2 x) (hl : xs.length ≤ 4) : Sm 3 5611 9 (.tup xs) :=
  Sm.tup (k := 2) (w := 1400) (n := 2) (L := 4) h hl (by decide)
theorem raw_of {ends : List Str} {d : D} (h : boxN ends d = none) : Raw ends d := fun b e => by rw [h] at e; cases e
theorem bits_back : ∀ {xs : List D}, xs.all isBit = true → (xs.map intOf).map D.int = xs
  | [], _ => rfl
  | x :: xs, h => by
    rw [List.all_cons, Bool.and_eq_true] at h
    rw [List.map_cons, List.map_cons, bits_back h.2]
    cases x <;> first | rfl | cases h.1
theorem raw3 {ends : List Str} {e : Str} {xs ys : List D} : Raw ends (.tup [.str e, .lst xs, .lst ys]) := by
  intro b h
  have h : (if ends.contains e then match rowN (.lst xs), rowN (.lst ys) with
    | some a, some c => some (⟨e, a, c⟩ : Bx)
    | _, _ => none
    else none) = some b := h
  cases q : ends.contains e with
  | false => rw [q] at h; cases h
  | true =>
    rw [q] at h
    have r : ∀ zs : List D, rowN (.lst zs) = if zs.all isBit then some (zs.map intOf) else none := fun zs => rfl
    rw [r, r] at h
    cases q1 : xs.all isBit with
    | false => rw [q1] at h; cases h
    | true =>
      cases q2 : ys.all isBit with
      | false => rw [q1, q2] at h; cases h
      | true =>
        rw [q1, q2] at h
        cases h
        show some [D.str e, .lst xs, .lst ys] = some [D.str e, .lst ((xs.map intOf).map D.int), .lst ((ys.map intOf).map D.int)]
        rw [bits_back q1, bits_back q2]
theorem item3 {ends : List Str} {e : Str} {xs ys : List D} (he : Sm 2 1400 2 (.str e)) (hx : Sm 2 1400 2 (.lst xs)) (hy : Sm 2 1400 2 (.lst ys)) : Item ends (.tup [.str e, .lst xs, .lst ys]) :=
  ⟨box_sm (fun z hz => by
    rcases List.mem_cons.mp hz with rfl | hz
    · exact he
    · rcases List.mem_cons.mp hz with rfl | hz
      · exact hx
      · rw [List.mem_singleton.mp hz]; exact hy) (by show 3 ≤ 4; decide), raw3⟩
theorem item_t {ends : List Str} {xs : List D} (h : ∀ x ∈ xs, Sm 2 1400 2 x) (hl : xs.length ≤ 4) (r : boxN ends (.tup xs) = none) : Item ends (.tup xs) := ⟨box_sm h hl, raw_of r⟩
theorem item_0 {ends : List Str} {d : D} (h : Sm 2 1400 2 d) (r : boxN ends d = none) : Item ends d := ⟨h.up (by decide) (by decide) (by decide), raw_of r⟩
theorem sm_bits {l : List Int} (h : ∀ i ∈ l, i = 0 ∨ i = 1) : ∀ x ∈ l.map D.int, Sm 0 100 0 x := fun x hx => by
  obtain ⟨i, hi, rfl⟩ := List.mem_map.mp hx
  rcases h i hi with rfl | rfl
  · exact sm_ints 0 (by decide)
  · exact sm_ints 1 (by decide)
theorem item_bx {ends : List Str} (he : Ends ends) {b : Bx} (h : Low ends b) : Item ends (bxD b) := by
  have := h.n
  exact item3 (part0 (sm_strs _ (List.mem_append_left _ (he.mem _ h.e)))) (part_lst (sm_bits h.s) (by rw [List.length_map]; omega)) (part_lst (sm_bits h.t) (by rw [List.length_map]; omega))
theorem cut_sub (xs : List D) (j : Int) : (cutL xs none (some j)).Sublist xs := by
  unfold cutL HT.sIx
  simp only [List.drop_zero, Nat.sub_zero]
  exact List.take_sublist _ _
/-- what a box may be bent to, but for the last -/
def bent6 (e : Str) (S T : List D) : List D := [.tup [.str e, .lst (S ++ [.int 0]), .lst T], .tup [.str e, .lst (cutL S none (some (-1))), .lst T], .tup [.str e, .lst S, .lst (cutL T none (some (-1)))], .tup [.str e, .lst S, .lst (T ++ [.int 1])], .tup [.str e, .lst T, .lst S], .tup [.str "late9", .lst S, .lst T]]
def bent12 (e : Str) (S T : List D) : List D := [.tup [.str e, .lst S], .tup [.str e, .lst S, .lst T, .lst T], .tup [.str e, .lst (S ++ [.int 2]), .lst T], .tup [.str e, .lst S, .lst (T ++ [.bl true])], .tup [.str e, .str "0", .lst T], .tup [.str e, .lst S, .non]]
def bent19 (e : Str) (S T : List D) : List D := [.tup [.int 5, .lst S, .lst T], .tup [.lst [.str e], .lst S, .lst T], .tup [.str e, .lst S, .lst [.non]], .tup [.str e, .lst [.lst [.int 0]], .lst T], .tup [.str e, .lst S, .lst T], .non, .str e]
theorem no_box {ends : List Str} {e : Str} {x y : D} (h : rowN x = none ∨ rowN y = none) : boxN ends (.tup [.str e, x, y]) = none := by
  show (if ends.contains e then match rowN x, rowN y with
    | some a, some c => some (⟨e, a, c⟩ : Bx)
    | _, _ => none
    else none) = none
  cases ends.contains e with
  | false => rfl
  | true =>
    rcases h with h | h
    · rw [h]; rfl
    · rw [h]; cases rowN x <;> rfl
theorem bent_ok {ends : List Str} (he : Ends ends) {b : Bx} (h : Low ends b) : ∀ d ∈ bent6 b.e (b.s.map .int) (b.t.map .int) ++ bent12 b.e (b.s.map .int) (b.t.map .int) ++ bent19 b.e (b.s.map .int) (b.t.map .int), Item ends d := by
  have hn := h.n
  have E0 : Sm 0 100 0 (.str b.e) := sm_strs _ (List.mem_append_left _ (he.mem _ h.e))
  have lS : (b.s.map D.int).length ≤ 11 := by rw [List.length_map]; omega
  have lT : (b.t.map D.int).length ≤ 11 := by rw [List.length_map]; omega
  have mS := sm_bits h.s
  have mT := sm_bits h.t
  generalize b.s.map D.int = S at lS mS ⊢
  generalize b.t.map D.int = T at lT mT ⊢
  generalize b.e = e at E0 ⊢
  have E := part0 E0
  have PS := part_lst mS (by omega)
  have PT := part_lst mT (by omega)
  have more : ∀ {X : List D} {y : D}, X.length ≤ 11 → (∀ x ∈ X, Sm 0 100 0 x) → Sm 0 100 0 y → Sm 2 1400 2 (.lst (X ++ [y])) := fun {X y} a c q => part_lst (fun x hx => by
    rcases List.mem_append.mp hx with hx | hx
    · exact c x hx
    · rw [List.mem_singleton.mp hx]; exact q) (by rw [List.length_append, List.length_singleton]; omega)
  have less : ∀ {X : List D} {j : Int}, X.length ≤ 11 → (∀ x ∈ X, Sm 0 100 0 x) → Sm 2 1400 2 (.lst (cutL X none (some j))) := fun {X j} a c => part_lst (fun x hx => c x ((cut_sub X j).subset hx)) (by have := (cut_sub X j).length_le; omega)
  have i0 : Sm 0 100 0 (.int 0) := sm_ints 0 (by decide)
  have i1 : Sm 0 100 0 (.int 1) := sm_ints 1 (by decide)
  have i2 : Sm 0 100 0 (.int 2) := sm_ints 2 (by decide)
  have i5 : Sm 2 1400 2 (.int 5) := part0 (sm_ints 5 (by decide))
  have w1 : Sm 2 1400 2 (.str "late9") := part0 (sm_strs "late9" (by decide +kernel))
  have w2 : Sm 2 1400 2 (.str "0") := part0 (sm_strs "0" (by decide +kernel))
  have nn : Sm 2 1400 2 (.lst [.non]) := part_lst (fun x hx => by rw [List.mem_singleton.mp hx]; exact sm_non) (by decide)
  have ll : Sm 2 1400 2 (.lst [.lst [.int 0]]) := (Sm.lst (k := 1) (w := 105) (n := 1) (L := 1) (fun x hx => by
    rw [List.mem_singleton.mp hx]
    exact Sm.lst (k := 0) (w := 100) (n := 0) (L := 1) (fun x hx => by rw [List.mem_singleton.mp hx]; exact i0) (Nat.le_refl _) (by decide)) (Nat.le_refl _) (by decide)).up (by decide) (by decide) (by decide)
  have le : Sm 2 1400 2 (.lst [.str e]) := part_lst (fun x hx => by rw [List.mem_singleton.mp hx]; exact E0) (by show 1 ≤ 13; decide)
  have nil2 : ∀ x ∈ ([] : List D), Sm 2 1400 2 x := fun _ h => by cases h
  have two : ∀ {x y : D}, Sm 2 1400 2 x → Sm 2 1400 2 y → ∀ z ∈ [x, y], Sm 2 1400 2 z := fun a c => List.forall_mem_cons.mpr ⟨a, List.forall_mem_cons.mpr ⟨c, nil2⟩⟩
  have thr : ∀ {x y z : D}, Sm 2 1400 2 x → Sm 2 1400 2 y → Sm 2 1400 2 z → ∀ u ∈ [x, y, z], Sm 2 1400 2 u := fun a c q => List.forall_mem_cons.mpr ⟨a, two c q⟩
  have fou : ∀ {x y z u : D}, Sm 2 1400 2 x → Sm 2 1400 2 y → Sm 2 1400 2 z → Sm 2 1400 2 u → ∀ v ∈ [x, y, z, u], Sm 2 1400 2 v := fun a c q r => List.forall_mem_cons.mpr ⟨a, thr c q r⟩
  intro d hd
  simp only [bent6, bent12, bent19, List.cons_append, List.nil_append, List.mem_cons, List.not_mem_nil, or_false] at hd
  rcases hd with rfl | rfl | rfl | rfl | rfl | rfl | rfl | rfl | rfl | rfl | rfl | rfl | rfl | rfl | rfl | rfl | rfl | rfl | rfl
  · exact item3 E (more lS mS i0) PT
  · exact item3 E (less lS mS) PT
  · exact item3 E PS (less lT mT)
  · exact item3 E PS (more lT mT i1)
  · exact item3 E PT PS
  · exact item3 w1 PS PT
  · exact item_t (two E PS) (by simp) rfl
  · exact item_t (fou E PS PT PT) (by simp) rfl
  · exact item3 E (more lS mS i2) PT
  · exact item3 E PS (more lT mT (sm_bl true))
  · exact item_t (thr E w2 PT) (by simp) (no_box (.inl rfl))
  · exact item_t (thr E PS (part0 sm_non)) (by simp) (no_box (.inr rfl))
  · exact item_t (thr i5 PS PT) (by simp) rfl
  · exact item_t (thr le PS PT) (by simp) rfl
  · exact item3 E PS nn
  · exact item3 E ll PT
  · exact item3 E PS PT
  · exact item_0 (part0 sm_non) rfl
  · exact item_0 E rfl
end K27
end
section
set_option Elab.async false
set_option linter.all false
set_option maxRecDepth 100000
set_option maxHeartbeats 4000000
/-! PM24: a box bent. -/
namespace K27
open PySem L2 DI
theorem bent_run {E : D} {e : Str} {S T : List D} {x r : D} {s s1 s2 : Sd} (hS : S.length ≤ 11) (hT : T.length ≤ 11) (p1 : ψ__law_pick [.strm, E] s = .ok x false s1)
    (p2 : ψ__law_pick [.strm, .lst (bent6 e S T ++ bent12 e S T ++ bent19 e S T ++ [.tup [x, .lst S, .lst T]])] s1 = .ok r false s2) : ψ__law_bent_box [.strm, E, .tup [.str e, .lst S, .lst T]] s = .ok r false s2 := by
  have big : (1000 : Nat) < sizeLine := by decide
  have ad : ∀ (xs : List D) (y : D), xs.length ≤ 11 → binF .add (.lst xs) (.lst [y]) = some (.nw (xs ++ [y])) := fun xs y h => by
    show (if lineOk (xs.length + [y].length) = true then some (Rs.nw (xs ++ [y])) else none) = _
    rw [List.length_singleton, if_pos]
    unfold lineOk
    exact decide_eq_true (by omega)
  have adS := fun y => ad S y hS
  have adT := fun y => ad T y hT
  have l1 : lineOk 1 = true := by decide
  have l2 : lineOk 2 = true := by decide
  have l3 : lineOk 3 = true := by decide
  have l4 : lineOk 4 = true := by decide
  have l6 : lineOk 6 = true := by decide
  have l7 : lineOk 7 = true := by decide
  have sl : ∀ (xs : List D), slcF (.lst xs) none (some (-1)) = some (.nw (cutL xs none (some (-1)))) := fun xs => rfl
  have ng : negF (.int 1) = some (.fz (.int (-1))) := rfl
  have x1 : mtF .extend (bent6 e S T) [.lst (bent12 e S T)] = some (.non, bent6 e S T ++ bent12 e S T) := by
    show (if (bent6 e S T).length + (bent12 e S T).length ≤ sizeLine then some (D.non, _) else none) = _
    rw [if_pos (by show 6 + 6 ≤ sizeLine; omega)]
  have x2 : mtF .extend (bent6 e S T ++ bent12 e S T) [.lst (bent19 e S T)] = some (.non, bent6 e S T ++ bent12 e S T ++ bent19 e S T) := by
    show (if (bent6 e S T ++ bent12 e S T).length + (bent19 e S T).length ≤ sizeLine then some (D.non, _) else none) = _
    rw [if_pos (by show 12 + 7 ≤ sizeLine; omega)]
  have x3 : binF .add (.lst (bent6 e S T ++ bent12 e S T ++ bent19 e S T)) (.lst [.tup [x, .lst S, .lst T]]) = some (.nw (bent6 e S T ++ bent12 e S T ++ bent19 e S T ++ [.tup [x, .lst S, .lst T]])) := by
    show (if lineOk ((bent6 e S T ++ bent12 e S T ++ bent19 e S T).length + 1) = true then some (Rs.nw _) else none) = _
    rw [if_pos (by show lineOk (19 + 1) = true; decide)]
  have c1 : ∀ g, callG ψ__law_pick [.strm, E] g s = .ok (.fz x) g s1 := fun g => callG_ok p1
  have c2 : ∀ g, callG ψ__law_pick [.strm, .lst (bent6 e S T ++ bent12 e S T ++ bent19 e S T ++ [.tup [x, .lst S, .lst T]])] g s1 = .ok (.fz r) g s2 := fun g => callG_ok p2
  let G : Sl → Ga := fun w => [.fz .strm, .fz E, .fz (.tup [.str e, .lst S, .lst T]), .fz (.str e), .fz (.lst S), .fz (.lst T), w]
  unfold ψ__law_bent_box
  rw [fn3]
  unfold b__law_bent_box
  rw [e_seq, show sAsg (.cons (.nm 3) (.cons (.nm 4) (.cons (.nm 5) .nil))) (sVar 2) (startG 7 [.strm, E, .tup [.str e, .lst S, .lst T]]) s = .ok .nx (G .un) s from rfl, bind_ok]
  simp only
  have st : ∀ {A B : Ga → Sd → Out DI.Flow} {g g' : Ga} {s s' : Sd} {r : FOut}, A g s = .ok .nx g' s' → DI.finish (B g' s') = r → DI.finish (sSeq A B g s) = r := fun {A B g g' s s' r} h q => by
    rw [e_seq, h, bind_ok]; exact q
  refine st (g' := G (.ow (bent6 e S T))) (s' := s) ?_ ?_
  · simp [G, adS, adT, l1, l2, l3, l4, l6, l7, sl, ng, bent6]
  refine st (g' := G (.ow (bent6 e S T ++ bent12 e S T))) (s' := s) ?_ ?_
  · rw [e_exp]
    rw [e_mth (i := 6) (g := G (.ow (bent6 e S T))) (s := s) (xs0 := bent6 e S T) (ds := [.lst (bent12 e S T)]) (g1 := G (.ow (bent6 e S T))) (s1 := s) rfl (by simp [G, adS, adT, l1, l2, l3, l4, l6, l7, sl, ng, bent12]) rfl x1]
    rfl
  refine st (g' := G (.ow (bent6 e S T ++ bent12 e S T ++ bent19 e S T))) (s' := s) ?_ ?_
  · rw [e_exp]
    rw [e_mth (i := 6) (g := G (.ow (bent6 e S T ++ bent12 e S T))) (s := s) (xs0 := bent6 e S T ++ bent12 e S T) (ds := [.lst (bent19 e S T)]) (g1 := G (.ow (bent6 e S T ++ bent12 e S T))) (s1 := s) rfl (by simp [G, adS, adT, l1, l2, l3, l4, l6, l7, sl, ng, bent19]) rfl x2]
    rfl
  · generalize bent6 e S T ++ bent12 e S T ++ bent19 e S T = B at x3 c2
    simp [G, l1, l3, c1, x3, c2]
theorem s_bent_box {ends : List Str} {b : Bx} {s : Sd} {k : Nat} (he : Ends ends) (h0 : ends ≠ []) (hl : ends.length ≤ 4) (h : Low ends b) (hb : Bud s (k + 2)) :
    ∃ d s', ψ__law_bent_box [.strm, endsD ends, bxD b] s = .ok d false s' ∧ Item ends d ∧ Bud s' k := by
  have hn := h.n
  obtain ⟨x, hx, s1, p1, b1⟩ := s_pick (d := endsD ends) (xs := ends.map .str) (s := s) (k := k + 1) rfl (by simpa using h0) (by rw [List.length_map]; omega) hb
  obtain ⟨e, he2, rfl⟩ := List.mem_map.mp hx
  obtain ⟨d, hd, s2, p2, b2⟩ := s_pick (d := .lst (bent6 b.e (b.s.map .int) (b.t.map .int) ++ bent12 b.e (b.s.map .int) (b.t.map .int) ++ bent19 b.e (b.s.map .int) (b.t.map .int) ++ [.tup [.str e, .lst (b.s.map .int), .lst (b.t.map .int)]])) (s := s1) (k := k) rfl (List.append_ne_nil_of_right_ne_nil _ (by simp)) (by show 20 ≤ 1000; decide) b1
  refine ⟨d, s2, bent_run (by rw [List.length_map]; omega) (by rw [List.length_map]; omega) p1 p2, ?_, b2⟩
  rcases List.mem_append.mp hd with hd | hd
  · exact bent_ok he h d hd
  · rw [List.mem_singleton.mp hd]
    exact item_bx he (b := ⟨e, b.s, b.t⟩) ⟨he2, h.s, h.t, h.n⟩
end K27
end
section
set_option Elab.async false
set_option linter.all false
set_option maxRecDepth 100000
set_option maxHeartbeats 4000000
/-! PM25: a table bent: its ways. -/
namespace K27
open PySem L2 DI
abbrev drw (n : Int) : Ga → Sd → Out Rs := sCall (callG ψDraw) (aCons (sVar 0) (aCons (sCon (.int n)) aNil))
abbrev drwL (i : Nat) : Ga → Sd → Out Rs := sCall (callG ψDraw) (aCons (sVar 0) (aCons (sBi (biF .len) (lCons (sVar i) lNil)) aNil))
abbrev drwM (i : Nat) : Ga → Sd → Out Rs := sCall (callG ψDraw) (aCons (sVar 0) (aCons (sTwo (binF .add) (sBi (biF .len) (lCons (sVar i) lNil)) (sCon (.int 1))) aNil))
abbrev ixV (i j : Nat) : Ga → Sd → Out Rs := sTwo (fun x y => (subF x y).map .fz) (sVar i) (sVar j)
abbrev bentV (i j : Nat) : Ga → Sd → Out Rs := sCall (callG ψ__law_bent_box) (aCons (sVar 0) (aCons (sVar 1) (aCons (ixV i j) aNil)))
abbrev wayA : Ga → Sd → Out DI.Flow := sSeq (sPar [5, 6] (pCons (drwL 2) (pCons (drw 2) lNil))) (sSeq (sAsg (.nm 7) (sBi (biF .list) (lCons (ixV 2 5) lNil))) (sSeq (sSto 7 (sVar 6) (bentV 7 6)) (sSto 2 (sVar 5) (sBi (biF .tuple) (lCons (sVar 7) lNil)))))
abbrev wayB : Ga → Sd → Out DI.Flow := sSeq (sAsg (.nm 5) (drwL 3)) (sSto 3 (sVar 5) (bentV 3 5))
abbrev wayC : Ga → Sd → Out DI.Flow := sExp (sMth .append 3 (aCons (sTwo (fun x y => (subF x y).map .fz) (sCall (callG ψ__law_pick) (aCons (sVar 0) (aCons (sVar 2) aNil))) (sCon (.int 0))) aNil))
abbrev someW : Ga → Sd → Out Rs := sLst (aCons (sCon .non) (aCons (sTup aNil) (aCons (sLst aNil) (aCons (sCon (.int 5)) (aCons (sCon (.str "ab")) (aCons (sTup (aCons (sTup aNil) (aCons (sTup aNil) aNil))) (aCons (sTup (aCons (sCon (.dic [])) (aCons (sCon (.dic [])) aNil))) (aCons (sTup (aCons (sCon (.int 1)) aNil)) aNil))))))))
abbrev someV : Ga → Sd → Out Rs := sLst (aCons (sCon .non) (aCons (sTup aNil) (aCons (sCon (.int 5)) (aCons (sCon (.str "a")) (aCons (sCon (.dic [])) (aCons (sLst (aCons (sLst aNil) aNil)) (aCons (sTup (aCons (sCon (.int 1)) (aCons (sCon (.int 2)) (aCons (sCon (.int 3)) aNil)))) aNil)))))))
abbrev wayD : Ga → Sd → Out DI.Flow := sSeq (sAsg (.nm 8) someW) (sExp (sMth .insert 2 (aCons (drwM 2) (aCons (sCall (callG ψ__law_pick) (aCons (sVar 0) (aCons (sVar 8) aNil))) aNil))))
abbrev wayE : Ga → Sd → Out DI.Flow := sExp (sMth .insert 3 (aCons (drwM 3) (aCons (sCall (callG ψ__law_pick) (aCons (sVar 0) (aCons someV aNil))) aNil)))
abbrev parW : Ga → Sd → Out DI.Flow := sPar [4, 2, 3] (pCons (drw 8) (pCons (sBi (biF .list) (lCons (sVar 2) lNil)) (pCons (sBi (biF .list) (lCons (sVar 3) lNil)) lNil)))
abbrev testW (o : Cop) (n : Int) (i : Nat) : Ga → Sd → Out Bool := tAndF (tOf (sCmp o (sVar 4) (sCon (.int n)))) (tOf (sCmp .ne (sVar i) (sLst aNil)))
abbrev gW (e : D) (T L : Sl) (v : Int) (x5 x6 x7 x8 : Sl) : Ga := [.fz .strm, .fz e, T, L, .fz (.int v), x5, x6, x7, x8]
theorem bent_eq {e t l : D} {s : Sd} : ψ__law_bent [.strm, e, t, l] s = DI.finish ((sSeq parW (sSeq (sIff (testW .lt 3 2) wayA (sIff (testW .lt 5 3) wayB (sIff (testW .eq 5 2) wayC (sIff (tOf (sCmp .eq (sVar 4) (sCon (.int 6)))) wayD wayE))))
    (sRet (sTup (aCons (sVar 2) (aCons (sVar 3) aNil)))))) [.fz .strm, .fz e, .fz t, .fz l, .un, .un, .un, .un, .un] s) := rfl
/-- a slot that holds a list -/
def Has (g : Ga) (i : Nat) (xs : List D) : Prop := g[i]? = some (.ow xs) ∨ g[i]? = some (.fz (.lst xs))
/-- what a way leaves -/
def Left (ends : List Str) (k : Nat) (r : Out DI.Flow) : Prop := ∃ g' s' T L, r = .ok .nx g' s' ∧ Has g' 2 T ∧ Has g' 3 L ∧ (∀ p ∈ T, PairOk ends p) ∧ T.length ≤ 20 ∧ (∀ d ∈ L, Item ends d) ∧ L.length ≤ 20 ∧ Bud s' k
theorem ret_run {g : Ga} {s : Sd} {T L : List D} (h : Has g 2 T) (q : Has g 3 L) : DI.finish (sRet (sTup (aCons (sVar 2) (aCons (sVar 3) aNil))) g s) = .ok (.tup [.lst T, .lst L]) false s := by
  have l2 : lineOk 2 = true := by decide
  have lt : ∀ {i : Nat} {x : Sl}, g[i]? = some x → i < g.length := fun h => (List.getElem?_eq_some_iff.mp h).1
  rcases h with h | h <;> rcases q with q | q
  · have q2 : (g.set 2 (.fz (.lst T)))[3]? = some (.ow L) := by rw [List.getElem?_set_ne (by decide)]; exact q
    simp [h, q2, l2]
  · have q2 : (g.set 2 (.fz (.lst T)))[3]? = some (.fz (.lst L)) := by rw [List.getElem?_set_ne (by decide)]; exact q
    simp [h, q2, l2]
  · simp [h, q, l2]
  · simp [h, q, l2]
theorem draw_g {s : Sd} {k : Nat} {n : Int} (h : Bud s (k + 1)) (h0 : 0 < n) (h1 : n < 1073741824) : ∃ v s', 0 ≤ v ∧ v < n ∧ Bud s' k ∧ ∀ g, callG ψDraw [.strm, .int n] g s = .ok (.fz (.int v)) g s' := by
  obtain ⟨v, s', a, b, c, d⟩ := draw_of h h0 h1
  exact ⟨v, s', a, b, c, fun g => callG_ok d⟩
theorem at_nat {xs : List D} {v : Int} (h0 : 0 ≤ v) (h1 : v < xs.length) : ∃ (h : v.toNat < xs.length), atI xs v = some xs[v.toNat] ∧ ixN xs.length v = some v.toNat := by
  have hv : v.toNat < xs.length := by omega
  have q : ixN xs.length v = some v.toNat := by
    unfold L2.ixN
    rw [if_pos h0, if_pos h1]
  refine ⟨hv, ?_, q⟩
  unfold L2.atI
  rw [q]
  exact List.getElem?_eq_getElem hv
theorem bl_len (xs : List D) : biF .len [.lst xs] = some (.fz (.int (xs.length : Int))) := rfl
theorem bl_list (xs : List D) : biF .list [.lst xs] = some (.nw xs) := rfl
theorem bl_tup (xs : List D) : biF .tuple [.lst xs] = some (.fz (.tup xs)) := rfl
theorem ad_int (i j : Int) : binF .add (.int i) (.int j) = some (.fz (.int (i + j))) := rfl
theorem seq_nx {A B : Ga → Sd → Out DI.Flow} {g g' : Ga} {s s' : Sd} (h : A g s = .ok .nx g' s') : sSeq A B g s = B g' s' := by
  rw [e_seq, h, bind_ok]
theorem sto_run {i n : Nat} {j : Int} {g g1 : Ga} {s s1 : Sd} {k e : Ga → Sd → Out Rs} {d : D} {xs : List D} (h : (e g s).keep = .ok d g1 s1) (h1 : g1[i]? = some (.ow xs)) (h2 : k g1 s1 = .ok (.fz (.int j)) g1 s1) (h3 : ixN xs.length j = some n) : sSto i k e g s = .ok .nx (g1.set i (.ow (xs.set n d))) s1 := by
  unfold sSto
  rw [h, bind_ok]
  simp only [h1, h2, bind_ok, h3]
section
variable {E p x y z d : D} {T L : List D} {v a w : Int} {x5 x6 x7 x8 : Sl} {s s1 s2 s3 : Sd} {i j : Nat}
theorem run_b (ha : atI L a = some x) (hi : ixN L.length a = some i) (c1 : ∀ g, callG ψDraw [.strm, .int (L.length : Int)] g s = .ok (.fz (.int a)) g s1) (c2 : ∀ g, callG ψ__law_bent_box [.strm, E, x] g s1 = .ok (.fz d) g s2) :
    wayB (gW E (.ow T) (.ow L) v x5 x6 x7 x8) s = .ok .nx (gW E (.ow T) (.ow (L.set i d)) v (.fz (.int a)) x6 x7 x8) s2 := by
  have q : subF (.lst L) (.int a) = some x := ha
  have e1 : sAsg (.nm 5) (drwL 3) (gW E (.ow T) (.ow L) v x5 x6 x7 x8) s = .ok .nx (gW E (.ow T) (.ow L) v (.fz (.int a)) x6 x7 x8) s1 := by
    simp [drwL, gW, bl_len, peeks, c1]
  unfold wayB
  rw [seq_nx e1]
  refine (sto_run (i := 3) (k := sVar 5) (d := d) (j := a) (n := i) (xs := L) (g1 := gW E (.ow T) (.ow L) v (.fz (.int a)) x6 x7 x8) (s1 := s2) ?_ rfl rfl hi).trans rfl
  simp [bentV, ixV, gW, q, c2]
theorem run_a (ha : atI T a = some p) (hi : ixN T.length a = some i) (hl : biF .list [p] = some (.nw [x, y])) (hw : atI [x, y] w = some z) (hj : ixN 2 w = some j) (c1 : ∀ g, callG ψDraw [.strm, .int (T.length : Int)] g s = .ok (.fz (.int a)) g s1) (c2 : ∀ g, callG ψDraw [.strm, .int 2] g s1 = .ok (.fz (.int w)) g s2) (c3 : ∀ g, callG ψ__law_bent_box [.strm, E, z] g s2 = .ok (.fz d) g s3) :
    wayA (gW E (.ow T) (.ow L) v x5 x6 x7 x8) s = .ok .nx (gW E (.ow (T.set i (.tup ([x, y].set j d)))) (.ow L) v (.fz (.int a)) (.fz (.int w)) (.ow ([x, y].set j d)) x8) s3 := by
  have q1 : subF (.lst T) (.int a) = some p := ha
  have q2 : subF (.lst [x, y]) (.int w) = some z := hw
  have e1 : sPar [5, 6] (pCons (drwL 2) (pCons (drw 2) lNil)) (gW E (.ow T) (.ow L) v x5 x6 x7 x8) s = .ok .nx (gW E (.ow T) (.ow L) v (.fz (.int a)) (.fz (.int w)) x7 x8) s2 := by
    simp [sPar, pCons, sHalf, half, halved, DI.keep, putAll, gW, bl_len, peeks, c1, c2]
  have e2 : sAsg (.nm 7) (sBi (biF .list) (lCons (ixV 2 5) lNil)) (gW E (.ow T) (.ow L) v (.fz (.int a)) (.fz (.int w)) x7 x8) s2 = .ok .nx (gW E (.ow T) (.ow L) v (.fz (.int a)) (.fz (.int w)) (.ow [x, y]) x8) s2 := by
    simp [gW, q1, hl, peeks]
  have e3 : sSto 7 (sVar 6) (bentV 7 6) (gW E (.ow T) (.ow L) v (.fz (.int a)) (.fz (.int w)) (.ow [x, y]) x8) s2 = .ok .nx (gW E (.ow T) (.ow L) v (.fz (.int a)) (.fz (.int w)) (.ow ([x, y].set j d)) x8) s3 := by
    refine (sto_run (i := 7) (k := sVar 6) (d := d) (j := w) (n := j) (xs := [x, y]) (g1 := gW E (.ow T) (.ow L) v (.fz (.int a)) (.fz (.int w)) (.ow [x, y]) x8) (s1 := s3) ?_ rfl rfl hj).trans rfl
    simp [bentV, ixV, gW, q2, c3]
  unfold wayA
  rw [seq_nx e1, seq_nx e2, seq_nx e3]
  refine (sto_run (i := 2) (k := sVar 5) (d := .tup ([x, y].set j d)) (j := a) (n := i) (xs := T) (g1 := gW E (.ow T) (.ow L) v (.fz (.int a)) (.fz (.int w)) (.ow ([x, y].set j d)) x8) (s1 := s3) ?_ rfl rfl hi).trans rfl
  simp [gW, bl_tup, peeks]
theorem run_c (hp : subF p (.int 0) = some x) (hl : L.length < sizeLine) (c1 : ∀ g, callG ψ__law_pick [.strm, .lst T] g s = .ok (.fz p) g s1) :
    wayC (gW E (.ow T) (.ow L) v x5 x6 x7 x8) s = .ok .nx (gW E (.fz (.lst T)) (.ow (L ++ [x])) v x5 x6 x7 x8) s1 := by
  have m : mtF .append L [x] = some (.non, L ++ [x]) := if_pos hl
  unfold wayC
  rw [e_exp, e_mth (i := 3) (xs0 := L) (xs := L) (ds := [x]) (g1 := gW E (.fz (.lst T)) (.ow L) v x5 x6 x7 x8) (s1 := s1) rfl (by simp [gW, c1, hp]) rfl m]
  rfl
/-- what may stand in a pair's place -/
def odd8 : List D := [.non, .tup [], .lst [], .int 5, .str "ab", .tup [.tup [], .tup []], .tup [.dic [], .dic []], .tup [.int 1]]
def odd7 : List D := [.non, .tup [], .int 5, .str "a", .dic [], .lst [.lst []], .tup [.int 1, .int 2, .int 3]]
theorem run_d (m : mtF .insert T [.int a, d] = some (.non, L)) (c1 : ∀ g, callG ψDraw [.strm, .int ((T.length : Int) + 1)] g s = .ok (.fz (.int a)) g s1) (c2 : ∀ g, callG ψ__law_pick [.strm, .lst odd8] g s1 = .ok (.fz d) g s2) {S : Sl} :
    wayD (gW E (.ow T) S v x5 x6 x7 x8) s = .ok .nx (gW E (.ow L) S v x5 x6 x7 (.fz (.lst odd8))) s2 := by
  have e1 : sAsg (.nm 8) someW (gW E (.ow T) S v x5 x6 x7 x8) s = .ok .nx (gW E (.ow T) S v x5 x6 x7 (.ow odd8)) s := rfl
  unfold wayD
  rw [seq_nx e1, e_exp, e_mth (i := 2) (xs0 := T) (xs := T) (ds := [.int a, d]) (g1 := gW E (.ow T) S v x5 x6 x7 (.fz (.lst odd8))) (s1 := s2) rfl (by simp [gW, bl_len, ad_int, peeks, c1, c2]) rfl m]
  rfl
theorem run_e (m : mtF .insert L [.int a, d] = some (.non, T)) (c1 : ∀ g, callG ψDraw [.strm, .int ((L.length : Int) + 1)] g s = .ok (.fz (.int a)) g s1) (c2 : ∀ g, callG ψ__law_pick [.strm, .lst odd7] g s1 = .ok (.fz d) g s2) {S : Sl} :
    wayE (gW E S (.ow L) v x5 x6 x7 x8) s = .ok .nx (gW E S (.ow T) v x5 x6 x7 x8) s2 := by
  have e1 : ∀ g, someV g s1 = .ok (.nw odd7) g s1 := fun g => rfl
  unfold wayE
  rw [e_exp, e_mth (i := 3) (xs0 := L) (xs := L) (ds := [.int a, d]) (g1 := gW E S (.ow L) v x5 x6 x7 x8) (s1 := s2) rfl (by
    rw [e_acons, show drwM 3 (gW E S (.ow L) v x5 x6 x7 x8) s = .ok (.fz (.int a)) (gW E S (.ow L) v x5 x6 x7 x8) s1 from by simp [gW, bl_len, ad_int, peeks, c1], keep_fz, bind_ok, e_acons, e_call, e_acons, show sVar 0 (gW E S (.ow L) v x5 x6 x7 x8) s1 = .ok (.fz .strm) (gW E S (.ow L) v x5 x6 x7 x8) s1 from rfl, keep_fz, bind_ok, e_acons, e1, keep_nw, bind_ok, e_anil, bind_ok, bind_ok, bind_ok, c2]
    rfl) rfl m]
  rfl
theorem par_run (c1 : ∀ g, callG ψDraw [.strm, .int 8] g s = .ok (.fz (.int v)) g s1) : parW [.fz .strm, .fz E, .fz (.lst T), .fz (.lst L), .un, .un, .un, .un, .un] s = .ok .nx (gW E (.ow T) (.ow L) v .un .un .un .un) s1 := by
  simp [sPar, pCons, sHalf, half, halved, DI.keep, putAll, gW, bl_list, peeks, c1]
end
end K27
end
section
set_option Elab.async false
set_option linter.all false
set_option maxRecDepth 100000
set_option maxHeartbeats 4000000
/-! PM26: a table bent. -/
namespace K27
open PySem L2 DI
theorem sm_t0 : Sm 1 100 1 (.tup []) := (Sm.tup (k := 0) (w := 0) (n := 0) (L := 0) (xs := []) (fun x h => by cases h) (Nat.le_refl _) (by decide)).up (by decide) (by decide) (by decide)
theorem sm_l0 : Sm 1 100 1 (.lst []) := (Sm.lst (k := 0) (w := 0) (n := 0) (L := 0) (xs := []) (fun x h => by cases h) (Nat.le_refl _) (by decide)).up (by decide) (by decide) (by decide)
theorem sm_2 {w : Nat} {xs : List D} (h : ∀ x ∈ xs, Sm 1 100 1 x) (hl : xs.length ≤ 3) : Sm 2 400 4 (.tup xs) :=
  (Sm.tup (k := 1) (w := 100) (n := 1) (L := 3) h hl (by decide)).up (by decide) (by decide) (by decide)
theorem sm_3 {xs : List D} (h : ∀ x ∈ xs, Sm 1 100 1 x) (hl : xs.length ≤ 3) : Sm 2 400 4 (.lst xs) :=
  (Sm.lst (k := 1) (w := 100) (n := 1) (L := 3) h hl (by decide)).up (by decide) (by decide) (by decide)
theorem sm_s {d : D} (h : Sm 0 100 0 d) : Sm 1 100 1 d := h.up (by decide) (by decide) (by decide)
theorem sm_ab : Sm 0 100 0 (.str "ab") := sm_strs "ab" (by decide +kernel)
theorem sm_a : Sm 0 100 0 (.str "a") := sm_strs "a" (by decide +kernel)
theorem pair_odd {ends : List Str} : ∀ p ∈ odd8, PairOk ends p := by
  have nil1 : ∀ x ∈ ([] : List D), Sm 1 100 1 x := fun _ h => by cases h
  have up1 : ∀ {d : D}, Sm 1 100 1 d → Sm 4 11229 19 d := fun h => h.up (by decide) (by decide) (by decide)
  have up2 : ∀ {d : D}, Sm 2 400 4 d → Sm 4 11229 19 d := fun h => h.up (by decide) (by decide) (by decide)
  have rn : ∀ d ∈ ([] : List D), Raw ends d := fun _ h => by cases h
  unfold odd8
  simp only [List.forall_mem_cons]
  refine ⟨?_, ?_, ?_, ?_, ?_, ?_, ?_, ?_, fun x hx => by cases hx⟩
  · exact ⟨up1 (sm_s sm_non), by decide, rn⟩
  · exact ⟨up1 sm_t0, by decide, rn⟩
  · exact ⟨up1 sm_l0, by decide, rn⟩
  · exact ⟨up1 (sm_s (sm_ints 5 (by decide))), by decide, rn⟩
  · exact ⟨up1 (sm_s sm_ab), by decide, rn⟩
  · exact ⟨up2 (sm_2 (w := 0) (List.forall_mem_cons.mpr ⟨sm_t0, List.forall_mem_cons.mpr ⟨sm_t0, nil1⟩⟩) (by decide)), by decide, List.forall_mem_cons.mpr ⟨raw_of rfl, List.forall_mem_cons.mpr ⟨raw_of rfl, rn⟩⟩⟩
  · exact ⟨up2 (sm_2 (w := 0) (List.forall_mem_cons.mpr ⟨sm_s sm_dic, List.forall_mem_cons.mpr ⟨sm_s sm_dic, nil1⟩⟩) (by decide)), by decide, List.forall_mem_cons.mpr ⟨raw_of rfl, List.forall_mem_cons.mpr ⟨raw_of rfl, rn⟩⟩⟩
  · exact ⟨up2 (sm_2 (w := 0) (List.forall_mem_cons.mpr ⟨sm_s (sm_ints 1 (by decide)), nil1⟩) (by decide)), by decide, List.forall_mem_cons.mpr ⟨raw_of rfl, rn⟩⟩
theorem item_odd {ends : List Str} : ∀ d ∈ odd7, Item ends d := by
  have nil1 : ∀ x ∈ ([] : List D), Sm 1 100 1 x := fun _ h => by cases h
  have up1 : ∀ {d : D}, Sm 1 100 1 d → Sm 3 5611 9 d := fun h => h.up (by decide) (by decide) (by decide)
  have up2 : ∀ {d : D}, Sm 2 400 4 d → Sm 3 5611 9 d := fun h => h.up (by decide) (by decide) (by decide)
  unfold odd7
  simp only [List.forall_mem_cons]
  refine ⟨?_, ?_, ?_, ?_, ?_, ?_, ?_, fun x hx => by cases hx⟩
  · exact ⟨up1 (sm_s sm_non), raw_of rfl⟩
  · exact ⟨up1 sm_t0, raw_of rfl⟩
  · exact ⟨up1 (sm_s (sm_ints 5 (by decide))), raw_of rfl⟩
  · exact ⟨up1 (sm_s sm_a), raw_of rfl⟩
  · exact ⟨up1 (sm_s sm_dic), raw_of rfl⟩
  · exact ⟨up2 (sm_3 (List.forall_mem_cons.mpr ⟨sm_l0, nil1⟩) (by decide)), raw_of rfl⟩
  · exact ⟨up2 (sm_2 (w := 0) (List.forall_mem_cons.mpr ⟨sm_s (sm_ints 1 (by decide)), List.forall_mem_cons.mpr ⟨sm_s (sm_ints 2 (by decide)), List.forall_mem_cons.mpr ⟨sm_s (sm_ints 3 (by decide)), nil1⟩⟩⟩) (by decide)), raw_of rfl⟩
theorem ins_run {xs : List D} {a : Int} {d : D} (h0 : 0 ≤ a) (h1 : a < (xs.length : Int) + 1) (hl : xs.length ≤ 1000) : mtF .insert xs [.int a, d] = some (.non, xs.take a.toNat ++ [d] ++ xs.drop a.toNat) := by
  have big : (1000 : Nat) < sizeLine := by decide
  exact if_pos ⟨by omega, h0, by omega⟩
theorem ins_all {P : D → Prop} {xs : List D} {d : D} {n : Nat} (h : ∀ x ∈ xs, P x) (hd : P d) : ∀ x ∈ xs.take n ++ [d] ++ xs.drop n, P x := fun x hx => by
  rcases List.mem_append.mp hx with hx | hx
  · rcases List.mem_append.mp hx with hx | hx
    · exact h x (List.mem_of_mem_take hx)
    · rw [List.mem_singleton.mp hx]; exact hd
  · exact h x (List.mem_of_mem_drop hx)
theorem ins_len {xs : List D} {d : D} {n : Nat} : (xs.take n ++ [d] ++ xs.drop n).length = xs.length + 1 := by
  rw [List.length_append, List.length_append, List.length_take, List.length_drop, List.length_singleton]
  omega
theorem set_all {P : D → Prop} {xs : List D} {d : D} {n : Nat} (h : ∀ x ∈ xs, P x) (hd : P d) : ∀ x ∈ xs.set n d, P x := fun x hx => by
  rcases List.mem_or_eq_of_mem_set hx with hx | rfl
  · exact h x hx
  · exact hd
section
variable {ends : List Str} {ps : List (Bx × Bx)} {ls : List Bx} {v : Int} {s : Sd} {k : Nat}
theorem all_pairs (he : Ends ends) (h : ∀ b ∈ flat ps, Low ends b) : ∀ p ∈ ps.map prD, PairOk ends p := fun p hp => by
  obtain ⟨q, hq, rfl⟩ := List.mem_map.mp hp
  have f : ∀ b ∈ [q.1, q.2], b ∈ flat ps := fun b hb => List.mem_flatMap.mpr ⟨q, hq, hb⟩
  exact Item.pair (item_bx he (h q.1 (f _ (by simp)))) (item_bx he (h q.2 (f _ (by simp))))
theorem all_items (he : Ends ends) (h : ∀ b ∈ ls, Low ends b) : ∀ d ∈ ls.map bxD, Item ends d := fun p hp => by
  obtain ⟨q, hq, rfl⟩ := List.mem_map.mp hp
  exact item_bx he (h q hq)
theorem len_eqv (he : Ends ends) (h : ∀ b ∈ ls, Low ends b) : cmpF .ne (.lst (ls.map bxD)) (.lst []) = some (!(ls.map bxD).isEmpty) :=
  ne_nil (n := 3) (fun x hx => by
    obtain ⟨b, hb, rfl⟩ := List.mem_map.mp hx
    exact eqv_bx he (h b hb).e) (by decide)
theorem len_eqp (he : Ends ends) (h : ∀ b ∈ flat ps, Low ends b) : cmpF .ne (.lst (ps.map prD)) (.lst []) = some (!(ps.map prD).isEmpty) :=
  ne_nil (n := 4) (fun x hx => by
    obtain ⟨q, hq, rfl⟩ := List.mem_map.mp hx
    have f : ∀ b ∈ [q.1, q.2], b ∈ flat ps := fun b hb => List.mem_flatMap.mpr ⟨q, hq, hb⟩
    refine Eqv.tup (n := 3) fun y hy => ?_
    rcases List.mem_cons.mp hy with rfl | hy
    · exact eqv_bx he (h q.1 (f _ (by simp))).e
    · rw [List.mem_singleton.mp hy]
      exact eqv_bx he (h q.2 (f _ (by simp))).e) (by decide)
theorem way_b (he : Ends ends) (h0 : ends ≠ []) (hl : ends.length ≤ 4) (hp : ∀ b ∈ flat ps, Low ends b) (hq : ∀ b ∈ ls, Low ends b) (np : ps.length ≤ 12) (nl : ls.length ≤ 12) (ne : ls ≠ []) (hb : Bud s (k + 3)) :
    Left ends k (wayB (gW (endsD ends) (.ow (ps.map prD)) (.ow (ls.map bxD)) v .un .un .un .un) s) := by
  have hp0 : 0 < ls.length := List.length_pos_iff.mpr ne
  have hm : (ls.map bxD).length = ls.length := List.length_map _
  obtain ⟨a, s1, a0, a1, b1, c1⟩ := draw_g (s := s) (k := k + 2) (n := ((ls.map bxD).length : Int)) hb (by omega) (by omega)
  obtain ⟨ha, e1, e2⟩ := at_nat a0 a1
  obtain ⟨b, hbm, e3⟩ := List.mem_map.mp (List.getElem_mem ha)
  rw [← e3] at e1
  obtain ⟨d, s2, d1, d2, b2⟩ := s_bent_box (s := s1) (k := k) he h0 hl (hq b hbm) b1
  exact ⟨_, s2, ps.map prD, (ls.map bxD).set a.toNat d, run_b e1 e2 c1 (fun g => callG_ok d1), .inl rfl, .inl rfl, all_pairs he hp, by rw [List.length_map]; omega, set_all (all_items he hq) d2, by rw [List.length_set, hm]; omega, b2⟩
theorem way_a (he : Ends ends) (h0 : ends ≠ []) (hl : ends.length ≤ 4) (hp : ∀ b ∈ flat ps, Low ends b) (hq : ∀ b ∈ ls, Low ends b) (np : ps.length ≤ 12) (nl : ls.length ≤ 12) (ne : ps ≠ []) (hb : Bud s (k + 4)) :
    Left ends k (wayA (gW (endsD ends) (.ow (ps.map prD)) (.ow (ls.map bxD)) v .un .un .un .un) s) := by
  have hp0 : 0 < ps.length := List.length_pos_iff.mpr ne
  have hm : (ps.map prD).length = ps.length := List.length_map _
  obtain ⟨a, s1, a0, a1, b1, c1⟩ := draw_g (s := s) (k := k + 3) (n := ((ps.map prD).length : Int)) hb (by omega) (by omega)
  obtain ⟨w, s2, w0, w1, b2, c2⟩ := draw_g (s := s1) (k := k + 2) (n := 2) b1 (by omega) (by omega)
  obtain ⟨ha, e1, e2⟩ := at_nat a0 a1
  obtain ⟨q, hqm, e3⟩ := List.mem_map.mp (List.getElem_mem ha)
  rw [← e3] at e1
  have f : ∀ b ∈ [q.1, q.2], Low ends b := fun b hb => hp b (List.mem_flatMap.mpr ⟨q, hqm, hb⟩)
  have f1 := f q.1 (by simp)
  have f2 := f q.2 (by simp)
  rcases (show w = 0 ∨ w = 1 by omega) with rfl | rfl
  · obtain ⟨d, s3, d1, d2, b3⟩ := s_bent_box (s := s2) (k := k) he h0 hl f1 b2
    exact ⟨_, s3, (ps.map prD).set a.toNat (.tup [d, bxD q.2]), ls.map bxD, run_a (x := bxD q.1) (y := bxD q.2) (z := bxD q.1) (j := 0) e1 e2 rfl rfl rfl c1 c2 (fun g => callG_ok d1), .inl rfl, .inl rfl, set_all (all_pairs he hp) (Item.pair d2 (item_bx he f2)), by rw [List.length_set, hm]; omega, all_items he hq, by rw [List.length_map]; omega, b3⟩
  · obtain ⟨d, s3, d1, d2, b3⟩ := s_bent_box (s := s2) (k := k) he h0 hl f2 b2
    exact ⟨_, s3, (ps.map prD).set a.toNat (.tup [bxD q.1, d]), ls.map bxD, run_a (x := bxD q.1) (y := bxD q.2) (z := bxD q.2) (j := 1) e1 e2 rfl rfl rfl c1 c2 (fun g => callG_ok d1), .inl rfl, .inl rfl, set_all (all_pairs he hp) (Item.pair (item_bx he f1) d2), by rw [List.length_set, hm]; omega, all_items he hq, by rw [List.length_map]; omega, b3⟩
theorem way_c (he : Ends ends) (hp : ∀ b ∈ flat ps, Low ends b) (hq : ∀ b ∈ ls, Low ends b) (np : ps.length ≤ 12) (nl : ls.length ≤ 12) (ne : ps ≠ []) (hb : Bud s (k + 1)) :
    Left ends k (wayC (gW (endsD ends) (.ow (ps.map prD)) (.ow (ls.map bxD)) v .un .un .un .un) s) := by
  have big : (1000 : Nat) < sizeLine := by decide
  have hm : (ls.map bxD).length = ls.length := List.length_map _
  obtain ⟨p, hpm, s1, d1, b1⟩ := s_pick (d := .lst (ps.map prD)) (xs := ps.map prD) (s := s) (k := k) rfl (by simpa using ne) (by rw [List.length_map]; omega) hb
  obtain ⟨q, hqm, rfl⟩ := List.mem_map.mp hpm
  have f1 : Low ends q.1 := hp q.1 (List.mem_flatMap.mpr ⟨q, hqm, by simp⟩)
  refine ⟨_, s1, ps.map prD, ls.map bxD ++ [bxD q.1], run_c (p := prD q) (x := bxD q.1) rfl (by omega) (fun g => callG_ok d1), .inr rfl, .inl rfl, all_pairs he hp, by rw [List.length_map]; omega, fun x hx => ?_, by rw [List.length_append, List.length_singleton, hm]; omega, b1⟩
  rcases List.mem_append.mp hx with hx | hx
  · exact all_items he hq x hx
  · rw [List.mem_singleton.mp hx]; exact item_bx he f1
theorem way_d (he : Ends ends) (hp : ∀ b ∈ flat ps, Low ends b) (hq : ∀ b ∈ ls, Low ends b) (np : ps.length ≤ 12) (nl : ls.length ≤ 12) (hb : Bud s (k + 2)) :
    Left ends k (wayD (gW (endsD ends) (.ow (ps.map prD)) (.ow (ls.map bxD)) v .un .un .un .un) s) := by
  have hm : (ps.map prD).length = ps.length := List.length_map _
  obtain ⟨a, s1, a0, a1, b1, c1⟩ := draw_g (s := s) (k := k + 1) (n := ((ps.map prD).length : Int) + 1) hb (by omega) (by omega)
  obtain ⟨d, hd, s2, d1, b2⟩ := s_pick (d := .lst odd8) (xs := odd8) (s := s1) (k := k) rfl (by simp [odd8]) (by decide) b1
  exact ⟨_, s2, _, ls.map bxD, run_d (ins_run a0 a1 (by omega)) c1 (fun g => callG_ok d1), .inl rfl, .inl rfl, ins_all (all_pairs he hp) (pair_odd d hd), by rw [ins_len, hm]; omega, all_items he hq, by rw [List.length_map]; omega, b2⟩
theorem way_e (he : Ends ends) (hp : ∀ b ∈ flat ps, Low ends b) (hq : ∀ b ∈ ls, Low ends b) (np : ps.length ≤ 12) (nl : ls.length ≤ 12) (hb : Bud s (k + 2)) :
    Left ends k (wayE (gW (endsD ends) (.ow (ps.map prD)) (.ow (ls.map bxD)) v .un .un .un .un) s) := by
  have hm : (ls.map bxD).length = ls.length := List.length_map _
  obtain ⟨a, s1, a0, a1, b1, c1⟩ := draw_g (s := s) (k := k + 1) (n := ((ls.map bxD).length : Int) + 1) hb (by omega) (by omega)
  obtain ⟨d, hd, s2, d1, b2⟩ := s_pick (d := .lst odd7) (xs := odd7) (s := s1) (k := k) rfl (by simp [odd7]) (by decide) b1
  exact ⟨_, s2, ps.map prD, _, run_e (ins_run a0 a1 (by omega)) c1 (fun g => callG_ok d1), .inl rfl, .inl rfl, all_pairs he hp, by rw [List.length_map]; omega, ins_all (all_items he hq) (item_odd d hd), by rw [ins_len, hm]; omega, b2⟩
end
theorem test_run {o : Cop} {n : Int} {i : Nat} {g : Ga} {s : Sd} {v : Int} {b : Bool} {xs : List D} (h4 : g[4]? = some (.fz (.int v))) (hi : g[i]? = some (.ow xs)) (ho : cmpF o (.int v) (.int n) = some b) (hn : cmpF .ne (.lst xs) (.lst []) = some (!xs.isEmpty)) : testW o n i g s = .ok (b && !xs.isEmpty) g s := by
  have l0 : lineOk 0 = true := by decide
  cases b with
  | false => simp [sCmp, h4, ho]
  | true => simp [sCmp, h4, ho, hi, hn, l0]
theorem s_bent {ends : List Str} {t l : D} {s : Sd} {k : Nat} (he : Ends ends) (h0 : ends ≠ []) (hl : ends.length ≤ 4) (h : Tbl ends t l) (hb : Bud s (k + 5)) : ∃ t' l' s', ψ__law_bent [.strm, endsD ends, t, l] s = .ok (.tup [t', l']) false s' ∧ TOk ends t' ∧ LOk ends l' ∧ Bud s' k := by
  obtain ⟨ps, ls, rfl, rfl, B, hn⟩ := h.ex
  have hp : ∀ b ∈ flat ps, Low ends b := fun b hb => B.low b (List.mem_append_left _ hb)
  have hq : ∀ b ∈ ls, Low ends b := fun b hb => B.low b (List.mem_append_right _ hb)
  obtain ⟨v, s1, v0, v1, b1, c1⟩ := draw_g (s := s) (k := k + 4) (n := 8) hb (by omega) (by omega)
  have tA := test_run (o := .lt) (n := 3) (i := 2) (g := gW (endsD ends) (.ow (ps.map prD)) (.ow (ls.map bxD)) v .un .un .un .un) (s := s1) (v := v) (b := decide (v < 3)) rfl rfl rfl (len_eqp he hp)
  have tB := test_run (o := .lt) (n := 5) (i := 3) (g := gW (endsD ends) (.ow (ps.map prD)) (.ow (ls.map bxD)) v .un .un .un .un) (s := s1) (v := v) (b := decide (v < 5)) rfl rfl rfl (len_eqv he hq)
  have tC := test_run (o := .eq) (n := 5) (i := 2) (g := gW (endsD ends) (.ow (ps.map prD)) (.ow (ls.map bxD)) v .un .un .un .un) (s := s1) (v := v) (b := v == 5) rfl rfl (eq_int' v 5) (len_eqp he hp)
  have tD : tOf (sCmp .eq (sVar 4) (sCon (.int 6))) (gW (endsD ends) (.ow (ps.map prD)) (.ow (ls.map bxD)) v .un .un .un .un) s1 = .ok (v == 6) (gW (endsD ends) (.ow (ps.map prD)) (.ow (ls.map bxD)) v .un .un .un .un) s1 := by
    simp [sCmp, eq_int']
  have left : Left ends k (sIff (testW .lt 3 2) wayA (sIff (testW .lt 5 3) wayB (sIff (testW .eq 5 2) wayC (sIff (tOf (sCmp .eq (sVar 4) (sCon (.int 6)))) wayD wayE))) (gW (endsD ends) (.ow (ps.map prD)) (.ow (ls.map bxD)) v .un .un .un .un) s1) := by
    rw [e_iff, tA, bind_ok]
    cases qA : decide (v < 3) && !(ps.map prD).isEmpty with
    | true =>
      have ne : ps ≠ [] := fun e => by rw [e] at qA; simp at qA
      exact way_a he h0 hl hp hq (by omega) (by omega) ne b1
    | false =>
      simp only
      rw [e_iff, tB, bind_ok]
      cases qB : decide (v < 5) && !(ls.map bxD).isEmpty with
      | true =>
        have ne : ls ≠ [] := fun e => by rw [e] at qB; simp at qB
        exact way_b he h0 hl hp hq (by omega) (by omega) ne (b1.le (by omega))
      | false =>
        simp only
        rw [e_iff, tC, bind_ok]
        cases qC : (v == 5) && !(ps.map prD).isEmpty with
        | true =>
          have ne : ps ≠ [] := fun e => by rw [e] at qC; simp at qC
          exact way_c he hp hq (by omega) (by omega) ne (b1.le (by omega))
        | false =>
          simp only
          rw [e_iff, tD, bind_ok]
          cases qD : v == 6 with
          | true => exact way_d he hp hq (by omega) (by omega) (b1.le (by omega))
          | false => exact way_e he hp hq (by omega) (by omega) (b1.le (by omega))
  obtain ⟨g', s', T, L, r1, r2, r3, r4, r5, r6, r7, r8⟩ := left
  refine ⟨.lst T, .lst L, s', ?_, TOk.of r4 r5, LOk.of r6 r7, r8⟩
  rw [bent_eq, seq_nx (par_run c1), seq_nx r1]
  exact ret_run r2 r3
end K27
end
section
set_option Elab.async false
set_option linter.all false
set_option maxRecDepth 100000
set_option maxHeartbeats 4000000
/-! PM27: the law, whole. -/
namespace K27
open PySem L2 DI
abbrev isT3 : Ga → Sd → Out Rs := sCall (callG ψ__law_is_table) (aCons (sVar 3) (aCons (sVar 4) (aCons (sVar 5) aNil)))
abbrev rt3 : Ga → Sd → Out Rs := sCall (callG ψ__law_right) (aCons (sVar 1) (aCons (sVar 3) (aCons (sVar 4) (aCons (sVar 5) aNil))))
abbrev endsS : Ga → Sd → Out DI.Flow := sAsg (.nm 3) (sCall (callG ψ__law_ends) (aCons (sVar 1) (aCons (sTwo (binF .add) (sCon (.int 1)) (sCall (callG ψDraw) (aCons (sVar 1) (aCons (sCon (.int 4)) aNil)))) aNil)))
abbrev tabS : Ga → Sd → Out DI.Flow := sAsg (.cons (.nm 4) (.cons (.nm 5) .nil)) (sCall (callG ψ__law_t_table) (aCons (sVar 1) (aCons (sVar 3) (aCons (sCall (callG ψDraw) (aCons (sVar 1) (aCons (sCon (.int 9)) aNil))) aNil))))
abbrev no : Ga → Sd → Out DI.Flow := sRet (sCon (.bl false))
abbrev nx : Ga → Sd → Out DI.Flow := fun g s => .ok .nx g s
abbrev bodyK : Ga → Sd → Out DI.Flow := sSeq (sAsg (.nm 7) (sCall (callG ψ__law_bent) (aCons (sVar 1) (aCons (sVar 3) (aCons (sVar 4) (aCons (sVar 5) aNil))))))
    (sIff (tNotF (tOf (sCall (callG ψ__law_right) (aCons (sVar 1) (aCons (sVar 3) (aCons (sTwo (fun x y => (subF x y).map .fz) (sVar 7) (sCon (.int 0))) (aCons (sTwo (fun x y => (subF x y).map .fz) (sVar 7) (sCon (.int 1))) aNil))))))) no nx)
abbrev odS : Ga → Sd → Out Rs := sLst (aCons (sCon .non) (aCons (sCon (.int 5)) (aCons (sCon (.str "ab")) (aCons (sCon (.dic [])) (aCons (sLst aNil) (aCons (sTup aNil) (aCons (sCon (.bl true)) (aCons (sLst (aCons (sTup aNil) aNil)) (aCons (sLst (aCons (sCon .non) aNil)) (aCons (sLst (aCons (sLst aNil) aNil)) aNil))))))))))
abbrev odE : Ga → Sd → Out Rs := sAnd (sCall (callG ψ__law_right) (aCons (sVar 1) (aCons (sVar 3) (aCons (sVar 9) (aCons (sVar 5) aNil))))) (sCall (callG ψ__law_right) (aCons (sVar 1) (aCons (sVar 3) (aCons (sVar 4) (aCons (sVar 9) aNil)))))
abbrev odL : Ga → Sd → Out Rs := sLc [9] (iSeqF (sVar 8)) (.nm 9) (fun g s => .ok true g s) odE
abbrev turnB : Ga → Sd → Out DI.Flow := sSeq endsS (sSeq tabS (sSeq (sIff (tOrF (tNotF (tOf isT3)) (tNotF (tOf rt3))) no nx) (sSeq (sFor (.nm 6) (iRngF rngF1 (aCons (sCon (.int 7)) aNil)) bodyK) (sSeq (sAsg (.nm 8) odS) (sIff (tNotF (tOf (sBi (biF .all) (lCons odL lNil)))) no nx)))))
abbrev rfS : Ga → Sd → Out Rs := sLst (aCons (sTup (aCons (sCon .non) (aCons (sCon (.int 0)) aNil))) (aCons (sTup (aCons (sCon (.str "ab")) (aCons (sCon (.int 0)) aNil))) (aCons (sTup (aCons (sCon (.dic [])) (aCons (sCon (.int 0)) aNil))) (aCons (sTup (aCons (sLst (aCons (sCon (.str "a")) (aCons (sCon (.str "a")) aNil))) (aCons (sCon (.int 1)) aNil))) (aCons (sTup (aCons (sLst (aCons (sCon (.str "a")) (aCons (sCon (.int 5)) aNil))) (aCons (sCon (.int 1)) aNil))) (aCons (sTup (aCons (sLst (aCons (sCon (.str "x")) aNil)) (aCons (sCon (.int 0)) aNil))) (aCons (sTup (aCons (sLst (aCons (sCon (.str "a")) (aCons (sCon (.str "b")) (aCons (sCon (.str "stop")) aNil)))) (aCons (sCon (.int 2)) aNil))) aNil)))))))
abbrev rfL : Ga → Sd → Out Rs := sLc [9, 10] (iSeqF (sVar 8)) (.cons (.nm 9) (.cons (.nm 10) .nil)) (fun g s => .ok true g s) (sCall (callG ψ__law_refused) (aCons (sVar 9) (aCons (sVar 10) aNil)))
abbrev lastS : Ga → Sd → Out DI.Flow := sRet (sCall (callG (ψ__law_same 8)) (aCons (sLst (aCons (sCall (callG ψ_is_table) (aCons (sLst aNil) (aCons (sLst aNil) (aCons (sLst aNil) aNil)))) (aCons (sCall (callG ψ_is_table) (aCons (sLst aNil) (aCons (sLst aNil) (aCons (sLst (aCons (sTup (aCons (sCon (.str "a")) (aCons (sLst aNil) (aCons (sLst aNil) aNil)))) aNil)) aNil)))) aNil))) (aCons (sLst (aCons (sCon (.bl true)) (aCons (sCon (.bl false)) aNil))) aNil)))
theorem law_eq : b_law = sSeq (sFor (.nm 2) (iRngF rngF1 (aCons (sCon (.int 10)) aNil)) turnB) (sSeq (sAsg (.nm 8) rfS) (sSeq (sIff (tNotF (tOf (sBi (biF .all) (lCons rfL lNil)))) no nx) lastS)) := rfl
section
variable {ends : List Str} {t l : D} {s : Sd} {k : Nat}
theorem right_g (he : Ends ends) (hl : ends.length ≤ 4) (ht : TOk ends t) (hq : LOk ends l) (hb : Bud s (k + 600)) : ∃ s', (∀ g, callG ψ__law_right [.strm, endsD ends, t, l] g s = .ok (.fz (.bl true)) g s') ∧ Bud s' k := by
  have := ht.sm.dr
  have := hq.sm.dr
  obtain ⟨s', h, b⟩ := s_right he (by omega) (asked ht hq) (hb.le (j := k + (1 + nd t + nd l)) (by omega))
  exact ⟨s', fun g => callG_ok h, b⟩
abbrev gY (x2 : Sl) (e t l : D) (x6 x7 x8 : Sl) : Ga := [.un, .fz .strm, x2, .fz e, .fz t, .fz l, x6, x7, x8, .un, .un]
theorem k_turn {x2 x6 x7 x8 : Sl} (he : Ends ends) (h0 : ends ≠ []) (hl : ends.length ≤ 4) (h : Tbl ends t l) (hb : Bud s (k + 605)) : ∃ y7 s', bodyK (gY x2 (endsD ends) t l x6 x7 x8) s = .ok .nx (gY x2 (endsD ends) t l x6 y7 x8) s' ∧ Bud s' k := by
  obtain ⟨t', l', s1, e1, ht, hq, b1⟩ := s_bent (k := k + 600) he h0 hl h hb
  obtain ⟨s2, e2, b2⟩ := right_g he hl ht hq b1
  refine ⟨.fz (.tup [t', l']), s2, ?_, b2⟩
  have c1 : ∀ g, callG ψ__law_bent [.strm, endsD ends, t, l] g s = .ok (.fz (.tup [t', l'])) g s1 := fun g => callG_ok e1
  have i0 : subF (.tup [t', l']) (.int 0) = some t' := rfl
  have i1 : subF (.tup [t', l']) (.int 1) = some l' := rfl
  simp [gY, c1, e2, i0, i1]
theorem k_loop {x2 x8 : Sl} (he : Ends ends) (h0 : ends ≠ []) (hl : ends.length ≤ 4) (h : Tbl ends t l) : ∀ (js : List D) (x6 x7 : Sl) (s : Sd) (k : Nat), Bud s (k + 605 * js.length) →
    ∃ y6 y7 s', forL (forTurn (.nm 6) bodyK) js (gY x2 (endsD ends) t l x6 x7 x8) s = .ok .nx (gY x2 (endsD ends) t l y6 y7 x8) s' ∧ Bud s' k
  | [], x6, x7, s, k, hb => ⟨x6, x7, s, rfl, hb⟩
  | j :: js, x6, x7, s, k, hb => by
    obtain ⟨y7, s1, e1, b1⟩ := k_turn (x2 := x2) (x6 := .fz j) (x7 := x7) (x8 := x8) (s := s) (k := k + 605 * js.length) he h0 hl h (hb.le (by rw [List.length_cons]; omega))
    obtain ⟨z6, z7, s2, e2, b2⟩ := k_loop (x2 := x2) (x8 := x8) he h0 hl h js (.fz j) y7 s1 k b1
    refine ⟨z6, z7, s2, ?_, b2⟩
    rw [forL_nx (g' := gY x2 (endsD ends) t l (.fz j) y7 x8) (s' := s1) (by exact e1)]
    exact e2
def odds10 : List D := [.non, .int 5, .str "ab", .dic [], .lst [], .tup [], .bl true, .lst [.tup []], .lst [.non], .lst [.lst []]]
theorem sm_l1 {d : D} (h : Sm 1 100 1 d) : Sm 2 400 4 (.lst [d]) := sm_3 (List.forall_mem_cons.mpr ⟨h, fun _ h => by cases h⟩) (by simp)
theorem odd_ok : ∀ d ∈ odds10, TOk ends d ∧ LOk ends d := by
  have u1 : ∀ {d : D}, Sm 2 400 4 d → Sm 5 224623 381 d := fun h => h.up (by decide) (by decide) (by decide)
  have u2 : ∀ {d : D}, Sm 2 400 4 d → Sm 4 112263 181 d := fun h => h.up (by decide) (by decide) (by decide)
  have v1 : ∀ {d : D}, Sm 1 100 1 d → Sm 2 400 4 d := fun h => h.up (by decide) (by decide) (by decide)
  have noT : ∀ {d : D}, Sm 2 400 4 d → d.seq = none → TOk ends d ∧ LOk ends d := fun h e => ⟨⟨u1 h, fun ps q => by rw [e] at q; cases q⟩, ⟨u2 h, fun ps q => by rw [e] at q; cases q⟩⟩
  have em : ∀ {d : D}, Sm 2 400 4 d → d.seq = some [] → TOk ends d ∧ LOk ends d := fun h e => ⟨⟨u1 h, fun ps q => by rw [e] at q; cases q; exact ⟨by decide, fun p hp => by cases hp⟩⟩, ⟨u2 h, fun ps q => by rw [e] at q; cases q; exact ⟨by decide, fun p hp => by cases hp⟩⟩⟩
  have o1 : ∀ {d : D}, Sm 1 100 1 d → itemsD d = [] → boxN ends d = none → TOk ends (.lst [d]) ∧ LOk ends (.lst [d]) := fun {d} h e r => ⟨⟨u1 (sm_l1 h), fun ps q => by
      cases q
      refine ⟨by simp, fun p hp => ?_⟩
      rw [List.mem_singleton.mp hp, e]
      exact ⟨by decide, fun x hx => by cases hx⟩⟩, ⟨u2 (sm_l1 h), fun ps q => by
      cases q
      refine ⟨by simp, fun p hp => ?_⟩
      rw [List.mem_singleton.mp hp]
      exact raw_of r⟩⟩
  unfold odds10
  simp only [List.forall_mem_cons]
  refine ⟨?_, ?_, ?_, ?_, ?_, ?_, ?_, ?_, ?_, ?_, fun x hx => by cases hx⟩
  · exact noT (v1 (sm_s sm_non)) rfl
  · exact noT (v1 (sm_s (sm_ints 5 (by decide)))) rfl
  · exact noT (v1 (sm_s sm_ab)) rfl
  · exact noT (v1 (sm_s sm_dic)) rfl
  · exact em (v1 sm_l0) rfl
  · exact em (v1 sm_t0) rfl
  · exact noT (v1 (sm_s (sm_bl true))) rfl
  · exact o1 sm_t0 rfl rfl
  · exact o1 (sm_s sm_non) rfl rfl
  · exact o1 sm_l0 rfl rfl
theorem lc_true {F : D → Ga → Sd → Out (Option D)} {g : Ga} : ∀ (xs acc : List D) (s : Sd) (k : Nat), (∀ x ∈ xs, ∀ s k, Bud s (k + 1200) → ∃ s', F x g s = .ok (some (.bl true)) g s' ∧ Bud s' k) → acc.length + xs.length ≤ 1000 → Bud s (k + 1200 * xs.length) →
    ∃ s', lcL F xs acc g s = .ok (acc ++ xs.map fun _ => .bl true) g s' ∧ Bud s' k
  | [], acc, s, k, _, _, hb => ⟨s, by rw [List.map_nil, List.append_nil]; rfl, hb⟩
  | x :: xs, acc, s, k, hx, hl, hb => by
    have big : (1000 : Nat) < sizeLine := by decide
    rw [List.length_cons] at hl hb
    obtain ⟨s1, e1, b1⟩ := hx x List.mem_cons_self s (k + 1200 * xs.length) (hb.le (by omega))
    obtain ⟨s2, e2, b2⟩ := lc_true xs (acc ++ [.bl true]) s1 k (fun y hy => hx y (List.mem_cons_of_mem _ hy)) (by rw [List.length_append, List.length_singleton]; omega) b1
    refine ⟨s2, ?_, b2⟩
    unfold lcL
    rw [e1]
    show (if acc.length < sizeLine then lcL F xs (acc ++ [.bl true]) g s1 else .bad) = _
    rw [if_pos (by omega), e2, List.append_assoc]
    rfl
theorem od_run {x2 x6 x7 x8 : Sl} (he : Ends ends) (hl : ends.length ≤ 4) (ht : TOk ends t) (hq : LOk ends l) (hb : Bud s (k + 12000)) : ∃ s', sIff (tNotF (tOf (sBi (biF .all) (lCons odL lNil)))) no nx (gY x2 (endsD ends) t l x6 x7 (.ow odds10)) s = .ok .nx (gY x2 (endsD ends) t l x6 x7 (.fz (.lst odds10))) s' ∧ Bud s' k := by
  obtain ⟨s', e, b⟩ := lc_true (F := lcTurn [9] (.nm 9) (fun g s => .ok true g s) odE) (g := gY x2 (endsD ends) t l x6 x7 (.fz (.lst odds10))) odds10 [] s k (fun x hx s k hb => by
    obtain ⟨q1, q2⟩ := odd_ok (ends := ends) x hx
    obtain ⟨s1, e1, b1⟩ := right_g (k := k + 600) he hl q1 hq (hb.le (by omega))
    obtain ⟨s2, e2, b2⟩ := right_g (k := k) he hl ht q2 b1
    refine ⟨s2, ?_, b2⟩
    unfold lcTurn
    simp [bindT, bnd, gY, e1, e2, wipeG]) (by decide) hb
  refine ⟨s', ?_, b⟩
  rw [List.nil_append] at e
  have q1 : odL (gY x2 (endsD ends) t l x6 x7 (.ow odds10)) s = .ok (.nw (odds10.map fun _ => .bl true)) (gY x2 (endsD ends) t l x6 x7 (.fz (.lst odds10))) s' := by
    unfold odL
    rw [e_lc, show iSeqF (sVar 8) (gY x2 (endsD ends) t l x6 x7 (.ow odds10)) s = .ok odds10 (gY x2 (endsD ends) t l x6 x7 (.fz (.lst odds10))) s from rfl, bind_ok, show wipeG (gY x2 (endsD ends) t l x6 x7 (.fz (.lst odds10))) [9] = gY x2 (endsD ends) t l x6 x7 (.fz (.lst odds10)) from rfl, e]
    rfl
  have q2 : biF .all [.lst (odds10.map fun _ => .bl true)] = some (.fz (.bl true)) := rfl
  rw [e_iff, e_tnot, e_tof, e_bi, e_lcons, q1, settle_nw, bind_ok, e_lnil, bind_ok, bind_ok, show peeks (gY x2 (endsD ends) t l x6 x7 (.fz (.lst odds10))) [.fz (.lst (odds10.map fun _ => .bl true))] = some [.lst (odds10.map fun _ => .bl true)] from rfl, e_one2, q2]
  rfl
abbrev gX (x2 x3 x4 x5 x6 x7 x8 : Sl) : Ga := [.un, .fz .strm, x2, x3, x4, x5, x6, x7, x8, .un, .un]
theorem l_turn {x2 x3 x4 x5 x6 x7 x8 : Sl} (hb : Bud s (k + 20000)) : ∃ y3 y4 y5 y6 y7 y8 s', turnB (gX x2 x3 x4 x5 x6 x7 x8) s = .ok .nx (gX x2 y3 y4 y5 y6 y7 y8) s' ∧ Bud s' k := by
  obtain ⟨v, s1, v0, v1, b1, c1⟩ := draw_g (s := s) (k := k + 19999) (n := 4) hb (by omega) (by omega)
  obtain ⟨ends, s2, d1, he, h0, hl, b2⟩ := s_ends (m := 1 + v) (s := s1) (k := k + 19983) (by omega) (by omega) b1
  obtain ⟨m, s3, m0, m1, b3, c3⟩ := draw_g (s := s2) (k := k + 19982) (n := 9) b2 (by omega) (by omega)
  obtain ⟨t, l, s4, d4, h, b4⟩ := s_t_table (m := m) (s := s3) (k := k + 19882) he h0 hl (by omega) (by omega) b3
  obtain ⟨ps, ls, et, el, B, hn⟩ := h.ex
  have hp : ∀ b ∈ flat ps, Low ends b := fun b hb => B.low b (List.mem_append_left _ hb)
  have hq : ∀ b ∈ ls, Low ends b := fun b hb => B.low b (List.mem_append_right _ hb)
  have ht : TOk ends t := by rw [et]; exact TOk.of (all_pairs he hp) (by rw [List.length_map]; omega)
  have hk : LOk ends l := by rw [el]; exact LOk.of (all_items he hq) (by rw [List.length_map]; omega)
  obtain ⟨s5, e5, b5⟩ := right_g (s := s4) (k := k + 19282) he hl ht hk b4
  have A := asked ht hk
  have d5 := s_law_is_table (s := s4) he.ok A.ft.ok A.fl.ok A.raw A.sz
  rw [tbl_true h] at d5
  obtain ⟨y6, y7, s6, e6, b6⟩ := k_loop (x2 := x2) (x8 := x8) he h0 hl h ((List.range 7).map fun (k : Nat) => .int (k : Int)) x6 x7 s5 (k + 12000) (b5.le (by rw [List.length_map, List.length_range]; omega))
  obtain ⟨s7, e7, b7⟩ := od_run (x2 := x2) (x6 := y6) (x7 := y7) (x8 := x8) (s := s6) (k := k) he hl ht hk b6
  refine ⟨.fz (endsD ends), .fz t, .fz l, y6, y7, .fz (.lst odds10), s7, ?_, b7⟩
  have w1 : endsS (gX x2 x3 x4 x5 x6 x7 x8) s = .ok .nx (gX x2 (.ow (ends.map .str)) x4 x5 x6 x7 x8) s2 := by
    have q : ∀ g, callG ψ__law_ends [.strm, .int (1 + v)] g s1 = .ok (.nw (ends.map .str)) g s2 := fun g => callG_lst d1
    simp [c1, ad_int, q]
  have w2 : tabS (gX x2 (.ow (ends.map .str)) x4 x5 x6 x7 x8) s2 = .ok .nx (gY x2 (endsD ends) t l x6 x7 x8) s4 := by
    have q : ∀ g, callG ψ__law_t_table [.strm, endsD ends, .int m] g s3 = .ok (.fz (.tup [t, l])) g s4 := fun g => callG_ok d4
    unfold tabS
    rw [e_asg, e_call, e_acons, show sVar 1 (gX x2 (.ow (ends.map .str)) x4 x5 x6 x7 x8) s2 = .ok (.fz .strm) (gX x2 (.ow (ends.map .str)) x4 x5 x6 x7 x8) s2 from rfl, keep_fz, bind_ok, e_acons, show (sVar 3 (gX x2 (.ow (ends.map .str)) x4 x5 x6 x7 x8) s2).keep = .ok (endsD ends) (gX x2 (.fz (endsD ends)) x4 x5 x6 x7 x8) s2 from rfl, bind_ok, e_acons, e_call, show aCons (sVar 1) (aCons (sCon (.int 9)) aNil) (gX x2 (.fz (endsD ends)) x4 x5 x6 x7 x8) s2 = .ok [.strm, .int 9] (gX x2 (.fz (endsD ends)) x4 x5 x6 x7 x8) s2 from rfl, bind_ok, c3, keep_fz, bind_ok, e_anil, bind_ok, bind_ok, bind_ok, bind_ok, q]
    rfl
  have w3 : sIff (tOrF (tNotF (tOf isT3)) (tNotF (tOf rt3))) no nx (gY x2 (endsD ends) t l x6 x7 x8) s4 = .ok .nx (gY x2 (endsD ends) t l x6 x7 x8) s5 := by
    have q : ∀ g, callG ψ__law_is_table [endsD ends, t, l] g s4 = .ok (.fz (.bl true)) g s4 := fun g => callG_ok d5
    simp [gY, q, e5]
  have w4 : sFor (.nm 6) (iRngF rngF1 (aCons (sCon (.int 7)) aNil)) bodyK (gY x2 (endsD ends) t l x6 x7 x8) s5 = .ok .nx (gY x2 (endsD ends) t l y6 y7 x8) s6 := by
    rw [e_for, show iRngF rngF1 (aCons (sCon (.int 7)) aNil) (gY x2 (endsD ends) t l x6 x7 x8) s5 = .ok ((List.range 7).map fun (k : Nat) => .int (k : Int)) (gY x2 (endsD ends) t l x6 x7 x8) s5 from by
      have q := rng_len (n := 7) (by decide)
      rw [e_irng, e_acons, e_con, keep_fz, bind_ok, e_anil, bind_ok, bind_ok, show (D.int 7) = D.int ((7 : Nat) : Int) from rfl, q, optD_some], bind_ok]
    exact e6
  have w5 : sAsg (.nm 8) odS (gY x2 (endsD ends) t l y6 y7 x8) s6 = .ok .nx (gY x2 (endsD ends) t l y6 y7 (.ow odds10)) s6 := rfl
  unfold turnB
  rw [seq_nx w1, seq_nx w2, seq_nx w3, seq_nx w4, seq_nx w5]
  exact e7
end
theorem l_loop : ∀ (js : List D) (x2 x3 x4 x5 x6 x7 x8 : Sl) (s : Sd) (k : Nat), Bud s (k + 20000 * js.length) →
    ∃ y2 y3 y4 y5 y6 y7 y8 s', forL (forTurn (.nm 2) turnB) js (gX x2 x3 x4 x5 x6 x7 x8) s = .ok .nx (gX y2 y3 y4 y5 y6 y7 y8) s' ∧ Bud s' k
  | [], x2, x3, x4, x5, x6, x7, x8, s, k, hb => ⟨x2, x3, x4, x5, x6, x7, x8, s, rfl, hb⟩
  | j :: js, x2, x3, x4, x5, x6, x7, x8, s, k, hb => by
    obtain ⟨y3, y4, y5, y6, y7, y8, s1, e1, b1⟩ := l_turn (x2 := .fz j) (x3 := x3) (x4 := x4) (x5 := x5) (x6 := x6) (x7 := x7) (x8 := x8) (s := s) (k := k + 20000 * js.length) (hb.le (by rw [List.length_cons]; omega))
    obtain ⟨z2, z3, z4, z5, z6, z7, z8, s2, e2, b2⟩ := l_loop js (.fz j) y3 y4 y5 y6 y7 y8 s1 k b1
    refine ⟨z2, z3, z4, z5, z6, z7, z8, s2, ?_, b2⟩
    rw [forL_nx (g' := gX (.fz j) y3 y4 y5 y6 y7 y8) (s' := s1) (by exact e1)]
    exact e2
def refs : List D := [.tup [.non, .int 0], .tup [.str "ab", .int 0], .tup [.dic [], .int 0], .tup [.lst [.str "a", .str "a"], .int 1], .tup [.lst [.str "a", .int 5], .int 1], .tup [.lst [.str "x"], .int 0], .tup [.lst [.str "a", .str "b", .str "stop"], .int 2]]
theorem ref_turn {g : Ga} {s : Sd} {o : D} {j : Int} {x2 x3 x4 x5 x6 x7 x8 : Sl} (h : ψ__law_refused [o, .int j] s = .ok (.bl true) false s) : lcTurn [9, 10] (.cons (.nm 9) (.cons (.nm 10) .nil)) (fun g s => .ok true g s) (sCall (callG ψ__law_refused) (aCons (sVar 9) (aCons (sVar 10) aNil))) (.tup [o, .int j]) (gX x2 x3 x4 x5 x6 x7 x8) s = .ok (some (.bl true)) (gX x2 x3 x4 x5 x6 x7 x8) s := by
  have c : ∀ g, callG ψ__law_refused [o, .int j] g s = .ok (.fz (.bl true)) g s := fun g => callG_ok h
  unfold lcTurn
  rw [show bindT (.cons (.nm 9) (.cons (.nm 10) .nil)) (.tup [o, .int j]) (gX x2 x3 x4 x5 x6 x7 x8) = some [.un, .fz .strm, x2, x3, x4, x5, x6, x7, x8, .fz o, .fz (.int j)] from rfl]
  simp [c, wipeG]
theorem refs_run {x2 x3 x4 x5 x6 x7 x8 : Sl} {s : Sd} : ∀ x ∈ refs, lcTurn [9, 10] (.cons (.nm 9) (.cons (.nm 10) .nil)) (fun g s => .ok true g s) (sCall (callG ψ__law_refused) (aCons (sVar 9) (aCons (sVar 10) aNil))) x (gX x2 x3 x4 x5 x6 x7 x8) s = .ok (some (.bl true)) (gX x2 x3 x4 x5 x6 x7 x8) s := by
  unfold refs
  simp only [List.forall_mem_cons]
  refine ⟨ref_turn (g := []) ?_, ref_turn (g := []) ?_, ref_turn (g := []) ?_, ref_turn (g := []) ?_, ref_turn (g := []) ?_, ref_turn (g := []) ?_, ref_turn (g := []) ?_, fun x hx => by cases hx⟩ <;> kernel_rfl
theorem is_t1 {s : Sd} : ψ_is_table [.lst [], .lst [], .lst []] s = .ok (.bl true) false s := by kernel_rfl
theorem is_t2 {s : Sd} : ψ_is_table [.lst [], .lst [], .lst [.tup [.str "a", .lst [], .lst []]]] s = .ok (.bl false) false s := by kernel_rfl
theorem plain (ns : List Int) (h : ns.length ≤ 63) : ∃ g' s', b_law g0 ⟨ns, 0, 0, 19⟩ = .ok (.ret (.fz (.bl true))) g' s' := by
  have big : (1000 : Nat) < sizeLine := by decide
  have b0 : Bud ⟨ns, 0, 0, 19⟩ (0 + 20000 * ((List.range 10).map fun (k : Nat) => D.int (k : Int)).length) := ⟨⟨by show (0:Int) ≤ 0; omega, by show (0:Int) ≤ 19; omega, by show (19:Int) < 2147483647; omega, by show (0:Int) ≤ 0; omega⟩, by
    rw [List.length_map, List.length_range]
    show (0 : Int) + _ ≤ _
    omega⟩
  obtain ⟨y2, y3, y4, y5, y6, y7, y8, s1, e1, b1⟩ := l_loop _ .un .un .un .un .un .un .un _ _ b0
  have w1 : sFor (.nm 2) (iRngF rngF1 (aCons (sCon (.int 10)) aNil)) turnB g0 ⟨ns, 0, 0, 19⟩ = .ok .nx (gX y2 y3 y4 y5 y6 y7 y8) s1 := by
    rw [e_for, show iRngF rngF1 (aCons (sCon (.int 10)) aNil) g0 ⟨ns, 0, 0, 19⟩ = .ok ((List.range 10).map fun (k : Nat) => .int (k : Int)) g0 ⟨ns, 0, 0, 19⟩ from by
      have q := rng_len (n := 10) (by decide)
      rw [e_irng, e_acons, e_con, keep_fz, bind_ok, e_anil, bind_ok, bind_ok, show (D.int 10) = D.int ((10 : Nat) : Int) from rfl, q, optD_some], bind_ok]
    exact e1
  have w2 : sAsg (.nm 8) rfS (gX y2 y3 y4 y5 y6 y7 y8) s1 = .ok .nx (gX y2 y3 y4 y5 y6 y7 (.ow refs)) s1 := rfl
  have m := lc_map (h := fun _ => D.bl true) refs [] (refs_run (x2 := y2) (x3 := y3) (x4 := y4) (x5 := y5) (x6 := y6) (x7 := y7) (x8 := .fz (.lst refs)) (s := s1)) (by show 0 + 7 ≤ _; omega)
  rw [List.nil_append] at m
  have q1 : rfL (gX y2 y3 y4 y5 y6 y7 (.ow refs)) s1 = .ok (.nw (refs.map fun _ => .bl true)) (gX y2 y3 y4 y5 y6 y7 (.fz (.lst refs))) s1 := by
    unfold rfL
    rw [e_lc, show iSeqF (sVar 8) (gX y2 y3 y4 y5 y6 y7 (.ow refs)) s1 = .ok refs (gX y2 y3 y4 y5 y6 y7 (.fz (.lst refs))) s1 from rfl, bind_ok, show wipeG (gX y2 y3 y4 y5 y6 y7 (.fz (.lst refs))) [9, 10] = gX y2 y3 y4 y5 y6 y7 (.fz (.lst refs)) from rfl, m]
    rfl
  have q2 : biF .all [.lst (refs.map fun _ => .bl true)] = some (.fz (.bl true)) := rfl
  have w3 : sIff (tNotF (tOf (sBi (biF .all) (lCons rfL lNil)))) no nx (gX y2 y3 y4 y5 y6 y7 (.ow refs)) s1 = .ok .nx (gX y2 y3 y4 y5 y6 y7 (.fz (.lst refs))) s1 := by
    rw [e_iff, e_tnot, e_tof, e_bi, e_lcons, q1, settle_nw, bind_ok, e_lnil, bind_ok, bind_ok, show peeks (gX y2 y3 y4 y5 y6 y7 (.fz (.lst refs))) [.fz (.lst (refs.map fun _ => .bl true))] = some [.lst (refs.map fun _ => .bl true)] from rfl, e_one2, q2]
    rfl
  refine ⟨gX y2 y3 y4 y5 y6 y7 (.fz (.lst refs)), s1, ?_⟩
  rw [law_eq, seq_nx w1, seq_nx w2, seq_nx w3]
  have c1 : ∀ g, callG ψ_is_table [.lst [], .lst [], .lst []] g s1 = .ok (.fz (.bl true)) g s1 := fun g => callG_ok is_t1
  have c2 : ∀ g, callG ψ_is_table [.lst [], .lst [], .lst [.tup [.str "a", .lst [], .lst []]]] g s1 = .ok (.fz (.bl false)) g s1 := fun g => callG_ok is_t2
  have c3 : ∀ g, callG (ψ__law_same 8) [.lst [.bl true, .bl false], .lst [.bl true, .bl false]] g s1 = .ok (.fz (.bl true)) g s1 := fun g => callG_ok (by rw [s_same2]; rfl)
  have l0 : lineOk 0 = true := by decide
  have l1 : lineOk 1 = true := by decide
  have l2 : lineOk 2 = true := by decide
  have l3 : lineOk 3 = true := by decide
  unfold lastS
  simp [c1, c2, c3, l0, l1, l2, l3]
end K27
end
set_option Elab.async false
set_option maxRecDepth 100000
set_option maxHeartbeats 4000000
namespace K27
open PySem L2 DI
theorem kb_mk20 {K : PySem.W.Frag} {f : Addr} {fd : FuncData} (F : Fun K "is_table" "is_table" (top 20) f fd) : KBinds K fd ["ends", "table", "shut"] ["shut", "table", "ends"] (kG [2, 1, 0]) (kG [2, 1, 0]) := by
  obtain ⟨oc, od, kV, doc, pm, an, cdv, ct, osl, rfl, lk, hcd⟩ := F.ex
  refine ⟨fun s us ws hin hl => ?_, fun r rz => kG_rel r rz⟩
  match us, ws, hl with
    | [], [], h => simp [kG, permL] at h
    | [], [a0], h => simp [kG, permL] at h
    | [], [a0, a1], h => simp [kG, permL] at h
    | [], a0 :: a1 :: a2 :: r, _ => exact .of_eq rfl
    | a :: r, ws, h => simp [kG] at h
def all_mk {K : PySem.W.Frag} {h : Heap} {mg : Str → Option Value} (X : K.In h) (G : h.Ns mainGlobals mg)
    {a7 : Addr} {od7 an7 : Option Addr} {sl7 : Array (Option Value)} {oc7 kV7 dc7 pm7 cd7 ct7 : Value}
    {a8 : Addr} {od8 an8 : Option Addr} {sl8 : Array (Option Value)} {oc8 kV8 dc8 pm8 cd8 ct8 : Value}
    {a9 : Addr} {od9 an9 : Option Addr} {sl9 : Array (Option Value)} {oc9 kV9 dc9 pm9 cd9 ct9 : Value}
    {a10 : Addr} {od10 an10 : Option Addr} {sl10 : Array (Option Value)} {oc10 kV10 dc10 pm10 cd10 ct10 : Value}
    {a11 : Addr} {od11 an11 : Option Addr} {sl11 : Array (Option Value)} {oc11 kV11 dc11 pm11 cd11 ct11 : Value}
    {a12 : Addr} {od12 an12 : Option Addr} {sl12 : Array (Option Value)} {oc12 kV12 dc12 pm12 cd12 ct12 : Value}
    {a13 : Addr} {od13 an13 : Option Addr} {sl13 : Array (Option Value)} {oc13 kV13 dc13 pm13 cd13 ct13 : Value}
    {a15 : Addr} {od15 an15 : Option Addr} {sl15 : Array (Option Value)} {oc15 kV15 dc15 pm15 cd15 ct15 : Value}
    {a17 : Addr} {od17 an17 : Option Addr} {sl17 : Array (Option Value)} {oc17 kV17 dc17 pm17 cd17 ct17 : Value}
    {a18 : Addr} {od18 an18 : Option Addr} {sl18 : Array (Option Value)} {oc18 kV18 dc18 pm18 cd18 ct18 : Value}
    {a19 : Addr} {od19 an19 : Option Addr} {sl19 : Array (Option Value)} {oc19 kV19 dc19 pm19 cd19 ct19 : Value}
    {a20 : Addr} {od20 an20 : Option Addr} {sl20 : Array (Option Value)} {oc20 kV20 dc20 pm20 cd20 ct20 : Value}
    {a22 : Addr} {od22 an22 : Option Addr} {sl22 : Array (Option Value)} {oc22 kV22 dc22 pm22 cd22 ct22 : Value}
    {a23 : Addr} {od23 an23 : Option Addr} {sl23 : Array (Option Value)} {oc23 kV23 dc23 pm23 cd23 ct23 : Value}
    {a24 : Addr} {od24 an24 : Option Addr} {sl24 : Array (Option Value)} {oc24 kV24 dc24 pm24 cd24 ct24 : Value}
    {a25 : Addr} {od25 an25 : Option Addr} {sl25 : Array (Option Value)} {oc25 kV25 dc25 pm25 cd25 ct25 : Value}
    {a26 : Addr} {od26 an26 : Option Addr} {sl26 : Array (Option Value)} {oc26 kV26 dc26 pm26 cd26 ct26 : Value}
    {a27 : Addr} {od27 an27 : Option Addr} {sl27 : Array (Option Value)} {oc27 kV27 dc27 pm27 cd27 ct27 : Value}
    {a28 : Addr} {od28 an28 : Option Addr} {sl28 : Array (Option Value)} {oc28 kV28 dc28 pm28 cd28 ct28 : Value}
    {a29 : Addr} {od29 an29 : Option Addr} {sl29 : Array (Option Value)} {oc29 kV29 dc29 pm29 cd29 ct29 : Value}
    {a30 : Addr} {od30 an30 : Option Addr} {sl30 : Array (Option Value)} {oc30 kV30 dc30 pm30 cd30 ct30 : Value}
    {a31 : Addr} {od31 an31 : Option Addr} {sl31 : Array (Option Value)} {oc31 kV31 dc31 pm31 cd31 ct31 : Value}
    {a32 : Addr} {od32 an32 : Option Addr} {sl32 : Array (Option Value)} {oc32 kV32 dc32 pm32 cd32 ct32 : Value}
    {a33 : Addr} {od33 an33 : Option Addr} {sl33 : Array (Option Value)} {oc33 kV33 dc33 pm33 cd33 ct33 : Value}
    {a34 : Addr} {od34 an34 : Option Addr} {sl34 : Array (Option Value)} {oc34 kV34 dc34 pm34 cd34 ct34 : Value}
    {a35 : Addr} {od35 an35 : Option Addr} {sl35 : Array (Option Value)} {oc35 kV35 dc35 pm35 cd35 ct35 : Value}
    {a36 : Addr} {od36 an36 : Option Addr} {sl36 : Array (Option Value)} {oc36 kV36 dc36 pm36 cd36 ct36 : Value}
    {a37 : Addr} {od37 an37 : Option Addr} {sl37 : Array (Option Value)} {oc37 kV37 dc37 pm37 cd37 ct37 : Value}
    {a38 : Addr} {od38 an38 : Option Addr} {sl38 : Array (Option Value)} {oc38 kV38 dc38 pm38 cd38 ct38 : Value}
    {q_KEPT : Addr} {t_KEPT0 t_KEPT1 t_KEPT2 t_KEPT3 t_KEPT4 t_KEPT5 t_KEPT6 t_KEPT7 t_KEPT8 t_KEPT9 : Tok} {nn_KEPT : Nat} {od_KEPT : Option Addr} {sl_KEPT : Array (Option Value)}
    {t_LETTERS : Tok}
    {t_SIGNS : Tok}
    {C_BadEnds i_BadEnds : Addr} {nm_BadEnds q_BadEnds : Str} {N_BadEnds : Addr} {bs_BadEnds bm_BadEnds : List Value} {sn_BadEnds : List Str} {sub_BadEnds : List Value} {ab_BadEnds : Bool} {col_BadEnds : Option Bool} {dd_BadEnds : Option Addr} {k0_BadEnds k1_BadEnds k2_BadEnds k3_BadEnds k5_BadEnds : Option Value} {od_BadEnds an_BadEnds : Option Addr} {sl_BadEnds : Array (Option Value)} {oc_BadEnds kV_BadEnds dc_BadEnds pm_BadEnds cd_BadEnds ct_BadEnds : Value}
    (n7 : PySem.W.nsIn K mainGlobals "is_integer" = some (some (.ref a7)))
    (l7 : K.lookup a7 = some ⟨oc7, od7, .func (PySem.W.fnOf "is_integer" "is_integer" (defArgs (top 7)) (defBody (top 7)) (defScope (top 7)) .none kV7 dc7 pm7 an7 cd7 ct7), sl7⟩)
    (c7 : PySem.W.codeIn K cd7 "is_integer" = true)
    (k7 : PySem.W.keepIn K (.ref a7) = true)
    (n8 : PySem.W.nsIn K mainGlobals "is_name" = some (some (.ref a8)))
    (l8 : K.lookup a8 = some ⟨oc8, od8, .func (PySem.W.fnOf "is_name" "is_name" (defArgs (top 8)) (defBody (top 8)) (defScope (top 8)) .none kV8 dc8 pm8 an8 cd8 ct8), sl8⟩)
    (c8 : PySem.W.codeIn K cd8 "is_name" = true)
    (k8 : PySem.W.keepIn K (.ref a8) = true)
    (n9 : PySem.W.nsIn K mainGlobals "is_row" = some (some (.ref a9)))
    (l9 : K.lookup a9 = some ⟨oc9, od9, .func (PySem.W.fnOf "is_row" "is_row" (defArgs (top 9)) (defBody (top 9)) (defScope (top 9)) .none kV9 dc9 pm9 an9 cd9 ct9), sl9⟩)
    (c9 : PySem.W.codeIn K cd9 "is_row" = true)
    (k9 : PySem.W.keepIn K (.ref a9) = true)
    (n10 : PySem.W.nsIn K mainGlobals "checked_ends" = some (some (.ref a10)))
    (l10 : K.lookup a10 = some ⟨oc10, od10, .func (PySem.W.fnOf "checked_ends" "checked_ends" (defArgs (top 10)) (defBody (top 10)) (defScope (top 10)) .none kV10 dc10 pm10 an10 cd10 ct10), sl10⟩)
    (c10 : PySem.W.codeIn K cd10 "checked_ends" = true)
    (k10 : PySem.W.keepIn K (.ref a10) = true)
    (n11 : PySem.W.nsIn K mainGlobals "is_box_of" = some (some (.ref a11)))
    (l11 : K.lookup a11 = some ⟨oc11, od11, .func (PySem.W.fnOf "is_box_of" "is_box_of" (defArgs (top 11)) (defBody (top 11)) (defScope (top 11)) .none kV11 dc11 pm11 an11 cd11 ct11), sl11⟩)
    (c11 : PySem.W.codeIn K cd11 "is_box_of" = true)
    (k11 : PySem.W.keepIn K (.ref a11) = true)
    (n12 : PySem.W.nsIn K mainGlobals "apart_rows" = some (some (.ref a12)))
    (l12 : K.lookup a12 = some ⟨oc12, od12, .func (PySem.W.fnOf "apart_rows" "apart_rows" (defArgs (top 12)) (defBody (top 12)) (defScope (top 12)) .none kV12 dc12 pm12 an12 cd12 ct12), sl12⟩)
    (c12 : PySem.W.codeIn K cd12 "apart_rows" = true)
    (k12 : PySem.W.keepIn K (.ref a12) = true)
    (n13 : PySem.W.nsIn K mainGlobals "apart" = some (some (.ref a13)))
    (l13 : K.lookup a13 = some ⟨oc13, od13, .func (PySem.W.fnOf "apart" "apart" (defArgs (top 13)) (defBody (top 13)) (defScope (top 13)) .none kV13 dc13 pm13 an13 cd13 ct13), sl13⟩)
    (c13 : PySem.W.codeIn K cd13 "apart" = true)
    (k13 : PySem.W.keepIn K (.ref a13) = true)
    (n15 : PySem.W.nsIn K mainGlobals "is_list" = some (some (.ref a15)))
    (l15 : K.lookup a15 = some ⟨oc15, od15, .func (PySem.W.fnOf "is_list" "is_list" (defArgs (top 15)) (defBody (top 15)) (defScope (top 15)) .none kV15 dc15 pm15 an15 cd15 ct15), sl15⟩)
    (c15 : PySem.W.codeIn K cd15 "is_list" = true)
    (k15 : PySem.W.keepIn K (.ref a15) = true)
    (n17 : PySem.W.nsIn K mainGlobals "as_box" = some (some (.ref a17)))
    (l17 : K.lookup a17 = some ⟨oc17, od17, .func (PySem.W.fnOf "as_box" "as_box" (defArgs (top 17)) (defBody (top 17)) (defScope (top 17)) .none kV17 dc17 pm17 an17 cd17 ct17), sl17⟩)
    (c17 : PySem.W.codeIn K cd17 "as_box" = true)
    (k17 : PySem.W.keepIn K (.ref a17) = true)
    (n18 : PySem.W.nsIn K mainGlobals "is_apart" = some (some (.ref a18)))
    (l18 : K.lookup a18 = some ⟨oc18, od18, .func (PySem.W.fnOf "is_apart" "is_apart" (defArgs (top 18)) (defBody (top 18)) (defScope (top 18)) .none kV18 dc18 pm18 an18 cd18 ct18), sl18⟩)
    (c18 : PySem.W.codeIn K cd18 "is_apart" = true)
    (k18 : PySem.W.keepIn K (.ref a18) = true)
    (n19 : PySem.W.nsIn K mainGlobals "table_fault_at" = some (some (.ref a19)))
    (l19 : K.lookup a19 = some ⟨oc19, od19, .func (PySem.W.fnOf "table_fault_at" "table_fault_at" (defArgs (top 19)) (defBody (top 19)) (defScope (top 19)) .none kV19 dc19 pm19 an19 cd19 ct19), sl19⟩)
    (c19 : PySem.W.codeIn K cd19 "table_fault_at" = true)
    (k19 : PySem.W.keepIn K (.ref a19) = true)
    (n20 : PySem.W.nsIn K mainGlobals "is_table" = some (some (.ref a20)))
    (l20 : K.lookup a20 = some ⟨oc20, od20, .func (PySem.W.fnOf "is_table" "is_table" (defArgs (top 20)) (defBody (top 20)) (defScope (top 20)) .none kV20 dc20 pm20 an20 cd20 ct20), sl20⟩)
    (c20 : PySem.W.codeIn K cd20 "is_table" = true)
    (k20 : PySem.W.keepIn K (.ref a20) = true)
    (n22 : PySem.W.nsIn K mainGlobals "_law_ends" = some (some (.ref a22)))
    (l22 : K.lookup a22 = some ⟨oc22, od22, .func (PySem.W.fnOf "_law_ends" "_law_ends" (defArgs (top 22)) (defBody (top 22)) (defScope (top 22)) .none kV22 dc22 pm22 an22 cd22 ct22), sl22⟩)
    (c22 : PySem.W.codeIn K cd22 "_law_ends" = true)
    (k22 : PySem.W.keepIn K (.ref a22) = true)
    (n23 : PySem.W.nsIn K mainGlobals "_law_t_halves" = some (some (.ref a23)))
    (l23 : K.lookup a23 = some ⟨oc23, od23, .func (PySem.W.fnOf "_law_t_halves" "_law_t_halves" (defArgs (top 23)) (defBody (top 23)) (defScope (top 23)) .none kV23 dc23 pm23 an23 cd23 ct23), sl23⟩)
    (c23 : PySem.W.codeIn K cd23 "_law_t_halves" = true)
    (k23 : PySem.W.keepIn K (.ref a23) = true)
    (n24 : PySem.W.nsIn K mainGlobals "_law_t_meet" = some (some (.ref a24)))
    (l24 : K.lookup a24 = some ⟨oc24, od24, .func (PySem.W.fnOf "_law_t_meet" "_law_t_meet" (defArgs (top 24)) (defBody (top 24)) (defScope (top 24)) .none kV24 dc24 pm24 an24 cd24 ct24), sl24⟩)
    (c24 : PySem.W.codeIn K cd24 "_law_t_meet" = true)
    (k24 : PySem.W.keepIn K (.ref a24) = true)
    (n25 : PySem.W.nsIn K mainGlobals "_law_t_table" = some (some (.ref a25)))
    (l25 : K.lookup a25 = some ⟨oc25, od25, .func (PySem.W.fnOf "_law_t_table" "_law_t_table" (defArgs (top 25)) (defBody (top 25)) (defScope (top 25)) .none kV25 dc25 pm25 an25 cd25 ct25), sl25⟩)
    (c25 : PySem.W.codeIn K cd25 "_law_t_table" = true)
    (k25 : PySem.W.keepIn K (.ref a25) = true)
    (n26 : PySem.W.nsIn K mainGlobals "_law_start" = some (some (.ref a26)))
    (l26 : K.lookup a26 = some ⟨oc26, od26, .func (PySem.W.fnOf "_law_start" "_law_start" (defArgs (top 26)) (defBody (top 26)) (defScope (top 26)) .none kV26 dc26 pm26 an26 cd26 ct26), sl26⟩)
    (c26 : PySem.W.codeIn K cd26 "_law_start" = true)
    (k26 : PySem.W.keepIn K (.ref a26) = true)
    (n27 : PySem.W.nsIn K mainGlobals "_law_draw" = some (some (.ref a27)))
    (l27 : K.lookup a27 = some ⟨oc27, od27, .func (PySem.W.fnOf "_law_draw" "_law_draw" (defArgs (top 27)) (defBody (top 27)) (defScope (top 27)) .none kV27 dc27 pm27 an27 cd27 ct27), sl27⟩)
    (c27 : PySem.W.codeIn K cd27 "_law_draw" = true)
    (k27 : PySem.W.keepIn K (.ref a27) = true)
    (n28 : PySem.W.nsIn K mainGlobals "_law_pick" = some (some (.ref a28)))
    (l28 : K.lookup a28 = some ⟨oc28, od28, .func (PySem.W.fnOf "_law_pick" "_law_pick" (defArgs (top 28)) (defBody (top 28)) (defScope (top 28)) .none kV28 dc28 pm28 an28 cd28 ct28), sl28⟩)
    (c28 : PySem.W.codeIn K cd28 "_law_pick" = true)
    (k28 : PySem.W.keepIn K (.ref a28) = true)
    (n29 : PySem.W.nsIn K mainGlobals "_law_mixed" = some (some (.ref a29)))
    (l29 : K.lookup a29 = some ⟨oc29, od29, .func (PySem.W.fnOf "_law_mixed" "_law_mixed" (defArgs (top 29)) (defBody (top 29)) (defScope (top 29)) .none kV29 dc29 pm29 an29 cd29 ct29), sl29⟩)
    (c29 : PySem.W.codeIn K cd29 "_law_mixed" = true)
    (k29 : PySem.W.keepIn K (.ref a29) = true)
    (n30 : PySem.W.nsIn K mainGlobals "_law_same" = some (some (.ref a30)))
    (l30 : K.lookup a30 = some ⟨oc30, od30, .func (PySem.W.fnOf "_law_same" "_law_same" (defArgs (top 30)) (defBody (top 30)) (defScope (top 30)) .none kV30 dc30 pm30 an30 cd30 ct30), sl30⟩)
    (c30 : PySem.W.codeIn K cd30 "_law_same" = true)
    (k30 : PySem.W.keepIn K (.ref a30) = true)
    (n31 : PySem.W.nsIn K mainGlobals "_law_loose" = some (some (.ref a31)))
    (l31 : K.lookup a31 = some ⟨oc31, od31, .func (PySem.W.fnOf "_law_loose" "_law_loose" (defArgs (top 31)) (defBody (top 31)) (defScope (top 31)) .none kV31 dc31 pm31 an31 cd31 ct31), sl31⟩)
    (c31 : PySem.W.codeIn K cd31 "_law_loose" = true)
    (k31 : PySem.W.keepIn K (.ref a31) = true)
    (n32 : PySem.W.nsIn K mainGlobals "_law_is_box" = some (some (.ref a32)))
    (l32 : K.lookup a32 = some ⟨oc32, od32, .func (PySem.W.fnOf "_law_is_box" "_law_is_box" (defArgs (top 32)) (defBody (top 32)) (defScope (top 32)) .none kV32 dc32 pm32 an32 cd32 ct32), sl32⟩)
    (c32 : PySem.W.codeIn K cd32 "_law_is_box" = true)
    (k32 : PySem.W.keepIn K (.ref a32) = true)
    (n33 : PySem.W.nsIn K mainGlobals "_law_is_table" = some (some (.ref a33)))
    (l33 : K.lookup a33 = some ⟨oc33, od33, .func (PySem.W.fnOf "_law_is_table" "_law_is_table" (defArgs (top 33)) (defBody (top 33)) (defScope (top 33)) .none kV33 dc33 pm33 an33 cd33 ct33), sl33⟩)
    (c33 : PySem.W.codeIn K cd33 "_law_is_table" = true)
    (k33 : PySem.W.keepIn K (.ref a33) = true)
    (n34 : PySem.W.nsIn K mainGlobals "_law_bent_box" = some (some (.ref a34)))
    (l34 : K.lookup a34 = some ⟨oc34, od34, .func (PySem.W.fnOf "_law_bent_box" "_law_bent_box" (defArgs (top 34)) (defBody (top 34)) (defScope (top 34)) .none kV34 dc34 pm34 an34 cd34 ct34), sl34⟩)
    (c34 : PySem.W.codeIn K cd34 "_law_bent_box" = true)
    (k34 : PySem.W.keepIn K (.ref a34) = true)
    (n35 : PySem.W.nsIn K mainGlobals "_law_bent" = some (some (.ref a35)))
    (l35 : K.lookup a35 = some ⟨oc35, od35, .func (PySem.W.fnOf "_law_bent" "_law_bent" (defArgs (top 35)) (defBody (top 35)) (defScope (top 35)) .none kV35 dc35 pm35 an35 cd35 ct35), sl35⟩)
    (c35 : PySem.W.codeIn K cd35 "_law_bent" = true)
    (k35 : PySem.W.keepIn K (.ref a35) = true)
    (n36 : PySem.W.nsIn K mainGlobals "_law_right" = some (some (.ref a36)))
    (l36 : K.lookup a36 = some ⟨oc36, od36, .func (PySem.W.fnOf "_law_right" "_law_right" (defArgs (top 36)) (defBody (top 36)) (defScope (top 36)) .none kV36 dc36 pm36 an36 cd36 ct36), sl36⟩)
    (c36 : PySem.W.codeIn K cd36 "_law_right" = true)
    (k36 : PySem.W.keepIn K (.ref a36) = true)
    (n37 : PySem.W.nsIn K mainGlobals "_law_refused" = some (some (.ref a37)))
    (l37 : K.lookup a37 = some ⟨oc37, od37, .func (PySem.W.fnOf "_law_refused" "_law_refused" (defArgs (top 37)) (defBody (top 37)) (defScope (top 37)) .none kV37 dc37 pm37 an37 cd37 ct37), sl37⟩)
    (c37 : PySem.W.codeIn K cd37 "_law_refused" = true)
    (k37 : PySem.W.keepIn K (.ref a37) = true)
    (n38 : PySem.W.nsIn K mainGlobals "law" = some (some (.ref a38)))
    (l38 : K.lookup a38 = some ⟨oc38, od38, .func (PySem.W.fnOf "law" "law" (defArgs (top 38)) (defBody (top 38)) (defScope (top 38)) .none kV38 dc38 pm38 an38 cd38 ct38), sl38⟩)
    (c38 : PySem.W.codeIn K cd38 "law" = true)
    (k38 : PySem.W.keepIn K (.ref a38) = true)
    (n_KEPT : PySem.W.nsIn K mainGlobals "KEPT" = some (some (.ref q_KEPT)))
    (l_KEPT : K.lookup q_KEPT = some ⟨.type "tuple", od_KEPT, .seq #[.str "x" t_KEPT0, .str "y" t_KEPT1, .str "stop" t_KEPT2, .str "join" t_KEPT3, .str "loop" t_KEPT4, .str "use" t_KEPT5, .str "part" t_KEPT6, .str "net" t_KEPT7, .str "to" t_KEPT8, .str "shut" t_KEPT9] nn_KEPT, sl_KEPT⟩)
    (n_LETTERS : PySem.W.nsIn K mainGlobals "LETTERS" = some (some (.str "abcdefghijklmnopqrstuvwxyz" t_LETTERS)))
    (n_SIGNS : PySem.W.nsIn K mainGlobals "SIGNS" = some (some (.str "abcdefghijklmnopqrstuvwxyz0123456789" t_SIGNS)))
    (n_BadEnds : PySem.W.nsIn K mainGlobals "BadEnds" = some (some (.ref C_BadEnds)))
    (xL_BadEnds : K.lookup C_BadEnds = some (excClassObj nm_BadEnds q_BadEnds C_BadEnds N_BadEnds bs_BadEnds bm_BadEnds true sn_BadEnds sub_BadEnds ab_BadEnds col_BadEnds dd_BadEnds k0_BadEnds k1_BadEnds k2_BadEnds k3_BadEnds k5_BadEnds "ValueError.__new__"))
    (rv_BadEnds : PySem.HandSPX.refsVE bm_BadEnds = true)
    (sa_BadEnds : PySem.W.findIn K (.ref C_BadEnds) "__setattr__" = some (some (.builtin "object.__setattr__")))
    (ex_BadEnds : PySem.W.subIn K (.ref C_BadEnds) (.type "BaseException") = some true)
    (tyc_BadEnds : PySem.W.typeIn K (.ref C_BadEnds) = some (.type "type"))
    (kc_BadEnds : PySem.W.keepIn K (.ref C_BadEnds) = true)
    (in_BadEnds : PySem.W.findIn K (.ref C_BadEnds) "__init__" = some (some (.ref i_BadEnds)))
    (ty_BadEnds : PySem.W.typeIn K (.ref i_BadEnds) = some (.type "function"))
    (no_BadEnds : PySem.W.findIn K (.ref C_BadEnds) "index" = some none)
    (ga_BadEnds : PySem.W.findIn K (.ref C_BadEnds) "__getattribute__" = some (some (.builtin "BaseException.__getattribute__")))
    (gg_BadEnds : PySem.W.findIn K (.ref C_BadEnds) "__getattr__" = some none)
    (hd_BadEnds : PySem.W.hasDictIn K C_BadEnds = true)
    (ic_BadEnds : PySem.W.isClsIn K C_BadEnds = true)
    (sc_BadEnds : PySem.W.subIn K (.ref C_BadEnds) (.ref C_BadEnds) = some true)
    (l_BadEnds : K.lookup i_BadEnds = some ⟨oc_BadEnds, od_BadEnds, .func (PySem.W.fnOf "__init__" "BadEnds.__init__" (defArgs (inClass (top 2) 0)) (defBody (inClass (top 2) 0)) (defScope (inClass (top 2) 0)) .none kV_BadEnds dc_BadEnds pm_BadEnds an_BadEnds cd_BadEnds ct_BadEnds), sl_BadEnds⟩)
    (c_BadEnds : PySem.W.codeIn K cd_BadEnds "BadEnds.__init__" = true)
    (k_BadEnds : PySem.W.keepIn K (.ref i_BadEnds) = true)
    (n_all : PySem.W.nsIn K mainGlobals "all" = some none)
    (n_any : PySem.W.nsIn K mainGlobals "any" = some none)
    (n_bool : PySem.W.nsIn K mainGlobals "bool" = some none)
    (n_dict : PySem.W.nsIn K mainGlobals "dict" = some none)
    (n_enumerate : PySem.W.nsIn K mainGlobals "enumerate" = some none)
    (n_int : PySem.W.nsIn K mainGlobals "int" = some none)
    (n_isinstance : PySem.W.nsIn K mainGlobals "isinstance" = some none)
    (n_len : PySem.W.nsIn K mainGlobals "len" = some none)
    (n_list : PySem.W.nsIn K mainGlobals "list" = some none)
    (n_range : PySem.W.nsIn K mainGlobals "range" = some none)
    (n_repr : PySem.W.nsIn K mainGlobals "repr" = some none)
    (n_str : PySem.W.nsIn K mainGlobals "str" = some none)
    (n_sum : PySem.W.nsIn K mainGlobals "sum" = some none)
    (n_tuple : PySem.W.nsIn K mainGlobals "tuple" = some none)
    (n_zip : PySem.W.nsIn K mainGlobals "zip" = some none) :
    Tx K (fun i => if i = 1 then some (C_BadEnds, ("index" : Str)) else none) mg := {
  a7 := a7, f7 := PySem.W.fnOf "is_integer" "is_integer" (defArgs (top 7)) (defBody (top 7)) (defScope (top 7)) .none kV7 dc7 pm7 an7 cd7 ct7, d7 := ⟨PySem.W.mg_of X G n7, (fun_mk (st := top 7) l7 c7 k7), k7, (fun_mk (st := top 7) l7 c7 k7).binds (ps := ["thing"]) fun _ _ _ _ _ _ us hl => match us, hl with | [_], _ => rfl⟩,
  a8 := a8, f8 := PySem.W.fnOf "is_name" "is_name" (defArgs (top 8)) (defBody (top 8)) (defScope (top 8)) .none kV8 dc8 pm8 an8 cd8 ct8, d8 := ⟨PySem.W.mg_of X G n8, (fun_mk (st := top 8) l8 c8 k8), k8, (fun_mk (st := top 8) l8 c8 k8).binds (ps := ["thing"]) fun _ _ _ _ _ _ us hl => match us, hl with | [_], _ => rfl⟩,
  a9 := a9, f9 := PySem.W.fnOf "is_row" "is_row" (defArgs (top 9)) (defBody (top 9)) (defScope (top 9)) .none kV9 dc9 pm9 an9 cd9 ct9, d9 := ⟨PySem.W.mg_of X G n9, (fun_mk (st := top 9) l9 c9 k9), k9, (fun_mk (st := top 9) l9 c9 k9).binds (ps := ["thing"]) fun _ _ _ _ _ _ us hl => match us, hl with | [_], _ => rfl⟩,
  a10 := a10, f10 := PySem.W.fnOf "checked_ends" "checked_ends" (defArgs (top 10)) (defBody (top 10)) (defScope (top 10)) .none kV10 dc10 pm10 an10 cd10 ct10, d10 := ⟨PySem.W.mg_of X G n10, (fun_mk (st := top 10) l10 c10 k10), k10, (fun_mk (st := top 10) l10 c10 k10).binds (ps := ["thing"]) fun _ _ _ _ _ _ us hl => match us, hl with | [_], _ => rfl⟩,
  a11 := a11, f11 := PySem.W.fnOf "is_box_of" "is_box_of" (defArgs (top 11)) (defBody (top 11)) (defScope (top 11)) .none kV11 dc11 pm11 an11 cd11 ct11, d11 := ⟨PySem.W.mg_of X G n11, (fun_mk (st := top 11) l11 c11 k11), k11, (fun_mk (st := top 11) l11 c11 k11).binds (ps := ["ends", "thing"]) fun _ _ _ _ _ _ us hl => match us, hl with | [_, _], _ => rfl⟩,
  a12 := a12, f12 := PySem.W.fnOf "apart_rows" "apart_rows" (defArgs (top 12)) (defBody (top 12)) (defScope (top 12)) .none kV12 dc12 pm12 an12 cd12 ct12, d12 := ⟨PySem.W.mg_of X G n12, (fun_mk (st := top 12) l12 c12 k12), k12, (fun_mk (st := top 12) l12 c12 k12).binds (ps := ["row", "other"]) fun _ _ _ _ _ _ us hl => match us, hl with | [_, _], _ => rfl⟩,
  a13 := a13, f13 := PySem.W.fnOf "apart" "apart" (defArgs (top 13)) (defBody (top 13)) (defScope (top 13)) .none kV13 dc13 pm13 an13 cd13 ct13, d13 := ⟨PySem.W.mg_of X G n13, (fun_mk (st := top 13) l13 c13 k13), k13, (fun_mk (st := top 13) l13 c13 k13).binds (ps := ["box", "other"]) fun _ _ _ _ _ _ us hl => match us, hl with | [_, _], _ => rfl⟩,
  a15 := a15, f15 := PySem.W.fnOf "is_list" "is_list" (defArgs (top 15)) (defBody (top 15)) (defScope (top 15)) .none kV15 dc15 pm15 an15 cd15 ct15, d15 := ⟨PySem.W.mg_of X G n15, (fun_mk (st := top 15) l15 c15 k15), k15, (fun_mk (st := top 15) l15 c15 k15).binds (ps := ["thing"]) fun _ _ _ _ _ _ us hl => match us, hl with | [_], _ => rfl⟩,
  a17 := a17, f17 := PySem.W.fnOf "as_box" "as_box" (defArgs (top 17)) (defBody (top 17)) (defScope (top 17)) .none kV17 dc17 pm17 an17 cd17 ct17, d17 := ⟨PySem.W.mg_of X G n17, (fun_mk (st := top 17) l17 c17 k17), k17, (fun_mk (st := top 17) l17 c17 k17).binds (ps := ["thing"]) fun _ _ _ _ _ _ us hl => match us, hl with | [_], _ => rfl⟩,
  a18 := a18, f18 := PySem.W.fnOf "is_apart" "is_apart" (defArgs (top 18)) (defBody (top 18)) (defScope (top 18)) .none kV18 dc18 pm18 an18 cd18 ct18, d18 := ⟨PySem.W.mg_of X G n18, (fun_mk (st := top 18) l18 c18 k18), k18, (fun_mk (st := top 18) l18 c18 k18).binds (ps := ["ends", "thing", "ahead"]) fun _ _ _ _ _ _ us hl => match us, hl with | [_, _, _], _ => rfl⟩,
  a19 := a19, f19 := PySem.W.fnOf "table_fault_at" "table_fault_at" (defArgs (top 19)) (defBody (top 19)) (defScope (top 19)) .none kV19 dc19 pm19 an19 cd19 ct19, d19 := ⟨PySem.W.mg_of X G n19, (fun_mk (st := top 19) l19 c19 k19), k19, (fun_mk (st := top 19) l19 c19 k19).binds (ps := ["ends", "table", "shut"]) fun _ _ _ _ _ _ us hl => match us, hl with | [_, _, _], _ => rfl⟩,
  a20 := a20, f20 := PySem.W.fnOf "is_table" "is_table" (defArgs (top 20)) (defBody (top 20)) (defScope (top 20)) .none kV20 dc20 pm20 an20 cd20 ct20, d20 := ⟨PySem.W.mg_of X G n20, (fun_mk (st := top 20) l20 c20 k20), k20, (fun_mk (st := top 20) l20 c20 k20).binds (ps := ["ends", "table", "shut"]) fun _ _ _ _ _ _ us hl => match us, hl with | [_, _, _], _ => rfl⟩,
  a22 := a22, f22 := PySem.W.fnOf "_law_ends" "_law_ends" (defArgs (top 22)) (defBody (top 22)) (defScope (top 22)) .none kV22 dc22 pm22 an22 cd22 ct22, d22 := ⟨PySem.W.mg_of X G n22, (fun_mk (st := top 22) l22 c22 k22), k22, (fun_mk (st := top 22) l22 c22 k22).binds (ps := ["stream", "many"]) fun _ _ _ _ _ _ us hl => match us, hl with | [_, _], _ => rfl⟩,
  a23 := a23, f23 := PySem.W.fnOf "_law_t_halves" "_law_t_halves" (defArgs (top 23)) (defBody (top 23)) (defScope (top 23)) .none kV23 dc23 pm23 an23 cd23 ct23, d23 := ⟨PySem.W.mg_of X G n23, (fun_mk (st := top 23) l23 c23 k23), k23, (fun_mk (st := top 23) l23 c23 k23).binds (ps := ["box", "kind"]) fun _ _ _ _ _ _ us hl => match us, hl with | [_, _], _ => rfl⟩,
  a24 := a24, f24 := PySem.W.fnOf "_law_t_meet" "_law_t_meet" (defArgs (top 24)) (defBody (top 24)) (defScope (top 24)) .none kV24 dc24 pm24 an24 cd24 ct24, d24 := ⟨PySem.W.mg_of X G n24, (fun_mk (st := top 24) l24 c24 k24), k24, (fun_mk (st := top 24) l24 c24 k24).binds (ps := ["one", "other"]) fun _ _ _ _ _ _ us hl => match us, hl with | [_, _], _ => rfl⟩,
  a25 := a25, f25 := PySem.W.fnOf "_law_t_table" "_law_t_table" (defArgs (top 25)) (defBody (top 25)) (defScope (top 25)) .none kV25 dc25 pm25 an25 cd25 ct25, d25 := ⟨PySem.W.mg_of X G n25, (fun_mk (st := top 25) l25 c25 k25), k25, (fun_mk (st := top 25) l25 c25 k25).binds (ps := ["stream", "ends", "cuts"]) fun _ _ _ _ _ _ us hl => match us, hl with | [_, _, _], _ => rfl⟩,
  a26 := a26, f26 := PySem.W.fnOf "_law_start" "_law_start" (defArgs (top 26)) (defBody (top 26)) (defScope (top 26)) .none kV26 dc26 pm26 an26 cd26 ct26, d26 := ⟨PySem.W.mg_of X G n26, (fun_mk (st := top 26) l26 c26 k26), k26, (fun_mk (st := top 26) l26 c26 k26).binds (ps := ["script"]) fun _ _ _ _ _ _ us hl => match us, hl with | [_], _ => rfl⟩,
  a27 := a27, f27 := PySem.W.fnOf "_law_draw" "_law_draw" (defArgs (top 27)) (defBody (top 27)) (defScope (top 27)) .none kV27 dc27 pm27 an27 cd27 ct27, d27 := ⟨PySem.W.mg_of X G n27, (fun_mk (st := top 27) l27 c27 k27), k27, (fun_mk (st := top 27) l27 c27 k27).binds (ps := ["stream", "many"]) fun _ _ _ _ _ _ us hl => match us, hl with | [_, _], _ => rfl⟩,
  a28 := a28, f28 := PySem.W.fnOf "_law_pick" "_law_pick" (defArgs (top 28)) (defBody (top 28)) (defScope (top 28)) .none kV28 dc28 pm28 an28 cd28 ct28, d28 := ⟨PySem.W.mg_of X G n28, (fun_mk (st := top 28) l28 c28 k28), k28, (fun_mk (st := top 28) l28 c28 k28).binds (ps := ["stream", "some"]) fun _ _ _ _ _ _ us hl => match us, hl with | [_, _], _ => rfl⟩,
  a29 := a29, f29 := PySem.W.fnOf "_law_mixed" "_law_mixed" (defArgs (top 29)) (defBody (top 29)) (defScope (top 29)) .none kV29 dc29 pm29 an29 cd29 ct29, d29 := ⟨PySem.W.mg_of X G n29, (fun_mk (st := top 29) l29 c29 k29), k29, (fun_mk (st := top 29) l29 c29 k29).binds (ps := ["stream", "some"]) fun _ _ _ _ _ _ us hl => match us, hl with | [_, _], _ => rfl⟩,
  a30 := a30, f30 := PySem.W.fnOf "_law_same" "_law_same" (defArgs (top 30)) (defBody (top 30)) (defScope (top 30)) .none kV30 dc30 pm30 an30 cd30 ct30, d30 := ⟨PySem.W.mg_of X G n30, (fun_mk (st := top 30) l30 c30 k30), k30, (fun_mk (st := top 30) l30 c30 k30).binds (ps := ["found", "due"]) fun _ _ _ _ _ _ us hl => match us, hl with | [_, _], _ => rfl⟩,
  a31 := a31, f31 := PySem.W.fnOf "_law_loose" "_law_loose" (defArgs (top 31)) (defBody (top 31)) (defScope (top 31)) .none kV31 dc31 pm31 an31 cd31 ct31, d31 := ⟨PySem.W.mg_of X G n31, (fun_mk (st := top 31) l31 c31 k31), k31, (fun_mk (st := top 31) l31 c31 k31).binds (ps := ["stream", "thing"]) fun _ _ _ _ _ _ us hl => match us, hl with | [_, _], _ => rfl⟩,
  a32 := a32, f32 := PySem.W.fnOf "_law_is_box" "_law_is_box" (defArgs (top 32)) (defBody (top 32)) (defScope (top 32)) .none kV32 dc32 pm32 an32 cd32 ct32, d32 := ⟨PySem.W.mg_of X G n32, (fun_mk (st := top 32) l32 c32 k32), k32, (fun_mk (st := top 32) l32 c32 k32).binds (ps := ["ends", "thing"]) fun _ _ _ _ _ _ us hl => match us, hl with | [_, _], _ => rfl⟩,
  a33 := a33, f33 := PySem.W.fnOf "_law_is_table" "_law_is_table" (defArgs (top 33)) (defBody (top 33)) (defScope (top 33)) .none kV33 dc33 pm33 an33 cd33 ct33, d33 := ⟨PySem.W.mg_of X G n33, (fun_mk (st := top 33) l33 c33 k33), k33, (fun_mk (st := top 33) l33 c33 k33).binds (ps := ["ends", "table", "lids"]) fun _ _ _ _ _ _ us hl => match us, hl with | [_, _, _], _ => rfl⟩,
  a34 := a34, f34 := PySem.W.fnOf "_law_bent_box" "_law_bent_box" (defArgs (top 34)) (defBody (top 34)) (defScope (top 34)) .none kV34 dc34 pm34 an34 cd34 ct34, d34 := ⟨PySem.W.mg_of X G n34, (fun_mk (st := top 34) l34 c34 k34), k34, (fun_mk (st := top 34) l34 c34 k34).binds (ps := ["stream", "ends", "box"]) fun _ _ _ _ _ _ us hl => match us, hl with | [_, _, _], _ => rfl⟩,
  a35 := a35, f35 := PySem.W.fnOf "_law_bent" "_law_bent" (defArgs (top 35)) (defBody (top 35)) (defScope (top 35)) .none kV35 dc35 pm35 an35 cd35 ct35, d35 := ⟨PySem.W.mg_of X G n35, (fun_mk (st := top 35) l35 c35 k35), k35, (fun_mk (st := top 35) l35 c35 k35).binds (ps := ["stream", "ends", "table", "lids"]) fun _ _ _ _ _ _ us hl => match us, hl with | [_, _, _, _], _ => rfl⟩,
  a36 := a36, f36 := PySem.W.fnOf "_law_right" "_law_right" (defArgs (top 36)) (defBody (top 36)) (defScope (top 36)) .none kV36 dc36 pm36 an36 cd36 ct36, d36 := ⟨PySem.W.mg_of X G n36, (fun_mk (st := top 36) l36 c36 k36), k36, (fun_mk (st := top 36) l36 c36 k36).binds (ps := ["stream", "ends", "table", "lids"]) fun _ _ _ _ _ _ us hl => match us, hl with | [_, _, _, _], _ => rfl⟩,
  a37 := a37, f37 := PySem.W.fnOf "_law_refused" "_law_refused" (defArgs (top 37)) (defBody (top 37)) (defScope (top 37)) .none kV37 dc37 pm37 an37 cd37 ct37, d37 := ⟨PySem.W.mg_of X G n37, (fun_mk (st := top 37) l37 c37 k37), k37, (fun_mk (st := top 37) l37 c37 k37).binds (ps := ["odd", "due"]) fun _ _ _ _ _ _ us hl => match us, hl with | [_, _], _ => rfl⟩,
  a38 := a38, f38 := PySem.W.fnOf "law" "law" (defArgs (top 38)) (defBody (top 38)) (defScope (top 38)) .none kV38 dc38 pm38 an38 cd38 ct38, d38 := ⟨PySem.W.mg_of X G n38, (fun_mk (st := top 38) l38 c38 k38), k38, (fun_mk (st := top 38) l38 c38 k38).binds (ps := ["script"]) fun _ _ _ _ _ _ us hl => match us, hl with | [_], _ => rfl⟩,
  q_KEPT := q_KEPT, m_KEPT := PySem.W.mg_of X G n_KEPT, r_KEPT := fun H => .inr ⟨_, _, _, l_KEPT, rfl, rfl, (by show 10 ≤ sizeLine; decide), (.cons ⟨_, rfl⟩ (.cons ⟨_, rfl⟩ (.cons ⟨_, rfl⟩ (.cons ⟨_, rfl⟩ (.cons ⟨_, rfl⟩ (.cons ⟨_, rfl⟩ (.cons ⟨_, rfl⟩ (.cons ⟨_, rfl⟩ (.cons ⟨_, rfl⟩ (.cons ⟨_, rfl⟩ .nil))))))))))⟩,
  u_LETTERS := .str "abcdefghijklmnopqrstuvwxyz" t_LETTERS, m_LETTERS := PySem.W.mg_of X G n_LETTERS, r_LETTERS := ⟨t_LETTERS, rfl⟩,
  u_SIGNS := .str "abcdefghijklmnopqrstuvwxyz0123456789" t_SIGNS, m_SIGNS := PySem.W.mg_of X G n_SIGNS, r_SIGNS := ⟨t_SIGNS, rfl⟩,
  C_BadEnds := C_BadEnds, i_BadEnds := i_BadEnds, fd_BadEnds := PySem.W.fnOf "__init__" "BadEnds.__init__" (defArgs (inClass (top 2) 0)) (defBody (inClass (top 2) 0)) (defScope (inClass (top 2) 0)) .none kV_BadEnds dc_BadEnds pm_BadEnds an_BadEnds cd_BadEnds ct_BadEnds, m_BadEnds := PySem.W.mg_of X G n_BadEnds, x_BadEnds := ⟨⟨_, _, _, _, _, _, _, _, _, _, _, _, _, _, _, xL_BadEnds, rv_BadEnds⟩, sa_BadEnds, ex_BadEnds, tyc_BadEnds, kc_BadEnds⟩, cl_BadEnds := rfl, in_BadEnds := in_BadEnds, ty_BadEnds := ty_BadEnds, no_BadEnds := no_BadEnds, xf_BadEnds := ⟨ga_BadEnds, gg_BadEnds, ex_BadEnds, hd_BadEnds⟩, te_BadEnds := exm_self ex_BadEnds ic_BadEnds tyc_BadEnds sc_BadEnds, F_BadEnds := (fun_mk (st := (inClass (top 2) 0)) l_BadEnds c_BadEnds k_BadEnds), b_BadEnds := (fun_mk (st := (inClass (top 2) 0)) l_BadEnds c_BadEnds k_BadEnds).binds (ps := ["self", "index"]) fun _ _ _ _ _ _ us hl => match us, hl with | [_, _], _ => rfl,
  n_all := PySem.W.mg_none_of X G n_all,
  n_any := PySem.W.mg_none_of X G n_any,
  n_bool := PySem.W.mg_none_of X G n_bool,
  n_dict := PySem.W.mg_none_of X G n_dict,
  n_enumerate := PySem.W.mg_none_of X G n_enumerate,
  n_int := PySem.W.mg_none_of X G n_int,
  n_isinstance := PySem.W.mg_none_of X G n_isinstance,
  n_len := PySem.W.mg_none_of X G n_len,
  n_list := PySem.W.mg_none_of X G n_list,
  n_range := PySem.W.mg_none_of X G n_range,
  n_repr := PySem.W.mg_none_of X G n_repr,
  n_str := PySem.W.mg_none_of X G n_str,
  n_sum := PySem.W.mg_none_of X G n_sum,
  n_tuple := PySem.W.mg_none_of X G n_tuple,
  n_zip := PySem.W.mg_none_of X G n_zip,
  kb20 := kb_mk20 (fun_mk (st := top 20) l20 c20 k20) }
theorem law_mk {P : Program} {w : World} {K : PySem.W.Frag} {mg : Str → Option Value} {fa : Addr} {cls : Nat → Option (Addr × Str)} (hfa : mg "law" = some (.ref fa)) (T : Tx K cls mg) :
    ∃ fd : FuncData, (∀ (s : Shared) (v : Value), BindsTo s fd ⟨[v], []⟩ [("script", v)]) ∧ ∀ base : Heap, K.In base → base.Ns mainGlobals mg → FnG P w K mg base (L2.CX P w) 13 fa fd ["script"] (spLaw K) := by
  have e := hfa.symm.trans T.d38.m
  cases e
  refine ⟨T.f38, fun s v => ?_, fun base _ _ => ok_law T plain⟩
  obtain ⟨oc, od, kV, doc, pm, an, cdv, ct, osl, e, lk, hcd⟩ := T.d38.F.ex
  rw [e]
  exact .of_eq rfl
end K27
open PySem PySem.W PyProof.Rows
set_option maxRecDepth 100000 in
set_option maxHeartbeats 0 in
theorem PySem.Challenge.cw_twinforks_k27_whole_tables_holds : PySem.Challenge.rw_twinforks_k27_whole_tables.Holds := by
  w_on; o_law; k_head; (case hw => w_witness2)
  k_fill
  refine DI.walk_ofG (n := 63) (k := 13) (x := "script") (l := PySem.Challenge.rw_twinforks_k27_whole_tables) (CX := fun w => L2.CX PySem.Challenge.rw_twinforks_k27_whole_tables.prog w) (sp := fun w => DI.spLaw _) rfl (by decide) rfl ⟨rfl, by decide, by decide⟩ (fun w h Y => PySem.W.kIn_of Y) ?F (fun w H a ns hl hS => ⟨a, ns, rfl, hS, hl, fun _ => rfl⟩) ?C
  case F =>
    intro w mg fa h KX G hmg
    refine' K27.law_mk hmg (K27.all_mk KX G ?n7 ?l7 ?c7 ?k7 ?n8 ?l8 ?c8 ?k8 ?n9 ?l9 ?c9 ?k9 ?n10 ?l10 ?c10 ?k10 ?n11 ?l11 ?c11 ?k11 ?n12 ?l12 ?c12 ?k12 ?n13 ?l13 ?c13 ?k13 ?n15 ?l15 ?c15 ?k15 ?n17 ?l17 ?c17 ?k17 ?n18 ?l18 ?c18 ?k18 ?n19 ?l19 ?c19 ?k19 ?n20 ?l20 ?c20 ?k20 ?n22 ?l22 ?c22 ?k22 ?n23 ?l23 ?c23 ?k23 ?n24 ?l24 ?c24 ?k24 ?n25 ?l25 ?c25 ?k25 ?n26 ?l26 ?c26 ?k26 ?n27 ?l27 ?c27 ?k27 ?n28 ?l28 ?c28 ?k28 ?n29 ?l29 ?c29 ?k29 ?n30 ?l30 ?c30 ?k30 ?n31 ?l31 ?c31 ?k31 ?n32 ?l32 ?c32 ?k32 ?n33 ?l33 ?c33 ?k33 ?n34 ?l34 ?c34 ?k34 ?n35 ?l35 ?c35 ?k35 ?n36 ?l36 ?c36 ?k36 ?n37 ?l37 ?c37 ?k37 ?n38 ?l38 ?c38 ?k38 ?n_KEPT ?l_KEPT ?n_LETTERS ?n_SIGNS ?n_BadEnds ?xL_BadEnds ?rv_BadEnds ?sa_BadEnds ?ex_BadEnds ?tyc_BadEnds ?kc_BadEnds ?in_BadEnds ?ty_BadEnds ?no_BadEnds ?ga_BadEnds ?gg_BadEnds ?hd_BadEnds ?ic_BadEnds ?sc_BadEnds ?l_BadEnds ?c_BadEnds ?k_BadEnds ?n_all ?n_any ?n_bool ?n_dict ?n_enumerate ?n_int ?n_isinstance ?n_len ?n_list ?n_range ?n_repr ?n_str ?n_sum ?n_tuple ?n_zip)
    (case n7 => k_is)
    (case l7 => k_is)
    (case c7 => k_is)
    (case k7 => k_is)
    (case n8 => k_is)
    (case l8 => k_is)
    (case c8 => k_is)
    (case k8 => k_is)
    (case n9 => k_is)
    (case l9 => k_is)
    (case c9 => k_is)
    (case k9 => k_is)
    (case n10 => k_is)
    (case l10 => k_is)
    (case c10 => k_is)
    (case k10 => k_is)
    (case n11 => k_is)
    (case l11 => k_is)
    (case c11 => k_is)
    (case k11 => k_is)
    (case n12 => k_is)
    (case l12 => k_is)
    (case c12 => k_is)
    (case k12 => k_is)
    (case n13 => k_is)
    (case l13 => k_is)
    (case c13 => k_is)
    (case k13 => k_is)
    (case n15 => k_is)
    (case l15 => k_is)
    (case c15 => k_is)
    (case k15 => k_is)
    (case n17 => k_is)
    (case l17 => k_is)
    (case c17 => k_is)
    (case k17 => k_is)
    (case n18 => k_is)
    (case l18 => k_is)
    (case c18 => k_is)
    (case k18 => k_is)
    (case n19 => k_is)
    (case l19 => k_is)
    (case c19 => k_is)
    (case k19 => k_is)
    (case n20 => k_is)
    (case l20 => k_is)
    (case c20 => k_is)
    (case k20 => k_is)
    (case n22 => k_is)
    (case l22 => k_is)
    (case c22 => k_is)
    (case k22 => k_is)
    (case n23 => k_is)
    (case l23 => k_is)
    (case c23 => k_is)
    (case k23 => k_is)
    (case n24 => k_is)
    (case l24 => k_is)
    (case c24 => k_is)
    (case k24 => k_is)
    (case n25 => k_is)
    (case l25 => k_is)
    (case c25 => k_is)
    (case k25 => k_is)
    (case n26 => k_is)
    (case l26 => k_is)
    (case c26 => k_is)
    (case k26 => k_is)
    (case n27 => k_is)
    (case l27 => k_is)
    (case c27 => k_is)
    (case k27 => k_is)
    (case n28 => k_is)
    (case l28 => k_is)
    (case c28 => k_is)
    (case k28 => k_is)
    (case n29 => k_is)
    (case l29 => k_is)
    (case c29 => k_is)
    (case k29 => k_is)
    (case n30 => k_is)
    (case l30 => k_is)
    (case c30 => k_is)
    (case k30 => k_is)
    (case n31 => k_is)
    (case l31 => k_is)
    (case c31 => k_is)
    (case k31 => k_is)
    (case n32 => k_is)
    (case l32 => k_is)
    (case c32 => k_is)
    (case k32 => k_is)
    (case n33 => k_is)
    (case l33 => k_is)
    (case c33 => k_is)
    (case k33 => k_is)
    (case n34 => k_is)
    (case l34 => k_is)
    (case c34 => k_is)
    (case k34 => k_is)
    (case n35 => k_is)
    (case l35 => k_is)
    (case c35 => k_is)
    (case k35 => k_is)
    (case n36 => k_is)
    (case l36 => k_is)
    (case c36 => k_is)
    (case k36 => k_is)
    (case n37 => k_is)
    (case l37 => k_is)
    (case c37 => k_is)
    (case k37 => k_is)
    (case n38 => k_is)
    (case l38 => k_is)
    (case c38 => k_is)
    (case k38 => k_is)
    (case n_KEPT => k_is)
    (case l_KEPT => k_is)
    (case n_LETTERS => k_is)
    (case n_SIGNS => k_is)
    (case n_BadEnds => k_is)
    (case xL_BadEnds => k_is)
    (case rv_BadEnds => decide +kernel)
    (case sa_BadEnds => k_is)
    (case ex_BadEnds => k_is)
    (case tyc_BadEnds => k_is)
    (case kc_BadEnds => k_is)
    (case in_BadEnds => k_is)
    (case ty_BadEnds => k_is)
    (case no_BadEnds => k_is)
    (case ga_BadEnds => k_is)
    (case gg_BadEnds => k_is)
    (case hd_BadEnds => k_is)
    (case ic_BadEnds => k_is)
    (case sc_BadEnds => first | rfl | k_is)
    (case l_BadEnds => k_is)
    (case c_BadEnds => k_is)
    (case k_BadEnds => k_is)
    (case n_all => k_is)
    (case n_any => k_is)
    (case n_bool => k_is)
    (case n_dict => k_is)
    (case n_enumerate => k_is)
    (case n_int => k_is)
    (case n_isinstance => k_is)
    (case n_len => k_is)
    (case n_list => k_is)
    (case n_range => k_is)
    (case n_repr => k_is)
    (case n_str => k_is)
    (case n_sum => k_is)
    (case n_tuple => k_is)
    (case n_zip => k_is)
  case C =>
    intro w H s e s' c
    obtain ⟨_, _, _, _, _, _, _, _, _, _, _, _, z⟩ := c
    exact z
