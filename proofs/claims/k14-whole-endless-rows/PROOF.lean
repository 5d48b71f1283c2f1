import PyProof.Rows.All
import Wide.All
import OpenK.AllK
import Wide.FinOn
import HandS.ForMost
import HandS.ForExc
import HandS.Lambda
import HandS.IsInst
import HandS.Deep
import HandS.More
import HandS.Walk
import HandS.Style
import HandS.ExcInit
import KE.GoesMore
import KE.GoesEnum
import PyProof.SumAny
import PyProof.ReprRoads
import PyProof.ZipIter
import PyProof.ListNew
import HandS.Ends
import HandS.ExcField
import HandS.Star
import HandS.CallSlots
import HandS.ListItems
import HandS.TryMany
import HandS.TryOnly
import HandS.Zip
import HandS.EndTab
import KE.KNestM
import PySem.Challenge.RW_twinforks_k14_whole_endless_rows
section
set_option Elab.async false
set_option linter.all false
set_option maxRecDepth 100000
/-! DI: a small language of data, and what its terms do: pure Lean, no program in sight. -/
namespace DI
open PySem L2

/-- data, without addresses -/
inductive D where
  | non | bl (b : Bool) | int (i : Int) | str (s : Str) | lst (xs : List D) | tup (xs : List D) | dic (kvs : List (Key × D)) | strm
  deriving Inhabited

/-- the spring of draws -/
structure Sd where
  cells : List Int
  big : Int
  cnt : Int
  mix : Int

/-- a thing of one's own: lists that nobody else holds, tuples of such; data -/
inductive O where
  | fz (d : D) | lst (xs : List O) | tup (xs : List O)
  deriving Inhabited
/-- a slot: nothing, frozen data, a list of the slot's own, a deeper thing of its own -/
inductive Sl where
  | un | fz (d : D) | ow (xs : List D) | ot (o : O)
  deriving Inhabited
/-- what an expression gives: data, a list just made, a deeper thing just made, what a slot holds -/
inductive Rs where
  | fz (d : D) | nw (xs : List D) | nt (o : O) | sl (i : Nat)
  deriving Inhabited
/-! a thing as data -/
mutual
def O.d : O → D
  | .fz d => d
  | .lst xs => .lst (O.ds xs)
  | .tup xs => .tup (O.ds xs)
def O.ds : List O → List D
  | [] => []
  | x :: xs => x.d :: O.ds xs
end
/-- the thing that a slot holds -/
def Sl.tr : Sl → Option O
  | .ow xs => some (.lst (xs.map .fz))
  | .ot o => some o
  | _ => none
abbrev Ga := List Sl
inductive Out (α : Type) where
  | ok (a : α) (g : Ga) (s : Sd)
  | ex (c : Nat) (d : D) (g : Ga) (s : Sd)
  | bad
inductive Flow where
  | nx | brk | cnt | ret (r : Rs)
inductive FOut where
  | ok (d : D) (fresh : Bool) (s : Sd)
  | okT (o : O) (s : Sd)
  | ex (c : Nat) (d : D) (s : Sd)
  | bad

def Out.bind {α β : Type} (o : Out α) (f : α → Ga → Sd → Out β) : Out β :=
  match o with
  | .ok a g s => f a g s
  | .ex c d g s => .ex c d g s
  | .bad => .bad

inductive Bop where
  | add | sub | mul | fdiv | mod | pow
  deriving DecidableEq
inductive Cop where
  | eq | ne | lt | le | gt | ge | isIn | notIn | isN | notN
  deriving DecidableEq
/-- built-ins on values -/
inductive Bi where
  | len | list | tuple | int | all | any | sumL | repr | zipL | dictL | min2 | max2 | strI
  deriving DecidableEq
/-- kinds that isinstance is asked for -/
inductive Ty where
  | int | bool | str | list | tuple | dict
  deriving DecidableEq
/-- methods on a slot's own list -/
inductive Mt where
  | append | extend | pop | popAt | insert
  deriving DecidableEq

/-- targets -/
inductive Tg where
  | nm (i : Nat) | nil | cons (t u : Tg)

/-- terms: expressions, argument lists, what is walked, statements -/
inductive T where
  -- expressions
  | var (i : Nat)
  | con (d : D)
  | gl (g : Nat)
  | bin (o : Bop) (a b : T)
  | cmp (o : Cop) (a b : T)
  | neg (a : T)
  | not (a : T)
  | and (a b : T)
  | or (a b : T)
  | ite (c a b : T)
  | call (f : Nat) (as : T)
  | callK (f : Nat) (ks : List Nat) (as : T)
  | bi (b : Bi) (as : T)
  | isi (tys : List Ty) (a : T)
  | sub (a i : T)
  | slc (a lo hi : T)
  | lst (es : T)
  | tup (es : T)
  | dic0
  | lc (own : List Nat) (it : T) (tg : Tg) (c : T) (e : T)
  | mth (m : Mt) (i : Nat) (as : T)
  | fld (i : Nat)
  -- argument lists; no part of a slice; no test
  | nil
  | cons (e es : T)
  | none
  -- what is walked
  | iSeq (e : T)
  | iRng1 (as : T)
  | iRng2 (as : T)
  | iEnum (e : T)
  | iZip (as : T)
  -- statements
  | asg (t : Tg) (e : T)
  | par (is : List Nat) (es : T)
  | sto (i : Nat) (k e : T)
  | exp (e : T)
  | ret (e : T)
  | iff (c t e : T)
  | for_ (tg : Tg) (it b : T)
  | whl (c b : T)
  | brk | cnt | pass
  | rais (c : Nat) (e : T)
  | try1 (b : T) (c : Nat) (i : Nat) (su : T)
  | seq (a b : T)
  | done
  deriving Inhabited

/-- an own list just made is data when it is used as an operand -/
def settle : Rs → Rs
  | .nw xs => .fz (.lst xs)
  | .nt o => .fz o.d
  | r => r
/-- the data that a value is now -/
def peekS : Option Sl → Option D
  | some (.ow xs) => some (.lst xs)
  | some (.fz d) => some d
  | _ => none
def peek (g : Ga) : Rs → Option D
  | .fz d => some d
  | .nw xs => some (.lst xs)
  | .nt _ => none
  | .sl i => peekS g[i]?
/-- a value kept: an own list becomes data -/
def keepS (g : Ga) (i : Nat) : Option Sl → Option (D × Ga)
  | some (.ow xs) => some (.lst xs, g.set i (.fz (.lst xs)))
  | some (.ot o) => some (o.d, g.set i (.fz o.d))
  | some (.fz d) => some (d, g)
  | _ => none
def keep (g : Ga) : Rs → Option (D × Ga)
  | .fz d => some (d, g)
  | .nw xs => some (.lst xs, g)
  | .nt o => some (o.d, g)
  | .sl i => keepS g i g[i]?
def peeks (g : Ga) : List Rs → Option (List D)
  | [] => some []
  | r :: rs => match peek g r, peeks g rs with
    | some d, some ds => some (d :: ds)
    | _, _ => none
def Out.settle (o : Out Rs) : Out Rs := o.bind fun r g s => .ok (DI.settle r) g s
def kept (s : Sd) : Option (D × Ga) → Out D
  | some (d, g') => .ok d g' s
  | none => .bad
def Out.keep (o : Out Rs) : Out D := o.bind fun r g s => kept s (DI.keep g r)
/-- data that is not kept -/
def Out.look (o : Out Rs) : Out D := o.bind fun r g s => match peek g r with
  | some d => .ok d g s
  | none => .bad

/-! ### operations on data -/
def D.isTy : Ty → D → Bool
  | .int, .int _ => true
  | .int, .bl _ => true
  | .bool, .bl _ => true
  | .str, .str _ => true
  | .list, .lst _ => true
  | .tuple, .tup _ => true
  | .dict, .dic _ => true
  | _, _ => false
/-! lists, tuples, numbers, texts: as the model's data -/
mutual
def D.pd : D → Option PyData
  | .non => some .none
  | .bl b => some (.bool b)
  | .int i => some (.int i)
  | .str s => some (.str s)
  | .lst xs => match D.pdAll xs with
    | some ds => some (.list ds)
    | none => none
  | .tup xs => match D.pdAll xs with
    | some ds => some (.tuple ds)
    | none => none
  | .dic _ => none
  | .strm => none
def D.pdAll : List D → Option (List PyData)
  | [] => some []
  | x :: xs => match D.pd x with
    | some d => match D.pdAll xs with
      | some ds => some (d :: ds)
      | none => none
    | none => none
end
def D.truth : D → Option Bool
  | .bl b => some b
  | _ => none
def D.seq : D → Option (List D)
  | .lst xs => some xs
  | .tup xs => some xs
  | _ => none
def small (i : Int) : Bool := decide (-(2 ^ 62) ≤ i) && decide (i < 2 ^ 62)
def lineOk (n : Nat) : Bool := decide (n ≤ sizeLine)

def binF : Bop → D → D → Option Rs
  | .add, .int i, .int j => some (.fz (.int (i + j)))
  | .add, .str a, .str b => if lineOk (a.length + b.length) then some (.fz (.str (a ++ b))) else none
  | .add, .lst xs, .lst ys => if lineOk (xs.length + ys.length) then some (.nw (xs ++ ys)) else none
  | .sub, .int i, .int j => some (.fz (.int (i - j)))
  | .mul, .int i, .int j => if small i && small j then some (.fz (.int (i * j))) else none
  | .mul, .lst xs, .int k => if small k && lineOk (xs.length * k.toNat) then some (.nw (List.replicate k.toNat xs).flatten) else none
  | .fdiv, .int i, .int j => if decide (0 < j) && decide (j < 1073741824) then some (.fz (.int (i / j))) else none
  | .mod, .int i, .int j => if decide (0 < j) then some (.fz (.int (i % j))) else none
  | .pow, .int i, .int j => if decide (0 ≤ j) && decide (j ≤ 1000) && small i then some (.fz (.int (i ^ j.toNat))) else none
  | _, _, _ => none

def eqP : Option PyData → Option PyData → Option Bool
  | some x, some y => if SeqAt.shaped x && SeqAt.shaped y then some (PyData.eqv x y) else none
  | _, _ => none
def eqF (a b : D) : Option Bool := eqP a.pd b.pd
def flatD : D → Bool
  | .non => true
  | .bl _ => true
  | .int _ => true
  | .str _ => true
  | _ => false
def eqD : D → D → Bool
  | .non, .non => true
  | .bl a, .bl b => a == b
  | .bl a, .int b => (if a then 1 else 0) == b
  | .int a, .bl b => a == (if b then 1 else 0)
  | .int a, .int b => a == b
  | .str a, .str b => a == b
  | _, _ => false
def inL : Option PyData → Option (List PyData) → Option Bool
  | some x, some zs => if SeqAt.shaped x && SeqAt.shaped (.list zs) then some (zs.any fun z => PyData.eqv z x) else none
  | _, _ => none
def inF (a b : D) : Option Bool := match b with
  | .str z => match a with
    | .str y => some (!(Builtin.Str.occurrences z y 0 z.length 1).isEmpty)
    | _ => none
  | .lst ys => inL a.pd (D.pdAll ys)
  | .tup ys => if flatD a && ys.all flatD then some (ys.any fun y => eqD y a) else none
  | _ => none
def D.isNon : D → Bool
  | .non => true
  | _ => false
def cmpF : Cop → D → D → Option Bool
  | .eq, a, b => eqF a b
  | .ne, a, b => (eqF a b).map (!·)
  | .lt, .int i, .int j => some (decide (i < j))
  | .le, .int i, .int j => some (decide (i ≤ j))
  | .gt, .int i, .int j => some (decide (j < i))
  | .ge, .int i, .int j => some (decide (j ≤ i))
  | .isIn, a, b => inF a b
  | .notIn, a, b => (inF a b).map (!·)
  | .isN, a, .non => some a.isNon
  | .notN, a, .non => some (!a.isNon)
  | _, _, _ => none
def bools : List D → Option (List Bool)
  | [] => some []
  | .bl b :: r => (bools r).map (b :: ·)
  | _ :: _ => none
def lsts : List D → Option (List (List D))
  | [] => some []
  | .lst x :: r => (lsts r).map (x :: ·)
  | _ :: _ => none
def pairsK : List D → Option (List (Key × D))
  | [] => some []
  | .tup [.str k, v] :: r => (pairsK r).map ((.inr k, v) :: ·)
  | .tup [.int k, v] :: r => (pairsK r).map ((.inl k, v) :: ·)
  | _ :: _ => none
def subF : D → D → Option D
  | .lst xs, .int i => atI xs i
  | .tup xs, .int i => atI xs i
  | .str z, .int i => if lineOk z.length then (atI z.cps.toList i).map (fun c => .str ⟨#[c]⟩) else none
  | _, _ => none
def cutL (xs : List D) (lo hi : Option Int) : List D := (xs.drop (HT.sIx xs.length 0 lo)).take (HT.sIx xs.length xs.length hi - HT.sIx xs.length 0 lo)
def partF : Option D → Option (Option Int)
  | none => some none
  | some (.int i) => some (some i)
  | _ => none
def slcF (a : D) (lo hi : Option Int) : Option Rs := match a with
  | .lst xs => some (.nw (cutL xs lo hi))
  | .tup xs => if HT.sIx xs.length 0 lo = 0 ∧ HT.sIx xs.length xs.length hi = xs.length then none else some (.fz (.tup (cutL xs lo hi)))
  | _ => none
/-- where a target's parts go: of one thing, of a row of things -/
structure Bnd where
  one : D → Ga → Option Ga
  many : List D → Ga → Option Ga
def bndM (a b : Bnd) : List D → Ga → Option Ga
  | [], _ => none
  | x :: xs, g => match a.one x g with
    | some g' => b.many xs g'
    | none => none
def bnd0 : List D → Ga → Option Ga
  | [], g => some g
  | _ :: _, _ => none
def bndT (m : List D → Ga → Option Ga) : D → Ga → Option Ga
  | .tup xs, g => m xs g
  | _, _ => none
def bnd : Tg → Bnd
  | .nm i => ⟨fun d g => if i < g.length then some (g.set i (.fz d)) else none, fun _ _ => none⟩
  | .nil => ⟨bndT bnd0, bnd0⟩
  | .cons t u => ⟨bndT (bndM (bnd t) (bnd u)), bndM (bnd t) (bnd u)⟩
def bindT (t : Tg) : D → Ga → Option Ga := (bnd t).one

/-! ### what is walked, folded -/
def itemsOf : D → Option (List D)
  | .lst xs => some xs
  | .tup xs => some xs
  | .str z => some (z.cps.toList.map fun c => .str ⟨#[c]⟩)
  | _ => none
def rngF1 : List D → Option (List D)
  | [.int j] => if small j then some ((List.range j.toNat).map fun (k : Nat) => .int (0 + (k : Int))) else none
  | _ => none
def rngF2 : List D → Option (List D)
  | [.int i, .int j] => if small i && small j then some ((List.range (j - i).toNat).map fun (k : Nat) => .int (i + (k : Int))) else none
  | _ => none
def enumD : Nat → List D → List D
  | _, [] => []
  | i, x :: xs => .tup [.int (i : Nat), x] :: enumD (i + 1) xs
def zipD : List D → List D → List D
  | x :: xs, y :: ys => .tup [x, y] :: zipD xs ys
  | _, _ => []
/-- a for over items -/
def forL (f : D → Ga → Sd → Out Flow) : List D → Ga → Sd → Out Flow
  | [], g, s => .ok .nx g s
  | x :: xs, g, s => match f x g s with
    | .ok .nx g' s' => forL f xs g' s'
    | .ok .cnt g' s' => forL f xs g' s'
    | .ok .brk g' s' => .ok .nx g' s'
    | .ok (.ret r) g' s' => .ok (.ret r) g' s'
    | .ex c d g' s' => .ex c d g' s'
    | .bad => .bad
def whlL (c : Ga → Sd → Out Bool) (b : Ga → Sd → Out Flow) : Nat → Ga → Sd → Out Flow
  | 0, _, _ => .bad
  | n + 1, g, s => match c g s with
    | .ok true g1 s1 => match b g1 s1 with
      | .ok .nx g' s' => whlL c b n g' s'
      | .ok .cnt g' s' => whlL c b n g' s'
      | .ok .brk g' s' => .ok .nx g' s'
      | .ok (.ret r) g' s' => .ok (.ret r) g' s'
      | .ex c d g' s' => .ex c d g' s'
      | .bad => .bad
    | .ok false g1 s1 => .ok .nx g1 s1
    | .ex c d g' s' => .ex c d g' s'
    | .bad => .bad
/-- a comprehension: f gives what is appended, or none -/
def lcL (f : D → Ga → Sd → Out (Option D)) : List D → List D → Ga → Sd → Out (List D)
  | [], acc, g, s => .ok acc g s
  | x :: xs, acc, g, s => match f x g s with
    | .ok (some d) g' s' => if acc.length < sizeLine then lcL f xs (acc ++ [d]) g' s' else .bad
    | .ok none g' s' => lcL f xs acc g' s'
    | _ => .bad
def wipeG (g : Ga) : List Nat → Ga
  | [] => g
  | v :: vs => (wipeG g vs).set v .un
def gives (ds : List D) : Out D → Out D
  | o => o

/-! ### built-ins -/
def D.shown : D → Option Str
  | _ => none
def biF : Bi → List D → Option Rs
  | .len, [.lst xs] => some (.fz (.int xs.length))
  | .len, [.tup xs] => some (.fz (.int xs.length))
  | .len, [.str z] => if lineOk z.length then some (.fz (.int z.length)) else none
  | .list, [.lst xs] => some (.nw xs)
  | .list, [.tup xs] => some (.nw xs)
  | .tuple, [.lst xs] => some (.fz (.tup xs))
  | .tuple, [.tup xs] => some (.fz (.tup xs))
  | .int, [.int i] => some (.fz (.int i))
  | .all, [.lst xs] => (bools xs).map fun bs => .fz (.bl (bs.all id))
  | .any, [.lst xs] => (bools xs).map fun bs => .fz (.bl (bs.any id))
  | .max2, [.int i, .int j] => some (.fz (.int (if j > i then j else i)))
  | .sumL, [.lst xs, .lst zs] => match lsts xs with
    | some yss => if lineOk (zs ++ yss.flatten).length then some (.fz (.lst (zs ++ yss.flatten))) else none
    | none => none
  | .dictL, [.lst []] => some (.fz (.dic []))
  | .list, [.dic []] => some (.nw [])
  | .min2, [.int i, .int j] => some (.fz (.int (if j < i then j else i)))
  | _, _ => none
/-- methods of an own list: what is given, the list behind -/
def mtF : Mt → List D → List D → Option (D × List D)
  | .append, xs, [y] => if xs.length < sizeLine then some (.non, xs ++ [y]) else none
  | .extend, xs, [.lst ys] => if xs.length + ys.length ≤ sizeLine then some (.non, xs ++ ys) else none
  | .pop, xs, [] => (xs[xs.length - 1]?).map fun y => (y, xs.dropLast)
  | .popAt, xs, [.int i] => if small i then (seqIndex? i xs.length).bind fun k => (xs[k]?).map fun y => (y, xs.eraseIdx k) else none
  | .insert, xs, [.int i, y] => if xs.length < sizeLine ∧ 0 ≤ i ∧ i < 2 ^ 62 then some (.non, xs.take i.toNat ++ [y] ++ xs.drop i.toNat) else none
  | _, _, _ => none

/-! ### the evaluator -/
section
variable (φ : Nat → List D → Sd → FOut) (perm : List Nat → List D → List D) (glob : Nat → Option D) (fuel : Nat)
def call1 (f : Nat) (ds : List D) (g : Ga) (s : Sd) : Out Rs := match φ f ds s with
  | .ok (.lst xs) true s' => .ok (.nw xs) g s'
  | .ok d _ s' => .ok (.fz d) g s'
  | .okT o s' => .ok (.nt o) g s'
  | .ex c d s' => .ex c d g s'
  | .bad => .bad
def optR (o : Option Rs) (g : Ga) (s : Sd) : Out Rs := match o with
  | some r => .ok r g s
  | none => .bad
def optD {α : Type} (o : Option α) (g : Ga) (s : Sd) : Out α := match o with
  | some r => .ok r g s
  | none => .bad
/-- what a term does: as an expression, a test, a comprehension's test, arguments kept, arguments looked at, a part of a slice, what is walked, a statement -/
structure Sm where
  e : Ga → Sd → Out Rs
  t : Ga → Sd → Out Bool
  c : Ga → Sd → Out Bool
  a : Ga → Sd → Out (List D)
  l : Ga → Sd → Out (List Rs)
  p : Ga → Sd → Out (Option Int)
  i : Ga → Sd → Out (List D)
  s : Ga → Sd → Out Flow
def noX {α : Type} : Ga → Sd → Out α := fun _ _ => .bad
def tOf (e : Ga → Sd → Out Rs) : Ga → Sd → Out Bool := fun g s => (e g s).bind fun r g1 s1 => match r with
  | .fz (.bl k) => .ok k g1 s1
  | _ => .bad
def pOf (e : Ga → Sd → Out Rs) : Ga → Sd → Out (Option Int) := fun g s => (e g s).bind fun r g1 s1 => match r with
  | .fz (.int i) => .ok (some i) g1 s1
  | _ => .bad
def mkE (e : Ga → Sd → Out Rs) : Sm := ⟨e, tOf e, tOf e, noX, noX, pOf e, noX, noX⟩
def mkT (e : Ga → Sd → Out Rs) (t : Ga → Sd → Out Bool) : Sm := ⟨e, t, t, noX, noX, noX, noX, noX⟩
def mkI (i : Ga → Sd → Out (List D)) : Sm := ⟨noX, noX, noX, noX, noX, noX, i, noX⟩
def mkS (s : Ga → Sd → Out Flow) : Sm := ⟨noX, noX, noX, noX, noX, noX, noX, s⟩

def sVarS (i : Nat) (g : Ga) (s : Sd) : Option Sl → Out Rs
  | some (.fz d) => .ok (.fz d) g s
  | some (.ow _) => .ok (.sl i) g s
  | some (.ot o) => .ok (.fz o.d) (g.set i (.fz o.d)) s
  | _ => .bad
def sVar (i : Nat) : Ga → Sd → Out Rs := fun g s => sVarS i g s g[i]?
def sGl (k : Nat) : Ga → Sd → Out Rs := fun g s => match glob k with
  | some d => .ok (.fz d) g s
  | none => .bad
/-- two operands looked at -/
def two (f : D → D → Option Rs) (g : Ga) (s : Sd) : Option D → Option D → Out Rs
  | some x, some y => optR (f x y) g s
  | _, _ => .bad
def sTwo (f : D → D → Option Rs) (a b : Ga → Sd → Out Rs) : Ga → Sd → Out Rs := fun g s =>
  (a g s).settle.bind fun r g1 s1 => (b g1 s1).settle.bind fun r' g2 s2 => two f g2 s2 (peek g2 r) (peek g2 r')
def one {α : Type} (f : α → Option Rs) (g : Ga) (s : Sd) : Option α → Out Rs
  | some x => optR (f x) g s
  | none => .bad
def sOne (f : D → Option Rs) (a : Ga → Sd → Out Rs) : Ga → Sd → Out Rs := fun g s =>
  (a g s).settle.bind fun r g1 s1 => one f g1 s1 (peek g1 r)
def sAnd (a b : Ga → Sd → Out Rs) : Ga → Sd → Out Rs := fun g s => (a g s).bind fun r g1 s1 => match r with
  | .fz (.bl true) => b g1 s1
  | .fz (.bl false) => .ok (.fz (.bl false)) g1 s1
  | _ => .bad
def sOr (a b : Ga → Sd → Out Rs) : Ga → Sd → Out Rs := fun g s => (a g s).bind fun r g1 s1 => match r with
  | .fz (.bl true) => .ok (.fz (.bl true)) g1 s1
  | .fz (.bl false) => b g1 s1
  | _ => .bad
def tAndF (a b : Ga → Sd → Out Bool) : Ga → Sd → Out Bool := fun g s => (a g s).bind fun k g1 s1 => match k with
  | true => b g1 s1
  | false => .ok false g1 s1
def tOrF (a b : Ga → Sd → Out Bool) : Ga → Sd → Out Bool := fun g s => (a g s).bind fun k g1 s1 => match k with
  | true => .ok true g1 s1
  | false => b g1 s1
def tNotF (a : Ga → Sd → Out Bool) : Ga → Sd → Out Bool := fun g s => (a g s).bind fun k g1 s1 => .ok (!k) g1 s1
def isiF (tys : List Ty) : D → Option Rs
  | .strm => none
  | d => some (.fz (.bl (tys.any fun t => D.isTy t d)))
def sIte (c : Ga → Sd → Out Bool) (a b : Ga → Sd → Out Rs) : Ga → Sd → Out Rs := fun g s => (c g s).bind fun k g1 s1 => match k with
  | true => a g1 s1
  | false => b g1 s1
def sCall (f : List D → Ga → Sd → Out Rs) (as : Ga → Sd → Out (List D)) : Ga → Sd → Out Rs := fun g s => (as g s).bind f
def sBi (f : List D → Option Rs) (as : Ga → Sd → Out (List Rs)) : Ga → Sd → Out Rs := fun g s => (as g s).bind fun rs g1 s1 => one f g1 s1 (peeks g1 rs)
def negF : D → Option Rs
  | .int i => some (.fz (.int (-i)))
  | _ => none
def notF : D → Option Rs
  | .bl k => some (.fz (.bl (!k)))
  | _ => none
def sSlc (a : Ga → Sd → Out Rs) (lo hi : Ga → Sd → Out (Option Int)) : Ga → Sd → Out Rs := fun g s =>
  (a g s).settle.bind fun r g1 s1 => (lo g1 s1).bind fun l g2 s2 => (hi g2 s2).bind fun h g3 s3 => one (fun x => slcF x l h) g3 s3 (peek g3 r)
def sLst (as : Ga → Sd → Out (List D)) : Ga → Sd → Out Rs := fun g s => (as g s).bind fun ds g1 s1 => if lineOk ds.length then .ok (.nw ds) g1 s1 else .bad
def sTup (as : Ga → Sd → Out (List D)) : Ga → Sd → Out Rs := fun g s => (as g s).bind fun ds g1 s1 => if lineOk ds.length then .ok (.fz (.tup ds)) g1 s1 else .bad
def lcTurn (own : List Nat) (tg : Tg) (c : Ga → Sd → Out Bool) (e : Ga → Sd → Out Rs) (x : D) (g : Ga) (s : Sd) : Out (Option D) :=
  match bindT tg x g with
  | some g2 => match c g2 s with
    | .ok true g3 s3 => match (e g3 s3).keep with
      | .ok d g4 s4 => .ok (some d) (wipeG g4 own) s4
      | _ => .bad
    | .ok false g3 s3 => .ok none (wipeG g3 own) s3
    | _ => .bad
  | none => .bad
def sLc (own : List Nat) (it : Ga → Sd → Out (List D)) (tg : Tg) (c : Ga → Sd → Out Bool) (e : Ga → Sd → Out Rs) : Ga → Sd → Out Rs := fun g s =>
  (it g s).bind fun xs g1 s1 => (lcL (lcTurn own tg c e) xs [] (wipeG g1 own) s1).bind fun ds g2 s2 => .ok (.nw ds) g2 s2
def sMth (m : Mt) (i : Nat) (as : Ga → Sd → Out (List D)) : Ga → Sd → Out Rs := fun g s => match g[i]? with
  | some (.ow _) => (as g s).bind fun ds g1 s1 => match g1[i]? with
    | some (.ow xs) => match mtF m xs ds with
      | some (d, ys) => .ok (.fz d) (g1.set i (.ow ys)) s1
      | none => .bad
    | _ => .bad
  | _ => .bad
def aCons (e : Ga → Sd → Out Rs) (as : Ga → Sd → Out (List D)) : Ga → Sd → Out (List D) := fun g s =>
  (e g s).keep.bind fun d g1 s1 => (as g1 s1).bind fun ds g2 s2 => .ok (d :: ds) g2 s2
def lCons (e : Ga → Sd → Out Rs) (as : Ga → Sd → Out (List Rs)) : Ga → Sd → Out (List Rs) := fun g s =>
  (e g s).settle.bind fun r g1 s1 => (as g1 s1).bind fun rs g2 s2 => .ok (r :: rs) g2 s2
def iSeqF (e : Ga → Sd → Out Rs) : Ga → Sd → Out (List D) := fun g s => (e g s).keep.bind fun d g1 s1 => optD (itemsOf d) g1 s1
def iRngF (fn : List D → Option (List D)) (as : Ga → Sd → Out (List D)) : Ga → Sd → Out (List D) := fun g s => (as g s).bind fun ds g1 s1 => optD (fn ds) g1 s1
def iEnumF (e : Ga → Sd → Out Rs) : Ga → Sd → Out (List D) := fun g s => (e g s).keep.bind fun d g1 s1 => optD (d.seq.map (enumD 0)) g1 s1
def zipF : List D → Option (List D)
  | [.lst xs, .lst ys] => some (zipD xs ys)
  | _ => none
def iZipF (as : Ga → Sd → Out (List D)) : Ga → Sd → Out (List D) := fun g s => (as g s).bind fun ds g1 s1 => optD (zipF ds) g1 s1
def asgTo (t : Tg) (r : Rs) (g : Ga) (s : Sd) : Out Flow := match t, r with
  | .nm i, .nw xs => if i < g.length then .ok .nx (g.set i (.ow xs)) s else .bad
  | .nm i, .nt o => if i < g.length then .ok .nx (g.set i (.ot o)) s else .bad
  | t, r => match DI.keep g r with
    | some (d, g1) => match bindT t d g1 with
      | some g2 => .ok .nx g2 s
      | none => .bad
    | none => .bad
def sAsg (t : Tg) (e : Ga → Sd → Out Rs) : Ga → Sd → Out Flow := fun g s => (e g s).bind fun r g1 s1 => asgTo t r g1 s1
def sSto (i : Nat) (k e : Ga → Sd → Out Rs) : Ga → Sd → Out Flow := fun g s =>
  (e g s).keep.bind fun d g1 s1 => match g1[i]? with
    | some (.ow _) => (k g1 s1).bind fun r g2 s2 => match r, g2[i]? with
      | .fz (.int j), some (.ow xs) => match ixN xs.length j with
        | some n => .ok .nx (g2.set i (.ow (xs.set n d))) s2
        | none => .bad
      | _, _ => .bad
    | _ => .bad
/-- a value on its way to a name: an own list just made stays so -/
def half (g : Ga) : Rs → Option (Rs × Ga)
  | .nw xs => some (.nw xs, g)
  | .nt o => some (.nt o, g)
  | r => match DI.keep g r with
    | some (d, g') => some (.fz d, g')
    | none => none
def halved (s : Sd) : Option (Rs × Ga) → Out Rs
  | some (r, g) => .ok r g s
  | none => .bad
def sHalf (e : Ga → Sd → Out Rs) : Ga → Sd → Out Rs := fun g s => (e g s).bind fun r g1 s1 => halved s1 (half g1 r)
def pCons (e : Ga → Sd → Out Rs) (as : Ga → Sd → Out (List Rs)) : Ga → Sd → Out (List Rs) := fun g s =>
  (sHalf e g s).bind fun r g1 s1 => (as g1 s1).bind fun rs g2 s2 => .ok (r :: rs) g2 s2
def putAll : List Nat → List Rs → Ga → Option Ga
  | [], [], g => some g
  | i :: is, .nw xs :: rs, g => if i < g.length then putAll is rs (g.set i (.ow xs)) else none
  | i :: is, .nt o :: rs, g => if i < g.length then putAll is rs (g.set i (.ot o)) else none
  | i :: is, .fz d :: rs, g => if i < g.length then putAll is rs (g.set i (.fz d)) else none
  | _, _, _ => none
def sPar (is : List Nat) (as : Ga → Sd → Out (List Rs)) : Ga → Sd → Out Flow := fun g s => (as g s).bind fun rs g1 s1 => match putAll is rs g1 with
  | some g2 => .ok .nx g2 s1
  | none => .bad
/-- a value as a thing of one's own -/
def Rs.o : Rs → Option O
  | .fz d => some (.fz d)
  | .nw xs => some (.lst (xs.map .fz))
  | .nt o => some o
  | .sl _ => none
def rsO : List Rs → Option (List O)
  | [] => some []
  | r :: rs => match r.o, rsO rs with
    | some o, some os => some (o :: os)
    | _, _ => none
/-- (a, b, ..), what is a part's own stays so -/
def sTupT (as : Ga → Sd → Out (List Rs)) : Ga → Sd → Out Rs := fun g s => (as g s).bind fun rs g1 s1 => if lineOk rs.length then (match rsO rs with
  | some os => .ok (.nt (.tup os)) g1 s1
  | none => .bad) else .bad
/-- [a, b, ..], what is a part's own stays so -/
def sLstT (as : Ga → Sd → Out (List Rs)) : Ga → Sd → Out Rs := fun g s => (as g s).bind fun rs g1 s1 => if lineOk rs.length then (match rsO rs with
  | some os => .ok (.nt (.lst os)) g1 s1
  | none => .bad) else .bad
/-- a name read for the last time: what is its own goes along -/
def sMvS (i : Nat) (g : Ga) (s : Sd) : Option Sl → Out Rs
  | some (.fz d) => .ok (.fz d) g s
  | some (.ow xs) => .ok (.nw xs) (g.set i .un) s
  | some (.ot o) => .ok (.nt o) (g.set i .un) s
  | _ => .bad
def sMv (i : Nat) : Ga → Sd → Out Rs := fun g s => sMvS i g s g[i]?
def sExp (e : Ga → Sd → Out Rs) : Ga → Sd → Out Flow := fun g s => (e g s).settle.bind fun _ g1 s1 => .ok .nx g1 s1
def sRet (e : Ga → Sd → Out Rs) : Ga → Sd → Out Flow := fun g s => (e g s).bind fun r g1 s1 => .ok (.ret r) g1 s1
def sIff (c : Ga → Sd → Out Bool) (t e : Ga → Sd → Out Flow) : Ga → Sd → Out Flow := fun g s => (c g s).bind fun k g1 s1 => match k with
  | true => t g1 s1
  | false => e g1 s1
def forTurn (tg : Tg) (b : Ga → Sd → Out Flow) (x : D) (g : Ga) (s : Sd) : Out Flow := match bindT tg x g with
  | some g2 => b g2 s
  | none => .bad
def sFor (tg : Tg) (it : Ga → Sd → Out (List D)) (b : Ga → Sd → Out Flow) : Ga → Sd → Out Flow := fun g s =>
  (it g s).bind fun xs g1 s1 => forL (forTurn tg b) xs g1 s1
def sRais (c : Nat) (e : Ga → Sd → Out Rs) : Ga → Sd → Out Flow := fun g s => (e g s).keep.bind fun d g1 s1 => .ex c d g1 s1
def sSeq (a b : Ga → Sd → Out Flow) : Ga → Sd → Out Flow := fun g s => (a g s).bind fun f g1 s1 => match f with
  | .nx => b g1 s1
  | f => .ok f g1 s1

def ev : T → Sm
  | .var i => mkE (sVar i)
  | .con d => mkE fun g s => .ok (.fz d) g s
  | .gl k => mkE (sGl glob k)
  | .bin o a b => mkE (sTwo (binF o) (ev a).e (ev b).e)
  | .cmp o a b => mkE (sTwo (fun x y => (cmpF o x y).map fun k => .fz (.bl k)) (ev a).e (ev b).e)
  | .neg a => mkE (sOne negF (ev a).e)
  | .not a => mkT (sOne notF (ev a).e) (tNotF (ev a).t)
  | .and a b => mkT (sAnd (ev a).e (ev b).e) (tAndF (ev a).t (ev b).t)
  | .or a b => mkT (sOr (ev a).e (ev b).e) (tOrF (ev a).t (ev b).t)
  | .ite c a b => mkE (sIte (ev c).t (ev a).e (ev b).e)
  | .call f as => mkE (sCall (call1 φ f) (ev as).a)
  | .callK f ks as => mkE (sCall (fun ds => call1 φ f (perm ks ds)) (ev as).a)
  | .bi b as => mkE (sBi (biF b) (ev as).l)
  | .isi tys a => mkE (sOne (isiF tys) (ev a).e)
  | .sub a i => mkE (sTwo (fun x y => (subF x y).map .fz) (ev a).e (ev i).e)
  | .slc a lo hi => mkE (sSlc (ev a).e (ev lo).p (ev hi).p)
  | .lst es => mkE (sLst (ev es).a)
  | .tup es => mkE (sTup (ev es).a)
  | .dic0 => mkE fun g s => .ok (.fz (.dic [])) g s
  | .lc own it tg c e => mkE (sLc own (ev it).i tg (ev c).c (ev e).e)
  | .mth m i as => mkE (sMth m i (ev as).a)
  | .fld _ => mkE noX
  | .nil => ⟨noX, noX, noX, fun g s => .ok [] g s, fun g s => .ok [] g s, noX, noX, noX⟩
  | .cons e es => ⟨noX, noX, noX, aCons (ev e).e (ev es).a, lCons (ev e).e (ev es).l, noX, noX, noX⟩
  | .none => ⟨noX, noX, fun g s => .ok true g s, noX, noX, fun g s => .ok none g s, noX, noX⟩
  | .iSeq e => mkI (iSeqF (ev e).e)
  | .iRng1 as => mkI (iRngF rngF1 (ev as).a)
  | .iRng2 as => mkI (iRngF rngF2 (ev as).a)
  | .iEnum e => mkI (iEnumF (ev e).e)
  | .iZip as => mkI (iZipF (ev as).a)
  | .asg t e => mkS (sAsg t (ev e).e)
  | .par _ _ => mkS noX
  | .sto i k e => mkS (sSto i (ev k).e (ev e).e)
  | .exp e => mkS (sExp (ev e).e)
  | .ret e => mkS (sRet (ev e).e)
  | .iff c t e => mkS (sIff (ev c).t (ev t).s (ev e).s)
  | .for_ tg it b => mkS (sFor tg (ev it).i (ev b).s)
  | .whl c b => mkS (whlL (ev c).t (ev b).s fuel)
  | .brk => mkS fun g s => .ok .brk g s
  | .cnt => mkS fun g s => .ok .cnt g s
  | .pass => mkS fun g s => .ok .nx g s
  | .rais c e => mkS (sRais c (ev e).e)
  | .try1 _ _ _ _ => mkS noX
  | .seq a b => mkS (sSeq (ev a).s (ev b).s)
  | .done => mkS fun g s => .ok .nx g s
end
end DI
end
section
set_option Elab.async false
set_option linter.all false
set_option maxRecDepth 100000
set_option maxHeartbeats 1000000
/-! DIRel: what data stands for over a heap; the state of a running def. -/
namespace DI
open PySem L2
open Classical in
/-- the heap without what may change -/
noncomputable def hid (H : Hp) (M : Addr → Prop) : Hp := fun b => if M b then none else H b
theorem hid_some {H : Hp} {M : Addr → Prop} {b : Addr} {o : HO} (h : hid H M b = some o) : ¬ M b ∧ H b = some o := by
  unfold hid at h
  by_cases m : M b
  · rw [if_pos m] at h; cases h
  · rw [if_neg m] at h; exact ⟨m, h⟩
theorem hid_of {H : Hp} {M : Addr → Prop} {b : Addr} (m : ¬ M b) : hid H M b = H b := by unfold hid; rw [if_neg m]
/-- a table of code: it may grow whenever -/
def isTbl : HO → Bool
  | .tbl _ => true
  | _ => false
/-- nothing but, maybe, a table -/
def Vac (H : Hp) (b : Addr) : Prop := ∀ o, H b = some o → isTbl o = true
theorem Vac.of {H : Hp} {b : Addr} (h : H b = none) : Vac H b := fun o e => by rw [h] at e; cases e
theorem Vac.no {H : Hp} {b : Addr} (h : Vac H b) {o : HO} (e : H b = some o) (t : isTbl o = false) : False := by have := h o e; rw [t] at this; cases this
/-- all that stands in G stands in H -/
def Ex (G H : Hp) : Prop := ∀ b o, G b = some o → isTbl o = false → H b = some o
theorem Ex.refl (H : Hp) : Ex H H := fun _ _ h _ => h
theorem Ex.trans {A B C : Hp} (h : Ex A B) (k : Ex B C) : Ex A C := fun b o e t => k b o (h b o e t) t
theorem hid_ex (H : Hp) (M : Addr → Prop) : Ex (hid H M) H := fun _ _ h _ => (hid_some h).2
/-- from heap to heap, what may change turning -/
theorem Ex.hidE {H H' : Hp} {M M' : Addr → Prop} (h : ∀ b o, ¬ M b → H b = some o → isTbl o = false → ¬ M' b ∧ H' b = some o) : Ex (hid H M) (hid H' M') := fun b o e t => by
  obtain ⟨m, e⟩ := hid_some e
  obtain ⟨m', e'⟩ := h b o m e t
  rw [hid_of m']; exact e'
theorem Ex.of_hid {H H' : Hp} {M M' : Addr → Prop} (x : Ex (DI.hid H M) (DI.hid H' M')) {b : Addr} {o : HO} (m : ¬ M b) (e : H b = some o) (t : isTbl o = false := by rfl) : ¬ M' b ∧ H' b = some o :=
  hid_some (x b o (by rw [hid_of m]; exact e) t)
theorem Ex.tup {G H : Hp} (x : Ex G H) {a : Addr} {xs : List V} (h : Rd G a (.tup xs)) : Rd H a (.tup xs) := by
  rcases h with h | ⟨o, h⟩
  · exact .inl (x _ _ h rfl)
  · exact .inr ⟨o, x _ _ h rfl⟩
theorem Ex.sqT {K : PySem.W.Frag} {G H : Hp} (x : Ex G H) {a : Addr} {xs : List V} (h : SqT K G a xs) : SqT K H a xs := by
  rcases h with h | h
  · exact .inl (x.tup h)
  · exact .inr h

mutual
/-- the value stands for the data -/
inductive Rp (K : PySem.W.Frag) (c : Addr) (H : Hp) : V → D → Prop
  | non : Rp K c H .non .non
  | bl (b : Bool) : Rp K c H (.bl b) (.bl b)
  | int (i : Int) : Rp K c H (.int i) (.int i)
  | str (x : Str) : Rp K c H (.str x) (.str x)
  | lst {a : Addr} {vs : List V} {ds : List D} : H a = some (.lst vs) → RpL K c H vs ds → Rp K c H (.ref a) (.lst ds)
  | tup {a : Addr} {vs : List V} {ds : List D} : SqT K H a vs → RpL K c H vs ds → Rp K c H (.ref a) (.tup ds)
  | dic {a : Addr} {kvs : List (Key × V)} {ks : List (Key × D)} : H a = some (.dK kvs) → RpK K c H kvs ks → Rp K c H (.ref a) (.dic ks)
  | strm : Rp K c H (.ref c) .strm
inductive RpL (K : PySem.W.Frag) (c : Addr) (H : Hp) : List V → List D → Prop
  | nil : RpL K c H [] []
  | cons {v : V} {vs : List V} {d : D} {ds : List D} : Rp K c H v d → RpL K c H vs ds → RpL K c H (v :: vs) (d :: ds)
inductive RpK (K : PySem.W.Frag) (c : Addr) (H : Hp) : List (Key × V) → List (Key × D) → Prop
  | nil : RpK K c H [] []
  | cons {k : Key} {v : V} {vs : List (Key × V)} {d : D} {ds : List (Key × D)} : Rp K c H v d → RpK K c H vs ds → RpK K c H ((k, v) :: vs) ((k, d) :: ds)
end
section
variable {K : PySem.W.Frag} {c : Addr} {G H : Hp}
mutual
theorem Rp.mono (x : Ex G H) : ∀ {v : V} {d : D}, Rp K c G v d → Rp K c H v d
  | _, _, .non => .non
  | _, _, .bl b => .bl b
  | _, _, .int i => .int i
  | _, _, .str s => .str s
  | _, _, .lst h l => .lst (x _ _ h rfl) (RpL.mono x l)
  | _, _, .tup h l => .tup (x.sqT h) (RpL.mono x l)
  | _, _, .dic h l => .dic (x _ _ h rfl) (RpK.mono x l)
  | _, _, .strm => .strm
theorem RpL.mono (x : Ex G H) : ∀ {v : List V} {d : List D}, RpL K c G v d → RpL K c H v d
  | _, _, .nil => .nil
  | _, _, .cons h t => .cons (Rp.mono x h) (RpL.mono x t)
theorem RpK.mono (x : Ex G H) : ∀ {v : List (Key × V)} {d : List (Key × D)}, RpK K c G v d → RpK K c H v d
  | _, _, .nil => .nil
  | _, _, .cons h t => .cons (Rp.mono x h) (RpK.mono x t)
end
theorem RpL.length : ∀ {vs : List V} {ds : List D}, RpL K c H vs ds → vs.length = ds.length
  | _, _, .nil => rfl
  | _, _, .cons _ t => by rw [List.length_cons, List.length_cons, RpL.length t]
theorem RpL.get : ∀ {vs : List V} {ds : List D} {i : Nat} {d : D}, RpL K c H vs ds → ds[i]? = some d → ∃ v, vs[i]? = some v ∧ Rp K c H v d
  | _, _, i, _, .nil, e => by simp at e
  | _, _, 0, _, .cons h _, e => by simp at e; subst e; exact ⟨_, by simp, h⟩
  | _, _, i + 1, d, .cons _ t, e => by
    obtain ⟨v, h1, h2⟩ := RpL.get (i := i) (d := d) t (by simpa using e)
    exact ⟨v, by simpa using h1, h2⟩
theorem RpL.get' : ∀ {vs : List V} {ds : List D} {i : Nat} {v : V}, RpL K c H vs ds → vs[i]? = some v → ∃ d, ds[i]? = some d ∧ Rp K c H v d
  | _, _, i, _, .nil, e => by simp at e
  | _, _, 0, _, .cons h _, e => by simp at e; subst e; exact ⟨_, by simp, h⟩
  | _, _, i + 1, d, .cons _ t, e => by
    obtain ⟨v, h1, h2⟩ := RpL.get' (i := i) (v := d) t (by simpa using e)
    exact ⟨v, by simpa using h1, h2⟩
theorem RpL.append : ∀ {vs ws : List V} {ds es : List D}, RpL K c H vs ds → RpL K c H ws es → RpL K c H (vs ++ ws) (ds ++ es)
  | _, _, _, _, .nil, s => s
  | _, _, _, _, .cons h t, s => .cons h (RpL.append t s)
theorem RpL.take : ∀ {vs : List V} {ds : List D} (n : Nat), RpL K c H vs ds → RpL K c H (vs.take n) (ds.take n)
  | _, _, 0, _ => .nil
  | _, _, _ + 1, .nil => .nil
  | _, _, n + 1, .cons h t => .cons h (RpL.take n t)
theorem RpL.drop : ∀ {vs : List V} {ds : List D} (n : Nat), RpL K c H vs ds → RpL K c H (vs.drop n) (ds.drop n)
  | _, _, 0, r => r
  | _, _, _ + 1, .nil => .nil
  | _, _, n + 1, .cons _ t => RpL.drop n t
theorem RpL.set {v : V} {d : D} (r : Rp K c H v d) : ∀ {vs : List V} {ds : List D} (i : Nat), RpL K c H vs ds → RpL K c H (vs.set i v) (ds.set i d)
  | _, _, _, .nil => .nil
  | _, _, 0, .cons _ t => .cons r t
  | _, _, i + 1, .cons q t => .cons q (RpL.set r i t)
theorem RpL.erase : ∀ {vs : List V} {ds : List D} (i : Nat), RpL K c H vs ds → RpL K c H (vs.eraseIdx i) (ds.eraseIdx i)
  | _, _, _, .nil => .nil
  | _, _, 0, .cons _ t => t
  | _, _, i + 1, .cons q t => .cons q (RpL.erase i t)
theorem RpL.dropLast : ∀ {vs : List V} {ds : List D}, RpL K c H vs ds → RpL K c H vs.dropLast ds.dropLast
  | _, _, .nil => .nil
  | _, _, .cons h .nil => .nil
  | _, _, .cons h (.cons h' t) => .cons h (RpL.dropLast (.cons h' t))
theorem RpL.rep {vs : List V} {ds : List D} (h : RpL K c H vs ds) : ∀ k : Nat, RpL K c H (List.replicate k vs).flatten (List.replicate k ds).flatten
  | 0 => .nil
  | k + 1 => by
    rw [List.replicate_succ, List.replicate_succ, List.flatten_cons, List.flatten_cons]
    exact RpL.append h (RpL.rep h k)
theorem RpL.cut {vs : List V} {ds : List D} (h : RpL K c H vs ds) (lo hi : Option Int) : RpL K c H (cutV vs lo hi) (cutL ds lo hi) := by
  unfold cutV cutL
  rw [h.length]
  exact (h.drop _).take _
theorem RpL.snoc {vs : List V} {ds : List D} {v : V} {d : D} (h : RpL K c H vs ds) (r : Rp K c H v d) : RpL K c H (vs ++ [v]) (ds ++ [d]) := h.append (.cons r .nil)

/-! the model's own data -/
mutual
theorem Rp.dp : ∀ {v : V} {d : D} {p : PyData}, Rp K c H v d → d.pd = some p → Dp K H v p
  | _, _, _, .non, e => by unfold D.pd at e; cases e; exact .non
  | _, _, _, .bl b, e => by unfold D.pd at e; cases e; exact .bl b
  | _, _, _, .int b, e => by unfold D.pd at e; cases e; exact .int b
  | _, _, _, .str b, e => by unfold D.pd at e; cases e; exact .str b
  | _, _, _, .lst (ds := ds) h l, e => by
    unfold D.pd at e
    cases q : D.pdAll ds with
    | none => rw [q] at e; cases e
    | some ps => rw [q] at e; cases e; exact .lst (.inl (.inl h)) (RpL.dp l q)
  | _, _, _, .tup (ds := ds) h l, e => by
    unfold D.pd at e
    cases q : D.pdAll ds with
    | none => rw [q] at e; cases e
    | some ps => rw [q] at e; cases e; exact .tup h (RpL.dp l q)
  | _, _, _, .dic _ _, e => by unfold D.pd at e; cases e
  | _, _, _, .strm, e => by unfold D.pd at e; cases e
theorem RpL.dp : ∀ {vs : List V} {ds : List D} {ps : List PyData}, RpL K c H vs ds → D.pdAll ds = some ps → DpAll K H vs ps
  | _, _, _, .nil, e => by unfold D.pdAll at e; cases e; exact .nil
  | _, _, _, .cons (d := d) (ds := ds) h t, e => by
    unfold D.pdAll at e
    cases q : d.pd with
    | none => rw [q] at e; cases e
    | some p =>
      rw [q] at e
      cases q2 : D.pdAll ds with
      | none => rw [q2] at e; cases e
      | some ps => rw [q2] at e; cases e; exact .cons (Rp.dp h q) (RpL.dp t q2)
end
theorem RpL.bools : ∀ {vs : List V} {ds : List D} {bs : List Bool}, RpL K c H vs ds → DI.bools ds = some bs → vs = bs.map V.bl
  | _, _, _, .nil, e => by cases e; rfl
  | _, _, bs, .cons (d := d) (ds := ds) h t, e => by
    cases h with
    | bl b =>
      unfold DI.bools at e
      cases q : DI.bools ds with
      | none => rw [q] at e; cases e
      | some r =>
        rw [q] at e
        cases e
        rw [List.map_cons, RpL.bools t q]
    | _ => cases e
end

/-- the spring of draws as it stands: a list at c whose first item is the list of cells at k -/
def Strm (H : Hp) (c k : Addr) (s : Sd) : Prop := c ≠ k ∧ H c = some (.lst [.ref k, .int s.big, .int s.cnt, .int s.mix]) ∧ H k = some (.lst (s.cells.map V.int))

/-- what stays through the whole run: the written part, the spring's places, the classes of errors: where each stands, its field; tables of code -/
structure Fx where
  K : PySem.W.Frag
  c : Addr
  k : Addr
  cls : Nat → Option (Addr × Str)
  T : List (Addr × Str)
/-- places that change under way -/
def Fx.ch (F : Fx) (b : Addr) : Prop := b = F.c ∨ b = F.k
theorem Fx.chc (F : Fx) : F.ch F.c := .inl rfl
theorem Fx.chk (F : Fx) : F.ch F.k := .inr rfl
/-- what stands at those places -/
def Wd (F : Fx) (H : Hp) (s : Sd) : Prop := Strm H F.c F.k s ∧ LamX.Tabs F.T H
/-- things that are written -/
def soft : HO → Bool
  | .lst _ => true
  | .dK _ => true
  | .dT _ => true
  | .ins _ _ _ => true
  | .set _ _ => true
  | _ => false
theorem tabs_keep {T : List (Addr × Str)} {H H' : Hp} (t : LamX.Tabs T H) (e : ∀ b o, H b = some o → soft o = false → H' b = some o) : LamX.Tabs T H' := fun p hp => by
  obtain ⟨ps, h1, h2, h3⟩ := t p hp
  refine ⟨ps, e _ _ h1 rfl, h2, fun pos cv hc => ?_⟩
  obtain ⟨c, e1, e2⟩ := h3 pos cv hc
  exact ⟨c, e1, e _ _ e2 (by unfold LamX.CodeO; rfl)⟩
theorem tabs_upd {T : List (Addr × Str)} {H : Hp} (t : LamX.Tabs T H) {a : Addr} {u : HO} (h : H a = some u) (hs : soft u = true) (o : HO) : LamX.Tabs T (upd H a o) := tabs_keep t fun b v e n => by
  rw [upd_ne (fun z => by subst z; rw [h] at e; cases e; rw [hs] at n; cases n)]; exact e
theorem Wd.at {F : Fx} {H : Hp} {s : Sd} (w : Wd F H s) {b : Addr} (h : F.ch b) : H b ≠ none := by
  rcases h with rfl | rfl
  · rw [w.1.2.1]; exact fun z => by cases z
  · rw [w.1.2.2]; exact fun z => by cases z
theorem soft_no {o : HO} (h : soft o = true) : isTbl o = false := by cases o <;> first | rfl | cases h
/-- a new object, or a soft thing at no such place, written -/
theorem Wd.upd {F : Fx} {H : Hp} {s : Sd} (w : Wd F H s) {a : Addr} (n : ¬ F.ch a) (h : H a = none ∨ ∃ u, H a = some u ∧ soft u = true) (o : HO) : Wd F (upd H a o) s := by
  have n1 : F.c ≠ a := fun z => n (z ▸ F.chc)
  have n2 : F.k ≠ a := fun z => n (z ▸ F.chk)
  refine ⟨⟨w.1.1, by rw [upd_ne n1]; exact w.1.2.1, by rw [upd_ne n2]; exact w.1.2.2⟩, ?_⟩
  rcases h with h | ⟨u, h, hs⟩
  · exact tabs_keep w.2 fun b u e _ => by rw [upd_ne (ne_of_none e h)]; exact e
  · exact tabs_upd w.2 h hs o

/-! ### things of one's own -/
def itemsH (H : Hp) (a : Addr) : List V := match H a with
  | some (.lst vs) => vs
  | some (.tup vs) => vs
  | _ => []
def refA : V → Option Addr
  | .ref a => some a
  | _ => none
/-! the lists that make it up -/
mutual
def fp (H : Hp) : O → V → List Addr
  | .fz _, _ => []
  | .lst os, v => match refA v with
    | some a => a :: fpL H os (itemsH H a)
    | none => []
  | .tup os, v => match refA v with
    | some a => fpL H os (itemsH H a)
    | none => []
def fpL (H : Hp) : List O → List V → List Addr
  | [], _ => []
  | o :: os, vs => match vs with
    | [] => []
    | v :: vs => fp H o v ++ fpL H os vs
end
theorem fpL_fz (H : Hp) : ∀ (ds : List D) (vs : List V), fpL H (ds.map .fz) vs = []
  | [], _ => rfl
  | _ :: _, [] => rfl
  | d :: ds, v :: vs => by
    show [] ++ fpL H (ds.map .fz) vs = []
    rw [fpL_fz H ds vs]; rfl
mutual
/-- the value is such a thing -/
inductive Ro (K : PySem.W.Frag) (c : Addr) (H : Hp) (M : Addr → Prop) : V → O → Prop
  | fz {v : V} {d : D} : Rp K c (hid H M) v d → Ro K c H M v (.fz d)
  | lst {a : Addr} {vs : List V} {os : List O} : H a = some (.lst vs) → RoL K c H M vs os → Ro K c H M (.ref a) (.lst os)
  | tup {a : Addr} {vs : List V} {os : List O} : hid H M a = some (.tup vs) → RoL K c H M vs os → Ro K c H M (.ref a) (.tup os)
inductive RoL (K : PySem.W.Frag) (c : Addr) (H : Hp) (M : Addr → Prop) : List V → List O → Prop
  | nil : RoL K c H M [] []
  | cons {v : V} {vs : List V} {o : O} {os : List O} : Ro K c H M v o → RoL K c H M vs os → RoL K c H M (v :: vs) (o :: os)
end
section
variable {K : PySem.W.Frag} {c : Addr} {H H' : Hp} {M M' : Addr → Prop}
theorem fp_lst {a : Addr} {vs : List V} (os : List O) (h : H a = some (.lst vs)) : fp H (.lst os) (.ref a) = a :: fpL H os vs := by
  show a :: fpL H os (itemsH H a) = _
  unfold itemsH; rw [h]
theorem fp_tup {a : Addr} {vs : List V} (os : List O) (h : H a = some (.tup vs)) : fp H (.tup os) (.ref a) = fpL H os vs := by
  show fpL H os (itemsH H a) = _
  unfold itemsH; rw [h]
theorem fp_flat {a : Addr} (xs : List D) : fp H (.lst (xs.map .fz)) (.ref a) = [a] := by
  show a :: fpL H (xs.map .fz) (itemsH H a) = _
  rw [fpL_fz]
mutual
theorem Ro.mono (x : Ex (hid H M) (hid H' M')) : ∀ {v : V} {o : O}, Ro K c H M v o → (∀ a ∈ fp H o v, H' a = H a) → Ro K c H' M' v o ∧ fp H' o v = fp H o v
  | _, _, .fz r, _ => ⟨.fz (r.mono x), rfl⟩
  | _, _, .lst (a := a) (os := os) h l, k => by
    rw [fp_lst os h] at k
    have h' : H' a = some (.lst _) := (k a List.mem_cons_self).trans h
    obtain ⟨l', e⟩ := RoL.mono x l fun b hb => k b (List.mem_cons_of_mem _ hb)
    exact ⟨.lst h' l', by rw [fp_lst os h, fp_lst os h', e]⟩
  | _, _, .tup (a := a) (os := os) h l, k => by
    rw [fp_tup os (hid_some h).2] at k
    obtain ⟨l', e⟩ := RoL.mono x l k
    exact ⟨.tup (x _ _ h rfl) l', by rw [fp_tup os (hid_some h).2, fp_tup os (hid_some (x _ _ h rfl)).2, e]⟩
theorem RoL.mono (x : Ex (hid H M) (hid H' M')) : ∀ {vs : List V} {os : List O}, RoL K c H M vs os → (∀ a ∈ fpL H os vs, H' a = H a) → RoL K c H' M' vs os ∧ fpL H' os vs = fpL H os vs
  | _, _, .nil, _ => ⟨.nil, rfl⟩
  | _, _, .cons (v := v) (vs := vs) (o := o) (os := os) r l, k => by
    have k : ∀ a ∈ fp H o v ++ fpL H os vs, H' a = H a := k
    obtain ⟨r', e1⟩ := Ro.mono x r fun a ha => k a (List.mem_append_left _ ha)
    obtain ⟨l', e2⟩ := RoL.mono x l fun a ha => k a (List.mem_append_right _ ha)
    refine ⟨.cons r' l', ?_⟩
    show fp H' o v ++ fpL H' os vs = fp H o v ++ fpL H os vs
    rw [e1, e2]
end
/-! let go, it is data -/
mutual
theorem Ro.data (x : Ex (hid H M) (hid H M')) : ∀ {v : V} {o : O}, Ro K c H M v o → (∀ a ∈ fp H o v, ¬ M' a) → Rp K c (hid H M') v o.d
  | _, _, .fz r, _ => r.mono x
  | _, _, .lst (a := a) (os := os) h l, k => by
    rw [fp_lst os h] at k
    exact .lst (by rw [hid_of (k a List.mem_cons_self)]; exact h) (RoL.data x l fun b hb => k b (List.mem_cons_of_mem _ hb))
  | _, _, .tup (a := a) (os := os) h l, k => by
    rw [fp_tup os (hid_some h).2] at k
    exact .tup (SqT.of (x _ _ h rfl)) (RoL.data x l k)
theorem RoL.data (x : Ex (hid H M) (hid H M')) : ∀ {vs : List V} {os : List O}, RoL K c H M vs os → (∀ a ∈ fpL H os vs, ¬ M' a) → RpL K c (hid H M') vs (O.ds os)
  | _, _, .nil, _ => .nil
  | _, _, .cons (v := v) (vs := vs) (o := o) (os := os) r l, k => by
    have k : ∀ a ∈ fp H o v ++ fpL H os vs, ¬ M' a := k
    exact .cons (Ro.data x r fun a ha => k a (List.mem_append_left _ ha)) (RoL.data x l fun a ha => k a (List.mem_append_right _ ha))
end
mutual
theorem Ro.rp : ∀ {v : V} {o : O}, Ro K c H M v o → Rp K c H v o.d
  | _, _, .fz r => r.mono (hid_ex H M)
  | _, _, .lst h l => .lst h (RoL.rp l)
  | _, _, .tup h l => .tup (SqT.of (hid_ex H M _ _ h rfl)) (RoL.rp l)
theorem RoL.rp : ∀ {vs : List V} {os : List O}, RoL K c H M vs os → RpL K c H vs (O.ds os)
  | _, _, .nil => .nil
  | _, _, .cons r l => .cons (Ro.rp r) (RoL.rp l)
end
theorem RoL.of_fz : ∀ {vs : List V} {ds : List D}, RpL K c (hid H M) vs ds → RoL K c H M vs (ds.map .fz)
  | _, _, .nil => .nil
  | _, _, .cons r l => .cons (.fz r) (RoL.of_fz l)
theorem RoL.fz : ∀ {vs : List V} {ds : List D}, RoL K c H M vs (ds.map .fz) → RpL K c (hid H M) vs ds
  | [], [], _ => .nil
  | _ :: _, [], h => by cases h
  | [], _ :: _, h => by cases h
  | v :: vs, d :: ds, h => by
    cases h with
    | cons r l => cases r with
      | fz r => exact .cons r (RoL.fz l)
theorem RoL.length : ∀ {vs : List V} {os : List O}, RoL K c H M vs os → vs.length = os.length
  | _, _, .nil => rfl
  | _, _, .cons _ t => by rw [List.length_cons, List.length_cons, RoL.length t]
end
theorem ds_map : ∀ xs : List D, O.ds (xs.map .fz) = xs
  | [] => rfl
  | x :: xs => by show x :: O.ds (xs.map .fz) = _; rw [ds_map xs]
/-- the lists of a slot's own -/
def footO (H : Hp) : Option Sl → Option (Option V) → List Addr
  | some l, some (some v) => match l.tr with
    | some o => fp H o v
    | none => []
  | _, _ => []
def foot (σ : St) (H : Hp) (g : Ga) (i : Nat) : List Addr := footO H g[i]? σ[i]?
theorem foot_of {σ : St} {H : Hp} {g : Ga} {i : Nat} {l : Sl} {o : O} {v : V} (h : g[i]? = some l) (t : l.tr = some o) (e : σ[i]? = some (some v)) : foot σ H g i = fp H o v := by
  unfold foot
  rw [h, e]
  show (match l.tr with | some o => fp H o v | none => []) = _
  rw [t]
theorem foot_none {σ : St} {H : Hp} {g : Ga} {i : Nat} (h : ∀ l, g[i]? = some l → l.tr = none) : foot σ H g i = [] := by
  unfold foot
  cases e : g[i]? with
  | none => rfl
  | some l =>
    have t := h l e
    cases σ[i]? with
    | none => rfl
    | some x =>
      cases x with
      | none => rfl
      | some v =>
        show (match l.tr with | some o => fp H o v | none => []) = _
        rw [t]
/-- no slot's own -/
def NoS (σ : St) (H : Hp) (g : Ga) (a : Addr) : Prop := ∀ i, a ∉ foot σ H g i

/-- where one began: the heap, what could change then -/
structure Par (F : Fx) where
  H0 : Hp
  M0 : Addr → Prop
  m0 : ∀ b, F.ch b → M0 b
abbrev Par.K {F : Fx} (_ : Par F) : PySem.W.Frag := F.K
abbrev Par.c {F : Fx} (_ : Par F) : Addr := F.c
abbrev Par.k {F : Fx} (_ : Par F) : Addr := F.k
abbrev Par.cls {F : Fx} (_ : Par F) : Nat → Option (Addr × Str) := F.cls

structure En {F : Fx} (P : Par F) (σ : St) (H : Hp) (g : Ga) (s : Sd) (M : Addr → Prop) : Prop where
  len : σ.length = g.length
  fz : ∀ (i : Nat) (d : D), g[i]? = some (.fz d) → ∃ v, σ[i]? = some (some v) ∧ Rp P.K P.c (hid H M) v d
  ot : ∀ (i : Nat) (l : Sl) (o : O), g[i]? = some l → l.tr = some o → ∃ v, σ[i]? = some (some v) ∧ Ro P.K P.c H M v o
  nd : ∀ i, (foot σ H g i).Nodup
  dj : ∀ i j a, i ≠ j → a ∈ foot σ H g i → a ∈ foot σ H g j → False
  hm : ∀ i a, a ∈ foot σ H g i → M a ∧ ¬ P.M0 a
  wd : Wd F H s
  m0 : ∀ a, P.M0 a → M a
  al : ∀ a, M a → ∃ o, H a = some o ∧ isTbl o = false
  fr : ∀ b o, P.H0 b = some o → isTbl o = false → ¬ F.ch b → H b = some o
  nw : ∀ a, M a → ¬ P.M0 a → Vac P.H0 a

def RsR {F : Fx} (P : Par F) (σ : St) (H : Hp) (M : Addr → Prop) (g : Ga) (v : V) : Rs → Prop
  | .fz d => Rp P.K P.c (hid H M) v d
  | .nw xs => ∃ a vs, v = .ref a ∧ M a ∧ ¬ P.M0 a ∧ H a = some (.lst vs) ∧ RpL P.K P.c (hid H M) vs xs ∧ NoS σ H g a
  | .nt o => Ro P.K P.c H M v o ∧ (fp H o v).Nodup ∧ ∀ a ∈ fp H o v, M a ∧ ¬ P.M0 a ∧ NoS σ H g a
  | .sl i => σ[i]? = some (some v)
/-- an error that flies: its class, its own dict -/
def ExR {F : Fx} (P : Par F) (H : Hp) (M : Addr → Prop) (cv : Value) (dx : Option Addr) (c : Nat) (d : D) : Prop :=
  ∃ C f a v, P.cls c = some (C, f) ∧ cv = .ref C ∧ dx = some a ∧ H a = some (.xd [(f, v)]) ∧ ¬ M a ∧ Rp P.K P.c (hid H M) v d

section
variable {F : Fx} {P : Par F} {σ : St} {H H' : Hp} {g : Ga} {s s' : Sd} {M M' : Addr → Prop}
theorem En.ne (E : En P σ H g s M) {a : Addr} (m : M a) (h : H a = none) : False := by
  obtain ⟨o, e, _⟩ := E.al a m
  rw [h] at e; cases e
theorem En.stm (E : En P σ H g s M) : Strm H P.c P.k s := E.wd.1
theorem En.nch (_ : En P σ H g s M) {a : Addr} (h : ¬ P.M0 a) : ¬ F.ch a := fun z => h (P.m0 a z)
/-- a slot's own thing -/
theorem En.tree (E : En P σ H g s M) {i : Nat} {l : Sl} {o : O} (h : g[i]? = some l) (t : l.tr = some o) : ∃ v, σ[i]? = some (some v) ∧ Ro P.K P.c H M v o ∧ foot σ H g i = fp H o v ∧ (fp H o v).Nodup ∧ ∀ a ∈ fp H o v, M a ∧ ¬ P.M0 a := by
  obtain ⟨v, e, r⟩ := E.ot i l o h t
  have f := foot_of (H := H) h t e
  exact ⟨v, e, r, f, by rw [← f]; exact E.nd i, fun a ha => E.hm i a (by rw [f]; exact ha)⟩
/-- a slot's own list -/
theorem En.ow (E : En P σ H g s M) (i : Nat) (xs : List D) (h : g[i]? = some (.ow xs)) : ∃ a vs, σ[i]? = some (some (.ref a)) ∧ M a ∧ ¬ P.M0 a ∧ H a = some (.lst vs) ∧ RpL P.K P.c (hid H M) vs xs := by
  obtain ⟨v, e, r, f, n, m⟩ := E.tree h rfl
  cases r with
  | lst h1 l =>
    have q := m _ (by rw [fp_flat]; exact List.mem_singleton.mpr rfl)
    exact ⟨_, _, e, q.1, q.2, h1, l.fz⟩
theorem En.owf {i : Nat} {xs : List D} {a : Addr} (h : g[i]? = some (.ow xs)) (e : σ[i]? = some (some (.ref a))) : foot σ H g i = [a] := by
  rw [foot_of h rfl e, fp_flat]
/-- no slot's own: not where a slot's list stands -/
theorem NoS.ow {a : Addr} (n : NoS σ H g a) {j : Nat} {ys : List D} (h : g[j]? = some (.ow ys)) : σ[j]? ≠ some (some (.ref a)) := fun e => n j (by rw [En.owf h e]; exact List.mem_singleton.mpr rfl)
theorem En.no (E : En P σ H g s M) {a : Addr} (h : ¬ M a ∨ P.M0 a) : NoS σ H g a := fun i z => by
  have q := E.hm i a z
  exact h.elim (fun n => n q.1) q.2
/-- from heap to heap, the slots as they are -/
theorem En.to (E : En P σ H g s M) (x : Ex (hid H M) (hid H' M')) (hf : ∀ i a, a ∈ foot σ H g i → H' a = H a ∧ M' a) (wd : Wd F H' s') (m0 : ∀ a, P.M0 a → M' a) (al : ∀ a, M' a → ∃ o, H' a = some o ∧ isTbl o = false)
    (fr : ∀ b o, P.H0 b = some o → isTbl o = false → ¬ F.ch b → H' b = some o) (nw : ∀ a, M' a → ¬ P.M0 a → Vac P.H0 a) : En P σ H' g s' M' ∧ ∀ i, foot σ H' g i = foot σ H g i := by
  have key : ∀ (i : Nat) (l : Sl) (o : O), g[i]? = some l → l.tr = some o → ∃ v, σ[i]? = some (some v) ∧ Ro P.K P.c H' M' v o ∧ fp H' o v = fp H o v := fun i l o h t => by
    obtain ⟨v, e, r, f, _⟩ := E.tree h t
    obtain ⟨r', e'⟩ := r.mono x fun a ha => (hf i a (by rw [f]; exact ha)).1
    exact ⟨v, e, r', e'⟩
  have hft : ∀ i, foot σ H' g i = foot σ H g i := fun i => by
    cases q : g[i]? with
    | none => rw [foot_none (H := H) (fun l h => by rw [q] at h; cases h), foot_none (fun l h => by rw [q] at h; cases h)]
    | some l =>
      cases t : l.tr with
      | none => rw [foot_none (H := H) (fun l' h => by rw [q] at h; cases h; exact t), foot_none (fun l' h => by rw [q] at h; cases h; exact t)]
      | some o =>
        obtain ⟨v, e, _, e'⟩ := key i l o q t
        rw [foot_of q t e, foot_of q t e, e']
  refine ⟨⟨E.len, fun i d h => ?_, fun i l o h t => ?_, fun i => ?_, fun i j a n h1 h2 => ?_, fun i a h => ?_, wd, m0, al, fr, nw⟩, hft⟩
  · obtain ⟨v, h1, h2⟩ := E.fz i d h
    exact ⟨v, h1, h2.mono x⟩
  · obtain ⟨v, e, r, _⟩ := key i l o h t
    exact ⟨v, e, r⟩
  · rw [hft]; exact E.nd i
  · rw [hft] at h1 h2; exact E.dj i j a n h1 h2
  · rw [hft] at h; exact ⟨(hf i a h).2, (E.hm i a h).2⟩
/-- addresses that no slot owns are let go -/
theorem En.frees (E : En P σ H g s M) {A : Addr → Prop} (hA : ∀ a, A a → ¬ P.M0 a ∧ NoS σ H g a) :
    En P σ H g s (fun b => M b ∧ ¬ A b) ∧ Ex (hid H M) (hid H (fun b => M b ∧ ¬ A b)) := by
  have x : Ex (hid H M) (hid H (fun b => M b ∧ ¬ A b)) := Ex.hidE fun b o m e _ => ⟨fun z => m z.1, e⟩
  exact ⟨(E.to x (fun i a h => ⟨rfl, (E.hm i a h).1, fun z => (hA a z).2 i h⟩) E.wd (fun b m => ⟨E.m0 b m, fun z => (hA b z).1 m⟩) (fun b m => E.al b m.1) E.fr fun b m n => E.nw b m.1 n).1, x⟩
/-- an address that no slot owns is let go -/
theorem En.free (E : En P σ H g s M) {a : Addr} (n0 : ¬ P.M0 a) (no : NoS σ H g a) :
    En P σ H g s (fun b => M b ∧ b ≠ a) ∧ Ex (hid H M) (hid H (fun b => M b ∧ b ≠ a)) := E.frees (A := fun b => b = a) fun b z => by rw [z]; exact ⟨n0, no⟩
/-- a new object -/
theorem En.alloc (E : En P σ H g s M) {p : Addr} (hp : H p = none) (o : HO) : En P σ (upd H p o) g s M ∧ Ex (hid H M) (hid (upd H p o) M) ∧ ¬ M p := by
  have np : ¬ M p := fun m => E.ne m hp
  have k : ∀ b u, H b = some u → upd H p o b = some u := fun b u e => by rw [upd_ne (ne_of_none e hp)]; exact e
  have x : Ex (hid H M) (hid (upd H p o) M) := Ex.hidE fun b u m e _ => ⟨m, k b u e⟩
  refine ⟨(E.to x (fun i a h => ?_) (E.wd.upd (fun z => np (E.m0 p (P.m0 p z))) (.inl hp) o) E.m0 (fun a m => ?_) (fun b u e t n => k b u (E.fr b u e t n)) E.nw).1, x, np⟩
  · have m := (E.hm i a h).1
    exact ⟨upd_ne fun z => np (z ▸ m), m⟩
  · obtain ⟨u, e, t⟩ := E.al a m
    exact ⟨u, k a u e, t⟩
theorem En.h0 (E : En P σ H g s M) {p : Addr} (hp : Vac H p) (n : ¬ F.ch p) : Vac P.H0 p := fun o e => by
  cases t : isTbl o with
  | true => rfl
  | false => exact (hp.no (E.fr p o e t n) t).elim
/-- .. that may change from now on -/
theorem En.own (E : En P σ H g s M) {p : Addr} (hp : H p = none) (o : HO) (ho : isTbl o = false := by rfl) : En P σ (upd H p o) g s (fun b => M b ∨ b = p) ∧ Ex (hid H M) (hid (upd H p o) (fun b => M b ∨ b = p)) ∧
    NoS σ (upd H p o) g p ∧ ¬ P.M0 p ∧ Vac P.H0 p := by
  have np : ¬ M p := fun m => E.ne m hp
  have nc : ¬ F.ch p := fun z => np (E.m0 p (P.m0 p z))
  have k : ∀ b u, H b = some u → upd H p o b = some u := fun b u e => by rw [upd_ne (ne_of_none e hp)]; exact e
  have h0 := E.h0 (.of hp) nc
  have x : Ex (hid H M) (hid (upd H p o) (fun b => M b ∨ b = p)) := Ex.hidE fun b u m e _ => ⟨fun z => z.elim m (fun z => by rw [z, hp] at e; cases e), k b u e⟩
  have q := E.to x (s' := s) (fun i a h => by
    have m := (E.hm i a h).1
    exact ⟨upd_ne fun z => np (z ▸ m), .inl m⟩) (E.wd.upd nc (.inl hp) o) (fun a m => .inl (E.m0 a m)) (fun a m => by
    rcases m with m | rfl
    · obtain ⟨u, e, t⟩ := E.al a m
      exact ⟨u, k a u e, t⟩
    · exact ⟨o, upd_same, ho⟩) (fun b u e t n => k b u (E.fr b u e t n)) (fun a m n => m.elim (fun m => E.nw a m n) fun z => by rw [z]; exact h0)
  exact ⟨q.1, x, fun i z => by rw [q.2] at z; exact np (E.hm i p z).1, fun m => np (E.m0 p m), h0⟩
theorem foot_set_ne {l : Sl} {x : Option V} {i j : Nat} (h : j ≠ i) : foot (σ.set i x) H (g.set i l) j = foot σ H g j := by
  unfold foot
  rw [List.getElem?_set_ne (Ne.symm h), List.getElem?_set_ne (Ne.symm h)]
theorem foot_set_ne' {l : Sl} {i j : Nat} (h : j ≠ i) : foot σ H (g.set i l) j = foot σ H g j := by
  unfold foot
  rw [List.getElem?_set_ne (Ne.symm h)]
theorem foot_set_no {l : Sl} {i : Nat} (t : l.tr = none) {σ' : St} (hi : i < g.length) : foot σ' H (g.set i l) i = [] := foot_none fun l' h => by
  rw [List.getElem?_set_self hi] at h; cases h; exact t
/-- a slot gives up what is its own; the value stays where it is -/
theorem En.drop (E : En P σ H g s M) {i : Nat} {l : Sl} (hi : i < g.length) (t : l.tr = none) (hl : ∀ d, l = .fz d → ∃ v, σ[i]? = some (some v) ∧ Rp P.K P.c (hid H M) v d) : En P σ H (g.set i l) s M := by
  refine ⟨by rw [List.length_set]; exact E.len, fun j d e => ?_, fun j l' o e t' => ?_, fun j => ?_, fun j k a n h1 h2 => ?_, fun j a h => ?_, E.wd, E.m0, E.al, E.fr, E.nw⟩
  · by_cases hj : j = i
    · subst hj; rw [List.getElem?_set_self hi] at e; exact hl d (Option.some.inj e)
    · rw [List.getElem?_set_ne (Ne.symm hj)] at e; exact E.fz j d e
  · by_cases hj : j = i
    · subst hj; rw [List.getElem?_set_self hi] at e; cases e; rw [t] at t'; cases t'
    · rw [List.getElem?_set_ne (Ne.symm hj)] at e; exact E.ot j l' o e t'
  · by_cases hj : j = i
    · subst hj; rw [foot_set_no t hi]; exact List.nodup_nil
    · rw [foot_set_ne' hj]; exact E.nd j
  · by_cases hj : j = i
    · subst hj; rw [foot_set_no t hi] at h1; cases h1
    · by_cases hk : k = i
      · subst hk; rw [foot_set_no t hi] at h2; cases h2
      · rw [foot_set_ne' hj] at h1; rw [foot_set_ne' hk] at h2; exact E.dj j k a n h1 h2
  · by_cases hj : j = i
    · subst hj; rw [foot_set_no t hi] at h; cases h
    · rw [foot_set_ne' hj] at h; exact E.hm j a h
/-- what was a slot's own is no slot's behind -/
theorem En.dropped (E : En P σ H g s M) {i : Nat} {l : Sl} (hi : i < g.length) (t : l.tr = none) {a : Addr} (h : a ∈ foot σ H g i) : NoS σ H (g.set i l) a := fun j z => by
  by_cases hj : j = i
  · subst hj; rw [foot_set_no t hi] at z; cases z
  · rw [foot_set_ne' hj] at z; exact E.dj i j a (Ne.symm hj) h z
/-- a slot's own thing becomes data -/
theorem En.freezeT (E : En P σ H g s M) {i : Nat} {l : Sl} {o : O} (h : g[i]? = some l) (t : l.tr = some o) : ∃ v, ∃ M' : Addr → Prop, σ[i]? = some (some v) ∧
    En P σ H (g.set i (.fz o.d)) s M' ∧ Ex (hid H M) (hid H M') ∧ Rp P.K P.c (hid H M') v o.d := by
  obtain ⟨v, e, r, f, n, m⟩ := E.tree h t
  have hi : i < g.length := (List.getElem?_eq_some_iff.mp h).1
  have E1 := E.drop (l := .un) hi rfl fun d z => by cases z
  obtain ⟨E2, x⟩ := E1.frees (A := fun a => a ∈ fp H o v) fun a ha => ⟨(m a ha).2, E.dropped hi rfl (by rw [f]; exact ha)⟩
  have r' : Rp P.K P.c (hid H (fun b => M b ∧ ¬ b ∈ fp H o v)) v o.d := r.data x fun a ha z => z.2 ha
  have E3 := E2.drop (i := i) (l := .fz o.d) (by rw [List.length_set]; exact hi) rfl fun d z => by cases z; exact ⟨v, e, r'⟩
  rw [List.set_set] at E3
  exact ⟨v, _, e, E3, x, r'⟩
/-- an own list becomes data -/
theorem En.freeze (E : En P σ H g s M) {i : Nat} {xs : List D} (h : g[i]? = some (.ow xs)) : ∃ v, ∃ M' : Addr → Prop, σ[i]? = some (some v) ∧
    En P σ H (g.set i (.fz (.lst xs))) s M' ∧ Ex (hid H M) (hid H M') ∧ Rp P.K P.c (hid H M') v (.lst xs) := by
  obtain ⟨v, M', e, E', x, r⟩ := E.freezeT h (show Sl.tr (.ow xs) = some (.lst (xs.map .fz)) from rfl)
  have q : (O.lst (xs.map .fz)).d = .lst xs := by show D.lst (O.ds (xs.map .fz)) = _; rw [ds_map]
  rw [q] at E' r
  exact ⟨v, M', e, E', x, r⟩
end
end DI
end
section
set_option Elab.async false
set_option linter.all false
set_option maxRecDepth 100000
set_option maxHeartbeats 1000000
/-! DISnd: expressions of the program do what the core's terms do. -/
namespace DI
open PySem L2

/-- what is wanted behind: of what is given, under R; of an error, W -/
def PostG {F : Fx} {α β : Type} (P : Par F) (W : WX) (σ : St) (H : Hp) (M : Addr → Prop) (R : Hp → (Addr → Prop) → Ga → β → α → Prop) (Q : β → Hp → Prop) : Out α → Prop
  | .ok r g s => ∀ v H' M', En P σ H' g s M' → Ex (hid H M) (hid H' M') → R H' M' g v r → Q v H'
  | .ex c d g s => ∀ cv dx H' M', En P σ H' g s M' → Ex (hid H M) (hid H' M') → ExR P H' M' cv dx c d → W cv dx σ H'
  | .bad => False
def rdG {α β : Type} (F : Fx) (W : WX) (R : Par F → St → Hp → (Addr → Prop) → Ga → β → α → Prop) (f : Ga → Sd → Out α) : St → Hp → (β → Hp → Prop) → Prop := fun σ H Q =>
  ∃ (P : Par F) (g : Ga) (s : Sd) (M : Addr → Prop), En P σ H g s M ∧ PostG P W σ H M (R P σ) Q (f g s)
abbrev RE {F : Fx} (P : Par F) : St → Hp → (Addr → Prop) → Ga → V → Rs → Prop := fun σ H M g v r => RsR P σ H M g v r
abbrev RD {F : Fx} (P : Par F) : St → Hp → (Addr → Prop) → Ga → V → D → Prop := fun _ H M _ v d => Rp P.K P.c (hid H M) v d
abbrev RQ {F : Fx} {α : Type} (_ : Par F) : St → Hp → (Addr → Prop) → Ga → α → α → Prop := fun _ _ _ _ v r => v = r
abbrev RA {F : Fx} (P : Par F) : St → Hp → (Addr → Prop) → Ga → List V → List D → Prop := fun _ H M _ v d => RpL P.K P.c (hid H M) v d
/-- looked at -/
def PkR {F : Fx} (P : Par F) (H : Hp) (M : Addr → Prop) (v : V) (d : D) : Prop :=
  Rp P.K P.c (hid H M) v d ∨ ∃ a vs xs, d = .lst xs ∧ v = .ref a ∧ H a = some (.lst vs) ∧ RpL P.K P.c (hid H M) vs xs
/-- a value that is not just made -/
def Rs.old : Rs → Prop
  | .nw _ => False
  | .nt _ => False
  | _ => True
inductive RsL {F : Fx} (P : Par F) (σ : St) (H : Hp) (M : Addr → Prop) (g : Ga) : List V → List Rs → Prop
  | nil : RsL P σ H M g [] []
  | cons {v : V} {vs : List V} {r : Rs} {rs : List Rs} : RsR P σ H M g v r → r.old → RsL P σ H M g vs rs → RsL P σ H M g (v :: vs) (r :: rs)
inductive PkL {F : Fx} (P : Par F) (H : Hp) (M : Addr → Prop) : List V → List D → Prop
  | nil : PkL P H M [] []
  | cons {v : V} {vs : List V} {d : D} {ds : List D} : PkR P H M v d → PkL P H M vs ds → PkL P H M (v :: vs) (d :: ds)
abbrev RL {F : Fx} (P : Par F) : St → Hp → (Addr → Prop) → Ga → List V → List Rs → Prop := fun σ H M g v d => RsL P σ H M g v d

section
variable {F : Fx} {P : Par F} {W : WX} {σ : St} {H : Hp} {g : Ga} {s : Sd} {M : Addr → Prop}
theorem PostG.mono {α β : Type} {R : Hp → (Addr → Prop) → Ga → β → α → Prop} {Q : β → Hp → Prop} {H1 : Hp} {M1 : Addr → Prop} (x : Ex (hid H M) (hid H1 M1)) : ∀ {o : Out α}, PostG P W σ H M R Q o → PostG P W σ H1 M1 R Q o
  | .ok _ _ _, h => fun v H' M' E e r => h v H' M' E (x.trans e) r
  | .ex _ _ _ _, h => fun cv dx H' M' E e r => h cv dx H' M' E (x.trans e) r
  | .bad, h => h
theorem PostG.bind {α β α' β' : Type} {R : Hp → (Addr → Prop) → Ga → β → α → Prop} {R' : Hp → (Addr → Prop) → Ga → β' → α' → Prop} {Q' : β' → Hp → Prop} {k : α → Ga → Sd → Out α'} :
    ∀ {o : Out α}, PostG P W σ H M R' Q' (o.bind k) → PostG P W σ H M R (fun v H1 => ∃ r g1 s1 M1, En P σ H1 g1 s1 M1 ∧ Ex (hid H M) (hid H1 M1) ∧ R H1 M1 g1 v r ∧ PostG P W σ H1 M1 R' Q' (k r g1 s1)) o
  | .ok r g1 s1, h => fun v H' M' E e rr => ⟨r, g1, s1, M', E, e, rr, PostG.mono e h⟩
  | .ex _ _ _ _, h => fun cv dx H' M' E e r => h cv dx H' M' E e r
  | .bad, h => h.elim
theorem rdG.mk {α β : Type} {R : Par F → St → Hp → (Addr → Prop) → Ga → β → α → Prop} {f : Ga → Sd → Out α} {Q : β → Hp → Prop} (E : En P σ H g s M) (h : PostG P W σ H M (R P σ) Q (f g s)) : rdG F W R f σ H Q := ⟨P, g, s, M, E, h⟩

/-! ### looking -/
theorem PkR.rp {v : V} {d : D} (h : PkR P H M v d) : Rp P.K P.c H v d := by
  rcases h with h | ⟨a, vs, xs, rfl, rfl, h1, h2⟩
  · exact h.mono (hid_ex H M)
  · exact .lst h1 (h2.mono (hid_ex H M))
theorem PkR.lst {v : V} {xs : List D} (h : PkR P H M v (.lst xs)) : ∃ a vs, v = .ref a ∧ H a = some (.lst vs) ∧ RpL P.K P.c (hid H M) vs xs := by
  rcases h with h | ⟨a, vs, ys, e, rfl, h1, h2⟩
  · cases h with
    | lst h1 h2 => exact ⟨_, _, rfl, (hid_some h1).2, h2⟩
  · cases e; exact ⟨a, vs, rfl, h1, h2⟩
theorem PkR.tup {v : V} {xs : List D} (h : PkR P H M v (.tup xs)) : ∃ a vs, v = .ref a ∧ SqT P.K H a vs ∧ RpL P.K P.c (hid H M) vs xs := by
  rcases h with h | ⟨a, vs, ys, e, rfl, h1, h2⟩
  · cases h with
    | tup h1 h2 => exact ⟨_, _, rfl, (hid_ex H M).sqT h1, h2⟩
  · cases e
theorem PkR.int {v : V} {i : Int} (h : PkR P H M v (.int i)) : v = .int i := by
  rcases h with h | ⟨a, vs, ys, e, rfl, h1, h2⟩
  · cases h; rfl
  · cases e
theorem PkR.str {v : V} {i : Str} (h : PkR P H M v (.str i)) : v = .str i := by
  rcases h with h | ⟨a, vs, ys, e, rfl, h1, h2⟩
  · cases h; rfl
  · cases e
theorem PkR.bl {v : V} {i : Bool} (h : PkR P H M v (.bl i)) : v = .bl i := by
  rcases h with h | ⟨a, vs, ys, e, rfl, h1, h2⟩
  · cases h; rfl
  · cases e
theorem PkR.non {v : V} (h : PkR P H M v .non) : v = .non := by
  rcases h with h | ⟨a, vs, ys, e, rfl, h1, h2⟩
  · cases h; rfl
  · cases e
theorem RsR.pk {v : V} {r : Rs} {d : D} (E : En P σ H g s M) (h : RsR P σ H M g v r) (e : peek g r = some d) : PkR P H M v d := by
  cases r with
  | fz d' => cases e; exact .inl h
  | nw xs =>
    cases e
    obtain ⟨a, vs, h1, h2, h3, h4, h5, _⟩ := h
    exact .inr ⟨a, vs, xs, rfl, h1, h4, h5⟩
  | nt o => cases e
  | sl i =>
    have h : σ[i]? = some (some v) := h
    have e : peekS g[i]? = some d := e
    cases q : g[i]? with
    | none => rw [q] at e; cases e
    | some l =>
      rw [q] at e
      cases l with
      | un => cases e
      | ot o => cases e
      | fz d' =>
        cases e
        obtain ⟨v', h1, h2⟩ := E.fz i _ q
        rw [h] at h1; cases h1
        exact .inl h2
      | ow xs =>
        cases e
        obtain ⟨a, vs, h1, h2, h3, h4, h5⟩ := E.ow i _ q
        rw [h] at h1; cases h1
        exact .inr ⟨a, vs, xs, rfl, rfl, h4, h5⟩
/-- a value that is no new list stays what it is -/
theorem RsR.stay {v : V} {r : Rs} {H1 : Hp} {M1 : Addr → Prop} {g1 : Ga} (h : RsR P σ H M g v r) (n : r.old) (x : Ex (hid H M) (hid H1 M1)) : RsR P σ H1 M1 g1 v r := by
  cases r with
  | fz d => exact Rp.mono x h
  | nw xs => exact n.elim
  | nt o => exact n.elim
  | sl i => exact h
theorem settle_ne (r : Rs) : (DI.settle r).old := by cases r <;> trivial
/-- settled: a new list is data now -/
theorem post_settle {Q : VK} : ∀ {o : Out Rs}, PostG P W σ H M (fun H M g v r => RsR P σ H M g v r ∧ r.old) Q o.settle → PostG P W σ H M (RE P σ) Q o
  | .ok r g s, h => fun v H' M' E e rr => by
    cases r with
    | fz d => exact h v H' M' E e ⟨rr, trivial⟩
    | sl i => exact h v H' M' E e ⟨rr, trivial⟩
    | nw xs =>
      obtain ⟨a, vs, rfl, h2, h3, h4, h5, h6⟩ := rr
      obtain ⟨E2, x2⟩ := E.free h3 h6
      exact h _ H' _ E2 (e.trans x2) ⟨Rp.lst (by rw [hid_of (fun z => z.2 rfl)]; exact h4) (h5.mono x2), trivial⟩
    | nt o =>
      obtain ⟨r1, r2, r3⟩ := rr
      obtain ⟨E2, x2⟩ := E.frees (A := fun a => a ∈ fp H' o v) fun a ha => (r3 a ha).2
      exact h _ H' _ E2 (e.trans x2) ⟨r1.data x2 fun a ha z => z.2 ha, trivial⟩
  | .ex _ _ _ _, h => h
  | .bad, h => h
/-- kept -/
theorem post_keep {Q : VK} : ∀ {o : Out Rs}, PostG P W σ H M (RD P σ) Q o.keep → PostG P W σ H M (RE P σ) Q o
  | .ok r g s, h => fun v H' M' E e rr => by
    cases r with
    | fz d => exact h v H' M' E e rr
    | nw xs =>
      obtain ⟨a, vs, rfl, h2, h3, h4, h5, h6⟩ := rr
      obtain ⟨E2, x2⟩ := E.free h3 h6
      exact h _ H' _ E2 (e.trans x2) (Rp.lst (by rw [hid_of (fun z => z.2 rfl)]; exact h4) (h5.mono x2))
    | nt o =>
      obtain ⟨r1, r2, r3⟩ := rr
      obtain ⟨E2, x2⟩ := E.frees (A := fun a => a ∈ fp H' o v) fun a ha => (r3 a ha).2
      exact h _ H' _ E2 (e.trans x2) (r1.data x2 fun a ha z => z.2 ha)
    | sl i =>
      have rr : σ[i]? = some (some v) := rr
      have h : PostG P W σ H M (RD P σ) Q (kept s (keepS g i g[i]?)) := h
      cases q : g[i]? with
      | none => rw [q] at h; exact h.elim
      | some l =>
        rw [q] at h
        cases l with
        | un => exact h.elim
        | fz d =>
          obtain ⟨v', h1, h2⟩ := E.fz i _ q
          rw [rr] at h1; cases h1
          exact h v H' M' E e h2
        | ow xs =>
          obtain ⟨v', M2, h1, E2, x2, r2⟩ := E.freeze q
          rw [rr] at h1; cases h1
          exact h _ H' _ E2 (e.trans x2) r2
        | ot o =>
          obtain ⟨v', M2, h1, E2, x2, r2⟩ := E.freezeT q rfl
          rw [rr] at h1; cases h1
          exact h _ H' _ E2 (e.trans x2) r2
  | .ex _ _ _ _, h => h
  | .bad, h => h

variable {X : Cx} {e a b : Expr} {f fa fb : Ga → Sd → Out Rs}
abbrev RS {F : Fx} (P : Par F) : St → Hp → (Addr → Prop) → Ga → V → Rs → Prop := fun σ H M g v r => RsR P σ H M g v r ∧ r.old
theorem PE.imp {t t' : TE} (h : PE X e t) (i : ∀ σ H Q, t' σ H Q → t σ H Q) : PE X e t' := ⟨fun pins s σ H Q I q => h.run pins s σ H Q I (i σ H Q q)⟩
theorem PT.imp {t t' : TT} (h : PT X e t) (i : ∀ σ H Q, t' σ H Q → t σ H Q) : PT X e t' := ⟨fun pins s σ H Q I q => h.run pins s σ H Q I (i σ H Q q)⟩
theorem PA.imp {es : List Expr} {t t' : TA} (h : PA X es t) (i : ∀ σ H Q, t' σ H Q → t σ H Q) : PA X es t' := ⟨fun pos pins s σ H Q I q => h.run pos pins s σ H Q I (i σ H Q q)⟩
theorem PS.imp {st : Stmt} {t t' : TS} (h : PS X st t) (i : ∀ D σ H, t' D σ H → t D σ H) : PS X st t' := ⟨fun pins s σ H D I q => h.run pins s σ H D I (i D σ H q)⟩
theorem PSs.imp {st : List Stmt} {t t' : TS} (h : PSs X st t) (i : ∀ D σ H, t' D σ H → t D σ H) : PSs X st t' := ⟨fun pins s σ H D I q => h.run pins s σ H D I (i D σ H q)⟩
abbrev PEd (X : Cx) (F : Fx) (W : WX) (e : Expr) (f : Ga → Sd → Out Rs) : Prop := PE X e (rdG F W RE f)
theorem PEd.settle (h : PEd X F W e f) : PE X e (rdG F W RS fun g s => (f g s).settle) := PE.imp h fun σ H Q ⟨P, g, s, M, E, q⟩ => ⟨P, g, s, M, E, post_settle q⟩
theorem PEd.keep (h : PEd X F W e f) : PE X e (rdG F W RD fun g s => (f g s).keep) := PE.imp h fun σ H Q ⟨P, g, s, M, E, q⟩ => ⟨P, g, s, M, E, post_keep q⟩

/-! ### names, constants -/
theorem d_var {i : Nat} {x : Str} {pos : Pos} (hN : X.N[i]? = some x) (hv : Vis X.env.scope x) (hd : (x == ("__debug__" : Str)) = false) (hcd : (x == ("__classdict__" : Str)) = false) : PEd X F W (.Name x pos) (sVar i) :=
  PE.imp (pe_var hN hv hd hcd) fun σ H Q ⟨P, g, s, M, E, h⟩ => by
    have h : PostG P W σ H M (RE P σ) Q (sVarS i g s g[i]?) := h
    cases q : g[i]? with
    | none => rw [q] at h; exact h.elim
    | some l =>
      rw [q] at h
      cases l with
      | un => exact h.elim
      | fz d =>
        obtain ⟨v, h1, h2⟩ := E.fz i d q
        exact ⟨v, h1, h v H M E (Ex.refl _) h2⟩
      | ow xs =>
        obtain ⟨a, vs, h1, _⟩ := E.ow i xs q
        exact ⟨_, h1, h _ H M E (Ex.refl _) h1⟩
      | ot o =>
        obtain ⟨v, M2, h1, E2, x2, r2⟩ := E.freezeT q rfl
        exact ⟨v, h1, h v H M2 E2 x2 r2⟩
/-- a value that is data without a heap -/
theorem d_val {v : V} {d : D} (h : PE X e (tC v)) (r : ∀ H, Rp F.K F.c H v d) : PEd X F W e (fun g s => .ok (.fz d) g s) :=
  PE.imp h fun σ H Q ⟨P, g, s, M, E, h⟩ => h v H M E (Ex.refl _) (r _)

/-! ### two operands looked at -/
/-- an operation on values does f on data -/
def Two (X : Cx) (F : Fx) (r : R2) (f : D → D → Option Rs) : Prop :=
  ∀ (P : Par F) (σ : St) (H : Hp) (M : Addr → Prop) (g : Ga) (s : Sd) (v w : V) (x y : D) (z : Rs) (Q : VK), En P σ H g s M → PkR P H M v x → PkR P H M w y → f x y = some z →
    (∀ u H' M', En P σ H' g s M' → Ex (hid H M) (hid H' M') → RsR P σ H' M' g u z → Q u H') → r v w H Q
theorem post_two {fn : D → D → Option Rs} {Q : VK} : ∀ {o o' : Option D}, PostG P W σ H M (RE P σ) Q (two fn g s o o') → ∃ x y z, o = some x ∧ o' = some y ∧ fn x y = some z ∧ ∀ u H' M', En P σ H' g s M' → Ex (hid H M) (hid H' M') → RsR P σ H' M' g u z → Q u H'
  | none, _, h => h.elim
  | some _, none, h => h.elim
  | some x, some y, h => by
    have h : PostG P W σ H M (RE P σ) Q (optR (fn x y) g s) := h
    cases q : fn x y with
    | none => rw [q] at h; exact h.elim
    | some z => rw [q] at h; exact ⟨x, y, z, rfl, rfl, q, h⟩
theorem post_one {α : Type} {fn : α → Option Rs} {Q : VK} : ∀ {o : Option α}, PostG P W σ H M (RE P σ) Q (one fn g s o) → ∃ x z, o = some x ∧ fn x = some z ∧ ∀ u H' M', En P σ H' g s M' → Ex (hid H M) (hid H' M') → RsR P σ H' M' g u z → Q u H'
  | none, h => h.elim
  | some x, h => by
    have h : PostG P W σ H M (RE P σ) Q (optR (fn x) g s) := h
    cases q : fn x with
    | none => rw [q] at h; exact h.elim
    | some z => rw [q] at h; exact ⟨x, z, rfl, q, h⟩
theorem rdG.seq {α β α' β' : Type} {R : Par F → St → Hp → (Addr → Prop) → Ga → β → α → Prop} {R' : Par F → St → Hp → (Addr → Prop) → Ga → β' → α' → Prop} {Q' : β' → Hp → Prop} {f : Ga → Sd → Out α} {k : α → Ga → Sd → Out α'} {Q : β → Hp → Prop}
    (E : En P σ H g s M) (h : PostG P W σ H M (R' P σ) Q' ((f g s).bind k))
    (i : ∀ v r H1 g1 s1 M1, En P σ H1 g1 s1 M1 → Ex (hid H M) (hid H1 M1) → R P σ H1 M1 g1 v r → PostG P W σ H1 M1 (R' P σ) Q' (k r g1 s1) → Q v H1) : rdG F W R f σ H Q := by
  refine rdG.mk E ?_
  cases o : f g s with
  | bad => rw [o] at h; exact h.elim
  | ex c d g1 s1 => rw [o] at h; exact h
  | ok r g1 s1 =>
    rw [o] at h
    have h : PostG P W σ H M (R' P σ) Q' (k r g1 s1) := h
    exact fun v H1 M1 E1 x1 rr => i v r H1 g1 s1 M1 E1 x1 rr (PostG.mono x1 h)
theorem two_imp {r : R2} {fn : D → D → Option Rs} (hf : Two X F r fn) : ∀ σ H Q, rdG F W RE (sTwo fn fa fb) σ H Q → tOp r (rdG F W RS fun g s => (fa g s).settle) (rdG F W RS fun g s => (fb g s).settle) σ H Q := by
  rintro σ H Q ⟨P, g, s, M, E, h⟩
  refine rdG.seq (R' := RE) (Q' := Q) E h fun v r1 H1 g1 s1 M1 E1 x1 ⟨rr1, n1⟩ h1 => ?_
  refine rdG.seq (R' := RE) (Q' := Q) E1 h1 fun w r2 H2 g2 s2 M2 E2 x2 ⟨rr2, n2⟩ h2 => ?_
  obtain ⟨x, y, z, p1, p2, p3, h3⟩ := post_two h2
  have rr1s : RsR P σ H2 M2 g2 v r1 := rr1.stay n1 x2
  exact hf P σ H2 M2 g2 s2 v w x y z Q E2 (rr1s.pk E2 p1) (rr2.pk E2 p2) p3 h3
/-- one operand looked at -/
def One (X : Cx) (F : Fx) (r : V → Hp → VK → Prop) (f : D → Option Rs) : Prop :=
  ∀ (P : Par F) (σ : St) (H : Hp) (M : Addr → Prop) (g : Ga) (s : Sd) (v : V) (x : D) (z : Rs) (Q : VK), En P σ H g s M → PkR P H M v x → f x = some z →
    (∀ u H' M', En P σ H' g s M' → Ex (hid H M) (hid H' M') → RsR P σ H' M' g u z → Q u H') → r v H Q
theorem one_imp {r : V → Hp → VK → Prop} {fn : D → Option Rs} (hf : One X F r fn) : ∀ σ H Q, rdG F W RE (sOne fn fa) σ H Q → tUn r (rdG F W RS fun g s => (fa g s).settle) σ H Q := by
  rintro σ H Q ⟨P, g, s, M, E, h⟩
  refine rdG.seq (R' := RE) (Q' := Q) E h fun v r1 H1 g1 s1 M1 E1 x1 ⟨rr1, n1⟩ h1 => ?_
  obtain ⟨x, z, p1, p3, h3⟩ := post_one h1
  exact hf P σ H1 M1 g1 s1 v x z Q E1 (rr1.pk E1 p1) p3 h3
theorem d_un {op : UnaryOp} {r : V → Hp → VK → Prop} {fn : D → Option Rs} {pos : Pos} (ho : UnR X (unaryOp op) r) (hf : One X F r fn) (ha : PEd X F W a fa) : PEd X F W (.UnaryOp op a pos) (sOne fn fa) :=
  PE.imp (pe_un ho ha.settle) (one_imp hf)

/-! ### tests -/
abbrev PTd (X : Cx) (F : Fx) (W : WX) (e : Expr) (f : Ga → Sd → Out Bool) : Prop := PT X e (rdG F W RQ f)
theorem tB_imp {t : TE} (h : ∀ σ H Q, rdG F W RE f σ H Q → t σ H Q) : ∀ σ H Q, rdG F W RQ (tOf f) σ H Q → (fun σ H (Q : Bool → Hp → Prop) => t σ H fun x H1 => ∃ c, x = .bl c ∧ Q c H1) σ H Q := by
  rintro σ H Q ⟨P, g, s, M, E, q⟩
  refine h σ H _ (rdG.seq (R' := RQ) (Q' := Q) E q fun v r H1 g1 s1 M1 E1 x1 rr h1 => ?_)
  cases r with
  | sl i => exact h1.elim
  | nw xs => exact h1.elim
  | nt o => exact h1.elim
  | fz d =>
    cases d with
    | bl k =>
      have h1 : ∀ v H' M', En P σ H' g1 s1 M' → Ex (hid H1 M1) (hid H' M') → v = k → Q v H' := h1
      cases rr with
      | bl => exact ⟨k, rfl, h1 k H1 M1 E1 (Ex.refl _) rfl⟩
    | _ => exact h1.elim
theorem dt_val (h : PEd X F W e f) (he : ∀ whole, isTrue e X.env whole = (do let v ← whole; standAt e.pos; holding [v] (truthy v))) : PTd X F W e (tOf f) :=
  PT.imp (pt_val h he) (tB_imp fun _ _ _ q => q)
theorem dt_cmp {op : CmpOp} {r : R2} {fn : D → D → Option Rs} {pos : Pos} (ho : OpR X (compareOp op) r) (hf : Two X F r fn) (hm : behindInMarks op b = false) (ha : PEd X F W a fa) (hb : PEd X F W b fb) : PTd X F W (.Compare a [op] [b] pos) (tOf (sTwo fn fa fb)) :=
  PT.imp (pt_cmpR ho ha.settle hb.settle hm) (tB_imp (two_imp hf))
variable {ta tb : Ga → Sd → Out Bool}
theorem dt_not {pos : Pos} (h : PTd X F W a ta) : PTd X F W (.UnaryOp .Not a pos) (tNotF ta) :=
  PT.imp (pt_not h) (by
    rintro σ H Q ⟨P, g, s, M, E, q⟩
    refine rdG.seq (R' := RQ) (Q' := Q) E q fun v r H1 g1 s1 M1 E1 x1 rr h1 => ?_
    subst rr
    exact h1 _ H1 M1 E1 (Ex.refl _) rfl)
end
section
variable {F : Fx} {P : Par F} {W : WX} {X : Cx} {e a b : Expr} {f fa fb : Ga → Sd → Out Rs} {ta tb : Ga → Sd → Out Bool}
abbrev PWd (X : Cx) (F : Fx) (W : WX) (e : Expr) (f : Ga → Sd → Out Bool) : Prop := PW X e (rdG F W RQ f)
theorem PW.imp {t t' : TT} (h : PW X e t) (i : ∀ σ H Q, t' σ H Q → t σ H Q) : PW X e t' := ⟨fun whole pins s σ H Q I q => h.run whole pins s σ H Q I (i σ H Q q)⟩
theorem dw_and1 {pos : Pos} (h : PTd X F W a ta) : PWd X F W (.BoolOp .And [a] pos) ta := pw_and1 h
theorem dw_or1 {pos : Pos} (h : PTd X F W a ta) : PWd X F W (.BoolOp .Or [a] pos) ta := pw_or1 h
theorem dw_and {pos : Pos} {rest : List Expr} (ha : PTd X F W a ta) (hb : PWd X F W (.BoolOp .And (b :: rest) pos) tb) : PWd X F W (.BoolOp .And (a :: b :: rest) pos) (tAndF ta tb) :=
  PW.imp (pw_and ha hb) (by
    rintro σ H Q ⟨P, g, s, M, E, q⟩
    refine rdG.seq (R' := RQ) (Q' := Q) E q fun v r H1 g1 s1 M1 E1 x1 rr h1 => ?_
    subst rr
    cases v with
    | true => exact ⟨P, g1, s1, M1, E1, h1⟩
    | false => exact h1 _ H1 M1 E1 (Ex.refl _) rfl)
theorem dw_or {pos : Pos} {rest : List Expr} (ha : PTd X F W a ta) (hb : PWd X F W (.BoolOp .Or (b :: rest) pos) tb) : PWd X F W (.BoolOp .Or (a :: b :: rest) pos) (tOrF ta tb) :=
  PW.imp (pw_or ha hb) (by
    rintro σ H Q ⟨P, g, s, M, E, q⟩
    refine rdG.seq (R' := RQ) (Q' := Q) E q fun v r H1 g1 s1 M1 E1 x1 rr h1 => ?_
    subst rr
    cases v with
    | false => exact ⟨P, g1, s1, M1, E1, h1⟩
    | true => exact h1 _ H1 M1 E1 (Ex.refl _) rfl)
theorem post_and {σ : St} {H : Hp} {g : Ga} {s : Sd} {M : Addr → Prop} {r : Rs} {v : V} {Q : VK} (E : En P σ H g s M) (rr : RsR P σ H M g v r)
    (h : PostG P W σ H M (RE P σ) Q (match (generalizing := false) r with | .fz (.bl true) => fb g s | .fz (.bl false) => .ok (.fz (.bl false)) g s | _ => .bad)) : ∃ c, v = .bl c ∧ if c = true then rdG F W RE fb σ H Q else Q (.bl false) H := by
  cases r with
  | sl i => exact h.elim
  | nw xs => exact h.elim
  | nt o => exact h.elim
  | fz d =>
    cases d with
    | bl k =>
      cases rr with
      | bl =>
        cases k with
        | true => exact ⟨true, rfl, by rw [if_pos rfl]; exact ⟨P, g, s, M, E, h⟩⟩
        | false => exact ⟨false, rfl, by rw [if_neg Bool.false_ne_true]; exact h _ H M E (Ex.refl _) (.bl false)⟩
    | _ => exact h.elim
theorem d_one {op} {pos : Pos} (h : PEd X F W a fa) : PEd X F W (.BoolOp op [a] pos) fa := pe_one h
theorem d_and {pos : Pos} {rest : List Expr} (ha : PEd X F W a fa) (hb : PEd X F W (.BoolOp .And (b :: rest) pos) fb) : PEd X F W (.BoolOp .And (a :: b :: rest) pos) (sAnd fa fb) :=
  PE.imp (pe_and ha hb) (by
    rintro σ H Q ⟨P, g, s, M, E, q⟩
    exact rdG.seq (R' := RE) (Q' := Q) E q fun v r H1 g1 s1 M1 E1 x1 rr h1 => post_and E1 rr h1)
theorem d_or {pos : Pos} {rest : List Expr} (ha : PEd X F W a fa) (hb : PEd X F W (.BoolOp .Or (b :: rest) pos) fb) : PEd X F W (.BoolOp .Or (a :: b :: rest) pos) (sOr fa fb) :=
  PE.imp (pe_or ha hb) (by
    rintro σ H Q ⟨P, g, s, M, E, q⟩
    refine rdG.seq (R' := RE) (Q' := Q) E q fun v r H1 g1 s1 M1 E1 x1 rr h => ?_
    cases r with
    | sl i => exact h.elim
    | nw xs => exact h.elim
    | nt o => exact h.elim
    | fz d =>
      cases d with
      | bl k =>
        cases rr with
        | bl =>
          cases k with
          | false => exact ⟨false, rfl, by rw [if_neg Bool.false_ne_true]; exact ⟨P, g1, s1, M1, E1, h⟩⟩
          | true => exact ⟨true, rfl, by rw [if_pos rfl]; exact h _ H1 M1 E1 (Ex.refl _) (.bl true)⟩
      | _ => exact h.elim)
theorem d_not {pos : Pos} (ha : PEd X F W a fa) : PEd X F W (.UnaryOp .Not a pos) (sOne notF fa) :=
  PE.imp (pe_not ha.settle) (by
    rintro σ H Q ⟨P, g, s, M, E, h⟩
    refine rdG.seq (R' := RE) (Q' := Q) E h fun v r1 H1 g1 s1 M1 E1 x1 ⟨rr1, n1⟩ h1 => ?_
    obtain ⟨x, z, p1, p3, h3⟩ := post_one h1
    cases x with
    | bl k =>
      cases p3
      exact ⟨k, (rr1.pk E1 p1).bl, h3 _ H1 M1 E1 (Ex.refl _) (.bl _)⟩
    | _ => cases p3)
theorem d_ite {c : Expr} {pos : Pos} (hc : PTd X F W c ta) (ha : PEd X F W a fa) (hb : PEd X F W b fb) : PEd X F W (.IfExp c a b pos) (sIte ta fa fb) :=
  PE.imp (pe_ifExp hc ha hb) (by
    rintro σ H Q ⟨P, g, s, M, E, q⟩
    refine rdG.seq (R' := RE) (Q' := Q) E q fun v r H1 g1 s1 M1 E1 x1 rr h1 => ?_
    subst rr
    cases v with
    | true => show (if true = true then _ else _); rw [if_pos rfl]; exact ⟨P, g1, s1, M1, E1, h1⟩
    | false => show (if false = true then _ else _); rw [if_neg Bool.false_ne_true]; exact ⟨P, g1, s1, M1, E1, h1⟩)
end
section
variable {F : Fx} {P : Par F} {W : WX} {X : Cx} {e a b : Expr} {f fa fb : Ga → Sd → Out Rs} {ta tb : Ga → Sd → Out Bool}
theorem d_bin {op : Operator} {r : R2} {fn : D → D → Option Rs} {pos : Pos} (ho : OpR X (binaryOp op) r) (hf : Two X F r fn) (ha : PEd X F W a fa) (hb : PEd X F W b fb) : PEd X F W (.BinOp a op b pos) (sTwo fn fa fb) :=
  PE.imp (pe_op ho ha.settle hb.settle) (two_imp hf)
theorem d_cmp {op : CmpOp} {r : R2} {fn : D → D → Option Rs} {pos : Pos} (ho : OpR X (compareOp op) r) (hf : Two X F r fn) (hm : behindInMarks op b = false) (ha : PEd X F W a fa) (hb : PEd X F W b fb) : PEd X F W (.Compare a [op] [b] pos) (sTwo fn fa fb) :=
  PE.imp (pe_cmpR ho ha.settle hb.settle hm) (two_imp hf)
theorem d_ix {r : R2} {fn : D → D → Option Rs} {pos : Pos} (hr : IxR X r) (hf : Two X F r fn) (hs : PlainIx b) (ha : PEd X F W a fa) (hb : PEd X F W b fb) : PEd X F W (.Subscript a b pos) (sTwo fn fa fb) :=
  PE.imp (pe_ix hr ha.settle hb.settle hs) (two_imp hf)
end
end DI
end
section
set_option Elab.async false
set_option linter.all false
set_option maxRecDepth 100000
set_option maxHeartbeats 1000000
/-! DIOps: operations, comparisons, items. -/
namespace DI
open PySem L2
section
variable {F : Fx} {P : Par F} {σ : St} {H : Hp} {g : Ga} {s : Sd} {M : Addr → Prop} {X : Cx}
theorem En.nwList (E : En P σ H g s M) {p : Addr} (hp : H p = none) {vs : List V} {xs : List D} (hl : RpL P.K P.c (hid H M) vs xs) :
    En P σ (upd H p (.lst vs)) g s (fun b => M b ∨ b = p) ∧ Ex (hid H M) (hid (upd H p (.lst vs)) (fun b => M b ∨ b = p)) ∧ RsR P σ (upd H p (.lst vs)) (fun b => M b ∨ b = p) g (.ref p) (.nw xs) := by
  obtain ⟨E2, x2, no, n0, h0⟩ := E.own hp (.lst vs)
  exact ⟨E2, x2, p, vs, rfl, .inr rfl, n0, upd_same, hl.mono x2, no⟩
theorem En.nwTup (E : En P σ H g s M) {p : Addr} (hp : H p = none) {vs : List V} {xs : List D} (hl : RpL P.K P.c (hid H M) vs xs) :
    En P σ (upd H p (.tup vs)) g s M ∧ Ex (hid H M) (hid (upd H p (.tup vs)) M) ∧ RsR P σ (upd H p (.tup vs)) M g (.ref p) (.fz (.tup xs)) := by
  obtain ⟨E2, x2, np⟩ := E.alloc hp (.tup vs)
  exact ⟨E2, x2, Rp.tup (SqT.of (by rw [hid_of np]; exact upd_same)) (hl.mono x2)⟩
theorem lineOk_le {n : Nat} (h : lineOk n = true) : n ≤ sizeLine := of_decide_eq_true h
theorem small_le {i : Int} (h : small i = true) : -(2 ^ 62) ≤ i ∧ i < 2 ^ 62 := by
  unfold small at h
  rw [Bool.and_eq_true, decide_eq_true_eq, decide_eq_true_eq] at h
  exact h
theorem small_mul {i : Int} (h : small i = true) : -(2 ^ 64) < i ∧ i < 2 ^ 64 := by
  have := small_le h
  omega

/-! ### + - * // % ** -/
def rAddS : R2 := fun x y H Q => ∃ i j, x = .str i ∧ y = .str j ∧ i.length + j.length ≤ sizeLine ∧ Q (.str (i ++ j)) H
theorem op_addA : OpR X (binaryOp .Add) (fun x y H Q => rI0 (fun i j => .int (i + j)) x y H Q ∨ (fun x y H Q => rAddS x y H Q ∨ rCat x y H Q) x y H Q) := OpR.or op_add (OpR.or op_add_str op_cat)
theorem two_add : Two X F (fun x y H Q => rI0 (fun i j => .int (i + j)) x y H Q ∨ (fun x y H Q => rAddS x y H Q ∨ rCat x y H Q) x y H Q) (binF .add) := by
  intro P σ H M g s v w x y z Q E hv hw e k
  cases x with
  | int i =>
    cases y with
    | int j => cases e; exact .inl ⟨i, j, hv.int, hw.int, k _ H M E (Ex.refl _) (.int _)⟩
    | _ => cases e
  | str a =>
    cases y with
    | str b =>
      have e : (if lineOk (a.length + b.length) then some (Rs.fz (.str (a ++ b))) else none) = some z := e
      by_cases h : lineOk (a.length + b.length) = true
      · rw [if_pos h] at e
        cases e
        exact .inr (.inl ⟨a, b, hv.str, hw.str, lineOk_le h, k _ H M E (Ex.refl _) (.str _)⟩)
      · rw [if_neg h] at e; cases e
    | _ => cases e
  | lst xs =>
    cases y with
    | lst ys =>
      have e : (if lineOk (xs.length + ys.length) then some (Rs.nw (xs ++ ys)) else none) = some z := e
      by_cases h : lineOk (xs.length + ys.length) = true
      · rw [if_pos h] at e
        cases e
        obtain ⟨a, vs, rfl, h1, h2⟩ := hv.lst
        obtain ⟨b, ws, rfl, h3, h4⟩ := hw.lst
        refine .inr (.inr ⟨a, b, vs, ws, rfl, rfl, h1, h3, by rw [h2.length, h4.length]; exact lineOk_le h, fun p hp => ?_⟩)
        obtain ⟨E2, x2, r2⟩ := E.nwList hp (h2.append h4)
        exact k _ _ _ E2 x2 r2
      · rw [if_neg h] at e; cases e
    | _ => cases e
  | _ => cases y <;> cases e
theorem two_sub : Two X F (rI0 fun i j => .int (i - j)) (binF .sub) := by
  intro P σ H M g s v w x y z Q E hv hw e k
  cases x with
  | int i =>
    cases y with
    | int j => cases e; exact ⟨i, j, hv.int, hw.int, k _ H M E (Ex.refl _) (.int _)⟩
    | _ => cases e
  | _ => cases y <;> cases e
theorem op_mulA : OpR X (binaryOp .Mult) (fun x y H Q => rI CMul (fun i j => .int (i * j)) x y H Q ∨ rRep x y H Q) := OpR.or op_mul op_rep
theorem two_mul : Two X F (fun x y H Q => rI CMul (fun i j => .int (i * j)) x y H Q ∨ rRep x y H Q) (binF .mul) := by
  intro P σ H M g s v w x y z Q E hv hw e k
  cases x with
  | int i =>
    cases y with
    | int j =>
      have e : (if small i && small j then some (Rs.fz (.int (i * j))) else none) = some z := e
      by_cases h : (small i && small j) = true
      · rw [if_pos h] at e
        cases e
        rw [Bool.and_eq_true] at h
        exact .inl ⟨i, j, hv.int, hw.int, .inl (small_mul h.1), k _ H M E (Ex.refl _) (.int _)⟩
      · rw [if_neg h] at e; cases e
    | _ => cases e
  | lst xs =>
    cases y with
    | int n =>
      have e : (if small n && lineOk (xs.length * n.toNat) then some (Rs.nw (List.replicate n.toNat xs).flatten) else none) = some z := e
      by_cases h : (small n && lineOk (xs.length * n.toNat)) = true
      · rw [if_pos h] at e
        cases e
        rw [Bool.and_eq_true] at h
        have b := small_le h.1
        obtain ⟨a, vs, rfl, h1, h2⟩ := hv.lst
        refine .inr ⟨a, n, vs, rfl, hw.int, h1, by omega, by omega, by rw [h2.length]; exact lineOk_le h.2, fun p hp => ?_⟩
        obtain ⟨E2, x2, r2⟩ := E.nwList hp (h2.rep n.toNat)
        exact k _ _ _ E2 x2 r2
      · rw [if_neg h] at e; cases e
    | _ => cases e
  | _ => cases y <;> cases e
theorem two_fdiv : Two X F (rI CDiv fun i j => .int (i / j)) (binF .fdiv) := by
  intro P σ H M g s v w x y z Q E hv hw e k
  cases x with
  | int i =>
    cases y with
    | int j =>
      have e : (if decide (0 < j) && decide (j < 1073741824) then some (Rs.fz (.int (i / j))) else none) = some z := e
      by_cases h : (decide (0 < j) && decide (j < 1073741824)) = true
      · rw [if_pos h] at e
        cases e
        rw [Bool.and_eq_true, decide_eq_true_eq, decide_eq_true_eq] at h
        exact ⟨i, j, hv.int, hw.int, h, k _ H M E (Ex.refl _) (.int _)⟩
      · rw [if_neg h] at e; cases e
    | _ => cases e
  | _ => cases y <;> cases e
theorem two_mod : Two X F (rI (fun _ j => 0 < j) fun i j => .int (i % j)) (binF .mod) := by
  intro P σ H M g s v w x y z Q E hv hw e k
  cases x with
  | int i =>
    cases y with
    | int j =>
      have e : (if decide (0 < j) then some (Rs.fz (.int (i % j))) else none) = some z := e
      by_cases h : decide (0 < j) = true
      · rw [if_pos h] at e
        cases e
        rw [decide_eq_true_eq] at h
        exact ⟨i, j, hv.int, hw.int, h, k _ H M E (Ex.refl _) (.int _)⟩
      · rw [if_neg h] at e; cases e
    | _ => cases e
  | _ => cases y <;> cases e
theorem two_pow : Two X F (rI CPow fun i j => .int (i ^ j.toNat)) (binF .pow) := by
  intro P σ H M g s v w x y z Q E hv hw e k
  cases x with
  | int i =>
    cases y with
    | int j =>
      have e : (if decide (0 ≤ j) && decide (j ≤ 1000) && small i then some (Rs.fz (.int (i ^ j.toNat))) else none) = some z := e
      by_cases h : (decide (0 ≤ j) && decide (j ≤ 1000) && small i) = true
      · rw [if_pos h] at e
        cases e
        rw [Bool.and_eq_true, Bool.and_eq_true, decide_eq_true_eq, decide_eq_true_eq] at h
        have b := small_le h.2
        exact ⟨i, j, hv.int, hw.int, ⟨h.1.1, by omega, by omega⟩, k _ H M E (Ex.refl _) (.int _)⟩
      · rw [if_neg h] at e; cases e
    | _ => cases e
  | _ => cases y <;> cases e
theorem one_neg : One X F (rU fun i => .int (-i)) negF := by
  intro P σ H M g s v x z Q E hv e k
  cases x with
  | int i => cases e; exact ⟨i, hv.int, k _ H M E (Ex.refl _) (.int _)⟩
  | _ => cases e

/-! ### comparisons -/
theorem two_cmp {r : R2} {o : Cop} (h : ∀ (P : Par F) (H : Hp) (M : Addr → Prop) (v w : V) (x y : D) (b : Bool) (Q : VK), PkR P H M v x → PkR P H M w y → cmpF o x y = some b → Q (.bl b) H → r v w H Q) :
    Two X F r (fun x y => (cmpF o x y).map fun k => .fz (.bl k)) := by
  intro P σ H M g s v w x y z Q E hv hw e k
  have e : (cmpF o x y).map (fun k => Rs.fz (.bl k)) = some z := e
  cases q : cmpF o x y with
  | none => rw [q] at e; cases e
  | some b => rw [q] at e; cases e; exact h P H M v w x y b Q hv hw q (k _ H M E (Ex.refl _) (.bl b))
theorem two_lt : Two X F (rI0 fun i j => .bl (decide (i < j))) (fun x y => (cmpF .lt x y).map fun k => .fz (.bl k)) := two_cmp fun P H M v w x y b Q hv hw e q => by
  cases x with
  | int i => cases y with
    | int j => cases e; exact ⟨i, j, hv.int, hw.int, q⟩
    | _ => cases e
  | _ => cases y <;> cases e
theorem two_le : Two X F (rI0 fun i j => .bl (decide (i ≤ j))) (fun x y => (cmpF .le x y).map fun k => .fz (.bl k)) := two_cmp fun P H M v w x y b Q hv hw e q => by
  cases x with
  | int i => cases y with
    | int j => cases e; exact ⟨i, j, hv.int, hw.int, q⟩
    | _ => cases e
  | _ => cases y <;> cases e
theorem two_gt : Two X F (rI0 fun i j => .bl (decide (j < i))) (fun x y => (cmpF .gt x y).map fun k => .fz (.bl k)) := two_cmp fun P H M v w x y b Q hv hw e q => by
  cases x with
  | int i => cases y with
    | int j => cases e; exact ⟨i, j, hv.int, hw.int, q⟩
    | _ => cases e
  | _ => cases y <;> cases e
theorem two_ge : Two X F (rI0 fun i j => .bl (decide (j ≤ i))) (fun x y => (cmpF .ge x y).map fun k => .fz (.bl k)) := two_cmp fun P H M v w x y b Q hv hw e q => by
  cases x with
  | int i => cases y with
    | int j => cases e; exact ⟨i, j, hv.int, hw.int, q⟩
    | _ => cases e
  | _ => cases y <;> cases e
theorem eqF_some {a b : D} {k : Bool} (h : eqF a b = some k) : ∃ x y, a.pd = some x ∧ b.pd = some y ∧ SeqAt.shaped x = true ∧ SeqAt.shaped y = true ∧ k = PyData.eqv x y := by
  unfold eqF at h
  cases p : a.pd with
  | none => rw [p] at h; cases h
  | some x =>
    cases q : b.pd with
    | none => rw [p, q] at h; cases h
    | some y =>
      rw [p, q] at h
      have h : (if SeqAt.shaped x && SeqAt.shaped y then some (PyData.eqv x y) else none) = some k := h
      by_cases c : (SeqAt.shaped x && SeqAt.shaped y) = true
      · rw [if_pos c] at h
        rw [Bool.and_eq_true] at c
        exact ⟨x, y, rfl, rfl, c.1, c.2, (Option.some.inj h).symm⟩
      · rw [if_neg c] at h; cases h
theorem two_eq : Two X F (rEqD F.K) (fun x y => (cmpF .eq x y).map fun k => .fz (.bl k)) := two_cmp fun P H M v w x y b Q hv hw e q => by
  obtain ⟨p1, p2, h1, h2, h3, h4, rfl⟩ := eqF_some (show eqF x y = some b from e)
  exact ⟨p1, p2, hv.rp.dp h1, hw.rp.dp h2, h3, h4, q⟩
theorem two_ne : Two X F (rNeD F.K) (fun x y => (cmpF .ne x y).map fun k => .fz (.bl k)) := two_cmp fun P H M v w x y b Q hv hw e q => by
  have e : (eqF x y).map (!·) = some b := e
  cases c : eqF x y with
  | none => rw [c] at e; cases e
  | some k =>
    rw [c] at e
    cases e
    obtain ⟨p1, p2, h1, h2, h3, h4, rfl⟩ := eqF_some c
    exact ⟨p1, p2, hv.rp.dp h1, hw.rp.dp h2, h3, h4, q⟩
theorem Rp.isN {K : PySem.W.Frag} {c : Addr} {H : Hp} {v : V} {x : D} (h : Rp K c H v x) : decide (v = .non) = x.isNon := by
  cases h <;> simp [D.isNon]
theorem two_isN : Two X F (fun x y H Q => y = .non ∧ Q (.bl (decide (x = .non))) H) (fun x y => (cmpF .isN x y).map fun k => .fz (.bl k)) := two_cmp fun P H M v w x y b Q hv hw e q => by
  cases y with
  | non =>
    have e : some x.isNon = some b := e
    refine ⟨hw.non, ?_⟩
    rw [hv.rp.isN, Option.some.inj e]; exact q
  | _ => cases e
theorem two_notN : Two X F (fun x y H Q => y = .non ∧ Q (.bl (!decide (x = .non))) H) (fun x y => (cmpF .notN x y).map fun k => .fz (.bl k)) := two_cmp fun P H M v w x y b Q hv hw e q => by
  cases y with
  | non =>
    have e : some (!x.isNon) = some b := e
    refine ⟨hw.non, ?_⟩
    rw [hv.rp.isN, Option.some.inj e]; exact q
  | _ => cases e

/-! ### items -/
theorem RpL.atI {K : PySem.W.Frag} {c : Addr} {H : Hp} {vs : List V} {ds : List D} {i : Int} {d : D} (h : RpL K c H vs ds) (e : L2.atI ds i = some d) : ∃ v, L2.atI vs i = some v ∧ Rp K c H v d := by
  unfold L2.atI at e ⊢
  rw [h.length]
  cases q : ixN ds.length i with
  | none => rw [q] at e; cases e
  | some j => rw [q] at e; exact h.get e
theorem two_ix : Two X F (rIx F.K) (fun x y => (subF x y).map .fz) := by
  intro P σ H M g s v w x y z Q E hv hw e k
  cases x with
  | lst xs =>
    cases y with
    | int i =>
      have e : (atI xs i).map Rs.fz = some z := e
      cases q : atI xs i with
      | none => rw [q] at e; cases e
      | some d =>
        rw [q] at e
        cases e
        obtain ⟨a, vs, rfl, h1, h2⟩ := hv.lst
        obtain ⟨u, h3, h4⟩ := h2.atI q
        exact .inl ⟨a, vs, i, u, rfl, hw.int, SqL.of h1, h3, k _ H M E (Ex.refl _) h4⟩
    | _ => cases e
  | tup xs =>
    cases y with
    | int i =>
      have e : (atI xs i).map Rs.fz = some z := e
      cases q : atI xs i with
      | none => rw [q] at e; cases e
      | some d =>
        rw [q] at e
        cases e
        obtain ⟨a, vs, rfl, h1, h2⟩ := hv.tup
        obtain ⟨u, h3, h4⟩ := h2.atI q
        exact .inr (.inl ⟨a, vs, i, u, rfl, hw.int, h1, h3, k _ H M E (Ex.refl _) h4⟩)
    | _ => cases e
  | str t =>
    cases y with
    | int i =>
      have e : (if lineOk t.length then (atI t.cps.toList i).map (fun c => D.str ⟨#[c]⟩) else none).map Rs.fz = some z := e
      by_cases h : lineOk t.length = true
      · rw [if_pos h] at e
        cases q : atI t.cps.toList i with
        | none => rw [q] at e; cases e
        | some c =>
          rw [q] at e
          cases e
          exact .inr (.inr ⟨t, i, c, hv.str, hw.int, lineOk_le h, q, k _ H M E (Ex.refl _) (.str _)⟩)
      · rw [if_neg h] at e; cases e
    | _ => cases e
  | _ => cases y <;> cases e
end
end DI
end
section
set_option Elab.async false
set_option linter.all false
set_option maxRecDepth 100000
set_option maxHeartbeats 1000000
/-! DIArgs: argument lists, displays, slices, calls of built-ins, parallel assignment's values. -/
namespace DI
open PySem L2
def isStar : Expr → Bool
  | .Starred _ _ => true
  | _ => false
theorem star_cons {e : Expr} {es : List Expr} {env : PySem.Env} (h : isStar e = false) : starEach (e :: es) env = (false, eval e env) :: starEach es env := by
  cases e <;> first
    | rfl
    | cases h
theorem star_any : ∀ {es : List Expr} {env : PySem.Env} {pos : Pos}, es.all (fun e => !isStar e) = true → (backTo pos (starEach es env)).any (·.1) = false
  | [], _, _, _ => rfl
  | e :: es, env, pos, h => by
    rw [List.all_cons, Bool.and_eq_true] at h
    have h1 : isStar e = false := by simpa using h.1
    rw [star_cons h1]
    have := star_any (es := es) (env := env) (pos := pos) h.2
    simpa [backTo] using this
def noStar (es : List Expr) : Bool := es.all fun e => !isStar e
section
variable {F : Fx} {P : Par F} {W : WX} {σ : St} {H : Hp} {g : Ga} {s : Sd} {M : Addr → Prop} {X : Cx} {e a b : Expr} {es : List Expr} {f fa fb : Ga → Sd → Out Rs}
abbrev PAd (X : Cx) (F : Fx) (W : WX) (es : List Expr) (f : Ga → Sd → Out (List D)) : Prop := PA X es (rdG F W RA f)
abbrev PLd (X : Cx) (F : Fx) (W : WX) (es : List Expr) (f : Ga → Sd → Out (List Rs)) : Prop := PA X es (rdG F W RL f)
theorem PA.impA {t t' : TA} (h : PA X es t) (i : ∀ σ H Q, t' σ H Q → t σ H Q) : PA X es t' := PA.imp h i
theorem da_nil : PAd X F W [] (fun g s => .ok [] g s) := PA.imp pa_nil fun σ H Q ⟨P, g, s, M, E, h⟩ => h [] H M E (Ex.refl _) .nil
theorem dl_nil : PLd X F W [] (fun g s => .ok [] g s) := PA.imp pa_nil fun σ H Q ⟨P, g, s, M, E, h⟩ => h [] H M E (Ex.refl _) .nil
theorem da_cons {fr : Ga → Sd → Out (List D)} (ha : PEd X F W e f) (hr : PAd X F W es fr) (hs : isStar e = false) : PAd X F W (e :: es) (aCons f fr) :=
  PA.imp (pa_cons ha.keep hr (star_cons hs)) (by
    rintro σ H Q ⟨P, g, s, M, E, h⟩
    refine rdG.seq (R' := RA) (Q' := Q) E h fun v d H1 g1 s1 M1 E1 x1 r1 h1 => ?_
    refine rdG.seq (R' := RA) (Q' := Q) E1 h1 fun vs ds H2 g2 s2 M2 E2 x2 r2 h2 => ?_
    exact h2 _ H2 M2 E2 (Ex.refl _) (.cons (Rp.mono x2 r1) r2))
theorem RsL.stay {vs : List V} {rs : List Rs} {H1 : Hp} {M1 : Addr → Prop} {g1 : Ga} (x : Ex (hid H M) (hid H1 M1)) : RsL P σ H M g vs rs → RsL P σ H1 M1 g1 vs rs := by
  intro h
  induction h with
  | nil => exact .nil
  | cons r n _ ih => exact .cons (r.stay n x) n ih
theorem dl_cons {fr : Ga → Sd → Out (List Rs)} (ha : PEd X F W e f) (hr : PLd X F W es fr) (hs : isStar e = false) : PLd X F W (e :: es) (lCons f fr) :=
  PA.imp (pa_cons ha.settle hr (star_cons hs)) (by
    rintro σ H Q ⟨P, g, s, M, E, h⟩
    refine rdG.seq (R' := RL) (Q' := Q) E h fun v d H1 g1 s1 M1 E1 x1 ⟨r1, n1⟩ h1 => ?_
    refine rdG.seq (R' := RL) (Q' := Q) E1 h1 fun vs ds H2 g2 s2 M2 E2 x2 r2 h2 => ?_
    exact h2 _ H2 M2 E2 (Ex.refl _) (.cons (r1.stay n1 x2) n1 r2))
theorem RsL.pk (E : En P σ H g s M) : ∀ {vs : List V} {rs : List Rs} {ds : List D}, RsL P σ H M g vs rs → peeks g rs = some ds → PkL P H M vs ds
  | _, _, ds, .nil, e => by cases e; exact .nil
  | _, _, ds, .cons (r := r) (rs := rs) h n t, e => by
    unfold peeks at e
    cases q : peek g r with
    | none => rw [q] at e; cases e
    | some d =>
      cases q2 : peeks g rs with
      | none => rw [q, q2] at e; cases e
      | some ds' =>
        rw [q, q2] at e
        cases e
        exact .cons (h.pk E q) (RsL.pk E t q2)

/-! ### displays -/
theorem d_lst {fs : Ga → Sd → Out (List D)} {pos : Pos} (h : PAd X F W es fs) : PEd X F W (.List es pos) (sLst fs) :=
  PE.imp (pe_lst h) (by
    rintro σ H Q ⟨P, g, s, M, E, h⟩
    refine rdG.seq (R' := RE) (Q' := Q) E h fun vs ds H1 g1 s1 M1 E1 x1 r1 h1 => ?_
    by_cases c : lineOk ds.length = true
    · rw [if_pos c] at h1
      refine ⟨by rw [RpL.length r1]; exact lineOk_le c, fun p hp => ?_⟩
      obtain ⟨E2, x2, r2⟩ := E1.nwList hp r1
      exact h1 _ _ _ E2 x2 r2
    · rw [if_neg c] at h1; exact h1.elim)
theorem d_tup {fs : Ga → Sd → Out (List D)} {pos : Pos} {k : Nat} (h : PAd X F W es fs) : PEd X F W (.Tuple es k pos) (sTup fs) :=
  PE.imp (pe_tup h) (by
    rintro σ H Q ⟨P, g, s, M, E, h⟩
    refine rdG.seq (R' := RE) (Q' := Q) E h fun vs ds H1 g1 s1 M1 E1 x1 r1 h1 => ?_
    by_cases c : lineOk ds.length = true
    · rw [if_pos c] at h1
      refine ⟨by rw [RpL.length r1]; exact lineOk_le c, fun p hp => ?_⟩
      obtain ⟨E2, x2, r2⟩ := E1.nwTup hp r1
      exact h1 _ _ _ E2 x2 r2
    · rw [if_neg c] at h1; exact h1.elim)

/-! ### slices -/
abbrev POd (X : Cx) (F : Fx) (W : WX) (e : Option Expr) (f : Ga → Sd → Out (Option Int)) : Prop := PO X e (rdG F W RQ f)
theorem PO.imp {e : Option Expr} {t t' : TO} (h : PO X e t) (i : ∀ σ H Q, t' σ H Q → t σ H Q) : PO X e t' := ⟨fun pins s σ H Q I q => h.run pins s σ H Q I (i σ H Q q)⟩
theorem do_none : POd X F W none (fun g s => .ok none g s) := PO.imp po_none fun σ H Q ⟨P, g, s, M, E, h⟩ => h none H M E (Ex.refl _) rfl
theorem do_some (h : PEd X F W e f) : POd X F W (some e) (pOf f) :=
  PO.imp (po_some h) (by
    rintro σ H Q ⟨P, g, s, M, E, q⟩
    refine rdG.seq (R' := RQ) (Q' := Q) E q fun v r H1 g1 s1 M1 E1 x1 rr h1 => ?_
    cases r with
    | sl i => exact h1.elim
    | nw xs => exact h1.elim
    | nt o => exact h1.elim
    | fz d =>
      cases d with
      | int k =>
        cases rr with
        | int => exact ⟨k, rfl, h1 _ H1 M1 E1 (Ex.refl _) rfl⟩
      | _ => exact h1.elim)
theorem d_slc {lo hi : Option Expr} {fl fh : Ga → Sd → Out (Option Int)} {p2 pos : Pos} (ha : PEd X F W a fa) (hl : POd X F W lo fl) (hh : POd X F W hi fh) (hK : X.K = F.K) : PEd X F W (.Subscript a (.Slice lo hi none p2) pos) (sSlc fa fl fh) :=
  PE.imp (pe_slice (SlR.or sl_list sl_tup) ha.settle hl hh) (by
    rintro σ H Q ⟨P, g, s, M, E, h⟩
    refine rdG.seq (R' := RE) (Q' := Q) E h fun v r1 H1 g1 s1 M1 E1 x1 ⟨rr1, n1⟩ h1 => ?_
    refine rdG.seq (R' := RE) (Q' := Q) E1 h1 fun l r2 H2 g2 s2 M2 E2 x2 rr2 h2 => ?_
    subst rr2
    refine rdG.seq (R' := RE) (Q' := Q) E2 h2 fun u r3 H3 g3 s3 M3 E3 x3 rr3 h3 => ?_
    subst rr3
    obtain ⟨x, z, p1, p3, h4⟩ := post_one h3
    have pk := (rr1.stay (g1 := g3) n1 (x2.trans x3)).pk E3 p1
    cases x with
    | lst xs =>
      cases p3
      obtain ⟨c, ws, rfl, k1, k2⟩ := pk.lst
      refine .inl ⟨c, ws, rfl, SqL.of k1, fun p hp => ?_⟩
      obtain ⟨E4, x4, r4⟩ := E3.nwList hp (k2.cut l u)
      exact h4 _ _ _ E4 x4 r4
    | tup xs =>
      have p3 : (if HT.sIx xs.length 0 l = 0 ∧ HT.sIx xs.length xs.length u = xs.length then none else some (Rs.fz (.tup (cutL xs l u)))) = some z := p3
      obtain ⟨c, ws, rfl, k1, k2⟩ := pk.tup
      by_cases w : HT.sIx xs.length 0 l = 0 ∧ HT.sIx xs.length xs.length u = xs.length
      · rw [if_pos w] at p3; cases p3
      · rw [if_neg w] at p3
        cases p3
        refine .inr ⟨c, ws, rfl, by rw [hK]; exact k1, by rw [k2.length]; exact w, fun p hp => ?_⟩
        obtain ⟨E4, x4, r4⟩ := E3.nwTup hp (k2.cut l u)
        exact h4 _ _ _ E4 x4 r4
    | _ => cases p3)

/-! ### calls of built-ins -/
/-- a call on values does fn on data -/
def Many (X : Cx) (F : Fx) (r : List V → Hp → VK → Prop) (fn : List D → Option Rs) : Prop :=
  ∀ (P : Par F) (σ : St) (H : Hp) (M : Addr → Prop) (g : Ga) (s : Sd) (vs : List V) (ds : List D) (z : Rs) (Q : VK), En P σ H g s M → PkL P H M vs ds → fn ds = some z →
    (∀ u H' M', En P σ H' g s M' → Ex (hid H M) (hid H' M') → RsR P σ H' M' g u z → Q u H') → r vs H Q
theorem many_imp {r : List V → Hp → VK → Prop} {fn : List D → Option Rs} {fs : Ga → Sd → Out (List Rs)} (hf : Many X F r fn) : ∀ σ H Q, rdG F W RE (sBi fn fs) σ H Q → (fun σ H Q => rdG F W RL fs σ H fun xs H1 => r xs H1 Q) σ H Q := by
  rintro σ H Q ⟨P, g, s, M, E, h⟩
  refine rdG.seq (R' := RE) (Q' := Q) E h fun vs rs H1 g1 s1 M1 E1 x1 rr h1 => ?_
  obtain ⟨ds, z, p1, p3, h3⟩ := post_one h1
  exact hf P σ H1 M1 g1 s1 vs ds z Q E1 (RsL.pk E1 rr p1) p3 h3
end
end DI
end
section
set_option Elab.async false
set_option linter.all false
set_option maxRecDepth 100000
set_option maxHeartbeats 1000000
/-! DIBi: built-ins, isinstance, in. -/
namespace DI
open PySem L2
section
variable {F : Fx} {P : Par F} {W : WX} {σ : St} {H : Hp} {g : Ga} {s : Sd} {M : Addr → Prop} {X : Cx} {e a b : Expr} {es : List Expr} {f fa fb : Ga → Sd → Out Rs}
theorem PkL.one {vs : List V} {d : D} (h : PkL P H M vs [d]) : ∃ v, vs = [v] ∧ PkR P H M v d := by
  cases h with
  | cons h t => cases t; exact ⟨_, rfl, h⟩
theorem PkL.two {vs : List V} {d d' : D} (h : PkL P H M vs [d, d']) : ∃ v v', vs = [v, v'] ∧ PkR P H M v d ∧ PkR P H M v' d' := by
  cases h with
  | cons h t => cases t with
    | cons h' t => cases t; exact ⟨_, _, rfl, h, h'⟩
theorem many_len (hK : X.K = F.K) : Many X F (fun xs H Q => (∃ p ys, xs = [.ref p] ∧ (SqL X.K H p ys ∨ SqT X.K H p ys) ∧ Q (.int ys.length) H) ∨ ∃ z, xs = [.str z] ∧ z.length ≤ sizeLine ∧ Q (.int z.length) H) (biF .len) := by
  intro P σ H M g s vs ds z Q E h e k
  rcases ds with _ | ⟨d, _ | ⟨d', r⟩⟩
  · cases e
  · obtain ⟨v, rfl, hv⟩ := h.one
    cases d with
    | lst xs =>
      cases e
      obtain ⟨a, ws, rfl, h1, h2⟩ := hv.lst
      exact .inl ⟨a, ws, rfl, .inl (SqL.of h1), by rw [h2.length]; exact k _ H M E (Ex.refl _) (.int _)⟩
    | tup xs =>
      cases e
      obtain ⟨a, ws, rfl, h1, h2⟩ := hv.tup
      exact .inl ⟨a, ws, rfl, .inr (by rw [hK]; exact h1), by rw [h2.length]; exact k _ H M E (Ex.refl _) (.int _)⟩
    | str t =>
      have e : (if lineOk t.length then some (Rs.fz (.int t.length)) else none) = some z := e
      by_cases c : lineOk t.length = true
      · rw [if_pos c] at e
        cases e
        rw [hv.str]
        exact .inr ⟨t, rfl, lineOk_le c, k _ H M E (Ex.refl _) (.int _)⟩
      · rw [if_neg c] at e; cases e
    | _ => cases e
  · cases d <;> cases e
def rListA (K : PySem.W.Frag) : List V → Hp → VK → Prop := fun xs H Q => (∃ p ys, xs = [.ref p] ∧ (SqL K H p ys ∨ SqT K H p ys) ∧ ∀ l, H l = none → Q (.ref l) (upd H l (.lst ys))) ∨
  ∃ (a : Addr) (kvs : List (Key × V)), xs = [.ref a] ∧ Rd H a (.dK kvs) ∧ ∀ p, H p = none → Q (.ref p) (upd H p (.lst (kvs.map fun kv => kV kv.1)))
theorem cr_list (hc : X.calm = true) : CallR X (.type "list") (rListA X.K) := CallR.or call_list_of (call_listD hc)
theorem many_list (hK : X.K = F.K) : Many X F (rListA X.K) (biF .list) := by
  intro P σ H M g s vs ds z Q E h e k
  rcases ds with _ | ⟨d, _ | ⟨d', r⟩⟩
  · cases e
  · obtain ⟨v, rfl, hv⟩ := h.one
    cases d with
    | lst xs =>
      cases e
      obtain ⟨a, ws, rfl, h1, h2⟩ := hv.lst
      refine .inl ⟨a, ws, rfl, .inl (SqL.of h1), fun p hp => ?_⟩
      obtain ⟨E2, x2, r2⟩ := E.nwList hp h2
      exact k _ _ _ E2 x2 r2
    | tup xs =>
      cases e
      obtain ⟨a, ws, rfl, h1, h2⟩ := hv.tup
      refine .inl ⟨a, ws, rfl, .inr (by rw [hK]; exact h1), fun p hp => ?_⟩
      obtain ⟨E2, x2, r2⟩ := E.nwList hp h2
      exact k _ _ _ E2 x2 r2
    | dic kvs =>
      cases kvs with
      | cons y ys => cases e
      | nil =>
        cases e
        rcases hv with hv | ⟨_, _, _, hv, _⟩
        · cases hv with
          | dic h1 h2 =>
            cases h2
            refine .inr ⟨_, [], rfl, .inl ((hid_some h1).2), fun p hp => ?_⟩
            obtain ⟨E2, x2, r2⟩ := E.nwList (vs := []) (xs := []) hp .nil
            exact k _ _ _ E2 x2 r2
        · cases hv
    | _ => cases e
  · cases d <;> first
      | cases e
      | (rename_i kvs; cases kvs <;> cases e)
theorem PkR.tupRp {v : V} {xs : List D} (h : PkR P H M v (.tup xs)) : Rp P.K P.c (hid H M) v (.tup xs) := by
  rcases h with h | ⟨a, vs, ys, e, _⟩
  · exact h
  · cases e
theorem many_tuple (hK : X.K = F.K) : Many X F (fun xs H Q => ∃ p ys, xs = [.ref p] ∧ ((SqL X.K H p ys ∧ ∀ l, H l = none → Q (.ref l) (upd H l (.tup ys))) ∨ (SqT X.K H p ys ∧ Q (.ref p) H))) (biF .tuple) := by
  intro P σ H M g s vs ds z Q E h e k
  rcases ds with _ | ⟨d, _ | ⟨d', r⟩⟩
  · cases e
  · obtain ⟨v, rfl, hv⟩ := h.one
    cases d with
    | lst xs =>
      cases e
      obtain ⟨a, ws, rfl, h1, h2⟩ := hv.lst
      refine ⟨a, ws, rfl, .inl ⟨SqL.of h1, fun p hp => ?_⟩⟩
      obtain ⟨E2, x2, r2⟩ := E.nwTup hp h2
      exact k _ _ _ E2 x2 r2
    | tup xs =>
      cases e
      have r := hv.tupRp
      obtain ⟨a, ws, rfl, h1, h2⟩ := hv.tup
      exact ⟨a, ws, rfl, .inr ⟨by rw [hK]; exact h1, k _ H M E (Ex.refl _) r⟩⟩
    | _ => cases e
  · cases d <;> cases e
theorem many_int : Many X F (fun xs H Q => (∃ i, xs = [.int i] ∧ Q (.int i) H) ∨ ∃ k, xs = [.bl k] ∧ Q (.int (if k then 1 else 0)) H) (biF .int) := by
  intro P σ H M g s vs ds z Q E h e k
  rcases ds with _ | ⟨d, _ | ⟨d', r⟩⟩
  · cases e
  · obtain ⟨v, rfl, hv⟩ := h.one
    cases d with
    | int i => cases e; rw [hv.int]; exact .inl ⟨i, rfl, k _ H M E (Ex.refl _) (.int _)⟩
    | _ => cases e
  · cases d <;> cases e
theorem many_all : Many X F (rAll X.K) (biF .all) := by
  intro P σ H M g s vs ds z Q E h e k
  rcases ds with _ | ⟨d, _ | ⟨d', r⟩⟩
  · cases e
  · obtain ⟨v, rfl, hv⟩ := h.one
    cases d with
    | lst xs =>
      have e : (bools xs).map (fun bs => Rs.fz (.bl (bs.all id))) = some z := e
      cases q : bools xs with
      | none => rw [q] at e; cases e
      | some bs =>
        rw [q] at e
        cases e
        obtain ⟨a, ws, rfl, h1, h2⟩ := hv.lst
        rw [RpL.bools h2 q] at h1
        exact ⟨a, bs, rfl, SqL.of h1, k _ H M E (Ex.refl _) (.bl _)⟩
    | _ => cases e
  · cases d <;> cases e
theorem many_any : Many X F (rAny X.K) (biF .any) := by
  intro P σ H M g s vs ds z Q E h e k
  rcases ds with _ | ⟨d, _ | ⟨d', r⟩⟩
  · cases e
  · obtain ⟨v, rfl, hv⟩ := h.one
    cases d with
    | lst xs =>
      have e : (bools xs).map (fun bs => Rs.fz (.bl (bs.any id))) = some z := e
      cases q : bools xs with
      | none => rw [q] at e; cases e
      | some bs =>
        rw [q] at e
        cases e
        obtain ⟨a, ws, rfl, h1, h2⟩ := hv.lst
        rw [RpL.bools h2 q] at h1
        exact ⟨a, bs, rfl, SqL.of h1, k _ H M E (Ex.refl _) (.bl _)⟩
    | _ => cases e
  · cases d <;> cases e
theorem many_max2 : Many X F (fun xs H Q => ∃ i j, xs = [.int i, .int j] ∧ Q (.int (if j > i then j else i)) H) (biF .max2) := by
  intro P σ H M g s vs ds z Q E h e k
  rcases ds with _ | ⟨d, _ | ⟨d', _ | ⟨d'', r⟩⟩⟩
  · cases e
  · cases d <;> cases e
  · obtain ⟨v, v', rfl, hv, hw⟩ := h.two
    cases d with
    | int i => cases d' with
      | int j => cases e; rw [hv.int, hw.int]; exact ⟨i, j, rfl, k _ H M E (Ex.refl _) (.int _)⟩
      | _ => cases e
    | _ => cases d' <;> cases e
  · cases d <;> cases d' <;> cases e
theorem many_min2 : Many X F (fun xs H Q => ∃ i j, xs = [.int i, .int j] ∧ Q (.int (if j < i then j else i)) H) (biF .min2) := by
  intro P σ H M g s vs ds z Q E h e k
  rcases ds with _ | ⟨d, _ | ⟨d', _ | ⟨d'', r⟩⟩⟩
  · cases e
  · cases d <;> cases e
  · obtain ⟨v, v', rfl, hv, hw⟩ := h.two
    cases d with
    | int i => cases d' with
      | int j => cases e; rw [hv.int, hw.int]; exact ⟨i, j, rfl, k _ H M E (Ex.refl _) (.int _)⟩
      | _ => cases e
    | _ => cases d' <;> cases e
  · cases d <;> cases d' <;> cases e
/-- the call itself -/
theorem d_bi {id : String} {x : Str} {r : List V → Hp → VK → Prop} {fn : List D → Option Rs} {fs : Ga → Sd → Out (List Rs)} {p pos : Pos} (hc : CallR X (.builtin id) r) (hf : Many X F r fn) (hg : Gl X x) (hm : X.mg x = none) (hv : bootBuiltins x = some (.builtin id)) (ha : PLd X F W (e :: es) fs)
    (hn : x ≠ "__name__") (hdb : (x == ("__debug__" : Str)) = false) (h1 : isStar e = false) (h2 : noStar es = true) : PEd X F W (.Call (.Name x p) (e :: es) [] pos) (sBi fn fs) :=
  PE.imp (pe_callB hc hg hm hv ha hn hdb (star_cons h1) (star_any h2)) (many_imp hf)
theorem d_biT {T : String} {x : Str} {r : List V → Hp → VK → Prop} {fn : List D → Option Rs} {fs : Ga → Sd → Out (List Rs)} {p pos : Pos} (hc : CallR X (.type T) r) (hf : Many X F r fn) (hg : Gl X x) (hm : X.mg x = none) (hv : bootBuiltins x = some (.type T)) (ha : PLd X F W (e :: es) fs)
    (hn : x ≠ "__name__") (hdb : (x == ("__debug__" : Str)) = false) (h1 : isStar e = false) (h2 : noStar es = true) : PEd X F W (.Call (.Name x p) (e :: es) [] pos) (sBi fn fs) :=
  PE.imp (pe_callTy hc hg hm hv ha hn hdb (star_cons h1) (star_any h2)) (many_imp hf)

/-! ### isinstance -/
def Ty.nm : Ty → String
  | .int => "int" | .bool => "bool" | .str => "str" | .list => "list" | .tuple => "tuple" | .dict => "dict"
def D.nm : D → String
  | .non => "NoneType" | .bl _ => "bool" | .int _ => "int" | .str _ => "str" | .lst _ => "list" | .tup _ => "tuple" | .dic _ => "dict" | .strm => "list"
theorem kit_nm (t : Ty) : ∀ d : D, d ≠ .strm → kitB d.nm t.nm = some (D.isTy t d) := by
  intro d h
  cases d <;> first
    | exact absurd rfl h
    | (cases t <;> (show kitB _ _ = some _) <;> simp only [D.nm, Ty.nm, D.isTy] <;> decide +kernel)
theorem kit_any {K : PySem.W.Frag} {d : D} (h : d ≠ .strm) : ∀ tys : List Ty, PySem.W.kitAny K (.type d.nm) (tys.map fun t => Value.type t.nm) = some (tys.any fun t => D.isTy t d)
  | [] => kitAny_nil
  | t :: r => by
    rw [List.map_cons, List.any_cons]
    exact kitAny_cons (kit_ty (kit_nm t d h)) (fun e => by rw [e, Bool.false_or]; exact kit_any h r) (fun e => by rw [e, Bool.true_or])
theorem PkR.ty {v : V} {d : D} (hn : d ≠ .strm) (h : PkR P H M v d) : TyX F.K H v (.type d.nm) := by
  have q := h.rp
  clear h
  cases q with
  | non => exact .base .non
  | bl b => exact .base (.bl b)
  | int b => exact .base (.int b)
  | str b => exact .base (.str b)
  | lst h _ => exact .base (.lst h)
  | tup h _ =>
    rcases h with (h | ⟨o, h⟩) | ⟨o, its, n, h1, h2, _⟩
    · exact .base (.tup h)
    · exact .fTuple h
    · exact .kTuple h1 h2
  | dic h _ => exact .base (.dK h)
  | strm => exact absurd rfl hn
theorem isiF_some {tys : List Ty} {d : D} {z : Rs} (h : isiF tys d = some z) : d ≠ .strm ∧ z = .fz (.bl (tys.any fun t => D.isTy t d)) := by
  cases d <;> first
    | (cases h; exact ⟨(fun z => by cases z), rfl⟩)
    | cases h
theorem d_isi1 {t : Ty} {p p2 pos : Pos} (hK : X.K = F.K) (hg : Gl X "isinstance") (hm : X.mg "isinstance" = none) (hv : bootBuiltins "isinstance" = some (.builtin "isinstance")) (ha : PEd X F W a fa) (hs : isStar a = false)
    (h1 : PE X b (tC (.ty t.nm))) (hs2 : isStar b = false) : PEd X F W (.Call (.Name "isinstance" p) [a, b] [] pos) (sOne (isiF [t]) fa) :=
  PE.imp (pe_callB call_isi hg hm hv (pa_cons ha.settle (pa_cons h1 pa_nil (star_cons hs2)) (star_cons hs)) (by decide) (by decide) (star_cons hs) (star_any (by simp [hs2]))) (by
    rintro σ H Q ⟨P, g, s, M, E, h⟩
    refine rdG.seq (R' := RE) (Q' := Q) E h fun v r1 H1 g1 s1 M1 E1 x1 ⟨rr1, n1⟩ h1 => ?_
    obtain ⟨x, z, p1, p3, h3⟩ := post_one h1
    obtain ⟨q1, rfl⟩ := isiF_some p3
    have pk := rr1.pk E1 p1
    refine ⟨v, .ty t.nm, _, _, D.isTy t x, rfl, .ty _, by rw [hK]; exact pk.ty q1, kit_ty (kit_nm t x q1), h3 _ H1 M1 E1 (Ex.refl _) ?_⟩
    show Rp _ _ _ _ (.bl (([t] : List Ty).any fun t => D.isTy t x))
    rw [show ([t] : List Ty).any (fun t => D.isTy t x) = D.isTy t x by simp]
    exact .bl _)
theorem d_isiT {tys : List Ty} {bs : List Expr} {kk : Nat} {p p2 pos : Pos} (hK : X.K = F.K) (hg : Gl X "isinstance") (hm : X.mg "isinstance" = none) (hv : bootBuiltins "isinstance" = some (.builtin "isinstance")) (ha : PEd X F W a fa) (hs : isStar a = false)
    (h1 : PA X bs fun σ H Q => Q (tys.map fun t => V.ty t.nm) H) (hl : tys.length ≤ 1000) : PEd X F W (.Call (.Name "isinstance" p) [a, .Tuple bs kk p2] [] pos) (sOne (isiF tys) fa) :=
  PE.imp (pe_callB call_isiT hg hm hv (pa_cons ha.settle (pa_cons (pe_tup h1) pa_nil (star_cons rfl)) (star_cons hs)) (by decide) (by decide) (star_cons hs) (star_any (by rfl))) (by
    rintro σ H Q ⟨P, g, s, M, E, h⟩
    refine rdG.seq (R' := RE) (Q' := Q) E h fun v r1 H1 g1 s1 M1 E1 x1 ⟨rr1, n1⟩ h1 => ?_
    obtain ⟨x, z, p1, p3, h3⟩ := post_one h1
    obtain ⟨q1, rfl⟩ := isiF_some p3
    refine ⟨by rw [List.length_map]; exact Nat.le_trans hl (by decide), fun q hq => ?_⟩
    obtain ⟨E2, x2, np⟩ := E1.alloc hq (.tup (tys.map fun t => V.ty t.nm))
    have pk := (rr1.stay (g1 := g1) n1 x2).pk E2 p1
    refine ⟨v, q, _, _, tys.map fun t => Value.type t.nm, _, rfl, upd_same, ?_, by rw [hK]; exact pk.ty q1, kit_any q1 tys, h3 _ _ M1 E2 x2 (.bl _)⟩
    have : ∀ l : List Ty, Paired ClsV (l.map fun t => V.ty t.nm) (l.map fun t => Value.type t.nm) := by
      intro l
      induction l with
      | nil => exact .nil
      | cons t r ih => exact .cons (.ty _) ih
    exact this tys)

/-! ### in -/
theorem flat_rp {K : PySem.W.Frag} {c : Addr} {H : Hp} {v : V} {d : D} (h : Rp K c H v d) (f : flatD d = true) : flatV v = true := by
  cases h <;> first
    | rfl
    | cases f
theorem flat_all {K : PySem.W.Frag} {c : Addr} {H : Hp} : ∀ {vs : List V} {ds : List D}, RpL K c H vs ds → ds.all flatD = true → vs.all flatV = true
  | _, _, .nil, _ => rfl
  | _, _, .cons h t, f => by
    rw [List.all_cons, Bool.and_eq_true] at f
    rw [List.all_cons, flat_rp h f.1, flat_all t f.2]
    rfl
theorem eq_rp {K : PySem.W.Frag} {c : Addr} {H : Hp} {v w : V} {d e : D} (h : Rp K c H v d) (k : Rp K c H w e) (f : flatD d = true) (f2 : flatD e = true) : eqV v w = eqD d e := by
  cases h <;> first
    | exact absurd f Bool.false_ne_true
    | (cases k <;> first | rfl | exact absurd f2 Bool.false_ne_true)
theorem in_rp {K : PySem.W.Frag} {c : Addr} {H : Hp} {w : V} {e : D} (k : Rp K c H w e) (f2 : flatD e = true) : ∀ {vs : List V} {ds : List D}, RpL K c H vs ds → ds.all flatD = true → inV w vs = ds.any fun y => eqD y e
  | _, _, .nil, _ => rfl
  | _, _, .cons h t, f => by
    rw [List.all_cons, Bool.and_eq_true] at f
    rw [List.any_cons, ← in_rp k f2 t f.2, ← eq_rp h k f.1 f2]
    rfl
def rInA (K : PySem.W.Frag) (neg : Bool) : R2 := fun x y H Q => (∃ i j, x = .str i ∧ y = .str j ∧ Q (.bl (if neg then !(!(Builtin.Str.occurrences j i 0 j.length 1).isEmpty) else !(Builtin.Str.occurrences j i 0 j.length 1).isEmpty)) H) ∨
  (∃ d ds, Dp K H x d ∧ Dp K H y (.list ds) ∧ SeqAt.shaped d = true ∧ SeqAt.shaped (.list ds) = true ∧ Q (.bl (if neg then !(ds.any fun z => PyData.eqv z d) else ds.any fun z => PyData.eqv z d)) H) ∨ rIn K neg x y H Q
theorem op_inA (hu : X.A.units + 65 < cLine) : OpR X (compareOp .In) (rInA X.K false) := OpR.or op_in_str (OpR.or (op_inD hu) op_in_seq)
theorem op_notInA (hu : X.A.units + 65 < cLine) : OpR X (compareOp .NotIn) (rInA X.K true) := OpR.or op_notin_str (OpR.or (op_notInD hu) op_notIn_seq)
theorem inF_run {neg : Bool} {v w : V} {x y : D} {b : Bool} {Q : VK} (hv : PkR P H M v x) (hw : PkR P H M w y) (e : inF x y = some b) (q : Q (.bl (if neg then !b else b)) H) : rInA F.K neg v w H Q := by
  cases y with
  | str z =>
    cases x with
    | str t => cases e; exact .inl ⟨t, z, hv.str, hw.str, q⟩
    | _ => cases e
  | lst ys =>
    cases p1 : x.pd with
    | none =>
      have e : inL x.pd (D.pdAll ys) = some b := e
      rw [p1] at e; cases e
    | some d =>
      cases p2 : D.pdAll ys with
      | none =>
        have e : inL x.pd (D.pdAll ys) = some b := e
        rw [p1, p2] at e; cases e
      | some zs =>
        have e : inL x.pd (D.pdAll ys) = some b := e
        rw [p1, p2] at e
        have e : (if SeqAt.shaped d && SeqAt.shaped (.list zs) then some (zs.any fun z => PyData.eqv z d) else none) = some b := e
        by_cases c : (SeqAt.shaped d && SeqAt.shaped (.list zs)) = true
        · rw [if_pos c] at e
          cases e
          rw [Bool.and_eq_true] at c
          have p3 : (D.lst ys).pd = some (.list zs) := by unfold D.pd; rw [p2]
          exact .inr (.inl ⟨d, zs, hv.rp.dp p1, hw.rp.dp p3, c.1, c.2, q⟩)
        · rw [if_neg c] at e; cases e
  | tup ys =>
    have e : (if flatD x && ys.all flatD then some (ys.any fun y => eqD y x) else none) = some b := e
    by_cases c : (flatD x && ys.all flatD) = true
    · rw [if_pos c] at e
      cases e
      rw [Bool.and_eq_true] at c
      obtain ⟨a, ws, rfl, h1, h2⟩ := hw.tup
      have h2' := h2.mono (hid_ex H M)
      refine .inr (.inr ⟨a, ws, rfl, .inr h1, flat_rp hv.rp c.1, flat_all h2' c.2, ?_⟩)
      rw [in_rp hv.rp c.1 h2' c.2]
      exact q
    · rw [if_neg c] at e; cases e
  | _ => cases x <;> cases e
theorem two_in : Two X F (rInA F.K false) (fun x y => (cmpF .isIn x y).map fun k => .fz (.bl k)) := two_cmp fun P H M v w x y b Q hv hw e q => inF_run hv hw (show inF x y = some b from e) q
theorem two_notIn : Two X F (rInA F.K true) (fun x y => (cmpF .notIn x y).map fun k => .fz (.bl k)) := two_cmp fun P H M v w x y b Q hv hw e q => by
  have e : (inF x y).map (!·) = some b := e
  cases c : inF x y with
  | none => rw [c] at e; cases e
  | some k => rw [c] at e; cases e; exact inF_run hv hw c q
end
end DI
end
section
set_option Elab.async false
set_option linter.all false
set_option maxRecDepth 100000
set_option maxHeartbeats 1000000
/-! DIEnv: how a def's state changes: slots set, lists written, temporary things, targets, what is walked. -/
namespace DI
open PySem L2
section
variable {F : Fx} {P : Par F} {W : WX} {σ : St} {H : Hp} {g : Ga} {s : Sd} {M : Addr → Prop}
theorem get_set_ne {α : Type} {l : List α} {i j : Nat} {x : α} (h : j ≠ i) : (l.set i x)[j]? = l[j]? := List.getElem?_set_ne (Ne.symm h)
/-- a slot takes a value -/
theorem En.put (E : En P σ H g s M) {i : Nat} (hi : i < g.length) {v : V} {l : Sl} (hl : ∀ d, l = .fz d → Rp P.K P.c (hid H M) v d)
    (ho : ∀ o, l.tr = some o → Ro P.K P.c H M v o ∧ (fp H o v).Nodup ∧ ∀ a ∈ fp H o v, M a ∧ ¬ P.M0 a ∧ ∀ j, j ≠ i → a ∉ foot σ H g j) : En P (σ.set i (some v)) H (g.set i l) s M := by
  have hs : i < σ.length := by rw [E.len]; exact hi
  have fs : ∀ o, l.tr = some o → foot (σ.set i (some v)) H (g.set i l) i = fp H o v := fun o t => foot_of (List.getElem?_set_self hi) t (List.getElem?_set_self hs)
  have fn : l.tr = none → foot (σ.set i (some v)) H (g.set i l) i = [] := fun t => foot_set_no t hi
  have fe : ∀ a, a ∈ foot (σ.set i (some v)) H (g.set i l) i → ∃ o, l.tr = some o ∧ a ∈ fp H o v := fun a ha => by
    cases t : l.tr with
    | none => rw [fn t] at ha; cases ha
    | some o => rw [fs o t] at ha; exact ⟨o, rfl, ha⟩
  refine ⟨by rw [List.length_set, List.length_set]; exact E.len, fun j d e => ?_, fun j l' o e t => ?_, fun j => ?_, fun j k a n h1 h2 => ?_, fun j a h => ?_, E.wd, E.m0, E.al, E.fr, E.nw⟩
  · by_cases hj : j = i
    · subst hj
      rw [List.getElem?_set_self hi] at e
      exact ⟨v, List.getElem?_set_self hs, hl d (Option.some.inj e)⟩
    · rw [get_set_ne hj] at e ⊢
      exact E.fz j d e
  · by_cases hj : j = i
    · subst hj
      rw [List.getElem?_set_self hi] at e
      cases e
      exact ⟨v, List.getElem?_set_self hs, (ho o t).1⟩
    · rw [get_set_ne hj] at e ⊢
      exact E.ot j l' o e t
  · by_cases hj : j = i
    · subst hj
      cases t : l.tr with
      | none => rw [fn t]; exact List.nodup_nil
      | some o => rw [fs o t]; exact (ho o t).2.1
    · rw [foot_set_ne hj]; exact E.nd j
  · by_cases hj : j = i
    · subst hj
      obtain ⟨o, t, ha⟩ := fe a h1
      rw [foot_set_ne (Ne.symm n)] at h2
      exact ((ho o t).2.2 a ha).2.2 k (Ne.symm n) h2
    · by_cases hk : k = i
      · subst hk
        obtain ⟨o, t, ha⟩ := fe a h2
        rw [foot_set_ne n] at h1
        exact ((ho o t).2.2 a ha).2.2 j n h1
      · rw [foot_set_ne hj] at h1; rw [foot_set_ne hk] at h2
        exact E.dj j k a n h1 h2
  · by_cases hj : j = i
    · subst hj
      obtain ⟨o, t, ha⟩ := fe a h
      exact ⟨((ho o t).2.2 a ha).1, ((ho o t).2.2 a ha).2.1⟩
    · rw [foot_set_ne hj] at h; exact E.hm j a h
/-- a slot takes data -/
theorem En.setFz (E : En P σ H g s M) {i : Nat} (hi : i < g.length) {v : V} {d : D} (r : Rp P.K P.c (hid H M) v d) : En P (σ.set i (some v)) H (g.set i (.fz d)) s M :=
  E.put hi (fun d' z => by cases z; exact r) fun o z => by cases z
/-- a slot takes a list of its own -/
theorem En.setOw (E : En P σ H g s M) {i : Nat} (hi : i < g.length) {a : Addr} {vs : List V} {xs : List D} (h1 : M a) (h2 : ¬ P.M0 a) (h3 : H a = some (.lst vs)) (h4 : RpL P.K P.c (hid H M) vs xs)
    (h5 : NoS σ H g a) : En P (σ.set i (some (.ref a))) H (g.set i (.ow xs)) s M :=
  E.put hi (fun d z => by cases z) fun o z => by
    cases z
    rw [fp_flat]
    refine ⟨.lst h3 (RoL.of_fz h4), List.nodup_cons.mpr ⟨fun z => (by cases z), List.nodup_nil⟩, fun b hb => ?_⟩
    rw [List.mem_singleton.mp hb]
    exact ⟨h1, h2, fun j _ => h5 j⟩
/-- a slot takes a deeper thing -/
theorem En.setOt (E : En P σ H g s M) {i : Nat} (hi : i < g.length) {v : V} {o : O} (r : Ro P.K P.c H M v o) (n : (fp H o v).Nodup) (m : ∀ a ∈ fp H o v, M a ∧ ¬ P.M0 a ∧ NoS σ H g a) : En P (σ.set i (some v)) H (g.set i (.ot o)) s M :=
  E.put hi (fun d z => by cases z) fun o' z => by
    cases z
    exact ⟨r, n, fun a ha => ⟨(m a ha).1, (m a ha).2.1, fun j _ => (m a ha).2.2 j⟩⟩
theorem foot_un {i j : Nat} {x : Option V} {a : Addr} (hi : i < g.length) (h : a ∈ foot (σ.set i x) H (g.set i .un) j) : j ≠ i ∧ a ∈ foot σ H g j := by
  by_cases hj : j = i
  · subst hj; rw [foot_set_no rfl hi] at h; cases h
  · rw [foot_set_ne hj] at h; exact ⟨hj, h⟩
/-- a slot is emptied -/
theorem En.setUn (E : En P σ H g s M) (i : Nat) : En P (σ.set i none) H (g.set i .un) s M := by
  by_cases hi : i < g.length
  · refine ⟨by rw [List.length_set, List.length_set]; exact E.len, fun j d' e => ?_, fun j l o e t => ?_, fun j => ?_, fun j k a n h1 h2 => ?_, fun j a h => ?_, E.wd, E.m0, E.al, E.fr, E.nw⟩
    · by_cases hj : j = i
      · subst hj; rw [List.getElem?_set_self hi] at e; cases e
      · rw [get_set_ne hj] at e ⊢
        exact E.fz j d' e
    · by_cases hj : j = i
      · subst hj; rw [List.getElem?_set_self hi] at e; cases e; cases t
      · rw [get_set_ne hj] at e ⊢
        exact E.ot j l o e t
    · by_cases hj : j = i
      · subst hj; rw [foot_set_no rfl hi]; exact List.nodup_nil
      · rw [foot_set_ne hj]; exact E.nd j
    · exact E.dj j k a n (foot_un hi h1).2 (foot_un hi h2).2
    · exact E.hm j a (foot_un hi h).2
  · rw [List.set_eq_of_length_le (by rw [E.len]; omega), List.set_eq_of_length_le (by omega)]
    exact E
theorem En.wipe (E : En P σ H g s M) : ∀ vs : List Nat, En P (wipe σ vs) H (wipeG g vs) s M
  | [] => E
  | v :: vs => (En.wipe E vs).setUn v
theorem NoS.setUn {a : Addr} (n : NoS σ H g a) (E : En P σ H g s M) (i : Nat) : NoS (σ.set i none) H (g.set i .un) a := fun j z => by
  by_cases hi : i < g.length
  · exact n j (foot_un hi z).2
  · rw [List.set_eq_of_length_le (by rw [E.len]; omega), List.set_eq_of_length_le (by omega)] at z
    exact n j z
theorem NoS.wipe {a : Addr} (n : NoS σ H g a) (E : En P σ H g s M) : ∀ vs : List Nat, NoS (L2.wipe σ vs) H (wipeG g vs) a
  | [] => n
  | v :: vs => (NoS.wipe n E vs).setUn (E.wipe vs) v
/-- what may change stands: no slot's own is another -/
theorem En.feet (E : En P σ H g s M) {H' : Hp} {M' : Addr → Prop} (x : Ex (hid H M) (hid H' M')) (k : ∀ a, M a → H' a = H a) (i : Nat) : foot σ H' g i = foot σ H g i := by
  cases q : g[i]? with
  | none => rw [foot_none (H := H) (fun l h => by rw [q] at h; cases h), foot_none (fun l h => by rw [q] at h; cases h)]
  | some l =>
    cases t : l.tr with
    | none => rw [foot_none (H := H) (fun l' h => by rw [q] at h; cases h; exact t), foot_none (fun l' h => by rw [q] at h; cases h; exact t)]
    | some o =>
      obtain ⟨v, e, r, f, _, m⟩ := E.tree q t
      rw [foot_of q t e, foot_of q t e]
      exact (r.mono x fun a ha => k a (m a ha).1).2
/-- what may change is written; it is no slot's -/
theorem En.write (E : En P σ H g s M) {a : Addr} {u : HO} (h1 : M a) (h2 : ¬ P.M0 a) (h3 : H a = some u) (hs : soft u = true) (h5 : NoS σ H g a) (o : HO) (ho : isTbl o = false := by rfl) :
    En P σ (upd H a o) g s M ∧ hid (upd H a o) M = hid H M ∧ ∀ i, foot σ (upd H a o) g i = foot σ H g i := by
  have hh : hid (upd H a o) M = hid H M := by
    funext b
    by_cases m : M b
    · unfold hid; rw [if_pos m, if_pos m]
    · rw [hid_of m, hid_of m, upd_ne (fun z => m (by rw [z]; exact h1))]
  have q := E.to (s' := s) (M' := M) (H' := upd H a o) (by rw [hh]; exact Ex.refl _) (fun i b h => ⟨upd_ne fun z => by subst z; exact h5 i h, (E.hm i b h).1⟩) (E.wd.upd (E.nch h2) (.inr ⟨u, h3, hs⟩) o) E.m0 (fun b m => ?_) (fun b u e t n => ?_) E.nw
  · exact ⟨q.1, hh, q.2⟩
  · by_cases z : b = a
    · subst z; exact ⟨o, upd_same, ho⟩
    · rw [upd_ne z]; exact E.al b m
  · rw [upd_ne (fun z => by rw [z] at e; exact (E.nw a h1 h2).no e t)]
    exact E.fr b u e t n
/-- a slot's own list is written -/
theorem En.writeOw (E : En P σ H g s M) {i : Nat} {a : Addr} {xs ys : List D} {ws : List V} (hg : g[i]? = some (.ow xs)) (hs : σ[i]? = some (some (.ref a))) (hl : RpL P.K P.c (hid H M) ws ys) :
    En P σ (upd H a (.lst ws)) (g.set i (.ow ys)) s M ∧ hid (upd H a (.lst ws)) M = hid H M := by
  obtain ⟨b, vs, q1, h1, h2, q4, q5⟩ := E.ow i xs hg
  rw [hs] at q1
  cases q1
  have hi : i < g.length := (List.getElem?_eq_some_iff.mp hg).1
  have E1 := E.setUn i
  have h5 : NoS (σ.set i none) H (g.set i .un) a := fun j z => by
    obtain ⟨hj, z⟩ := foot_un hi z
    exact E.dj j i a hj z (by rw [En.owf hg hs]; exact List.mem_singleton.mpr rfl)
  obtain ⟨E2, hh, hf⟩ := E1.write h1 h2 q4 rfl h5 (.lst ws)
  have h6 : NoS (σ.set i none) (upd H a (.lst ws)) (g.set i .un) a := fun j z => h5 j (by rw [← hf j]; exact z)
  have E3 := E2.setOw (i := i) (by rw [List.length_set]; exact hi) h1 h2 upd_same (by rw [hh]; exact hl) h6
  rw [List.set_set, List.set_set] at E3
  have e : σ.set i (some (.ref a)) = σ := by
    refine List.ext_getElem? fun j => ?_
    by_cases hj : j = i
    · subst hj; rw [hs]; exact List.getElem?_set_self (by rw [E.len]; exact hi)
    · rw [get_set_ne hj]
  rw [e] at E3
  exact ⟨E3, hh⟩

/-! ### a temporary thing: held while more is done -/
open Classical in
/-- what stands at A is held as it stands in H -/
noncomputable def Par.holds (P : Par F) (A : Addr → Prop) (H : Hp) : Par F := ⟨fun b => if A b then H b else P.H0 b, fun b => P.M0 b ∨ A b, fun b h => .inl (P.m0 b h)⟩
open Classical in
theorem En.holds (E : En P σ H g s M) {A : Addr → Prop} (hA : ∀ a, A a → M a ∧ ¬ P.M0 a ∧ NoS σ H g a) : En (P.holds A H) σ H g s M := by
  refine ⟨E.len, E.fz, E.ot, E.nd, E.dj, fun i a h => ⟨(E.hm i a h).1, fun z => z.elim (E.hm i a h).2 fun z => (hA a z).2.2 i h⟩, E.wd, fun b m => m.elim (E.m0 b) fun z => (hA b z).1, E.al, fun b u e t n => ?_, fun b m n => ?_⟩
  · have e : (if A b then H b else P.H0 b) = some u := e
    by_cases z : A b
    · exact (if_pos z).symm.trans e
    · exact E.fr b u ((if_neg z).symm.trans e) t n
  · exact fun o e => E.nw b m (fun z => n (.inl z)) o ((if_neg fun z => n (.inr z)).symm.trans e)
theorem En.unholds {A : Addr → Prop} {H0 : Hp} (hA : ∀ a, A a → ¬ P.M0 a ∧ Vac P.H0 a ∧ ∃ o, H0 a = some o ∧ isTbl o = false) (E : En (P.holds A H0) σ H g s M) : En P σ H g s M ∧ ∀ a, A a → M a ∧ H a = H0 a ∧ NoS σ H g a := by
  have at0 : ∀ b, A b → (P.holds A H0).H0 b = H0 b := fun b z => if_pos z
  have ne0 : ∀ b, ¬ A b → (P.holds A H0).H0 b = P.H0 b := fun b z => if_neg z
  refine ⟨⟨E.len, E.fz, E.ot, E.nd, E.dj, fun i a h => ⟨(E.hm i a h).1, fun z => (E.hm i a h).2 (.inl z)⟩, E.wd, fun b m => E.m0 b (.inl m), E.al, fun b u e t n => ?_, fun b m n => ?_⟩, fun a z => ⟨E.m0 a (.inr z), ?_, fun i h => (E.hm i a h).2 (.inr z)⟩⟩
  · exact E.fr b u (by rw [ne0 b fun z => (hA b z).2.1.no e t]; exact e) t n
  · by_cases z : A b
    · exact (hA b z).2.1
    · have := E.nw b m fun q => q.elim n z
      intro o e
      exact this o (by rw [ne0 b z]; exact e)
  · obtain ⟨o, q, t⟩ := (hA a z).2.2
    rw [q]
    exact E.fr a o (by rw [at0 a z]; exact q) t fun z' => (hA a z).1 (P.m0 a z')
noncomputable abbrev Par.hold (P : Par F) (a : Addr) (H : Hp) : Par F := P.holds (fun b => b = a) H
theorem En.hold (E : En P σ H g s M) {a : Addr} (h1 : M a) (h2 : ¬ P.M0 a) (h5 : NoS σ H g a) : En (P.hold a H) σ H g s M := E.holds fun b z => by rw [z]; exact ⟨h1, h2, h5⟩
/-- let go: what was held stands, and is no slot's -/
theorem En.unhold {a : Addr} {H0 : Hp} {o : HO} (h2 : ¬ P.M0 a) (h0 : Vac P.H0 a) (h3 : H0 a = some o) (E : En (P.hold a H0) σ H g s M) (t : isTbl o = false := by rfl) : En P σ H g s M ∧ M a ∧ H a = some o ∧ NoS σ H g a := by
  obtain ⟨E1, k⟩ := En.unholds (A := fun b => b = a) (fun b z => by rw [z]; exact ⟨h2, h0, o, h3, t⟩) E
  obtain ⟨k1, k2, k3⟩ := k a rfl
  exact ⟨E1, k1, by rw [k2, h3], k3⟩

/-! ### targets -/
def Tg.slots : Tg → List Nat
  | .nm i => [i]
  | .nil => []
  | .cons t u => t.slots ++ u.slots
/-- a target of the program stores as t does -/
def TgR (F : Fx) (gt : TG) (t : Tg) : Prop :=
  ∀ (P : Par F) (σ : St) (H : Hp) (g : Ga) (s : Sd) (M : Addr → Prop) (v : V) (d : D) (g' : Ga) (Q : St → Hp → Prop), En P σ H g s M → Rp P.K P.c (hid H M) v d → bindT t d g = some g' →
    (∀ σ', En P σ' H g' s M → σ'.length = σ.length → (∀ j, j ∉ t.slots → σ'[j]? = σ[j]?) → Q σ' H) → gt v σ H Q
def Tg.cnt : Tg → Nat
  | .cons _ u => u.cnt + 1
  | _ => 0
theorem bnd_len : ∀ {t : Tg} {ds : List D} {g g' : Ga}, (bnd t).many ds g = some g' → ds.length = t.cnt
  | .nm _, _, _, _, e => by cases e
  | .nil, [], _, _, _ => rfl
  | .nil, _ :: _, _, _, e => by cases e
  | .cons t u, [], _, _, e => by cases e
  | .cons t u, d :: ds, g, g', e => by
    have e : (match (bnd t).one d g with | some g' => (bnd u).many ds g' | none => none) = some g' := e
    cases q : (bnd t).one d g with
    | none => rw [q] at e; cases e
    | some g1 =>
      rw [q] at e
      have := bnd_len (t := u) (ds := ds) e
      show ds.length + 1 = u.cnt + 1
      rw [this]
def TgsR (F : Fx) (gt : TGs) (t : Tg) : Prop :=
  ∀ (P : Par F) (σ : St) (H : Hp) (g : Ga) (s : Sd) (M : Addr → Prop) (vs : List V) (ds : List D) (g' : Ga) (Q : St → Hp → Prop), En P σ H g s M → RpL P.K P.c (hid H M) vs ds → (bnd t).many ds g = some g' →
    (∀ σ', En P σ' H g' s M → σ'.length = σ.length → (∀ j, j ∉ t.slots → σ'[j]? = σ[j]?) → Q σ' H) → gt vs σ H Q
theorem tg_nm (i : Nat) : TgR F (gName i) (.nm i) := by
  intro P σ H g s M v d g' Q E r e k
  have e : (if i < g.length then some (g.set i (Sl.fz d)) else none) = some g' := e
  by_cases hi : i < g.length
  · rw [if_pos hi] at e
    cases e
    exact k _ (E.setFz hi r) (List.length_set ..) fun j hj => get_set_ne (fun z => hj (by rw [z]; exact List.mem_singleton.mpr rfl))
  · rw [if_neg hi] at e; cases e
theorem tgs_nil : TgsR F gNil .nil := by
  intro P σ H g s M vs ds g' Q E r e k
  cases r with
  | nil => cases e; exact ⟨rfl, k σ E rfl fun _ _ => rfl⟩
  | cons _ _ => cases e
theorem tgs_cons {gt : TG} {gts : TGs} {t u : Tg} (h1 : TgR F gt t) (h2 : TgsR F gts u) : TgsR F (gCons gt gts) (.cons t u) := by
  intro P σ H g s M vs ds g' Q E r e k
  cases r with
  | nil => cases e
  | cons r1 r2 =>
    rename_i v vs d ds
    have e : (match (bnd t).one d g with | some g' => (bnd u).many ds g' | none => none) = some g' := e
    cases q : (bnd t).one d g with
    | none => rw [q] at e; cases e
    | some g1 =>
      rw [q] at e
      have e : (bnd u).many ds g1 = some g' := e
      refine ⟨v, vs, rfl, ?_⟩
      refine h1 P σ H g s M v d g1 _ E r1 q fun σ1 E1 l1 k1 => ?_
      refine h2 P σ1 H g1 s M vs ds g' Q E1 r2 e fun σ2 E2 l2 k2 => ?_
      refine k σ2 E2 (l2.trans l1) fun j hj => ?_
      have hj' : j ∉ t.slots ++ u.slots := hj
      rw [k2 j fun z => hj' (List.mem_append_right _ z), k1 j fun z => hj' (List.mem_append_left _ z)]
theorem tg_tup {gts : TGs} {t u : Tg} {n : Nat} (h : TgsR F gts (.cons t u)) (hn : (Tg.cons t u).cnt = n) : TgR F (gTup F.K n gts) (.cons t u) := by
  intro P σ H g s M v d g' Q E r e k
  have e : bndT (bnd (.cons t u)).many d g = some g' := e
  cases d with
  | tup ds =>
    cases r with
    | tup h1 h2 =>
      have e : (bnd (.cons t u)).many ds g = some g' := e
      refine ⟨_, _, rfl, (hid_ex H M).sqT h1, by rw [h2.length, bnd_len e, hn], ?_⟩
      exact h P σ H g s M _ ds g' Q E h2 e k
  | _ => cases e
end
end DI
end
section
set_option Elab.async false
set_option linter.all false
set_option maxRecDepth 100000
set_option maxHeartbeats 1000000
/-! DIWalk: what is walked. -/
namespace DI
open PySem L2
/-- an iterator that yields the data ds, from a heap on -/
def Wk (F : Fx) (J : It) (H1 : Hp) (M1 : Addr → Prop) (ds : List D) : Prop :=
  ∃ (G : Hp → Prop) (Y : Nat → Hp → V → Hp → Prop), Walk J ds.length G Y ∧ (∀ H2 M2, Ex (hid H1 M1) (hid H2 M2) → G H2) ∧
    ∀ (i : Nat) (P : Par F) (σ : St) (H2 : Hp) (g : Ga) (s : Sd) (M2 : Addr → Prop) (x : V) (H' : Hp), i < ds.length → Ex (hid H1 M1) (hid H2 M2) → En P σ H2 g s M2 → Y i H2 x H' →
      ∃ d, ds[i]? = some d ∧ En P σ H' g s M2 ∧ Ex (hid H2 M2) (hid H' M2) ∧ Rp F.K F.c (hid H' M2) x d ∧ ∀ a, M2 a → H' a = H2 a
abbrev RI {F : Fx} (_ : Par F) : St → Hp → (Addr → Prop) → Ga → It → List D → Prop := fun _ H M _ J ds => Wk F J H M ds
section
variable {F : Fx} {P : Par F} {W : WX} {σ : St} {H : Hp} {g : Ga} {s : Sd} {M : Addr → Prop} {X : Cx} {tg e a b : Expr} {es : List Expr} {f fa fb : Ga → Sd → Out Rs}
abbrev PId (X : Cx) (F : Fx) (W : WX) (tg it : Expr) (f : Ga → Sd → Out (List D)) : Prop := PI X tg it (rdG F W RI f)
theorem PI.imp {it : Expr} {t t' : TI} (h : PI X tg it t) (i : ∀ σ H Q, t' σ H Q → t σ H Q) : PI X tg it t' := ⟨fun pins s σ H Q I q => h.run pins s σ H Q I (i σ H Q q)⟩
theorem wk_list {a : Addr} {vs : List V} {ds : List D} (h : H a = some (.lst vs)) (hm : ¬ M a) (r : RpL F.K F.c (hid H M) vs ds) : Wk F (Itl F.K a) H M ds := by
  refine ⟨fun H => SqL F.K H a vs, YAt vs, by rw [← r.length]; exact walk_list, fun H2 M2 x => SqL.of (x.of_hid hm h).2, fun i P σ H2 g s M2 x H' hi ex E y => ?_⟩
  obtain ⟨rfl, hx⟩ := y
  obtain ⟨d, h1, h2⟩ := r.get' hx
  exact ⟨d, h1, E, Ex.refl _, h2.mono ex, fun _ _ => rfl⟩
theorem wk_tup {a : Addr} {vs : List V} {ds : List D} (h : SqT F.K (hid H M) a vs) (r : RpL F.K F.c (hid H M) vs ds) : Wk F (Itt F.K a) H M ds := by
  refine ⟨fun H => SqT F.K H a vs, YAt vs, by rw [← r.length]; exact walk_tup, fun H2 M2 x => (hid_ex H2 M2).sqT (x.sqT h), fun i P σ H2 g s M2 x H' hi ex E y => ?_⟩
  obtain ⟨rfl, hx⟩ := y
  obtain ⟨d, h1, h2⟩ := r.get' hx
  exact ⟨d, h1, E, Ex.refl _, h2.mono ex, fun _ _ => rfl⟩
theorem wk_str {z : Str} : Wk F (Its z) H M (z.cps.toList.map fun c => .str ⟨#[c]⟩) := by
  refine ⟨fun _ => True, _, by rw [List.length_map, Array.length_toList]; exact walk_str, fun _ _ _ => trivial, fun i P σ H2 g s M2 x H' hi ex E y => ?_⟩
  obtain ⟨rfl, c, hc, rfl⟩ := y
  exact ⟨.str ⟨#[c]⟩, by rw [List.getElem?_map, Array.getElem?_toList, hc]; rfl, E, Ex.refl _, .str _, fun _ _ => rfl⟩
theorem wk_range {lo : Int} {n : Nat} : Wk F (Itr lo n) H M ((List.range n).map fun (k : Nat) => .int (lo + (k : Int))) := by
  refine ⟨fun _ => True, _, by rw [List.length_map, List.length_range]; exact walk_range, fun _ _ _ => trivial, fun i P σ H2 g s M2 x H' hi ex E y => ?_⟩
  obtain ⟨rfl, rfl⟩ := y
  rw [List.length_map, List.length_range] at hi
  exact ⟨.int (lo + (i : Int)), by rw [List.getElem?_map, List.getElem?_range hi]; rfl, E, Ex.refl _, .int _, fun _ _ => rfl⟩
theorem enumD_get : ∀ (ds : List D) (k i : Nat) (d : D), ds[i]? = some d → (enumD k ds)[i]? = some (.tup [.int ((k + i : Nat) : Int), d])
  | [], _, _, _, e => by simp at e
  | x :: xs, k, 0, d, e => by simp at e; subst e; simp [enumD]
  | x :: xs, k, i + 1, d, e => by
    have := enumD_get xs (k + 1) i d (by simpa using e)
    show (enumD (k + 1) xs)[i]? = _
    rw [this]
    congr 4
    omega
theorem enumD_len : ∀ (ds : List D) (k : Nat), (enumD k ds).length = ds.length
  | [], _ => rfl
  | x :: xs, k => by show (enumD (k + 1) xs).length + 1 = xs.length + 1; rw [enumD_len xs (k + 1)]
/-- a new pair at T -/
theorem new_pair {P : Par F} {H2 : Hp} {M2 : Addr → Prop} (E : En P σ H2 g s M2) {T : Addr} (hT : H2 T = none) {x y : V} {d d' : D} (hx : Rp F.K F.c (hid H2 M2) x d) (hy : Rp F.K F.c (hid H2 M2) y d') :
    En P σ (upd H2 T (.tup [x, y])) g s M2 ∧ Ex (hid H2 M2) (hid (upd H2 T (.tup [x, y])) M2) ∧ Rp F.K F.c (hid (upd H2 T (.tup [x, y])) M2) (.ref T) (.tup [d, d']) := by
  exact E.nwTup hT (.cons hx (.cons hy .nil))
theorem wk_enum {a : Addr} {vs : List V} {ds : List D} (h : H a = some (.lst vs)) (hm : ¬ M a) (r : RpL F.K F.c (hid H M) vs ds) : Wk F (Ite F.K a) H M (enumD 0 ds) := by
  refine ⟨fun H => SqL F.K H a vs, _, by rw [enumD_len, ← r.length]; exact walk_enum, fun H2 M2 x => SqL.of (x.of_hid hm h).2, fun i P σ H2 g s M2 x H' hi ex E y => ?_⟩
  obtain ⟨T, x1, y1, rfl, hT, rfl, e1, e2⟩ := y
  cases e1
  obtain ⟨d, h1, h2⟩ := r.get' e2
  obtain ⟨E2, x2, r2⟩ := new_pair E hT (.int (i : Nat)) (h2.mono ex)
  exact ⟨_, by rw [enumD_get ds 0 i d h1, Nat.zero_add], E2, x2, r2, fun a m => upd_ne fun z => E.ne m (by rw [z]; exact hT)⟩
theorem zipD_get : ∀ (xs ys : List D) (i : Nat) (x y : D), xs[i]? = some x → ys[i]? = some y → (zipD xs ys)[i]? = some (.tup [x, y])
  | [], _, _, _, _, e, _ => by simp at e
  | _ :: _, [], _, _, _, _, e => by simp at e
  | x :: xs, y :: ys, 0, x', y', e, e' => by simp at e e'; subst e; subst e'; simp [zipD]
  | x :: xs, y :: ys, i + 1, x', y', e, e' => by
    show (zipD xs ys)[i]? = _
    exact zipD_get xs ys i x' y' (by simpa using e) (by simpa using e')
theorem zipD_len : ∀ (xs ys : List D), (zipD xs ys).length = min xs.length ys.length
  | [], _ => by simp [zipD]
  | _ :: _, [] => by simp [zipD]
  | x :: xs, y :: ys => by
    show (zipD xs ys).length + 1 = _
    rw [zipD_len xs ys, List.length_cons, List.length_cons]; omega
theorem wk_zip {a b : Addr} {vs ws : List V} {ds es : List D} (h : H a = some (.lst vs)) (hm : ¬ M a) (r : RpL F.K F.c (hid H M) vs ds) (h' : H b = some (.lst ws)) (hm' : ¬ M b) (r' : RpL F.K F.c (hid H M) ws es) : Wk F (Itz F.K a b) H M (zipD ds es) := by
  refine ⟨fun H => SqL F.K H a vs ∧ SqL F.K H b ws, _, walk_zip (by rw [zipD_len, r.length, r'.length]), fun H2 M2 x => ⟨SqL.of (x.of_hid hm h).2, SqL.of (x.of_hid hm' h').2⟩, fun i P σ H2 g s M2 x H' hi ex E y => ?_⟩
  obtain ⟨T, x1, y1, rfl, hT, rfl, e1, e2⟩ := y
  obtain ⟨d, h1, h2⟩ := r.get' e1
  obtain ⟨d', h1', h2'⟩ := r'.get' e2
  obtain ⟨E2, x2, r2⟩ := new_pair E hT (h2.mono ex) (h2'.mono ex)
  exact ⟨_, zipD_get ds es i d d' h1 h1', E2, x2, r2, fun a m => upd_ne fun z => E.ne m (by rw [z]; exact hT)⟩

/-! ### the sources -/
/-- a list, a tuple or a text -/
def iAny (K : PySem.W.Frag) (te : TE) : TI := fun σ H R => te σ H fun x H1 => (∃ a, x = .ref a ∧ (∃ xs, SqL K H1 a xs) ∧ R (Itl K a) H1) ∨ (∃ a, x = .ref a ∧ (∃ xs, SqT K H1 a xs) ∧ R (Itt K a) H1) ∨ ∃ z, x = .str z ∧ R (Its z) H1
theorem pi_any {te : TE} (hl : PE X e te) : PI X tg e (iAny X.K te) := by
  refine ⟨fun pins s σ H R I h => ?_⟩
  refine thn (hl.run pins s σ H _ I h) fun v s1 ⟨x, H1, I1, r1, q1⟩ => ?_
  rcases q1 with ⟨a, e, ⟨xs, hq⟩, q⟩ | ⟨a, e, ⟨xs, hq⟩, q⟩ | ⟨z, e, q⟩
  · subst e
    cases r1
    obtain ⟨its, rv, p, hz⟩ := I1.list hq
    refine wpAny_pyIter_list p.isList ?_
    refine ⟨s1.heap.objs.size, [s1.heap.objs.size], _, _, H1, rfl, I1.kept (t' := s1.toks) fun b o e => Heap.get?_push_of_some _ e, turn_list a _, ⟨_, Heap.get?_push_size _ rfl, rfl, rfl⟩, fun b hb => ?_, q⟩
    have e : b = s1.heap.objs.size := by simpa using hb
    subst e
    exact I1.fpOk (Nat.le_refl _) (I1.hok.fresh (Nat.le_refl _))
  · subst e
    cases r1
    obtain ⟨its, rv, p, hz⟩ := I1.tuple hq
    refine wpAny_pyIter_tuple (show s1.heap.IsTuple a its.toArray from p) ?_
    refine ⟨s1.heap.objs.size, [s1.heap.objs.size], _, _, H1, rfl, I1.kept (t' := s1.toks) fun b o e => Heap.get?_push_of_some _ e, turn_tuple a _, ⟨_, Heap.get?_push_size _ rfl, rfl, rfl⟩, fun b hb => ?_, q⟩
    have e : b = s1.heap.objs.size := by simpa using hb
    subst e
    exact I1.fpOk (Nat.le_refl _) (I1.hok.fresh (Nat.le_refl _))
  · subst e
    obtain ⟨t, rfl⟩ := r1
    cases ha : z.cps.all (· < 128)
    · exact wpAny_pyIter_wide ha (pi_one (tk := s1.toks) I1 _ (turn_str _ z t "str_iterator" (.inr rfl)) ⟨_, Heap.get?_push_size _ rfl, rfl, rfl⟩ q)
    · exact wpAny_pyIter_ascii ha (pi_one (tk := s1.toks) I1 _ (turn_str _ z t "str_ascii_iterator" (.inl rfl)) ⟨_, Heap.get?_push_size _ rfl, rfl, rfl⟩ q)
theorem post_opt {α : Type} {R : Hp → (Addr → Prop) → Ga → It → List D → Prop} {Q : It → Hp → Prop} : ∀ {o : Option (List D)}, PostG P W σ H M R Q (optD o g s) → ∃ ds, o = some ds ∧ ∀ v H' M', En P σ H' g s M' → Ex (hid H M) (hid H' M') → R H' M' g v ds → Q v H'
  | none, h => h.elim
  | some ds, h => ⟨ds, rfl, h⟩
theorem di_seq (hK : X.K = F.K) (he : PEd X F W e f) : PId X F W tg e (iSeqF f) :=
  PI.imp (pi_any he.keep) (by
    rintro σ H Q ⟨P, g, s, M, E, h⟩
    refine rdG.seq (R' := RI) (Q' := Q) E h fun v d H1 g1 s1 M1 E1 x1 r1 h1 => ?_
    obtain ⟨ds, q1, q2⟩ := post_opt (α := D) h1
    rw [hK]
    cases r1 with
    | lst k1 k2 =>
      cases q1
      obtain ⟨nm, k1⟩ := hid_some k1
      exact .inl ⟨_, rfl, ⟨_, SqL.of k1⟩, q2 _ H1 M1 E1 (Ex.refl _) (wk_list k1 nm k2)⟩
    | tup k1 k2 =>
      cases q1
      exact .inr (.inl ⟨_, rfl, ⟨_, (hid_ex H1 M1).sqT k1⟩, q2 _ H1 M1 E1 (Ex.refl _) (wk_tup k1 k2)⟩)
    | str z =>
      cases q1
      exact .inr (.inr ⟨_, rfl, q2 _ H1 M1 E1 (Ex.refl _) wk_str⟩)
    | _ => cases q1)
theorem rng_small {i : Int} (h : small i = true) : -(2 ^ 62) ≤ i ∧ i < 2 ^ 62 := small_le h
theorem di_rng1 {fs : Ga → Sd → Out (List D)} {p pos : Pos} (hg : Gl X "range") (hm : X.mg "range" = none) (ha : PAd X F W [a] fs) (hs : isStar a = false) : PId X F W tg (.Call (.Name "range" p) [a] [] pos) (iRngF rngF1 fs) :=
  PI.imp (pi_range1 hg hm ha (by rw [star_cons hs]; rfl)) (by
    rintro σ H Q ⟨P, g, s, M, E, h⟩
    refine rdG.seq (R' := RI) (Q' := Q) E h fun vs ds H1 g1 s1 M1 E1 x1 r1 h1 => ?_
    obtain ⟨xs, q1, q2⟩ := post_opt (α := D) h1
    cases r1 with
    | nil => cases q1
    | cons k1 k2 =>
      cases k2 with
      | cons k3 k4 => cases k1 <;> cases k3 <;> cases k4 <;> cases q1
      | nil =>
        cases k1 with
        | int j =>
          have q1 : (if small j then some ((List.range j.toNat).map fun (k : Nat) => D.int (0 + (k : Int))) else none) = some xs := q1
          by_cases c : small j = true
          · rw [if_pos c] at q1
            cases q1
            have b := small_le c
            exact ⟨j, rfl, b.1, b.2, q2 _ H1 M1 E1 (Ex.refl _) wk_range⟩
          · rw [if_neg c] at q1; cases q1
        | _ => cases q1)
theorem di_rng2 {fs : Ga → Sd → Out (List D)} {p pos : Pos} (hg : Gl X "range") (hm : X.mg "range" = none) (ha : PAd X F W [a, b] fs) (hs : isStar a = false) (hs2 : isStar b = false) : PId X F W tg (.Call (.Name "range" p) [a, b] [] pos) (iRngF rngF2 fs) :=
  PI.imp (pi_range2 hg hm ha (by rw [star_cons hs, star_cons hs2]; rfl) (by rw [star_cons hs2]; rfl)) (by
    rintro σ H Q ⟨P, g, s, M, E, h⟩
    refine rdG.seq (R' := RI) (Q' := Q) E h fun vs ds H1 g1 s1 M1 E1 x1 r1 h1 => ?_
    obtain ⟨xs, q1, q2⟩ := post_opt (α := D) h1
    cases r1 with
    | nil => cases q1
    | cons k1 k2 =>
      cases k2 with
      | nil =>
        cases k1 <;> cases q1
      | cons k3 k4 =>
        cases k4 with
        | cons k5 k6 => cases k1 <;> cases k3 <;> cases q1
        | nil =>
          cases k1 with
          | int i =>
            cases k3 with
            | int j =>
              have q1 : (if small i && small j then some ((List.range (j - i).toNat).map fun (k : Nat) => D.int (i + (k : Int))) else none) = some xs := q1
              by_cases c : (small i && small j) = true
              · rw [if_pos c] at q1
                cases q1
                rw [Bool.and_eq_true] at c
                have b1 := small_le c.1
                have b2 := small_le c.2
                exact ⟨i, j, rfl, ⟨b1.1, b1.2, b2.1, b2.2⟩, q2 _ H1 M1 E1 (Ex.refl _) wk_range⟩
              · rw [if_neg c] at q1; cases q1
            | _ => cases q1
          | _ => cases k3 <;> cases q1)
theorem di_zip {elts : List Expr} {kk : Nat} {tpos : Pos} {fs : Ga → Sd → Out (List D)} {p pos : Pos} (hK : X.K = F.K) (hg : Gl X "zip") (hm : X.mg "zip" = none) (ha : PAd X F W [a, b] fs) (hs : isStar a = false) (hs2 : isStar b = false) : PId X F W (.Tuple elts kk tpos) (.Call (.Name "zip" p) [a, b] [] pos) (iZipF fs) :=
  PI.imp (pi_zip hg hm ha (star_cons hs) (star_any (by simp [hs2]))) (by
    rintro σ H Q ⟨P, g, s, M, E, h⟩
    refine rdG.seq (R' := RI) (Q' := Q) E h fun vs ds H1 g1 s1 M1 E1 x1 r1 h1 => ?_
    obtain ⟨xs, q1, q2⟩ := post_opt (α := D) h1
    rw [hK]
    cases r1 with
    | nil => cases q1
    | cons k1 k2 =>
      cases k2 with
      | nil => cases k1 <;> cases q1
      | cons k3 k4 =>
        cases k4 with
        | cons k5 k6 => cases k1 <;> cases k3 <;> cases q1
        | nil =>
          cases k1 with
          | lst u1 u2 =>
            cases k3 with
            | lst w1 w2 =>
              cases q1
              obtain ⟨n1, u1⟩ := hid_some u1
              obtain ⟨n2, w1⟩ := hid_some w1
              exact ⟨_, _, _, _, rfl, SqL.of u1, SqL.of w1, q2 _ H1 M1 E1 (Ex.refl _) (wk_zip u1 n1 u2 w1 n2 w2)⟩
            | _ => cases q1
          | _ => cases k3 <;> cases q1)
end
end DI
end
section
set_option Elab.async false
set_option linter.all false
set_option maxRecDepth 100000
set_option maxHeartbeats 1000000
/-! DIStm: statements of the program do what the core's statements do. -/
namespace DI
open PySem L2
def PostS {F : Fx} (P : Par F) (W : WX) (D : Ends) (H : Hp) (M : Addr → Prop) : Out Flow → Prop
  | .ok .nx g s => ∀ σ' H' M', En P σ' H' g s M' → Ex (hid H M) (hid H' M') → D.nx σ' H'
  | .ok .brk g s => ∀ σ' H' M', En P σ' H' g s M' → Ex (hid H M) (hid H' M') → D.bk σ' H'
  | .ok .cnt g s => ∀ σ' H' M', En P σ' H' g s M' → Ex (hid H M) (hid H' M') → D.ct σ' H'
  | .ok (.ret r) g s => ∀ v σ' H' M', En P σ' H' g s M' → Ex (hid H M) (hid H' M') → RsR P σ' H' M' g v r → D.rt v H'
  | .ex c d g s => ∀ cv dx σ' H' M', En P σ' H' g s M' → Ex (hid H M) (hid H' M') → ExR P H' M' cv dx c d → W cv dx σ' H'
  | .bad => False
def rdS (F : Fx) (W : WX) (f : Ga → Sd → Out Flow) : TS := fun D σ H => ∃ (P : Par F) (g : Ga) (s : Sd) (M : Addr → Prop), En P σ H g s M ∧ PostS P W D H M (f g s)
abbrev PSd (X : Cx) (F : Fx) (W : WX) (st : Stmt) (f : Ga → Sd → Out Flow) : Prop := PS X st (rdS F W f)
abbrev PSsd (X : Cx) (F : Fx) (W : WX) (st : List Stmt) (f : Ga → Sd → Out Flow) : Prop := PSs X st (rdS F W f)
section
variable {F : Fx} {P : Par F} {W : WX} {σ : St} {H : Hp} {g : Ga} {s : Sd} {M : Addr → Prop} {X : Cx} {tg e a b : Expr} {es : List Expr} {f fa fb : Ga → Sd → Out Rs} {D : Ends} {u v : Ga → Sd → Out Flow} {pos : Pos}
theorem PostS.mono {H1 : Hp} {M1 : Addr → Prop} (x : Ex (hid H M) (hid H1 M1)) : ∀ {o : Out Flow}, PostS P W D H M o → PostS P W D H1 M1 o
  | .ok .nx _ _, h => fun σ' H' M' E e => h σ' H' M' E (x.trans e)
  | .ok .brk _ _, h => fun σ' H' M' E e => h σ' H' M' E (x.trans e)
  | .ok .cnt _ _, h => fun σ' H' M' E e => h σ' H' M' E (x.trans e)
  | .ok (.ret _) _ _, h => fun v σ' H' M' E e r => h v σ' H' M' E (x.trans e) r
  | .ex _ _ _ _, h => fun cv dx σ' H' M' E e r => h cv dx σ' H' M' E (x.trans e) r
  | .bad, h => h
/-- an expression, then the rest of a statement -/
theorem rdG.then {α β : Type} {R : Par F → St → Hp → (Addr → Prop) → Ga → β → α → Prop} {f : Ga → Sd → Out α} {k : α → Ga → Sd → Out Flow} {Q : β → Hp → Prop} (E : En P σ H g s M) (h : PostS P W D H M ((f g s).bind k))
    (i : ∀ v r H1 g1 s1 M1, En P σ H1 g1 s1 M1 → Ex (hid H M) (hid H1 M1) → R P σ H1 M1 g1 v r → PostS P W D H1 M1 (k r g1 s1) → Q v H1) : rdG F W R f σ H Q := by
  refine rdG.mk E ?_
  cases o : f g s with
  | bad => rw [o] at h; exact h.elim
  | ex c d g1 s1 => rw [o] at h; exact fun cv dx H' M' E' e r => h cv dx σ H' M' E' e r
  | ok r g1 s1 =>
    rw [o] at h
    have h : PostS P W D H M (k r g1 s1) := h
    exact fun v H1 M1 E1 x1 rr => i v r H1 g1 s1 M1 E1 x1 rr (PostS.mono x1 h)

/-! ### blocks -/
theorem ds_nil : PSsd X F W [] (fun g s => .ok .nx g s) := PSs.imp pss_nil fun D σ H ⟨P, g, s, M, E, h⟩ => h σ H M E (Ex.refl _)
theorem seq_imp : ∀ D σ H, rdS F W (sSeq u v) D σ H → tSeq (rdS F W u) (rdS F W v) D σ H := by
  rintro D σ H ⟨P, g, s, M, E, h⟩
  refine ⟨P, g, s, M, E, ?_⟩
  have h : PostS P W D H M ((u g s).bind fun f g1 s1 => match f with | .nx => v g1 s1 | f => .ok f g1 s1) := h
  cases o : u g s with
  | bad => rw [o] at h; exact h
  | ex c d g1 s1 => rw [o] at h; exact h
  | ok fl g1 s1 =>
    rw [o] at h
    cases fl with
    | nx =>
      have h : PostS P W D H M (v g1 s1) := h
      exact fun σ' H' M' E' e => ⟨P, g1, s1, M', E', PostS.mono e h⟩
    | brk => exact h
    | cnt => exact h
    | ret r => exact h
theorem ds_cons {st : Stmt} {rest : List Stmt} (h1 : PSd X F W st u) (h2 : PSsd X F W rest v) : PSsd X F W (st :: rest) (sSeq u v) := PSs.imp (pss_cons h1 h2) seq_imp
theorem ds_one {st : Stmt} (h1 : PSd X F W st u) : PSsd X F W [st] u := pss_one h1
theorem ds_pass : PSd X F W (.Pass pos) (fun g s => .ok .nx g s) := PS.imp ps_pass fun D σ H ⟨P, g, s, M, E, h⟩ => h σ H M E (Ex.refl _)
theorem ds_break : PSd X F W (.Break pos) (fun g s => .ok .brk g s) := PS.imp ps_break fun D σ H ⟨P, g, s, M, E, h⟩ => h σ H M E (Ex.refl _)
theorem ds_continue : PSd X F W (.Continue pos) (fun g s => .ok .cnt g s) := PS.imp ps_continue fun D σ H ⟨P, g, s, M, E, h⟩ => h σ H M E (Ex.refl _)
theorem ds_exp (h : PEd X F W e f) (hs : swapsWith e none pos.line X.env = pure false) : PSd X F W (.Expr e pos) (sExp f) :=
  PS.imp (ps_expr h.settle hs) (by
    rintro D σ H ⟨P, g, s, M, E, h⟩
    exact rdG.then E h fun v r H1 g1 s1 M1 E1 x1 rr h1 => h1 σ H1 M1 E1 (Ex.refl _))
theorem ds_ret (h : PEd X F W e f) : PSd X F W (.Return (some e) pos) (sRet f) :=
  PS.imp (ps_ret h) (by
    rintro D σ H ⟨P, g, s, M, E, h⟩
    exact rdG.then E h fun v r H1 g1 s1 M1 E1 x1 rr h1 => h1 v σ H1 M1 E1 (Ex.refl _) rr)
theorem ds_if {c : Expr} {ta : Ga → Sd → Out Bool} {p q : List Stmt} (hc : PTd X F W c ta) (ha : PSsd X F W p u) (hb : PSsd X F W q v) : PSd X F W (.If c p q pos) (sIff ta u v) :=
  PS.imp (ps_if hc ha hb) (by
    rintro D σ H ⟨P, g, s, M, E, h⟩
    refine rdG.then (R := RQ) E h fun k r H1 g1 s1 M1 E1 x1 rr h1 => ?_
    subst rr
    cases k with
    | true => show (if true = true then _ else _); rw [if_pos rfl]; exact ⟨P, g1, s1, M1, E1, h1⟩
    | false => show (if false = true then _ else _); rw [if_neg Bool.false_ne_true]; exact ⟨P, g1, s1, M1, E1, h1⟩)

/-! ### assignment -/
theorem asg_kept {t : Tg} {gt : TG} (ht : TgR F gt t) : ∀ D σ H, rdS F W (fun g s => (f g s).keep.bind fun d g1 s1 => match bindT t d g1 with | some g2 => .ok .nx g2 s1 | none => .bad) D σ H → tAsg (rdG F W RD fun g s => (f g s).keep) gt D σ H := by
  rintro D σ H ⟨P, g, s, M, E, h⟩
  refine rdG.then (R := RD) E h fun v d H1 g1 s1 M1 E1 x1 rr h1 => ?_
  cases q : bindT t d g1 with
  | none => rw [q] at h1; exact h1.elim
  | some g2 =>
    rw [q] at h1
    have h1 : ∀ σ' H' M', En P σ' H' g2 s1 M' → Ex (hid H1 M1) (hid H' M') → D.nx σ' H' := h1
    exact ht P σ H1 g1 s1 M1 v d g2 D.nx E1 rr q fun σ' E' _ _ => h1 σ' H1 M1 E' (Ex.refl _)
/-- a name takes a value: an own list stays the slot's own -/
theorem asg_imp (i : Nat) : ∀ D σ H, rdS F W (sAsg (.nm i) f) D σ H → tAsg (rdG F W RE f) (gName i) D σ H := by
  rintro D σ H ⟨P, g, s, M, E, h⟩
  refine rdG.then (R := RE) E h fun v r H1 g1 s1 M1 E1 x1 rr h1 => ?_
  show D.nx (σ.set i (some v)) H1
  cases r with
  | nw xs =>
    obtain ⟨a, vs, rfl, k1, k2, k3, k4, k5⟩ := rr
    have h1 : PostS P W D H1 M1 (if i < g1.length then .ok .nx (g1.set i (.ow xs)) s1 else .bad) := h1
    by_cases hi : i < g1.length
    · rw [if_pos hi] at h1
      exact h1 _ H1 M1 (E1.setOw hi k1 k2 k3 k4 k5) (Ex.refl _)
    · rw [if_neg hi] at h1; exact h1.elim
  | nt o =>
    obtain ⟨k1, k2, k3⟩ := rr
    have h1 : PostS P W D H1 M1 (if i < g1.length then .ok .nx (g1.set i (.ot o)) s1 else .bad) := h1
    by_cases hi : i < g1.length
    · rw [if_pos hi] at h1
      exact h1 _ H1 M1 (E1.setOt hi k1 k2 k3) (Ex.refl _)
    · rw [if_neg hi] at h1; exact h1.elim
  | fz d =>
    have h1 : PostS P W D H1 M1 (match bindT (.nm i) d g1 with | some g2 => .ok .nx g2 s1 | none => .bad) := h1
    have e : bindT (.nm i) d g1 = if i < g1.length then some (g1.set i (.fz d)) else none := rfl
    rw [e] at h1
    by_cases hi : i < g1.length
    · rw [if_pos hi] at h1
      exact h1 _ H1 M1 (E1.setFz hi rr) (Ex.refl _)
    · rw [if_neg hi] at h1; exact h1.elim
  | sl j =>
    have rr : σ[j]? = some (some v) := rr
    have h1 : PostS P W D H1 M1 (match keepS g1 j g1[j]? with | some (d, g2) => (match bindT (.nm i) d g2 with | some g3 => .ok .nx g3 s1 | none => .bad) | none => .bad) := h1
    cases q : g1[j]? with
    | none => rw [q] at h1; exact h1.elim
    | some l =>
      rw [q] at h1
      cases l with
      | un => exact h1.elim
      | fz d =>
        obtain ⟨v', k1, k2⟩ := E1.fz j d q
        rw [rr] at k1; cases k1
        have h1 : PostS P W D H1 M1 (match (if i < g1.length then some (g1.set i (.fz d)) else none) with | some g3 => .ok .nx g3 s1 | none => .bad) := h1
        by_cases hi : i < g1.length
        · rw [if_pos hi] at h1
          exact h1 _ H1 M1 (E1.setFz hi k2) (Ex.refl _)
        · rw [if_neg hi] at h1; exact h1.elim
      | ot o =>
        obtain ⟨v', M2, k1, E2, x2, r2⟩ := E1.freezeT q rfl
        rw [rr] at k1; cases k1
        have h1 : PostS P W D H1 M1 (match (if i < (g1.set j (.fz o.d)).length then some ((g1.set j (.fz o.d)).set i (.fz o.d)) else none) with | some g3 => .ok .nx g3 s1 | none => .bad) := h1
        by_cases hi : i < (g1.set j (.fz o.d)).length
        · rw [if_pos hi] at h1
          exact h1 _ H1 _ (E2.setFz hi r2) x2
        · rw [if_neg hi] at h1; exact h1.elim
      | ow xs =>
        obtain ⟨v', M2, k1, E2, x2, r2⟩ := E1.freeze q
        rw [rr] at k1; cases k1
        have h1 : PostS P W D H1 M1 (match (if i < (g1.set j (.fz (.lst xs))).length then some ((g1.set j (.fz (.lst xs))).set i (.fz (.lst xs))) else none) with | some g3 => .ok .nx g3 s1 | none => .bad) := h1
        by_cases hi : i < (g1.set j (.fz (.lst xs))).length
        · rw [if_pos hi] at h1
          exact h1 _ H1 _ (E2.setFz hi r2) x2
        · rw [if_neg hi] at h1; exact h1.elim
theorem ds_set {i : Nat} {x : Str} {pos' : Pos} (hN : X.N.Nodup) (hi : X.N[i]? = some x) (hx : Loc X.env.scope x) (h : PEd X F W e f) (hs : swapsWith e (some (.Name x pos')) pos.line X.env = pure false) (hf : X.fn x = true ∨ X.env.scope.names.lookup x = some .local) :
    PSd X F W (.Assign [.Name x pos'] e pos) (sAsg (.nm i) f) := PS.imp (ps_set hN hi hx h hs hf) (asg_imp i)
theorem ds_asg {elts : List Expr} {kk : Nat} {tpos : Pos} {t : Tg} {gt : TG} {t1 t2 : Tg} (e1 : t = .cons t1 t2) (h : PEd X F W e f) (hg : PG X (.Tuple elts kk tpos) gt) (ht : TgR F gt t) (hs : swapsWithSole [.Tuple elts kk tpos] e pos.line X.env = pure false) (hw : swappedStores [.Tuple elts kk tpos] e X.env = pure none) : PSd X F W (.Assign [.Tuple elts kk tpos] e pos) (sAsg t f) :=
  PS.imp (ps_asg h.keep hg hs hw) fun D σ H ⟨P, g, s, M, E, q⟩ => by
    subst e1
    refine asg_kept ht D σ H ⟨P, g, s, M, E, ?_⟩
    have q : PostS P W D H M ((f g s).bind fun r g1 s1 => asgTo (.cons t1 t2) r g1 s1) := q
    show PostS P W D H M ((f g s).keep.bind _)
    cases o : f g s with
    | bad => rw [o] at q; exact q
    | ex c d g1 s1 => rw [o] at q; exact q
    | ok r g1 s1 =>
      rw [o] at q
      have q : PostS P W D H M (match DI.keep g1 r with | some (d, g1) => (match bindT (.cons t1 t2) d g1 with | some g2 => .ok .nx g2 s1 | none => .bad) | none => .bad) := by
        cases r <;> exact q
      show PostS P W D H M ((kept s1 (DI.keep g1 r)).bind _)
      cases k : DI.keep g1 r with
      | none => rw [k] at q; exact q
      | some p => rw [k] at q; exact q

/-! ### loops -/
theorem for_imp {wi : TI} {gt : TG} {t : Tg} {fi : Ga → Sd → Out (List DI.D)} (ht : TgR F gt t) : ∀ D σ H, rdS F W (sFor t fi u) D σ H → tFor (rdG F W RI fi) gt (rdS F W u) D σ H := by
  rintro D σ H ⟨P, g, s, M, E, h⟩
  refine rdG.then (R := RI) E h fun J ds H1 g1 s1 M1 E1 x1 wk h1 => ?_
  obtain ⟨G, Y, w, hG, hY⟩ := wk
  refine for_it w (fun i σ' H' => ∃ g s M, En P σ' H' g s M ∧ Ex (hid H1 M1) (hid H' M) ∧ PostS P W D H' M (forL (forTurn t u) (ds.drop i) g s)) ⟨g1, s1, M1, E1, Ex.refl _, by rw [List.drop_zero]; exact h1⟩
    (fun i σ' H' _ ⟨g, s, M, E, x, _⟩ => hG H' M x) (fun i x σ' H2 H3 hi ⟨g, s, M, E, ex, hp⟩ y => ?_) (fun σ' H' ⟨g, s, M, E, x, hp⟩ => ?_)
  · obtain ⟨d, hd, E2, x2, r2, _⟩ := hY i P σ' H2 g s M x H3 hi ex E y
    have ed : ds.drop i = d :: ds.drop (i + 1) := by
      rw [List.drop_eq_getElem_cons hi]
      obtain ⟨_, e⟩ := List.getElem?_eq_some_iff.mp hd
      rw [e]
    rw [ed] at hp
    have hp := PostS.mono x2 hp
    have hp : PostS P W D H3 M (match forTurn t u d g s with
      | .ok .nx g' s' => forL (forTurn t u) (ds.drop (i + 1)) g' s'
      | .ok .cnt g' s' => forL (forTurn t u) (ds.drop (i + 1)) g' s'
      | .ok .brk g' s' => .ok .nx g' s'
      | .ok (.ret r) g' s' => .ok (.ret r) g' s'
      | .ex c d g' s' => .ex c d g' s'
      | .bad => .bad) := hp
    cases q : bindT t d g with
    | none =>
      have e : forTurn t u d g s = .bad := by unfold forTurn; rw [q]
      rw [e] at hp; exact hp.elim
    | some g2 =>
      have e : forTurn t u d g s = u g2 s := by unfold forTurn; rw [q]
      rw [e] at hp
      refine ht P σ' H3 g s M x d g2 _ E2 r2 q fun σ2 E3 _ _ => ⟨P, g2, s, M, E3, ?_⟩
      cases o : u g2 s with
      | bad => rw [o] at hp; exact hp
      | ex c d g' s' => rw [o] at hp; exact hp
      | ok fl g' s' =>
        rw [o] at hp
        cases fl with
        | nx => exact fun σ4 H4 M4 E4 x4 => ⟨g', s', M4, E4, (ex.trans x2).trans x4, PostS.mono x4 hp⟩
        | cnt => exact fun σ4 H4 M4 E4 x4 => ⟨g', s', M4, E4, (ex.trans x2).trans x4, PostS.mono x4 hp⟩
        | brk => exact hp
        | ret r => exact hp
  · rw [List.drop_length] at hp
    exact hp σ' H' M E (Ex.refl _)
theorem ds_for {it : Expr} {body : List Stmt} {gt : TG} {t : Tg} {fi : Ga → Sd → Out (List DI.D)} (hp : PassesOwn (model X.prog X.w) X.A X.env X.xe) (hc : X.calm = true) (hi : PId X F W tg it fi) (hg : PG X tg gt) (ht : TgR F gt t) (hb : PSsd X F W body u)
    (hs : ∀ x, foldedSetIterable it X.env x = pure x) : PSd X F W (.For tg it body [] pos) (sFor t fi u) := PS.imp (ps_for hp hc hi hg hb hs) (for_imp (wi := rdG F W RI fi) ht)
theorem ds_while {c : Expr} {body : List Stmt} {ta : Ga → Sd → Out Bool} {n : Nat} (hp : PassesOwn (model X.prog X.w) X.A X.env X.xe) (hc : PTd X F W c ta) (hb : PSsd X F W body u) : PSd X F W (.While c body [] pos) (whlL ta u n) :=
  PS.imp (ps_while hp hc hb) (by
    rintro D σ H ⟨P, g, s, M, E, h⟩
    refine ⟨fun m σ' H' => ∃ g s M, En P σ' H' g s M ∧ PostS P W D H' M (whlL ta u m g s), ⟨n, g, s, M, E, h⟩, ?_⟩
    rintro m σ' H' ⟨g, s, M, E, h⟩
    cases m with
    | zero => exact h.elim
    | succ m =>
      have h : PostS P W D H' M ((ta g s).bind fun k g1 s1 => match k with
        | true => (match u g1 s1 with
          | .ok .nx g' s' => whlL ta u m g' s'
          | .ok .cnt g' s' => whlL ta u m g' s'
          | .ok .brk g' s' => .ok .nx g' s'
          | .ok (.ret r) g' s' => .ok (.ret r) g' s'
          | .ex c d g' s' => .ex c d g' s'
          | .bad => .bad)
        | false => .ok .nx g1 s1) := by
        have h : PostS P W D H' M (whlL ta u (m + 1) g s) := h
        unfold whlL at h
        cases o : ta g s with
        | bad => rw [o] at h; exact h
        | ex c d g1 s1 => rw [o] at h; exact h
        | ok k g1 s1 => rw [o] at h; cases k <;> exact h
      refine rdG.then (R := RQ) E h fun k r H1 g1 s1 M1 E1 x1 rr h1 => ?_
      subst rr
      cases k with
      | false => show (if false = true then _ else _); rw [if_neg Bool.false_ne_true]; exact h1 σ' H1 M1 E1 (Ex.refl _)
      | true =>
        show (if true = true then _ else _)
        rw [if_pos rfl]
        have h1 : PostS P W D H1 M1 (match u g1 s1 with
          | .ok .nx g' s' => whlL ta u m g' s'
          | .ok .cnt g' s' => whlL ta u m g' s'
          | .ok .brk g' s' => .ok .nx g' s'
          | .ok (.ret r) g' s' => .ok (.ret r) g' s'
          | .ex c d g' s' => .ex c d g' s'
          | .bad => .bad) := h1
        refine ⟨fun σ2 H2 => ∃ g s M, En P σ2 H2 g s M ∧ PostS P W D H2 M (whlL ta u m g s), fun σ2 H2 q => ⟨m, Nat.lt_succ_self m, q⟩, P, g1, s1, M1, E1, ?_⟩
        cases o : u g1 s1 with
        | bad => rw [o] at h1; exact h1
        | ex c d g' s' => rw [o] at h1; exact h1
        | ok fl g' s' =>
          rw [o] at h1
          cases fl with
          | nx => exact fun σ4 H4 M4 E4 x4 => ⟨g', s', M4, E4, PostS.mono x4 h1⟩
          | cnt => exact fun σ4 H4 M4 E4 x4 => ⟨g', s', M4, E4, PostS.mono x4 h1⟩
          | brk => exact h1
          | ret r => exact h1)
end
end DI
end
section
set_option Elab.async false
set_option linter.all false
set_option maxRecDepth 100000
set_option maxHeartbeats 1000000
/-! DILc: list comprehensions. -/
namespace DI
open PySem L2
abbrev W0 : WX := fun _ _ _ _ => False
def Wiped (g : Ga) (own : List Nat) : Prop := ∀ j ∈ own, ∀ l, g[j]? = some l → l = .un
theorem wiped_wipeG (g : Ga) : ∀ own : List Nat, Wiped (wipeG g own) own
  | [] => fun j h => nomatch h
  | v :: vs => fun j h l => by
    show ((wipeG g vs).set v .un)[j]? = some l → _
    by_cases hj : j = v
    · subst hj
      by_cases hl : j < (wipeG g vs).length
      · rw [List.getElem?_set_self hl]; exact fun e => (Option.some.inj e).symm
      · rw [List.getElem?_eq_none (by rw [List.length_set]; omega)]; exact fun e => by cases e
    · rw [get_set_ne hj]
      exact wiped_wipeG g vs j ((List.mem_cons.mp h).resolve_left hj) l
section
variable {F : Fx} {P : Par F} {W : WX} {σ : St} {H : Hp} {g : Ga} {s : Sd} {M : Addr → Prop} {X : Cx}
theorem wipe_out' {σ : St} {i : Nat} : ∀ {vs : List Nat}, i ∉ vs → (wipe σ vs)[i]? = σ[i]?
  | [], _ => rfl
  | v :: vs, h => by
    show ((wipe σ vs).set v none)[i]? = _
    rw [get_set_ne (fun z => h (by rw [z]; exact List.mem_cons_self))]
    exact wipe_out' fun z => h (List.mem_cons_of_mem _ z)
theorem foot_wipe {own : List Nat} (w : Wiped g own) (j : Nat) : foot (L2.wipe σ own) H g j = foot σ H g j := by
  by_cases z : j ∈ own
  · rw [foot_none fun l e => by rw [w j z l e]; rfl, foot_none fun l e => by rw [w j z l e]; rfl]
  · unfold foot; rw [wipe_out' z]
theorem En.unwipe {own : List Nat} (E : En P (L2.wipe σ own) H g s M) (w : Wiped g own) : En P σ H g s M := by
  have key : ∀ (j : Nat) (l : Sl), g[j]? = some l → (l ≠ Sl.un) → (L2.wipe σ own)[j]? = σ[j]? := fun j l e n => wipe_out' fun z => n (w j z l e)
  refine ⟨by rw [← E.len, wipe_length], fun j d e => ?_, fun j l o e t => ?_, fun j => ?_, fun j k a n h1 h2 => ?_, fun j a h => ?_, E.wd, E.m0, E.al, E.fr, E.nw⟩
  · rw [← key j _ e (fun z => by cases z)]; exact E.fz j d e
  · rw [← key j _ e (fun z => by rw [z] at t; cases t)]; exact E.ot j l o e t
  · rw [← foot_wipe w]; exact E.nd j
  · rw [← foot_wipe w] at h1 h2; exact E.dj j k a n h1 h2
  · rw [← foot_wipe w] at h; exact E.hm j a h
theorem wipe_eq {σ1 σ2 : St} (hl : σ1.length = σ2.length) {vs : List Nat} (h : ∀ j, j ∉ vs → σ1[j]? = σ2[j]?) : L2.wipe σ1 vs = L2.wipe σ2 vs := by
  refine List.ext_getElem? fun j => ?_
  by_cases hj : j ∈ vs
  · have key : ∀ (σ : St) (vs : List Nat), j ∈ vs → j < σ.length → (L2.wipe σ vs)[j]? = some none := fun σ vs => by
      induction vs with
      | nil => intro h; cases h
      | cons v vs ih =>
        intro h hlt
        show ((L2.wipe σ vs).set v none)[j]? = some none
        by_cases e : j = v
        · subst e; exact List.getElem?_set_self (by rw [wipe_length]; exact hlt)
        · rw [get_set_ne e]; exact ih ((List.mem_cons.mp h).resolve_left e) hlt
    by_cases hlt : j < σ1.length
    · rw [key σ1 vs hj hlt, key σ2 vs hj (by omega)]
    · rw [List.getElem?_eq_none (by rw [wipe_length]; omega), List.getElem?_eq_none (by rw [wipe_length]; omega)]
  · rw [wipe_out' hj, wipe_out' hj, h j hj]
theorem wipe_wipe (σ : St) (vs : List Nat) : L2.wipe (L2.wipe σ vs) vs = L2.wipe σ vs := wipe_eq (wipe_length ..) fun j hj => wipe_out' hj
theorem lc_imp {own : List Nat} {gt : TG} {t : Tg} {fi : Ga → Sd → Out (List DI.D)} {fc : Ga → Sd → Out Bool} {fe : Ga → Sd → Out Rs} (ht : TgR F gt t) (hsub : ∀ j ∈ t.slots, j ∈ own) : ∀ σ H Q, rdG F W RE (sLc own fi t fc fe) σ H Q →
    tLc (rdG F W RI fi) gt (rdG F W0 RQ fc) (rdG F W0 RD fun g s => (fe g s).keep) own σ H Q := by
  rintro σ H Q ⟨P, g, s, M, E, h⟩
  refine rdG.seq (R := RI) (R' := RE) (Q' := Q) E h fun J ds H1 g1 s1 M1 E1 x1 wk h1 => ?_
  obtain ⟨G, Y, w, hG, hY⟩ := wk
  intro D hD
  obtain ⟨Eo, xo, no, n0, h0⟩ := (E1.wipe own).own hD (.lst [])
  refine lc_it w (fun i H' => ∃ g s M vs acc, En P (L2.wipe σ own) H' g s M ∧ M D ∧ ¬ P.M0 D ∧ H' D = some (.lst vs) ∧ RpL F.K F.c (hid H' M) vs acc ∧ NoS (L2.wipe σ own) H' g D ∧ Wiped g own ∧
      Ex (hid H1 M1) (hid H' M) ∧ PostG P W σ H' M (RE P σ) Q ((lcL (lcTurn own t fc fe) (ds.drop i) acc g s).bind fun ds g2 s2 => .ok (.nw ds) g2 s2)) ?_ ?_ ?_ ?_
  · exact ⟨_, s1, _, [], [], Eo, .inr rfl, n0, upd_same, .nil, no, wiped_wipeG g1 own, xo, by rw [List.drop_zero]; exact PostG.mono xo h1⟩
  · rintro i H' _ ⟨g, s, M, vs, acc, _, _, _, _, _, _, _, x, _⟩
    exact hG H' M x
  · rintro i x H2 H3 hi ⟨g, s, M, vs, acc, E2, hm, hn, hv, hr, hno, hw, ex, hp⟩ y
    obtain ⟨d, hd, E3, x3, r3, k3⟩ := hY i P _ H2 g s M x H3 hi ex E2 y
    have hno : NoS (L2.wipe σ own) H3 g D := fun j z => hno j (by rw [← E2.feet x3 k3 j]; exact z)
    have ed : ds.drop i = d :: ds.drop (i + 1) := by
      rw [List.drop_eq_getElem_cons hi]
      obtain ⟨_, e⟩ := List.getElem?_eq_some_iff.mp hd
      rw [e]
    rw [ed] at hp
    have hp := PostG.mono x3 hp
    have hv3 : H3 D = some (.lst vs) := by rw [k3 D hm]; exact hv
    have hlen : acc.length = vs.length := (RpL.length hr).symm
    -- the turn
    cases q : bindT t d g with
    | none =>
      have e : lcTurn own t fc fe d g s = .bad := by unfold lcTurn; rw [q]
      have hp : PostG P W σ H3 M (RE P σ) Q ((match lcTurn own t fc fe d g s with
        | .ok (some d) g' s' => if acc.length < sizeLine then lcL (lcTurn own t fc fe) (ds.drop (i + 1)) (acc ++ [d]) g' s' else .bad
        | .ok none g' s' => lcL (lcTurn own t fc fe) (ds.drop (i + 1)) acc g' s'
        | _ => .bad).bind fun ds g2 s2 => .ok (.nw ds) g2 s2) := hp
      rw [e] at hp
      exact hp.elim
    | some g2 =>
      have e : lcTurn own t fc fe d g s = (match fc g2 s with
        | .ok true g3 s3 => match (fe g3 s3).keep with
          | .ok d g4 s4 => .ok (some d) (wipeG g4 own) s4
          | _ => .bad
        | .ok false g3 s3 => .ok none (wipeG g3 own) s3
        | _ => .bad) := by unfold lcTurn; rw [q]; try rfl
      have hp : PostG P W σ H3 M (RE P σ) Q ((match lcTurn own t fc fe d g s with
        | .ok (some d) g' s' => if acc.length < sizeLine then lcL (lcTurn own t fc fe) (ds.drop (i + 1)) (acc ++ [d]) g' s' else .bad
        | .ok none g' s' => lcL (lcTurn own t fc fe) (ds.drop (i + 1)) acc g' s'
        | _ => .bad).bind fun ds g2 s2 => .ok (.nw ds) g2 s2) := hp
      rw [e] at hp
      have E4 := E3.hold hm hn hno
      refine ht (P.hold D H3) _ H3 g s M x d g2 _ E4 r3 q fun σ2 E5 l5 k5 => ?_
      have hwp : L2.wipe σ2 own = L2.wipe σ own := by
        rw [← wipe_wipe σ own]
        exact wipe_eq l5 fun j hj => k5 j fun z => hj (hsub j z)
      refine ⟨hwp, P.hold D H3, g2, s, M, E5, ?_⟩
      cases o : fc g2 s with
      | bad => rw [o] at hp; exact hp.elim
      | ex c d g' s' => rw [o] at hp; exact hp.elim
      | ok k g3 s3 =>
        rw [o] at hp
        rintro b H6 M6 E6 x6 rfl
        cases b with
        | false =>
          show (if false = true then _ else _)
          rw [if_neg Bool.false_ne_true]
          obtain ⟨E7, hm7, hv7, hno7⟩ := E6.unhold hn h0 hv3
          have E8 := E7.wipe own
          rw [hwp] at E8
          refine ⟨_, s3, M6, vs, acc, E8, hm7, hn, hv7, hr.mono (x3.trans x6), by rw [← hwp]; exact hno7.wipe E7 own, wiped_wipeG g3 own, (ex.trans x3).trans x6, PostG.mono x6 hp⟩
        | true =>
          show (if true = true then _ else _)
          rw [if_pos rfl]
          refine ⟨P.hold D H3, g3, s3, M6, E6, ?_⟩
          have hp : PostG P W σ H3 M (RE P σ) Q ((match (match (fe g3 s3).keep with
            | .ok d g4 s4 => Out.ok (some d) (wipeG g4 own) s4
            | _ => .bad) with
            | .ok (some d) g' s' => if acc.length < sizeLine then lcL (lcTurn own t fc fe) (ds.drop (i + 1)) (acc ++ [d]) g' s' else .bad
            | .ok none g' s' => lcL (lcTurn own t fc fe) (ds.drop (i + 1)) acc g' s'
            | _ => .bad).bind fun ds g2 s2 => .ok (.nw ds) g2 s2) := hp
          show PostG (P.hold D H3) W0 σ2 H6 M6 (RD (P.hold D H3) σ2) _ ((fe g3 s3).keep)
          cases o2 : (fe g3 s3).keep with
          | bad => rw [o2] at hp; exact hp.elim
          | ex c d g' s' => rw [o2] at hp; exact hp.elim
          | ok d2 g4 s4 =>
            rw [o2] at hp
            have hp : PostG P W σ H3 M (RE P σ) Q ((if acc.length < sizeLine then lcL (lcTurn own t fc fe) (ds.drop (i + 1)) (acc ++ [d2]) (wipeG g4 own) s4 else .bad).bind fun ds g2 s2 => .ok (.nw ds) g2 s2) := hp
            intro y H7 M7 E7 x7 r7
            by_cases hz : acc.length < sizeLine
            · rw [if_pos hz] at hp
              obtain ⟨E8, hm8, hv8, hno8⟩ := E7.unhold hn h0 hv3
              refine ⟨vs, hv8, by rw [← hlen]; exact hz, ?_⟩
              obtain ⟨E9, hh, hf9⟩ := E8.write hm8 hn hv8 rfl hno8 (.lst (vs ++ [y]))
              have E10 := E9.wipe own
              rw [hwp] at E10
              have xx : Ex (hid H7 M7) (hid (upd H7 D (.lst (vs ++ [y]))) M7) := by rw [hh]; exact Ex.refl _
              refine ⟨_, s4, M7, vs ++ [y], acc ++ [d2], E10, hm8, hn, upd_same, ?_, by rw [← hwp]; exact NoS.wipe (fun j z => hno8 j (by rw [← hf9 j]; exact z)) E9 own, wiped_wipeG g4 own, (((ex.trans x3).trans x6).trans x7).trans xx, PostG.mono ((x6.trans x7).trans xx) hp⟩
              · rw [hh]
                exact (hr.mono ((x3.trans x6).trans x7)).snoc r7
            · rw [if_neg hz] at hp; exact hp.elim
  · rintro H' ⟨g, s, M, vs, acc, E2, hm, hn, hv, hr, hno, hw, ex, hp⟩
    rw [List.drop_length] at hp
    have hp : ∀ v H'' M', En P σ H'' g s M' → Ex (hid H' M) (hid H'' M') → RsR P σ H'' M' g v (.nw acc) → Q v H'' := hp
    have E3 := E2.unwipe hw
    exact hp _ H' M E3 (Ex.refl _) ⟨D, vs, rfl, hm, hn, hv, hr, fun j z => hno j (by rw [foot_wipe hw]; exact z)⟩
abbrev PTsd (X : Cx) (F : Fx) (W : WX) (ifs : List Expr) (f : Ga → Sd → Out Bool) : Prop := PTs X ifs (rdG F W RQ f)
theorem PTs.imp {ifs : List Expr} {t t' : TT} (h : PTs X ifs t) (i : ∀ σ H Q, t' σ H Q → t σ H Q) : PTs X ifs t' := ⟨fun pins s σ H Q I q => h.run pins s σ H Q I (i σ H Q q)⟩
theorem dc_nil : PTsd X F W [] (fun g s => .ok true g s) := PTs.imp pts_nil fun σ H Q ⟨P, g, s, M, E, h⟩ => h true H M E (Ex.refl _) rfl
theorem dc_one {c : Expr} {fc : Ga → Sd → Out Bool} (h : PTd X F W c fc) : PTsd X F W [c] fc := pts_one h
theorem d_lc {elt tg it : Expr} {ifs : List Expr} {scope : Scope} {own : List (Str × Nat)} {pos : Pos} {gt : TG} {t : Tg} {fi : Ga → Sd → Out (List DI.D)} {fc : Ga → Sd → Out Bool} {fe : Ga → Sd → Out Rs} (hc : X.calm = true) (hN : X.N.Nodup) (hi : PId X F W tg it fi)
    (ok : BlkOk X.N X.env.scope scope own) (hg : ∀ (s : Shared) (H : Hp) (C : Addr) (cl : List (Str × Addr)) (fp : List Addr), PG (X.blk s H scope (compEnvC scope cl C X.env) fp) tg gt) (ht : TgR F gt t) (hsub : ∀ j ∈ t.slots, j ∈ own.map (·.2))
    (hf : ∀ (s : Shared) (H : Hp) (C : Addr) (cl : List (Str × Addr)) (fp : List Addr), PTsd (X.blk s H scope (compEnvC scope cl C X.env) fp) F W0 ifs fc)
    (he : ∀ (s : Shared) (H : Hp) (C : Addr) (cl : List (Str × Addr)) (fp : List Addr), PEd (X.blk s H scope (compEnvC scope cl C X.env) fp) F W0 elt fe) (hs : ∀ x, foldedSetIterable it X.env x = pure x) :
    PEd X F W (.ListComp elt [⟨tg, it, ifs, 0⟩] scope pos) (sLc (own.map (·.2)) fi t fc fe) :=
  PE.imp (pe_lc hc hN hi ok hg hf (fun s H C cl fp => (he s H C cl fp).keep) hs) (lc_imp (W := W) ht hsub)
theorem ds_setLc {i : Nat} {y : Str} {py : Pos} {elt tg it : Expr} {ifs : List Expr} {scope : Scope} {own : List (Str × Nat)} {pos spos : Pos} {gt : TG} {t : Tg} {fi : Ga → Sd → Out (List DI.D)} {fc : Ga → Sd → Out Bool} {fe : Ga → Sd → Out Rs} (hc : X.calm = true) (hN : X.N.Nodup) (hy : X.N[i]? = some y)
    (hyl : X.env.scope.names.lookup y = some .local) (hsw : swapsWith (.ListComp elt [⟨tg, it, ifs, 0⟩] scope pos) (some (.Name y py)) spos.line X.env = pure true) (hi : PId X F W tg it fi)
    (ok : BlkOk X.N X.env.scope scope own) (hg : ∀ (s : Shared) (H : Hp) (C : Addr) (cl : List (Str × Addr)) (fp : List Addr), PG (X.blk s H scope (compEnvC scope cl C X.env) fp) tg gt) (ht : TgR F gt t) (hsub : ∀ j ∈ t.slots, j ∈ own.map (·.2))
    (hf : ∀ (s : Shared) (H : Hp) (C : Addr) (cl : List (Str × Addr)) (fp : List Addr), PTsd (X.blk s H scope (compEnvC scope cl C X.env) fp) F W0 ifs fc)
    (he : ∀ (s : Shared) (H : Hp) (C : Addr) (cl : List (Str × Addr)) (fp : List Addr), PEd (X.blk s H scope (compEnvC scope cl C X.env) fp) F W0 elt fe) (hs : ∀ x, foldedSetIterable it X.env x = pure x) :
    PSd X F W (.Assign [.Name y py] (.ListComp elt [⟨tg, it, ifs, 0⟩] scope pos) spos) (sAsg (.nm i) (sLc (own.map (·.2)) fi t fc fe)) :=
  PS.imp (ps_setLc hc hN hy hyl hsw hi ok hg hf (fun s H C cl fp => (he s H C cl fp).keep) hs) fun D σ H q => lc_imp (W := W) ht hsub σ H _ (asg_imp i D σ H q)
end
end DI
end
section
set_option Elab.async false
set_option linter.all false
set_option maxRecDepth 100000
set_option maxHeartbeats 1000000
/-! DIMth: methods of own lists, stores, parallel assignment. -/
namespace DI
open PySem L2
section
variable {F : Fx} {P : Par F} {W : WX} {σ : St} {H : Hp} {g : Ga} {s : Sd} {M : Addr → Prop} {X : Cx} {e a b : Expr} {es : List Expr} {f fa fb : Ga → Sd → Out Rs} {pos : Pos}
/-- a method on values does m on data -/
def MtOk (F : Fx) (r : V → List V → Hp → VK → Prop) (m : Mt) : Prop :=
  ∀ (G H : Hp) (a : Addr) (vs : List V) (xs : List DI.D) (ws : List V) (ds : List DI.D) (d : DI.D) (ys : List DI.D) (Q : VK), H a = some (.lst vs) → Ex G H → G a = none → RpL F.K F.c G vs xs → RpL F.K F.c G ws ds → mtF m xs ds = some (d, ys) →
    (∀ u us, Rp F.K F.c G u d → RpL F.K F.c G us ys → Q u (upd H a (.lst us))) → r (.ref a) ws H Q
theorem mth_append : MtOk F rAppend .append := by
  intro G H a vs xs ws ds d ys Q h x ga h1 h2 e k
  cases h2 with
  | nil => cases e
  | cons k1 k2 =>
    cases k2 with
    | cons k3 k4 => cases e
    | nil =>
      rename_i w d'
      have e : (if xs.length < sizeLine then some (DI.D.non, xs ++ [d']) else none) = some (d, ys) := e
      by_cases c : xs.length < sizeLine
      · rw [if_pos c] at e
        cases e
        exact ⟨a, vs, w, rfl, rfl, h, by rw [h1.length]; exact c, k _ _ .non (h1.snoc k1)⟩
      · rw [if_neg c] at e; cases e
theorem mth_extend : MtOk F rExtend .extend := by
  intro G H a vs xs ws ds d ys Q h x ga h1 h2 e k
  cases h2 with
  | nil => cases e
  | cons k1 k2 =>
    cases k2 with
    | cons k3 k4 => cases k1 <;> cases e
    | nil =>
      cases k1 with
      | lst q1 q2 =>
        rename_i b us zs
        have e : (if xs.length + zs.length ≤ sizeLine then some (DI.D.non, xs ++ zs) else none) = some (d, ys) := e
        by_cases c : xs.length + zs.length ≤ sizeLine
        · rw [if_pos c] at e
          cases e
          exact ⟨a, b, vs, us, rfl, rfl, h, x _ _ q1 rfl, by rw [h1.length, q2.length]; exact c, k _ _ .non (h1.append q2)⟩
        · rw [if_neg c] at e; cases e
      | _ => cases e
theorem mth_popAt : MtOk F rPopAt .popAt := by
  intro G H a vs xs ws ds d ys Q h x ga h1 h2 e k
  cases h2 with
  | nil => cases e
  | cons k1 k2 =>
    cases k2 with
    | cons k3 k4 => cases k1 <;> cases e
    | nil =>
      cases k1 with
      | int i =>
        have e : (if small i then (seqIndex? i xs.length).bind fun k => (xs[k]?).map fun y => (y, xs.eraseIdx k) else none) = some (d, ys) := e
        by_cases c : small i = true
        · rw [if_pos c] at e
          have b := small_le c
          cases q : seqIndex? i xs.length with
          | none => rw [q] at e; cases e
          | some n =>
            rw [q] at e
            have e : (xs[n]?).map (fun y => (y, xs.eraseIdx n)) = some (d, ys) := e
            cases q2 : xs[n]? with
            | none => rw [q2] at e; cases e
            | some y =>
              rw [q2] at e
              cases e
              obtain ⟨v, v1, v2⟩ := h1.get q2
              exact ⟨a, vs, i, n, v, rfl, rfl, h, by omega, by omega, by rw [h1.length]; exact q, v1, k _ _ v2 (h1.erase n)⟩
        · rw [if_neg c] at e; cases e
      | _ => cases e
theorem mth_pop : MtOk F rPop .pop := by
  intro G H a vs xs ws ds d ys Q h x ga h1 h2 e k
  cases h2 with
  | cons k1 k2 => cases e
  | nil =>
    have e : (xs[xs.length - 1]?).map (fun y => (y, xs.dropLast)) = some (d, ys) := e
    cases q2 : xs[xs.length - 1]? with
    | none => rw [q2] at e; cases e
    | some y =>
      rw [q2] at e
      cases e
      obtain ⟨v, v1, v2⟩ := h1.get q2
      exact ⟨a, vs, v, rfl, rfl, h, by rw [h1.length]; exact v1, k _ _ v2 h1.dropLast⟩
theorem mth_insert : MtOk F (fun x vs H Q => ∃ (l : Addr) (xs : List V) (i : Int) (y : V), x = .ref l ∧ vs = [.int i, y] ∧ H l = some (.lst xs) ∧ xs.length < sizeLine ∧ 0 ≤ i ∧ i < 2 ^ 63 ∧ Q .non (upd H l (.lst (xs.take i.toNat ++ [y] ++ xs.drop i.toNat)))) .insert := by
  intro G H a vs xs ws ds d ys Q h x ga h1 h2 e k
  cases h2 with
  | nil => cases e
  | cons k1 k2 =>
    cases k2 with
    | nil => cases k1 <;> cases e
    | cons k3 k4 =>
      cases k4 with
      | cons k5 k6 => cases k1 <;> cases e
      | nil =>
        cases k1 with
        | int i =>
          rename_i w d'
          have e : (if xs.length < sizeLine ∧ 0 ≤ i ∧ i < 2 ^ 62 then some (DI.D.non, xs.take i.toNat ++ [d'] ++ xs.drop i.toNat) else none) = some (d, ys) := e
          by_cases c : xs.length < sizeLine ∧ 0 ≤ i ∧ i < 2 ^ 62
          · rw [if_pos c] at e
            cases e
            exact ⟨a, vs, i, w, rfl, rfl, h, by rw [h1.length]; exact c.1, c.2.1, by have := c.2.2; omega, k _ _ .non (((h1.take _).append (.cons k3 .nil)).append (h1.drop _))⟩
          · rw [if_neg c] at e; cases e
        | _ => cases e
theorem mth_imp {r : V → List V → Hp → VK → Prop} {m : Mt} {i : Nat} {fs : Ga → Sd → Out (List DI.D)} {K : PySem.W.Frag} (hr : MtOk F r m) : ∀ σ H Q, rdG F W RE (sMth m i fs) σ H Q → tBM K "list" r (tVar i) (rdG F W RA fs) σ H Q := by
  rintro σ H Q ⟨P, g, s, M, E, h⟩
  have h : PostG P W σ H M (RE P σ) Q (match g[i]? with
    | some (.ow _) => (fs g s).bind fun ds g1 s1 => match g1[i]? with
      | some (.ow xs) => match mtF m xs ds with
        | some (d, ys) => .ok (.fz d) (g1.set i (.ow ys)) s1
        | none => .bad
      | _ => .bad
    | _ => .bad) := h
  cases q : g[i]? with
  | none => rw [q] at h; exact h.elim
  | some l =>
    rw [q] at h
    cases l with
    | un => exact h.elim
    | fz d => exact h.elim
    | ot o => exact h.elim
    | ow xs0 =>
      obtain ⟨a, vs0, k1, k2, k3, k4, k5⟩ := E.ow i xs0 q
      refine ⟨_, k1, .inl ⟨rfl, vs0, SqL.of k4⟩, ?_⟩
      refine rdG.seq (R := RA) (R' := RE) (Q' := Q) E h fun ws ds H1 g1 s1 M1 E1 x1 r1 h1 => ?_
      cases q1 : g1[i]? with
      | none => rw [q1] at h1; exact h1.elim
      | some l =>
        rw [q1] at h1
        cases l with
        | un => exact h1.elim
        | fz d => exact h1.elim
        | ot o => exact h1.elim
        | ow xs =>
          have h1 : PostG P W σ H1 M1 (RE P σ) Q (match mtF m xs ds with
            | some (d, ys) => .ok (.fz d) (g1.set i (.ow ys)) s1
            | none => .bad) := h1
          cases q2 : mtF m xs ds with
          | none => rw [q2] at h1; exact h1.elim
          | some p =>
            obtain ⟨d, ys⟩ := p
            rw [q2] at h1
            obtain ⟨b, vs, j1, j2, j3, j4, j5⟩ := E1.ow i xs q1
            rw [k1] at j1
            cases j1
            refine hr (hid H1 M1) H1 a vs xs ws ds d ys Q j4 (hid_ex H1 M1) (by unfold hid; rw [if_pos j2]) j5 r1 q2 fun u us ru rus => ?_
            obtain ⟨E2, hh⟩ := E1.writeOw q1 k1 rus
            exact h1 u _ M1 E2 (by rw [hh]; exact Ex.refl _) (by show Rp _ _ _ _ _; rw [hh]; exact ru)
theorem d_mth {r : V → List V → Hp → VK → Prop} {m : Mt} {i : Nat} {fs : Ga → Sd → Out (List DI.D)} {name x : Str} {id : String} {p apos : Pos} (hr : MtOk F r m) (slot : Slot "list" name id) (hty : typeOf (.builtin id) = pure (.type "method_descriptor")) (hm : MtR X id r)
    (hN : X.N[i]? = some x) (hv : Vis X.env.scope x) (hd : (x == ("__debug__" : Str)) = false) (hcd : (x == ("__classdict__" : Str)) = false) (ha : PAd X F W (e :: es) fs) (hline : (apos.endLine == pos.line) = true)
    (hfew : ((backTo pos (starEach (e :: es) X.env)).all (fun x => !x.1) && (backToKw pos (keywordEach [] X.env)).all (fun x => x.1.isSome) && decide ((e :: es).length + ([] : List Keyword).length + (if ([] : List Keyword).isEmpty then 0 else 1) < 30)) = true)
    (h1 : isStar e = false) (h2 : noStar es = true) : PEd X F W (.Call (.Attribute (.Name x p) name apos) (e :: es) [] pos) (sMth m i fs) :=
  PE.imp (pe_bm PySem.F.plainAttrs_list slot hty hm (pe_var hN hv hd hcd) ha rfl hfew hline (star_cons h1) (star_any h2)) (mth_imp hr)
theorem d_mth0 {r : V → List V → Hp → VK → Prop} {m : Mt} {i : Nat} {name x : Str} {id : String} {p apos : Pos} (hr : MtOk F r m) (slot : Slot "list" name id) (hty : typeOf (.builtin id) = pure (.type "method_descriptor")) (hm : MtR X id r)
    (hN : X.N[i]? = some x) (hv : Vis X.env.scope x) (hd : (x == ("__debug__" : Str)) = false) (hcd : (x == ("__classdict__" : Str)) = false) (hline : (apos.endLine == pos.line) = true) : PEd X F W (.Call (.Attribute (.Name x p) name apos) [] [] pos) (sMth m i fun g s => .ok [] g s) :=
  PE.imp (pe_bm0 PySem.F.plainAttrs_list slot hty hm (pe_var hN hv hd hcd) rfl hline) fun σ H Q q => by
    have z : tBM X.K "list" r (tVar i) (rdG F W RA fun g s => .ok [] g s) σ H Q := mth_imp hr σ H Q q
    obtain ⟨v, k1, k2, P, g, s, M, E, h⟩ := z
    exact ⟨v, k1, k2, h [] H M E (Ex.refl _) .nil⟩

/-! ### x[i] = e -/
theorem sto_imp {i : Nat} : ∀ D σ H, rdS F W (sSto i fb fa) D σ H → tAsg (rdG F W RD fun g s => (fa g s).keep) (gSub (tVar i) (rdG F W RS fun g s => (fb g s).settle) rSetL) D σ H := by
  rintro D σ H ⟨P, g, s, M, E, h⟩
  refine rdG.then (R := RD) E h fun v d H1 g1 s1 M1 E1 x1 rr h1 => ?_
  cases q : g1[i]? with
  | none => rw [q] at h1; exact h1.elim
  | some l =>
    rw [q] at h1
    cases l with
    | un => exact h1.elim
    | fz d => exact h1.elim
    | ot o => exact h1.elim
    | ow xs0 =>
      obtain ⟨a, vs0, k1, k2, k3, k4, k5⟩ := E1.ow i xs0 q
      refine ⟨_, k1, ?_⟩
      have h1 : PostS P W D H1 M1 ((fb g1 s1).bind fun r g2 s2 => match r, g2[i]? with
        | .fz (.int j), some (.ow xs) => match ixN xs.length j with
          | some n => .ok .nx (g2.set i (.ow (xs.set n d))) s2
          | none => .bad
        | _, _ => .bad) := h1
      have h2 : PostS P W D H1 M1 ((fb g1 s1).settle.bind fun r g2 s2 => match r, g2[i]? with
        | .fz (.int j), some (.ow xs) => match ixN xs.length j with
          | some n => .ok .nx (g2.set i (.ow (xs.set n d))) s2
          | none => .bad
        | _, _ => .bad) := by
        cases o : fb g1 s1 with
        | bad => rw [o] at h1; exact h1
        | ex c d' g2 s2 => rw [o] at h1; exact h1
        | ok r g2 s2 =>
          rw [o] at h1
          cases r with
          | fz d' => exact h1
          | nw xs => exact h1.elim
          | nt o => exact h1.elim
          | sl j => exact h1
      refine rdG.then (R := RS) E1 h2 fun w r H2 g2 s2 M2 E2 x2 ⟨r2, n2⟩ h3 => ?_
      cases r with
      | sl j => exact h3.elim
      | nw xs => exact h3.elim
      | nt o => exact h3.elim
      | fz d' =>
        cases d' with
        | int j =>
          cases q2 : g2[i]? with
          | none => rw [q2] at h3; exact h3.elim
          | some l =>
            rw [q2] at h3
            cases l with
            | un => exact h3.elim
            | fz d => exact h3.elim
            | ot o => exact h3.elim
            | ow xs =>
              have h3 : PostS P W D H2 M2 (match ixN xs.length j with
                | some n => .ok .nx (g2.set i (.ow (xs.set n d))) s2
                | none => .bad) := h3
              cases q3 : ixN xs.length j with
              | none => rw [q3] at h3; exact h3.elim
              | some n =>
                rw [q3] at h3
                obtain ⟨b, vs, j1, j2, j3, j4, j5⟩ := E2.ow i xs q2
                rw [k1] at j1
                cases j1
                cases r2 with
                | int =>
                  obtain ⟨E3, hh⟩ := E2.writeOw q2 k1 (RpL.set (Rp.mono x2 rr) n j5)
                  exact ⟨a, vs, j, n, rfl, rfl, j4, by rw [j5.length]; exact q3, h3 _ _ M2 E3 (by rw [hh]; exact Ex.refl _)⟩
        | _ => exact h3.elim
theorem ds_sto {i : Nat} {x : Str} {p p2 : Pos} (hN : X.N[i]? = some x) (hv : Vis X.env.scope x) (hd : (x == ("__debug__" : Str)) = false) (hcd : (x == ("__classdict__" : Str)) = false) (ha : PEd X F W a fa) (hb : PEd X F W b fb)
    (hs : swapsWithSole [.Subscript (.Name x p) b p2] a pos.line X.env = pure false) (hw : swappedStores [.Subscript (.Name x p) b p2] a X.env = pure none)
    (hg : ∀ v, assign (.Subscript (.Name x p) b p2) X.env v = (do
      let ov ← holding [v] (eval (.Name x p) X.env)
      let iv ← holding [v, ov] (eval b X.env)
      standAt p2
      holding [v, ov, iv] (setItem ov iv v)
      release [v, ov, iv] [])) : PSd X F W (.Assign [.Subscript (.Name x p) b p2] a pos) (sSto i fb fa) :=
  PS.imp (ps_asg ha.keep (pg_sub (pe_var hN hv hd hcd) hb.settle set_list hg) hs hw) sto_imp

/-! ### a, b = x, y -/
/-- a value just made, or data: as a thing of one's own -/
theorem RsR.o {v : V} {r : Rs} {o : O} (h : RsR P σ H M g v r) (e : r.o = some o) : Ro P.K P.c H M v o ∧ (fp H o v).Nodup ∧ ∀ a ∈ fp H o v, M a ∧ ¬ P.M0 a ∧ NoS σ H g a := by
  cases r with
  | fz d => cases e; exact ⟨.fz h, List.nodup_nil, fun a ha => by cases ha⟩
  | nw xs =>
    cases e
    obtain ⟨a, vs, rfl, h1, h2, h3, h4, h5⟩ := h
    rw [fp_flat]
    refine ⟨.lst h3 (RoL.of_fz h4), List.nodup_cons.mpr ⟨fun z => (by cases z), List.nodup_nil⟩, fun b hb => ?_⟩
    rw [List.mem_singleton.mp hb]
    exact ⟨h1, h2, h5⟩
  | nt o' => cases e; exact h
  | sl i => cases e
/-- values just made, apart from each other -/
def RsP {F : Fx} (P : Par F) (σ : St) (H : Hp) (M : Addr → Prop) (g : Ga) (vs : List V) (rs : List Rs) : Prop :=
  ∃ os, rsO rs = some os ∧ RoL P.K P.c H M vs os ∧ (fpL H os vs).Nodup ∧ ∀ a ∈ fpL H os vs, M a ∧ ¬ P.M0 a ∧ NoS σ H g a
abbrev RPs {F : Fx} (P : Par F) : St → Hp → (Addr → Prop) → Ga → List V → List Rs → Prop := fun σ H M g v d => RsP P σ H M g v d
abbrev PPd (X : Cx) (F : Fx) (W : WX) (es : List Expr) (f : Ga → Sd → Out (List Rs)) : Prop := PA X es (rdG F W RPs f)
abbrev RH {F : Fx} (P : Par F) : St → Hp → (Addr → Prop) → Ga → V → Rs → Prop := fun σ H M g v r => RsR P σ H M g v r ∧ ∃ o, r.o = some o
theorem post_half {Q : VK} {f : Ga → Sd → Out Rs} {g0 : Ga} {s0 : Sd} (h : PostG P W σ H M (RH P σ) Q (sHalf f g0 s0)) : PostG P W σ H M (RE P σ) Q (f g0 s0) := by
  have h : PostG P W σ H M (RH P σ) Q ((f g0 s0).bind fun r g1 s1 => halved s1 (half g1 r)) := h
  cases o : f g0 s0 with
  | bad => rw [o] at h; exact h
  | ex c d g s => rw [o] at h; exact h
  | ok r g s =>
    rw [o] at h
    have h : PostG P W σ H M (RH P σ) Q (halved s (half g r)) := h
    intro v H' M' E e rr
    cases r with
    | nw xs => exact h v H' M' E e ⟨rr, _, rfl⟩
    | nt o => exact h v H' M' E e ⟨rr, _, rfl⟩
    | fz d => exact h v H' M' E e ⟨rr, _, rfl⟩
    | sl i =>
      have rr : σ[i]? = some (some v) := rr
      have h : PostG P W σ H M (RH P σ) Q (halved s (match keepS g i g[i]? with | some (d, g') => some (.fz d, g') | none => none)) := h
      cases q : g[i]? with
      | none => rw [q] at h; exact h.elim
      | some l =>
        rw [q] at h
        cases l with
        | un => exact h.elim
        | fz d =>
          obtain ⟨v', h1, h2⟩ := E.fz i _ q
          rw [rr] at h1; cases h1
          exact h v H' M' E e ⟨h2, _, rfl⟩
        | ow xs =>
          obtain ⟨v', M2, h1, E2, x2, r2⟩ := E.freeze q
          rw [rr] at h1; cases h1
          exact h _ H' _ E2 (e.trans x2) ⟨r2, _, rfl⟩
        | ot o =>
          obtain ⟨v', M2, h1, E2, x2, r2⟩ := E.freezeT q rfl
          rw [rr] at h1; cases h1
          exact h _ H' _ E2 (e.trans x2) ⟨r2, _, rfl⟩
theorem PEd.half (h : PEd X F W e f) : PE X e (rdG F W RH (sHalf f)) := PE.imp h fun σ H Q ⟨P, g, s, M, E, q⟩ => ⟨P, g, s, M, E, post_half q⟩
/-- what is got with things held is got without -/
theorem post_unhold {H1 : Hp} {M1 : Addr → Prop} {g1 : Ga} {s1 : Sd} (E0 : En P σ H1 g1 s1 M1) {Q : List V → Hp → Prop} {v : V} {r : Rs} {o : O} (ho : r.o = some o) (r1 : Ro P.K P.c H1 M1 v o) (rn : (fp H1 o v).Nodup) (rm : ∀ a ∈ fp H1 o v, M1 a ∧ ¬ P.M0 a ∧ NoS σ H1 g1 a) :
    ∀ {q : Out (List Rs)}, PostG P W σ H1 M1 (RPs P σ) (fun vs H => Q vs H) (q.bind fun rs g2 s2 => .ok (r :: rs) g2 s2) → PostG (P.holds (fun a => a ∈ fp H1 o v) H1) W σ H1 M1 (RPs (P.holds (fun a => a ∈ fp H1 o v) H1) σ) (fun vs H => Q (v :: vs) H) q
  | .bad, h => h
  | .ex c d g s, h => fun cv dx H' M' E e rr => h cv dx H' M' (E.unholds (fun a ha => ⟨(rm a ha).2.1, E0.nw a (rm a ha).1 (rm a ha).2.1, E0.al a (rm a ha).1⟩)).1 e rr
  | .ok rs g s, h => fun vs H' M' E e rr => by
    obtain ⟨E1, k⟩ := E.unholds (fun a ha => ⟨(rm a ha).2.1, E0.nw a (rm a ha).1 (rm a ha).2.1, E0.al a (rm a ha).1⟩)
    obtain ⟨os, q1, q2, q3, q4⟩ := rr
    obtain ⟨r2, ef⟩ := r1.mono e fun a ha => (k a ha).2.1
    have ec : fpL H' (o :: os) (v :: vs) = fp H1 o v ++ fpL H' os vs := by rw [← ef]; rfl
    refine h _ H' M' E1 e ⟨o :: os, by unfold rsO; rw [ho, q1], .cons r2 q2, ?_, fun a ha => ?_⟩
    · rw [ec]
      exact List.nodup_append.mpr ⟨rn, q3, fun a ha b hb z => (q4 b hb).2.1 (.inr (by rw [← z]; exact ha))⟩
    · rw [ec] at ha
      rcases List.mem_append.mp ha with ha | ha
      · exact ⟨(k a ha).1, (rm a ha).2.1, (k a ha).2.2⟩
      · exact ⟨(q4 a ha).1, fun z => (q4 a ha).2.1 (.inl z), (q4 a ha).2.2⟩
theorem dp_nil : PPd X F W [] (fun g s => .ok [] g s) := PA.imp pa_nil fun σ H Q ⟨P, g, s, M, E, h⟩ => h [] H M E (Ex.refl _) ⟨[], rfl, .nil, List.nodup_nil, fun a ha => by cases ha⟩
theorem dp_cons {fr : Ga → Sd → Out (List Rs)} (ha : PEd X F W e f) (hr : PPd X F W es fr) (hs : isStar e = false) : PPd X F W (e :: es) (pCons f fr) :=
  PA.imp (pa_cons ha.half hr (star_cons hs)) (by
    rintro σ H Q ⟨P, g, s, M, E, h⟩
    refine rdG.seq (R := RH) (R' := RPs) (Q' := Q) E h fun v r H1 g1 s1 M1 E1 x1 ⟨r1, o, ho⟩ h1 => ?_
    obtain ⟨q1, q2, q3⟩ := r1.o ho
    exact ⟨P.holds (fun a => a ∈ fp H1 o v) H1, g1, s1, M1, E1.holds q3, post_unhold E1 ho q1 q2 q3 h1⟩)
/-- the slot that takes a value -/
def Rs.l : Rs → Sl
  | .fz d => .fz d
  | .nw xs => .ow xs
  | .nt o => .ot o
  | .sl _ => .un
theorem put_eq {i : Nat} {is : List Nat} {r : Rs} {rs : List Rs} {o : O} (h : r.o = some o) : putAll (i :: is) (r :: rs) g = if i < g.length then putAll is rs (g.set i r.l) else none := by
  cases r <;> first | rfl | cases h
theorem NoS.put {a : Addr} {i : Nat} {v : V} {r : Rs} {o : O} (ho : r.o = some o) (n : NoS σ H g a) (m : a ∉ fp H o v) (hi : i < g.length) (hs : i < σ.length) : NoS (σ.set i (some v)) H (g.set i r.l) a := fun j z => by
  by_cases hj : j = i
  · subst hj
    cases t : r.l.tr with
    | none => rw [foot_set_no t hi] at z; cases z
    | some o' =>
      have e : o' = o := by
        cases r with
        | fz d => cases t
        | nw xs => cases t; cases ho; rfl
        | nt o => cases t; cases ho; rfl
        | sl i => cases t
      rw [foot_of (List.getElem?_set_self hi) t (List.getElem?_set_self hs), e] at z
      exact m z
  · rw [foot_set_ne hj] at z; exact n j z
/-- the values go to the names, in whatever order: here one by one -/
theorem put_ok : ∀ {is : List Nat} {vs : List V} {rs : List Rs} {g g' : Ga} {σ : St}, is.Nodup → En P σ H g s M → RsP P σ H M g vs rs → putAll is rs g = some g' →
    vs.length = is.length ∧ ∃ σ', En P σ' H g' s M ∧ σ'.length = σ.length ∧ (∀ j, j ∉ is → σ'[j]? = σ[j]?) ∧ ∀ (k i : Nat) (v : V), is[k]? = some i → vs[k]? = some v → σ'[i]? = some (some v)
  | [], vs, [], g, g', σ, _, E, h, e => by
    obtain ⟨os, q1, q2, _⟩ := h
    cases q1
    cases q2
    cases e
    exact ⟨rfl, σ, E, rfl, fun _ _ => rfl, fun k i v h => by simp at h⟩
  | [], _, _ :: _, _, _, _, _, _, _, e => by cases e
  | i :: is, _, [], _, _, _, _, _, _, e => by cases e
  | i :: is, vs, r :: rs, g, g', σ, nd, E, h, e => by
    obtain ⟨os, q1, q2, q3, q4⟩ := h
    unfold rsO at q1
    cases ho : r.o with
    | none => rw [ho] at q1; cases q1
    | some o =>
      cases hos : rsO rs with
      | none => rw [ho, hos] at q1; cases q1
      | some os' =>
        rw [ho, hos] at q1
        cases q1
        cases q2 with
        | cons r1 r2 =>
          rename_i v vs
          have q3 : (fp H o v ++ fpL H os' vs).Nodup := q3
          have q4 : ∀ a ∈ fp H o v ++ fpL H os' vs, M a ∧ ¬ P.M0 a ∧ NoS σ H g a := q4
          obtain ⟨n1, n2, n3⟩ := List.nodup_append.mp q3
          rw [put_eq ho] at e
          by_cases hi : i < g.length
          · rw [if_pos hi] at e
            have nd' := List.nodup_cons.mp nd
            have hs : i < σ.length := by rw [E.len]; exact hi
            have E1 : En P (σ.set i (some v)) H (g.set i r.l) s M := E.put hi (fun d z => by
                cases r with
                | fz d' => cases z; cases ho; cases r1 with | fz r1 => exact r1
                | nw xs => cases z
                | nt o' => cases z
                | sl j => cases z) (fun o' z => by
                have e : o' = o := by
                  cases r with
                  | fz d => cases z
                  | nw xs => cases z; cases ho; rfl
                  | nt o => cases z; cases ho; rfl
                  | sl i => cases z
                subst e
                exact ⟨r1, n1, fun a ha => ⟨(q4 a (List.mem_append_left _ ha)).1, (q4 a (List.mem_append_left _ ha)).2.1, fun j _ => (q4 a (List.mem_append_left _ ha)).2.2 j⟩⟩)
            have t1 : RsP P (σ.set i (some v)) H M (g.set i r.l) vs rs := ⟨os', hos, r2, n2, fun a ha => ⟨(q4 a (List.mem_append_right _ ha)).1, (q4 a (List.mem_append_right _ ha)).2.1, (q4 a (List.mem_append_right _ ha)).2.2.put ho (fun z => n3 a z a ha rfl) hi hs⟩⟩
            obtain ⟨hl, σ', q1, q2, q3, q4⟩ := put_ok nd'.2 E1 t1 e
            refine ⟨by rw [List.length_cons, List.length_cons, hl], σ', q1, by rw [q2, List.length_set], fun j hj => ?_, fun k l w hk hw => ?_⟩
            · rw [q3 j fun z => hj (List.mem_cons_of_mem _ z), get_set_ne fun z => hj (by rw [z]; exact List.mem_cons_self)]
            · cases k with
              | zero =>
                simp only [List.getElem?_cons_zero] at hk hw
                cases hk; cases hw
                rw [q3 i nd'.1]
                exact List.getElem?_set_self hs
              | succ k =>
                simp only [List.getElem?_cons_succ] at hk hw
                exact q4 k l w hk hw
          · rw [if_neg hi] at e; cases e
/-! displays that keep their parts' own -/
theorem rs_len : ∀ {rs : List Rs} {os : List O}, rsO rs = some os → rs.length = os.length
  | [], _, e => by cases e; rfl
  | r :: rs, os, e => by
    unfold rsO at e
    cases ho : r.o with
    | none => rw [ho] at e; cases e
    | some o =>
      cases hos : rsO rs with
      | none => rw [ho, hos] at e; cases e
      | some os' =>
        rw [ho, hos] at e
        cases e
        rw [List.length_cons, List.length_cons, rs_len hos]
theorem d_tupT {fs : Ga → Sd → Out (List Rs)} {k : Nat} (h : PPd X F W es fs) : PEd X F W (.Tuple es k pos) (sTupT fs) :=
  PE.imp (pe_tup h) (by
    rintro σ H Q ⟨P, g, s, M, E, h⟩
    refine rdG.seq (R := RPs) (R' := RE) (Q' := Q) E h fun vs rs H1 g1 s1 M1 E1 x1 ⟨os, q1, q2, q3, q4⟩ h1 => ?_
    by_cases c : lineOk rs.length = true
    · rw [if_pos c, q1] at h1
      refine ⟨by rw [RoL.length q2, ← rs_len q1]; exact lineOk_le c, fun p hp => ?_⟩
      obtain ⟨E2, x2, np⟩ := E1.alloc hp (.tup vs)
      have kp : ∀ a, M1 a → upd H1 p (.tup vs) a = H1 a := fun a m => upd_ne fun z => np (by rw [← z]; exact m)
      obtain ⟨r2, ef⟩ := q2.mono x2 fun a ha => kp a (q4 a ha).1
      have ep : upd H1 p (.tup vs) p = some (.tup vs) := upd_same
      refine h1 _ _ _ E2 x2 ⟨.tup (by rw [hid_of np]; exact ep) r2, by rw [fp_tup os ep, ef]; exact q3, fun a ha => ?_⟩
      rw [fp_tup os ep, ef] at ha
      exact ⟨(q4 a ha).1, (q4 a ha).2.1, fun i z => (q4 a ha).2.2 i (by rw [← E1.feet x2 kp i]; exact z)⟩
    · rw [if_neg c] at h1; exact h1.elim)
theorem d_lstT {fs : Ga → Sd → Out (List Rs)} (h : PPd X F W es fs) : PEd X F W (.List es pos) (sLstT fs) :=
  PE.imp (pe_lst h) (by
    rintro σ H Q ⟨P, g, s, M, E, h⟩
    refine rdG.seq (R := RPs) (R' := RE) (Q' := Q) E h fun vs rs H1 g1 s1 M1 E1 x1 ⟨os, q1, q2, q3, q4⟩ h1 => ?_
    by_cases c : lineOk rs.length = true
    · rw [if_pos c, q1] at h1
      refine ⟨by rw [RoL.length q2, ← rs_len q1]; exact lineOk_le c, fun p hp => ?_⟩
      obtain ⟨E2, x2, no, n0, h0⟩ := E1.own hp (.lst vs)
      have np : ¬ M1 p := fun m => E1.ne m hp
      have kp : ∀ a, M1 a → upd H1 p (.lst vs) a = H1 a := fun a m => upd_ne fun z => np (by rw [← z]; exact m)
      obtain ⟨r2, ef⟩ := q2.mono x2 fun a ha => kp a (q4 a ha).1
      have ep : upd H1 p (.lst vs) p = some (.lst vs) := upd_same
      refine h1 _ _ _ E2 x2 ⟨.lst ep r2, by rw [fp_lst os ep, ef]; exact List.nodup_cons.mpr ⟨fun z => np (q4 p z).1, q3⟩, fun a ha => ?_⟩
      rw [fp_lst os ep, ef] at ha
      rcases List.mem_cons.mp ha with rfl | ha
      · exact ⟨.inr rfl, n0, no⟩
      · exact ⟨.inl (q4 a ha).1, (q4 a ha).2.1, fun i z => (q4 a ha).2.2 i (by rw [← E1.feet x2 kp i]; exact z)⟩
    · rw [if_neg c] at h1; exact h1.elim)
/-- a name read for the last time -/
theorem d_mv {i : Nat} {x : Str} (hN : X.N[i]? = some x) (hv : Vis X.env.scope x) (hd : (x == ("__debug__" : Str)) = false) (hcd : (x == ("__classdict__" : Str)) = false) : PEd X F W (.Name x pos) (sMv i) :=
  PE.imp (pe_var hN hv hd hcd) fun σ H Q ⟨P, g, s, M, E, h⟩ => by
    have h : PostG P W σ H M (RE P σ) Q (sMvS i g s g[i]?) := h
    cases q : g[i]? with
    | none => rw [q] at h; exact h.elim
    | some l =>
      have hi : i < g.length := (List.getElem?_eq_some_iff.mp q).1
      rw [q] at h
      cases l with
      | un => exact h.elim
      | fz d =>
        obtain ⟨v, h1, h2⟩ := E.fz i d q
        exact ⟨v, h1, h v H M E (Ex.refl _) h2⟩
      | ow xs =>
        obtain ⟨a, vs, h1, h2, h3, h4, h5⟩ := E.ow i xs q
        exact ⟨_, h1, h _ H M (E.drop hi rfl fun d z => by cases z) (Ex.refl _) ⟨a, vs, rfl, h2, h3, h4, h5, E.dropped hi rfl (by rw [En.owf q h1]; exact List.mem_singleton.mpr rfl)⟩⟩
      | ot o =>
        obtain ⟨v, h1, r, f, n, m⟩ := E.tree q rfl
        exact ⟨v, h1, h v H M (E.drop hi rfl fun d z => by cases z) (Ex.refl _) ⟨r, n, fun a ha => ⟨(m a ha).1, (m a ha).2, E.dropped hi rfl (by rw [f]; exact ha)⟩⟩⟩
/-- the slots behind: the names' own values, in any order of the stores -/
theorem par_end {is : List Nat} {fs : Ga → Sd → Out (List Rs)} {D : Ends} (nd : is.Nodup) (fin : List V → St → St) (hfin : ∀ (vs : List V) (σ σ' : St), vs.length = is.length → σ'.length = σ.length → (∀ j, j ∉ is → σ'[j]? = σ[j]?) → (∀ (k i : Nat) (v : V), is[k]? = some i → vs[k]? = some v → σ'[i]? = some (some v)) → σ' = fin vs σ) :
    ∀ σ H, rdS F W (sPar is fs) D σ H → rdG F W RPs fs σ H fun vs H1 => vs.length = is.length ∧ D.nx (fin vs σ) H1 := by
  rintro σ H ⟨P, g, s, M, E, h⟩
  refine rdG.then (R := RPs) E h fun vs rs H1 g1 s1 M1 E1 x1 r1 h1 => ?_
  have h1 : PostS P W D H1 M1 (match putAll is rs g1 with | some g2 => .ok .nx g2 s1 | none => .bad) := h1
  cases q : putAll is rs g1 with
  | none => rw [q] at h1; exact h1.elim
  | some g2 =>
    rw [q] at h1
    obtain ⟨hl, σ', q1, q2, q3, q4⟩ := put_ok nd E1 r1 q
    refine ⟨hl, ?_⟩
    rw [← hfin vs σ σ' hl q2 q3 q4]
    exact h1 σ' H1 M1 q1 (Ex.refl _)
theorem ds_par2 {i j : Nat} {x y : Str} {a b : Expr} {fs : Ga → Sd → Out (List Rs)} {px py pt : Pos} {kt k2 : Nat} {pt2 : Pos} (hc : X.calm = true) (hN : X.N.Nodup) (hi : X.N[i]? = some x) (hj : X.N[j]? = some y) (hij : i ≠ j)
    (hx : X.env.scope.names.lookup x = some .local) (hy : X.env.scope.names.lookup y = some .local) (ha : PPd X F W [a, b] fs)
    (hw : swappedStores [.Tuple [.Name x px, .Name y py] kt pt] (.Tuple [a, b] k2 pt2) X.env = pure (some [x, y]))
    (hs : swapsWithSole [.Tuple [.Name x px, .Name y py] kt pt] (.Tuple [a, b] k2 pt2) pos.line X.env = pure false) :
    PSd X F W (.Assign [.Tuple [.Name x px, .Name y py] kt pt] (.Tuple [a, b] k2 pt2) pos) (sPar [i, j] fs) :=
  PS.imp (ps_par hc hN hi hj hij hx hy ha hw hs) fun D σ H q => by
    have nd : ([i, j] : List Nat).Nodup := by simp [hij]
    have z := par_end (F := F) (W := W) (D := D) nd (fun vs σ => match vs with | [v, w] => (σ.set i (some v)).set j (some w) | _ => σ) (fun vs σ σ' hl h1 h2 h3 => ?_) σ H q
    · obtain ⟨P, g, s, M, E, h⟩ := z
      refine ⟨P, g, s, M, E, ?_⟩
      cases o : fs g s with
      | bad => rw [o] at h; exact h
      | ex c d g1 s1 => rw [o] at h; exact h
      | ok rs g1 s1 =>
        rw [o] at h
        intro vs H1 M1 E1 x1 r1
        obtain ⟨hl, k⟩ := h vs H1 M1 E1 x1 r1
        rcases vs with _ | ⟨v, _ | ⟨w, _ | ⟨u, r⟩⟩⟩
        · cases hl
        · cases hl
        · exact ⟨v, w, rfl, k⟩
        · cases hl
    · rcases vs with _ | ⟨v, _ | ⟨w, _ | ⟨u, r⟩⟩⟩
      · cases hl
      · cases hl
      · refine List.ext_getElem? fun l => ?_
        show σ'[l]? = ((σ.set i (some v)).set j (some w))[l]?
        by_cases e1 : l = j
        · subst e1
          have k := h3 1 l w rfl rfl
          have hlt : l < σ'.length := (List.getElem?_eq_some_iff.mp k).1
          rw [k, List.getElem?_set_self (by rw [List.length_set]; omega)]
        · rw [get_set_ne e1]
          by_cases e2 : l = i
          · subst e2
            have k := h3 0 l v rfl rfl
            have hlt : l < σ'.length := (List.getElem?_eq_some_iff.mp k).1
            rw [k, List.getElem?_set_self (by omega)]
          · rw [get_set_ne e2]
            exact h2 l (by simp [e1, e2])
      · cases hl
end
end DI
end
section
set_option Elab.async false
set_option linter.all false
set_option maxRecDepth 100000
set_option maxHeartbeats 1000000
/-! DICall: calls of the program's own defs, and what a def's body shows of it. -/
namespace DI
open PySem L2
/-- all but the spring stands -/
def Frm (F : Fx) (H H' : Hp) : Prop := ∀ b o, H b = some o → isTbl o = false → ¬ F.ch b → H' b = some o
/-- what a def hands back -/
def RetR (F : Fx) (M0 : Addr → Prop) (H H' : Hp) (v : V) (d : DI.D) : Bool → Prop
  | false => Rp F.K F.c (hid H' M0) v d
  | true => ∃ xs a vs, d = .lst xs ∧ v = .ref a ∧ Vac H a ∧ ¬ M0 a ∧ H' a = some (.lst vs) ∧ RpL F.K F.c (hid H' (fun b => M0 b ∨ b = a)) vs xs
/-- .. a deeper thing, new -/
def RetT (F : Fx) (M0 : Addr → Prop) (H H' : Hp) (v : V) (o : O) : Prop := Ro F.K F.c H' (fun b => M0 b ∨ b ∈ fp H' o v) v o ∧ (fp H' o v).Nodup ∧ ∀ a ∈ fp H' o v, Vac H a ∧ ¬ M0 a ∧ ∃ u, H' a = some u ∧ isTbl u = false
def ExF (F : Fx) (M0 : Addr → Prop) (H' : Hp) (cv : Value) (dx : Option Addr) (c : Nat) (d : DI.D) : Prop :=
  ∃ C f a v, F.cls c = some (C, f) ∧ cv = .ref C ∧ dx = some a ∧ H' a = some (.xd [(f, v)]) ∧ ¬ M0 a ∧ Rp F.K F.c (hid H' M0) v d
def PostF (F : Fx) (M0 : Addr → Prop) (H : Hp) (Q : VK) (E : XK) : FOut → Prop
  | .ok d fr s' => ∀ v H', Frm F H H' → Wd F H' s' → RetR F M0 H H' v d fr → Q v H'
  | .okT o s' => ∀ v H', Frm F H H' → Wd F H' s' → RetT F M0 H H' v o → Q v H'
  | .ex c d s' => ∀ cv dx H', Frm F H H' → Wd F H' s' → ExF F M0 H' cv dx c d → E cv dx H'
  | .bad => False
/-- the promise of a def that does ψ -/
def spF (F : Fx) (n : Nat) (ψ : List DI.D → Sd → FOut) : Sp := fun vs H Q E => vs.length = n ∧ ∃ ds s M0, (∀ b, F.ch b → M0 b) ∧ (∀ a, M0 a → ∃ o, H a = some o ∧ isTbl o = false) ∧ Wd F H s ∧ RpL F.K F.c (hid H M0) vs ds ∧ PostF F M0 H Q E (ψ ds s)
section
variable {F : Fx} {P : Par F} {W : WX} {σ : St} {H : Hp} {g : Ga} {s : Sd} {M : Addr → Prop} {X : Cx} {e a b : Expr} {es : List Expr} {f fa fb : Ga → Sd → Out Rs} {pos : Pos}
theorem En.keepT (E : En P σ H g s M) {H' : Hp} (fr : Frm F H H') {a : Addr} (m : M a) (n : ¬ P.M0 a) : H' a = H a := by
  obtain ⟨o, e, t⟩ := E.al a m
  rw [e]; exact fr a o e t (E.nch n)
/-- behind a call: new things at A -/
theorem En.afterA (E : En P σ H g s M) {H' : Hp} {s' : Sd} (fr : Frm F H H') (wd : Wd F H' s') {A : Addr → Prop} (hA : ∀ a, A a → Vac H a ∧ ¬ M a ∧ ∃ u, H' a = some u ∧ isTbl u = false) :
    En P σ H' g s' (fun b => M b ∨ A b) ∧ Ex (hid H M) (hid H' (fun b => M b ∨ A b)) ∧ ∀ a, A a → ¬ P.M0 a ∧ NoS σ H' g a := by
  have x : Ex (hid H M) (hid H' (fun b => M b ∨ A b)) := Ex.hidE fun b o m e t => ⟨fun z => z.elim m (fun z => (hA b z).1.no e t), fr b o e t fun z => m (E.m0 b (P.m0 b z))⟩
  have q := E.to (s' := s') x (fun i a h => ⟨E.keepT fr (E.hm i a h).1 (E.hm i a h).2, .inl (E.hm i a h).1⟩) wd (fun a m => .inl (E.m0 a m)) (fun a m => ?_) (fun b o e t n => fr b o (E.fr b o e t n) t n) (fun a m n => m.elim (fun m => E.nw a m n) fun z => E.h0 (hA a z).1 fun c => (hA a z).2.1 (E.m0 a (P.m0 a c)))
  · exact ⟨q.1, x, fun a z => ⟨fun m => (hA a z).2.1 (E.m0 a m), fun i h => by rw [q.2] at h; exact (hA a z).2.1 (E.hm i a h).1⟩⟩
  · rcases m with m | z
    · by_cases n : F.ch a
      · rcases n with rfl | rfl
        · exact ⟨_, wd.1.2.1, rfl⟩
        · exact ⟨_, wd.1.2.2, rfl⟩
      · obtain ⟨o, e, t⟩ := E.al a m
        exact ⟨o, fr a o e t n, t⟩
    · exact (hA a z).2.2
/-- behind a call -/
theorem En.after (E : En P σ H g s M) {H' : Hp} {s' : Sd} (fr : Frm F H H') (wd : Wd F H' s') : En P σ H' g s' M ∧ Ex (hid H M) (hid H' M) := by
  obtain ⟨E1, x1, _⟩ := E.afterA (A := fun _ => False) fr wd fun a z => z.elim
  have e : (fun b => M b ∨ False) = M := by funext b; simp
  rw [e] at E1 x1
  exact ⟨E1, x1⟩
/-- .. with a new list that may change -/
theorem En.afterNew (E : En P σ H g s M) {H' : Hp} {s' : Sd} (fr : Frm F H H') (wd : Wd F H' s') {p : Addr} {vs : List V} (hp : Vac H p) (np : ¬ M p) (hp' : H' p = some (.lst vs)) :
    En P σ H' g s' (fun b => M b ∨ b = p) ∧ Ex (hid H M) (hid H' (fun b => M b ∨ b = p)) ∧ ¬ P.M0 p ∧ NoS σ H' g p := by
  obtain ⟨E1, x1, k⟩ := E.afterA (A := fun b => b = p) fr wd fun a z => by rw [z]; exact ⟨hp, np, _, hp', rfl⟩
  exact ⟨E1, x1, (k p rfl).1, (k p rfl).2⟩
theorem call_post {ψ : List DI.D → Sd → FOut} {Q : VK} {ds : List DI.D} (E : En P σ H g s M) (h : PostG P W σ H M (RE P σ) Q (match ψ ds s with
    | .ok (.lst xs) true s' => .ok (.nw xs) g s'
    | .ok d _ s' => .ok (.fz d) g s'
    | .okT o s' => .ok (.nt o) g s'
    | .ex c d s' => .ex c d g s'
    | .bad => .bad)) : PostF F M H Q (WE W σ) (ψ ds s) := by
  cases o : ψ ds s with
  | bad => rw [o] at h; exact h
  | ex c d s' =>
    rw [o] at h
    intro cv dx H' fr st r
    obtain ⟨E1, x1⟩ := E.after fr st
    exact h cv dx H' M E1 x1 r
  | okT t s' =>
    rw [o] at h
    intro v H' fr st ⟨r1, r2, r3⟩
    obtain ⟨E1, x1, k⟩ := E.afterA (A := fun a => a ∈ fp H' t v) fr st r3
    exact h v H' _ E1 x1 ⟨r1, r2, fun a ha => ⟨.inr ha, k a ha⟩⟩
  | ok d fresh s' =>
    rw [o] at h
    intro v H' fr st r
    cases fresh with
    | true =>
      obtain ⟨xs, a, vs, rfl, rfl, h1, hn, h2, h3⟩ := r
      obtain ⟨E1, x1, n0, no⟩ := E.afterNew fr st h1 hn h2
      exact h _ H' _ E1 x1 ⟨a, vs, rfl, .inr rfl, n0, h2, h3, no⟩
    | false =>
      have r : Rp F.K F.c (hid H' M) v d := r
      obtain ⟨E1, x1⟩ := E.after fr st
      cases d <;> exact h _ H' _ E1 x1 r
def callG (ψ : List DI.D → Sd → FOut) (ds : List DI.D) (g : Ga) (s : Sd) : Out Rs := match ψ ds s with
  | .ok (.lst xs) true s' => .ok (.nw xs) g s'
  | .ok d _ s' => .ok (.fz d) g s'
  | .okT o s' => .ok (.nt o) g s'
  | .ex c d s' => .ex c d g s'
  | .bad => .bad
theorem d_call {n k : Nat} {ψ : List DI.D → Sd → FOut} {fs : Ga → Sd → Out (List DI.D)} {ff : Addr} {fd : FuncData} {ps : List Str} {x : Str} {p : Pos} (Fn : FnOk X.prog X.w X.K X.mg X.base (L2.CX X.prog X.w) k ff fd ps (spF F n ψ)) (hψ : ∀ ds s, ds.length ≠ n → ψ ds s = .bad) (hr : Room k X.A) (hg : Gl X x) (hm : X.mg x = some (.ref ff))
    (hk : PySem.W.keepIn X.K (.ref ff) = true) (hb : Binds X.K fd ps []) (tk : Takes X W) (ha : PAd X F W (e :: es) fs) (hdb : (x == ("__debug__" : Str)) = false) (h1 : isStar e = false) (h2 : noStar es = true) :
    PEd X F W (.Call (.Name x p) (e :: es) [] pos) (sCall (callG ψ) fs) :=
  PE.imp (pe_callS Fn hr hg hm hk hb (passAt tk) ha hdb (star_cons h1) (star_any h2)) (by
    rintro σ H Q ⟨P, g, s, M, E, h⟩
    refine rdG.seq (R := RA) (R' := RE) (Q' := Q) E h fun vs ds H1 g1 s1 M1 E1 x1 r1 h1 => ?_
    have post := call_post (ψ := ψ) E1 h1
    have hl : ds.length = n := Decidable.byContradiction fun z => by rw [hψ ds s1 z] at post; exact post
    exact ⟨by rw [RpL.length r1, hl], ds, s1, M1, fun b z => E1.m0 b (P.m0 b z), E1.al, E1.wd, r1, post⟩)
/-- f(k = v, ..), names alone; it is let out only what hangs on no slot -/
theorem pe_callK0 {k : Nat} {ff : Addr} {fd : FuncData} {ps ks : List Str} {sp : Sp} {Ex : XK} {CX : CXT} {gg : List Value → List Value → List Value} {gV : List V → List V → List V} {kws : List Keyword} {tk : TA} {x : Str} {p : Pos} (Fn : FnOk X.prog X.w X.K X.mg X.base CX k ff fd ps sp) (hr : Room k X.A) (hg : Gl X x) (hm : X.mg x = some (.ref ff)) (hk : PySem.W.keepIn X.K (.ref ff) = true)
    (hb : KBinds X.K fd ps ks gg gV) (hx : Passes CX X Ex) (hkw : PK X kws tk) (hall : (backToKw pos (keywordEach kws X.env)).all (·.1.isSome) = true) (hks : (backToKw pos (keywordEach kws X.env)).filterMap (·.1) = ks) (hdb : (x == ("__debug__" : Str)) = false)
    (hpl : ((backTo pos (starEach [] X.env)).any (·.1) || (backToKw pos (keywordEach kws X.env)).any (·.1.isNone)) = false) : PE X (.Call (.Name x p) [] kws pos) (fun σ H Q => tk σ H fun zs H2 => sp (gV [] zs) H2 Q Ex) := by
  refine ⟨fun pins s σ H Q I h => ?_⟩
  refine wpAny_Call_Name_kw (ld_glob I hg hm ?_ hdb)
  refine PySem.W.callWith_KW0 (h₀ := X.base) I.ok.mod.kin hk hall (L2.thn (hkw.run pos pins s σ H _ I h) fun ws s2 ⟨zs, H2, I2, rz, q2⟩ => ⟨I2.kIn, ?_⟩) hpl
  rw [hks]
  exact run_fnk (us := []) (vs := []) Fn hr hb hx I2 .nil rz q2
abbrev PKd (X : Cx) (F : Fx) (W : WX) (kws : List Keyword) (f : Ga → Sd → Out (List DI.D)) : Prop := PK X kws (rdG F W RA f)
theorem PK.imp {kws : List Keyword} {t t' : TA} (h : PK X kws t) (i : ∀ σ H Q, t' σ H Q → t σ H Q) : PK X kws t' := ⟨fun pos pins s σ H Q I q => h.run pos pins s σ H Q I (i σ H Q q)⟩
theorem dk_nil : PKd X F W [] (fun g s => .ok [] g s) := PK.imp pk_nil fun σ H Q ⟨P, g, s, M, E, h⟩ => h [] H M E (Ex.refl _) .nil
theorem dk_cons {kws : List Keyword} {nm : Option Str} {kpos : Pos} {fr : Ga → Sd → Out (List DI.D)} (ha : PEd X F W e f) (hr : PKd X F W kws fr) : PKd X F W (⟨nm, e, kpos⟩ :: kws) (aCons f fr) :=
  PK.imp (pk_cons ha.keep hr) (by
    rintro σ H Q ⟨P, g, s, M, E, h⟩
    refine rdG.seq (R := RD) (R' := RA) (Q' := Q) E h fun v d H1 g1 s1 M1 E1 x1 r1 h1 => ?_
    refine rdG.seq (R := RA) (R' := RA) (Q' := Q) E1 h1 fun vs ds H2 g2 s2 M2 E2 x2 r2 h2 => ?_
    exact h2 _ H2 M2 E2 (Ex.refl _) (.cons (Rp.mono x2 r1) r2))
/-- places: the i-th parameter is the pm[i]-th of what is passed -/
def permL {α : Type} (pm : List Nat) (xs : List α) : List α := pm.filterMap fun i => xs[i]?
theorem permL_rp {K : PySem.W.Frag} {c : Addr} {H : Hp} {vs : List V} {ds : List DI.D} (r : RpL K c H vs ds) : ∀ pm : List Nat, RpL K c H (permL pm vs) (permL pm ds)
  | [] => .nil
  | i :: pm => by
    unfold permL
    rw [List.filterMap_cons, List.filterMap_cons]
    cases q : ds[i]? with
    | none =>
      have : vs[i]? = none := by rw [List.getElem?_eq_none_iff] at q ⊢; rw [r.length]; exact q
      rw [this]
      exact permL_rp r pm
    | some d =>
      obtain ⟨v, h1, h2⟩ := r.get q
      rw [h1]
      exact .cons h2 (permL_rp r pm)
/-- keywords alone, in the parameters' order -/
def kG {α : Type} (pm : List Nat) (us ws : List α) : List α := match us with
  | [] => permL pm ws
  | _ :: _ => []
theorem d_callK {n k : Nat} {ψ : List DI.D → Sd → FOut} {fs : Ga → Sd → Out (List DI.D)} {ff : Addr} {fd : FuncData} {ps ks : List Str} {x : Str} {p : Pos} {pm : List Nat} {kws : List Keyword} {E0 : XK} (hW : W = fun c d _ H => E0 c d H) (Fn : FnOk X.prog X.w X.K X.mg X.base (L2.CX X.prog X.w) k ff fd ps (spF F n ψ)) (hψ : ∀ ds s, ds.length ≠ n → ψ ds s = .bad) (hr : Room k X.A) (hg : Gl X x) (hm : X.mg x = some (.ref ff))
    (hk : PySem.W.keepIn X.K (.ref ff) = true) (hb : KBinds X.K fd ps ks (kG pm) (kG pm)) (tk : Takes X W) (ha : PKd X F W kws fs) (hdb : (x == ("__debug__" : Str)) = false)
    (hall : (backToKw pos (keywordEach kws X.env)).all (·.1.isSome) = true) (hks : (backToKw pos (keywordEach kws X.env)).filterMap (·.1) = ks) (hpl : ((backTo pos (starEach [] X.env)).any (·.1) || (backToKw pos (keywordEach kws X.env)).any (·.1.isNone)) = false) :
    PEd X F W (.Call (.Name x p) [] kws pos) (sCall (fun ds => callG ψ (permL pm ds)) fs) := by
  subst hW
  refine PE.imp (pe_callK0 Fn hr hg hm hk hb (passes_call tk fun _ _ _ _ z => z) ha hall hks hdb hpl) ?_
  rintro σ H Q ⟨P, g, s, M, E, h⟩
  refine rdG.seq (R := RA) (R' := RE) (Q' := Q) E h fun vs ds H1 g1 s1 M1 E1 x1 r1 h1 => ?_
  have post := call_post (ψ := ψ) (ds := permL pm ds) E1 h1
  have hl : (permL pm ds).length = n := Decidable.byContradiction fun z => by rw [hψ _ s1 z] at post; exact post
  have r2 := permL_rp r1 pm
  exact ⟨by show (permL pm vs).length = n; rw [RpL.length r2, hl], permL pm ds, s1, M1, fun b z => E1.m0 b (P.m0 b z), E1.al, E1.wd, r2, post⟩

/-! ### a def's body -/
def finS (g : Ga) (s : Sd) : Rs → FOut
  | .fz d => .ok d false s
  | .nw xs => .ok (.lst xs) true s
  | .nt o => .okT o s
  | .sl i => match g[i]? with
    | some (.ow xs) => .ok (.lst xs) true s
    | some (.fz d) => .ok d false s
    | _ => .bad
def finish : Out Flow → FOut
  | .ok (.ret r) g s => finS g s r
  | .ok .nx _ s => .ok .non false s
  | .ex c d _ s => .ex c d s
  | _ => .bad
def startG (m : Nat) (ds : List DI.D) : Ga := ds.map .fz ++ List.replicate (m - ds.length) .un
/-- a def of n parameters and m names -/
def fnOf (n m : Nat) (b : Ga → Sd → Out Flow) (ds : List DI.D) (s : Sd) : FOut := if ds.length = n then finish (b (startG m ds) s) else .bad
theorem fnOf_bad {n m : Nat} {b : Ga → Sd → Out Flow} : ∀ ds s, ds.length ≠ n → fnOf n m b ds s = .bad := fun ds s h => by unfold fnOf; rw [if_neg h]
theorem start_get {N : List Str} {vs : List V} {ds : List DI.D} {K : PySem.W.Frag} {c : Addr} {H : Hp} (r : RpL K c H vs ds) {i : Nat} {l : Sl} (h : (startG N.length ds)[i]? = some l) : l = .un ∨ ∃ v d, l = .fz d ∧ (L2.start N vs)[i]? = some (some v) ∧ Rp K c H v d := by
  unfold startG at h
  unfold L2.start
  by_cases hi : i < ds.length
  · rw [List.getElem?_append_left (by rw [List.length_map]; exact hi)] at h
    rw [List.getElem?_map] at h
    cases q : ds[i]? with
    | none => rw [q] at h; cases h
    | some d =>
      rw [q] at h
      cases h
      obtain ⟨v, h1, h2⟩ := r.get q
      exact .inr ⟨v, d, rfl, by rw [List.getElem?_append_left (by rw [List.length_map, r.length]; exact hi), List.getElem?_map, h1]; rfl, h2⟩
  · rw [List.getElem?_append_right (by rw [List.length_map]; omega)] at h
    rw [List.getElem?_replicate] at h
    split at h
    · cases h; exact .inl rfl
    · cases h
theorem start_len {N : List Str} {vs : List V} {ds : List DI.D} (h : vs.length = ds.length) (hn : ds.length ≤ N.length) : (L2.start N vs).length = (startG N.length ds).length := by
  unfold L2.start startG
  simp [h]
theorem start_no {N : List Str} {ds : List DI.D} {l : Sl} {i : Nat} (h : (startG N.length ds)[i]? = some l) : l.tr = none := by
  unfold startG at h
  by_cases hi : i < ds.length
  · rw [List.getElem?_append_left (by rw [List.length_map]; exact hi), List.getElem?_map] at h
    cases q : ds[i]? with
    | none => rw [q] at h; cases h
    | some d => rw [q] at h; cases h; rfl
  · rw [List.getElem?_append_right (by rw [List.length_map]; omega), List.getElem?_replicate] at h
    split at h
    · cases h; rfl
    · cases h
theorem start_en {N : List Str} {vs : List V} {ds : List DI.D} {M0 : Addr → Prop} (m1 : ∀ b, F.ch b → M0 b) (al : ∀ a, M0 a → ∃ o, H a = some o ∧ isTbl o = false) (wd : Wd F H s) (hn : ds.length ≤ N.length) (r : RpL F.K F.c (hid H M0) vs ds) :
    En (F := F) ⟨H, M0, m1⟩ (L2.start N vs) H (startG N.length ds) s M0 := by
  have no : ∀ i, foot (L2.start N vs) H (startG N.length ds) i = [] := fun i => foot_none fun l h => start_no h
  refine ⟨start_len r.length hn, fun i d e => ?_, fun i l o e t => ?_, fun i => (by rw [no]; exact List.nodup_nil), fun i j a _ h => (by rw [no] at h; cases h), fun i a h => (by rw [no] at h; cases h), wd, fun _ m => m, al, fun b o e _ _ => e, fun a m n => absurd m n⟩
  · rcases start_get r e with h | ⟨v, d', h1, h2, h3⟩
    · cases h
    · cases h1; exact ⟨v, h2, h3⟩
  · rw [start_no e] at t; cases t
theorem body_ok {N : List Str} {n : Nat} {vs : List V} {Q : VK} {E0 : XK} {b : Ga → Sd → Out Flow} (hn : n ≤ N.length) (h : spF F n (fnOf n N.length b) vs H Q E0) : rdS F (fun c d _ H => E0 c d H) b { nx := fun _ H' => Q .non H', rt := Q } (L2.start N vs) H := by
  obtain ⟨hl, ds, s, M0, m1, al, st, r, post⟩ := h
  have hd : ds.length = n := by rw [← r.length, hl]
  have post : PostF F M0 H Q E0 (finish (b (startG N.length ds) s)) := by
    unfold fnOf at post
    rw [if_pos hd] at post
    exact post
  have E := start_en (N := N) m1 al st (by omega) r
  refine ⟨_, _, _, _, E, ?_⟩
  have frm : ∀ {σ' H' g' s' M'}, En (F := F) ⟨H, M0, m1⟩ σ' H' g' s' M' → Frm F H H' := fun E' b o e t n => E'.fr b o e t n
  cases o : b (startG N.length ds) s with
  | bad => rw [o] at post; exact post
  | ex c d g' s' =>
    rw [o] at post
    intro cv dx σ' H' M' E' _ ⟨C, f, a, v, h1, h2, h3, h4, h5, h6⟩
    have x : Ex (hid H' M') (hid H' M0) := Ex.hidE fun b o m e _ => ⟨fun z => m (E'.m0 b z), e⟩
    exact post cv dx H' (frm E') E'.wd ⟨C, f, a, v, h1, h2, h3, h4, fun z => h5 (E'.m0 a z), h6.mono x⟩
  | ok fl g' s' =>
    rw [o] at post
    cases fl with
    | brk => exact False.elim post
    | cnt => exact False.elim post
    | nx =>
      intro σ' H' M' E' _
      exact post .non H' (frm E') E'.wd .non
    | ret r' =>
      intro v σ' H' M' E' _ rr
      have x : Ex (hid H' M') (hid H' M0) := Ex.hidE fun b o m e _ => ⟨fun z => m (E'.m0 b z), e⟩
      have post : PostF F M0 H Q E0 (finS g' s' r') := post
      have own : ∀ {a : Addr} {us : List V} {xs : List DI.D}, M' a → ¬ M0 a → H' a = some (.lst us) → RpL F.K F.c (hid H' M') us xs → RetR F M0 H H' (.ref a) (.lst xs) true := fun {a us xs} k1 k2 k3 k4 =>
        ⟨xs, a, us, rfl, rfl, E'.nw a k1 k2, k2, k3, k4.mono (Ex.hidE fun b o m e _ => ⟨fun z => m (z.elim (E'.m0 b) fun z => by rw [z]; exact k1), e⟩)⟩
      cases r' with
      | fz d => exact post v H' (frm E') E'.wd (Rp.mono x rr)
      | nw xs =>
        obtain ⟨a, us, rfl, k1, k2, k3, k4, _⟩ := rr
        exact post _ H' (frm E') E'.wd (own k1 k2 k3 k4)
      | nt t =>
        obtain ⟨k1, k2, k3⟩ := rr
        exact post v H' (frm E') E'.wd ⟨(k1.mono (Ex.hidE fun b o m e _ => ⟨fun z => m (z.elim (E'.m0 b) fun z => (k3 b z).1), e⟩) fun _ _ => rfl).1, k2, fun a ha => ⟨E'.nw a (k3 a ha).1 (k3 a ha).2.1, (k3 a ha).2.1, E'.al a (k3 a ha).1⟩⟩
      | sl i =>
        have rr : σ'[i]? = some (some v) := rr
        have post : PostF F M0 H Q E0 (match g'[i]? with
          | some (.ow xs) => .ok (.lst xs) true s'
          | some (.fz d) => .ok d false s'
          | _ => .bad) := post
        cases q : g'[i]? with
        | none => rw [q] at post; exact False.elim post
        | some l =>
          rw [q] at post
          cases l with
          | un => exact False.elim post
          | ot t => exact False.elim post
          | fz d =>
            obtain ⟨v', h1, h2⟩ := E'.fz i d q
            rw [rr] at h1; cases h1
            exact post v H' (frm E') E'.wd (h2.mono x)
          | ow xs =>
            obtain ⟨a, us, h1, h2, h3, h4, h5⟩ := E'.ow i xs q
            rw [rr] at h1; cases h1
            exact post _ H' (frm E') E'.wd (own h2 h3 h4 h5)
end
/-- THE RULE of a def -/
theorem fn_def {P : Program} {w : World} {K : PySem.W.Frag} {mg : Str → Option Value} {base : Heap} {F : Fx} {x qual : Str} {st : Stmt} {f : Addr} {fd : FuncData} {N ps : List Str} {k : Nat} {b : Ga → Sd → Out Flow} (Fn : Fun K x qual st f fd) (S : FnScope N ps (defScope st)) (hn : ps.length ≤ N.length)
    (hb : ∀ (cdv : Value) (A : Around) (outer : List PySem.Env) (s : Shared) (H : Hp) (E : XK), Room k (A.deeper (PyProof.Rows.envOfC qual (defScope st) s.heap.objs.size f cdv)) → PSsd (cxOf (L2.CX P w) P w K mg base N qual (defScope st) f cdv A outer s H E) F (fun c d _ H => E c d H) (defBody st) b) :
    FnOk P w K mg base (L2.CX P w) (k + 1) f fd ps (spF F ps.length (fnOf ps.length N.length b)) :=
  Fn.okX S (fun vs H Q E h => h.1) fun cdv A outer s H vs Q E hr h => ⟨_, hb cdv A outer s H E hr, body_ok hn h⟩
end DI
end
section
set_option Elab.async false
set_option linter.all false
set_option maxRecDepth 100000
set_option maxHeartbeats 1000000
/-! DIRais: raise X(e), X an own class of errors whose __init__ keeps its one argument. -/
namespace DI
open PySem L2
/-- self.f = e in such an __init__ -/
def spInit (C : Addr) (f : Str) : Sp := fun vs H Q _ => ∃ a y, vs = [.ref a, y] ∧ H a = some (exo a C none) ∧ ∀ dx, H dx = none → dx ≠ a → Q .non (upd (upd H dx (exd dx [(f, y)])) a (exo a C (some dx)))
section
variable {P : Program} {w : World} {K : PySem.W.Frag} {mg : Str → Option Value} {base : Heap}
theorem ok_init {qual f p : Str} {st : Stmt} {ff C : Addr} {fd : FuncData} (Fn : Fun K "__init__" qual st ff fd) (S : FnScope ["self", p] ["self", p] (defScope st)) (T : OexC K C) (hno : PySem.W.findIn K (.ref C) f = some none)
    (hb : ∃ (p1 p2 p3 p4 : Pos), defBody st = [.Assign [.Attribute (.Name "self" p1) f p2] (.Name p p3) p4]) (hv1 : Vis (defScope st) "self") (hv2 : Vis (defScope st) p) (hd : (p == ("__debug__" : Str)) = false) (hcd : (p == ("__classdict__" : Str)) = false) : FnOk P w K mg base CX0 1 ff fd ["self", p] (spInit C f) := by
  refine Fn.ok S (fun vs H Q E h => ?_) (fun cdv A outer s H vs Q E hr h => ?_)
  · obtain ⟨a, y, rfl, _⟩ := h
    rfl
  · obtain ⟨a, y, rfl, h1, k⟩ := h
    obtain ⟨p1, p2, p3, p4, e⟩ := hb
    rw [e]
    refine ⟨_, pss_one (ps_ost (pe_var (i := 0) rfl hv1) (pe_var (i := 1) rfl hv2 hd hcd)), ?_⟩
    exact ⟨y, rfl, .ref a, rfl, a, C, rfl, T, hno, .inl ⟨h1, fun dx h2 h3 => k dx h2 h3⟩⟩
end
section
variable {F : Fx} {W : WX} {X : Cx} {e : Expr} {f : Ga → Sd → Out Rs} {pos cpos p : Pos}
theorem ds_rais {c k : Nat} {x fl pn : Str} {C fI : Addr} {fd : FuncData} (hc : X.calm = true) (tk : Takes X W) (T : OexC X.K C) (hcl : F.cls c = some (C, fl)) (iC : PySem.W.findIn X.K (.ref C) "__init__" = some (some (.ref fI))) (tI : PySem.W.typeIn X.K (.ref fI) = some (.type "function"))
    (F1 : FnOk X.prog X.w X.K X.mg X.base CX0 k fI fd ["self", pn] (spInit C fl)) (hr : Room (k + 1) X.A) (hb : Binds X.K fd ["self", pn] []) (hg : Gl X x) (hm : X.mg x = some (.ref C)) (ha : PEd X F W e f) (hdb : (x == ("__debug__" : Str)) = false) (h1 : isStar e = false) :
    PSd X F W (.Raise (some (.Call (.Name x p) [e] [] cpos)) none pos) (sRais c f) :=
  PS.imp (ps_raise hc tk (pmk_oex T iC tI F1 hr hb .nil pass0 hg hm (pa_cons ha.keep pa_nil (star_cons h1)) hdb (star_cons h1) (by rfl))) (by
    rintro D σ H ⟨P, g, s, M, E, h⟩
    refine rdG.then (R := RD) E h fun v d H1 g1 s1 M1 E1 x1 r1 h1 => ?_
    have h1 : ∀ cv dx σ' H' M', En P σ' H' g1 s1 M' → Ex (hid H1 M1) (hid H' M') → ExR P H' M' cv dx c d → W cv dx σ' H' := h1
    refine ⟨by show 1 ≤ 1000; decide, fun a ha => ?_⟩
    refine ⟨a, v, rfl, upd_same, fun dx hdx hne => ⟨rfl, dx, [(fl, v)], upd_same, by rw [upd_ne hne, upd_same], ?_, ?_⟩⟩
    · rw [upd_ne hne] at hdx; exact hdx
    · have hdx : H1 dx = none := by rw [upd_ne hne] at hdx; exact hdx
      have e : upd (del (upd (upd (upd H1 a (exo a C none)) dx (exd dx [(fl, v)])) a (exo a C (some dx))) a) dx (.xd [(fl, v)]) = upd H1 dx (.xd [(fl, v)]) := by
        funext b
        by_cases b1 : b = dx
        · subst b1; rw [upd_same, upd_same]
        · rw [upd_ne b1, upd_ne b1]
          by_cases b2 : b = a
          · subst b2; rw [del_same, ha]
          · rw [del_ne b2, upd_ne b2, upd_ne b1, upd_ne b2]
      rw [e]
      obtain ⟨E2, x2, np⟩ := E1.alloc hdx (.xd [(fl, v)])
      exact h1 _ _ σ _ M1 E2 x2 ⟨C, fl, dx, v, hcl, rfl, rfl, upd_same, np, Rp.mono x2 r1⟩)
end
end DI
end
section
set_option Elab.async false
set_option linter.all false
set_option maxRecDepth 100000
set_option maxHeartbeats 2000000
/-! DIEnum: enumerate(list or tuple). -/
namespace PySem
set_option maxHeartbeats 1000000 in
theorem meets_enumerate_new1B {v : Value} {o : Obj} {H : Heap → Prop} (B : Begins v o H) :
    Meets (Builtin.«enumerate.__new__» ⟨[.type "enumerate", v], []⟩) (fun _ R s => H s.heap ∧
      R (.ok (.ret (.ref (s.heap.push o).objs.size))) { s with heap := (s.heap.push o).push { cls := .type "enumerate", data := .fields #[.none, .bool false, .ref s.heap.objs.size, rawInt 0, .none, .none] } }) :=
  .of_wp fun prog w A R s h => by
    obtain ⟨hp, g, d, tk, os⟩ := s; obtain ⟨h1, h⟩ := h
    have hsub := sub_enumerate
    have q1 : ∀ {A' : Around} {E : Value → Shared → Prop} {Q : Value → Shared → Prop}, Q (.ref hp.objs.size) ⟨hp.push o, g, d, tk, os⟩ → wpAny (model prog w) A' (pyIter v) Q E ⟨hp, g, d, tk, os⟩ :=
      fun q => B.iter prog w _ _ ⟨hp, g, d, tk, os⟩ _ h1 q
    wp_walk using q1
    refine wpAny_stack_any fun st => wpAny_pure ?_
    split
    · rename_i c _ _ _ _ _
      cases (c == Value.type "enumerate")
      · wp_walk using q1
        exact ⟨_, rfl, h⟩
      · wp_walk using q1
        exact ⟨_, rfl, h⟩
    · wp_walk using q1
      exact ⟨_, rfl, h⟩
section
variable {prog : Program} {w : World} {A : Around} {E : Value → Shared → Prop} {s : Shared}
theorem enum_begins1 {v : Value} {o : Obj} {H : Heap → Prop} {Q : Value → Shared → Prop} (B : Begins v o H) (h1 : H s.heap)
    (h : ∀ h', IsEnum h' (s.heap.objs.size + 1) s.heap.objs.size 0 .none → h'.get? s.heap.objs.size = some o → h'.objs.size = s.heap.objs.size + 2 →
      (∀ b o, s.heap.get? b = some o → h'.get? b = some o) → Q (.ref (s.heap.objs.size + 1)) { s with heap := h' }) :
    wpAny (model prog w) A (call (.type "enumerate") [v]) Q E s := by
  refine callType_new F.called_enumerate (by decide) (F.typeCall_enumerate_1 _) (F.newCall_enumerate_1 _) (fun obj => F.args_object_init_2 obj _) F.entry_enumerate_new
    (meets_enumerate_new1B B) ⟨h1, ?_⟩
  have hz : (s.heap.push o).objs.size = s.heap.objs.size + 1 := Heap.size_push ..
  show _ ∧ _
  rw [hz]
  have he : IsEnum ((s.heap.push o).push { cls := .type "enumerate", data := .fields #[.none, .bool false, .ref s.heap.objs.size, rawInt 0, .none, .none] }) (s.heap.objs.size + 1) s.heap.objs.size 0 .none := by
    have := Heap.get?_push_size (s.heap.push o) (o := { cls := .type "enumerate", data := .fields #[.none, .bool false, .ref s.heap.objs.size, rawInt 0, .none, .none] }) rfl
    rw [hz] at this; exact this
  refine ⟨⟨_, he, rfl⟩, h _ he (Heap.get?_push_of_some _ (Heap.get?_push_size _ B.free)) (by rw [Heap.size_push, hz]) fun b o x => Heap.get?_push_of_some _ (Heap.get?_push_of_some _ x)⟩
theorem wpAny_pyNext_enum_endT {e it l : Addr} {i : Nat} {items : Array Value} {old : Value} {Q : Option Value → Shared → Prop} (hh : A.handled = none)
    (he : IsEnum s.heap e it i old) (hit : s.heap.IsTupleIter it l i) (hl : s.heap.IsTuple l items) (hx : items[i]? = none)
    (hQ : ∀ h', Heap.ExtBut it s.heap h' → Q none { s with heap := h' }) : wpAny (model prog w) A (pyNext (.ref e)) Q E s := by
  have hT : s.TypeIs (.ref e) "enumerate" := ⟨_, he, rfl⟩
  unfold pyNext
  refine wpAny_bind (wpAny_attempt (wpAny_callSpecial?_slot (name := Str.ofString "__next__") hT F.slot_enumerate_next
    (wpAny_call_entry F.slot_enumerate_next hT F.entry_enumerate_next ?_ (F.args_enumerate_next_1 _))))
  show wpAny _ _ (field (.ref e) 2 >>= _) _ _ _
  refine wpAny_bind (wpAny_field he rfl (x := .ref it) rfl ?_)
  refine wpAny_bind (wpAny_nextOf_tuple_end hh hit hl hx fun h' x he' hx' => ?_)
  obtain ⟨o, ho, hc⟩ := hx'
  refine wpAny_bind (wpAny_isInstance (T := "StopIteration") (b := true) ⟨o, ho, hc⟩ isSubtype_stop ?_)
  exact wpAny_pure (hQ _ he')
end
end PySem
namespace DI
open PySem PySem.Spec L2
/-- the tuple at a as it stands, each item in a new pair -/
def IteT (K : PySem.W.Frag) (a : Addr) : It :=
  ⟨fun i H => ∃ (xs : List V) (x : V), SqT K H a xs ∧ xs[i]? = some x, fun i H v H' => ∃ T x, v = .ref T ∧ H T = none ∧ H' = upd H T (.tup [.int (i : Nat), x]) ∧ ∀ xs, SqT K H a xs → xs[i]? = some x, fun i H => ∃ xs : List V, SqT K H a xs ∧ xs.length ≤ i⟩
theorem turn_enumT {P : Program} {w : World} {K : PySem.W.Frag} {elts : List Expr} {kk : Nat} {tpos : Pos} (a e it : Addr) :
    Turn P w K (.Tuple elts kk tpos) (IteT K a) [e, it] e (fun i h => (∃ old, IsEnum h e it ((i : Nat) : Int) old) ∧ h.IsTupleIter it a i ∧ e ≠ it) where
  mem := by simp
  obj := fun i h st b hb => by
    obtain ⟨⟨old, he⟩, ⟨o, ho, hc, hd⟩, _⟩ := st
    have e' : b = e ∨ b = it := by simpa using hb
    rcases e' with z | z
    · rw [z]; exact ⟨_, he, fun v q => nomatch q⟩
    · rw [z]; exact ⟨o, ho, fun v q => by rw [hd] at q; cases q⟩
  keep := fun i h h' st k => let ⟨⟨old, he⟩, hi, hne⟩ := st; ⟨⟨old, k e (by simp) _ he⟩, hi.at fun o q => k it (by simp) o q, hne⟩
  item := by
    intro X hP hw hK hc i pins s σ H E I hf st hg
    subst hP hw hK
    obtain ⟨⟨old, he⟩, hit, hne⟩ := st
    obtain ⟨xs, x, hq, hx⟩ := hg
    obtain ⟨its, rv, p, hz⟩ := I.tuple hq
    obtain ⟨u, hu, ru⟩ := rv.get hx
    have hel : e < s.heap.objs.size := Heap.lt_size he
    have hil : it < s.heap.objs.size := by obtain ⟨_, q, _⟩ := hit; exact Heap.lt_size q
    have pt : s.heap.IsTuple a its.toArray := p
    have nat : a ≠ it := fun z => by
      obtain ⟨o, ho, hcc, _⟩ := hit
      obtain ⟨o', ho', hc', _⟩ := pt
      rw [z, ho] at ho'; cases ho'
      rw [hcc] at hc'; exact absurd hc' (by decide +kernel)
    have nae : e ∉ [it, a] := fun z => by
      have e' : e = it ∨ e = a := by simpa using z
      rcases e' with z | z
      · exact hne z
      · obtain ⟨o', ho', hc', _⟩ := pt
        rw [← z] at ho'
        have he2 := he
        unfold IsEnum at he2
        rw [ho'] at he2; cases he2; exact absurd (show Value.type "enumerate" = Value.type "tuple" from hc') (by decide +kernel)
    refine wpAny_pyNext_enum_itemD (Draws.tuple (prog := X.prog) (w := X.w) (A := X.A.in1) (I.ok.hd hc) it a nat its.toArray) he ⟨hit, pt⟩ (by rw [List.size_toArray]; exact (List.getElem?_eq_some_iff.mp hu).1) hne nae fun x' h' tk hx' ho ⟨hit', _⟩ hT hsz hk => ?_
    have ex : x' = u := by
      have q : its.toArray[i]? = some x' := hx'
      rw [List.getElem?_toArray, hu] at q
      exact (Option.some.inj q).symm
    subst ex
    refine ⟨_, rfl, wpAny_letOwnedTupleGo_enum (s := { s with heap := h', toks := tk + 1 }) ho fun h'' he' sb => ?_⟩
    have hT2 : h''.get? s.heap.objs.size = some { cls := .type "tuple", data := .seq #[.int i tk, x'] } := (sb.2 _ (Nat.ne_of_gt hel)).trans hT
    have new : ObjOk X.prog X.w (upd H s.heap.objs.size (.tup [.int (i : Nat), x])) h'' s.heap.objs.size (.tup [.int (i : Nat), x]) :=
      ⟨by show 2 ≤ sizeLine; decide, [.int i tk, x'], .cons ⟨_, rfl⟩ (.cons ru .nil), ⟨_, hT2, rfl, _, rfl⟩⟩
    have I1 : Inv X pins σ (upd H s.heap.objs.size (.tup [.int (i : Nat), x])) { s with heap := h'', toks := tk + 1 } :=
      I.turnedNew (ch := [e, it]) (fun b ob hb q => (sb.2 b (fun z => hb (by simp [z]))).trans (hk b ob (fun z => hb (by simp [z])) (fun z => hb (by simp [z])) q)) hf (Nat.le_refl _) new
    refine ⟨.ref s.heap.objs.size, _, I1, rfl, ⟨_, x, rfl, I.hok.fresh (Nat.le_refl _), rfl, fun ys hy => by rw [I.tuple_inj hy hq]; exact hx⟩, ⟨⟨x', ?_⟩, hit'.at fun o q => (sb.2 it (Ne.symm hne)).trans q, hne⟩, fun b hb => ?_⟩
    · have e1 : ((i + 1 : Nat) : Int) = (i : Int) + 1 := by omega
      rw [e1]; exact he'
    · have hb' : b < s.heap.objs.size := by
        have e' : b = e ∨ b = it := by simpa using hb
        rcases e' with z | z
        · rw [z]; exact hel
        · rw [z]; exact hil
      rw [upd_ne (Nat.ne_of_lt hb')]
      exact (hf b hb).1
  done := by
    intro X hP hw hK hc i pins s σ H E I hf st hg
    subst hP hw hK
    obtain ⟨⟨old, he⟩, hit, hne⟩ := st
    obtain ⟨xs, hq, hx⟩ := hg
    obtain ⟨its, rv, p, hz⟩ := I.tuple hq
    obtain ⟨f0, f1, f2, f3, f4, f5⟩ := hf it (by simp)
    have hl := rv.length
    exact wpAny_pyNext_enum_endT (I.ok.hd hc) he hit (show s.heap.IsTuple a its.toArray from p) (by simp; omega) fun h' eb => ⟨rfl, I.turned (t' := s.toks) (fun b o hb q => eb b o hb q) f0 f1 f3 f4 f5⟩
  self := fun A i s Q E st h => let ⟨⟨_, he⟩, _⟩ := st; wpAny_pyIter_enum he h
section
variable {F : Fx} {W : WX} {X : Cx} {a : Expr} {f : Ga → Sd → Out Rs} {p pos tpos : Pos} {elts : List Expr} {kk : Nat} {σ : St} {H : Hp} {g : Ga} {s : Sd} {M : Addr → Prop}
def iEnumA (K : PySem.W.Frag) (ta : TA) : TI := fun σ H R => ta σ H fun vs H1 => (∃ a xs, vs = [.ref a] ∧ SqL K H1 a xs ∧ R (Ite K a) H1) ∨ ∃ a xs, vs = [.ref a] ∧ SqT K H1 a xs ∧ R (IteT K a) H1
theorem pi_enumA {e : Expr} {ta : TA} (hg : Gl X "enumerate") (hm : X.mg "enumerate" = none) (ha : PA X [e] ta) (hs : starEach [e] X.env = [(false, eval e X.env)]) :
    PI X (.Tuple elts kk tpos) (.Call (.Name "enumerate" p) [e] [] pos) (iEnumA X.K ta) := by
  refine ⟨fun pins s σ H R I h => ?_⟩
  refine PyProof.Rows.Call_ (ld_blt I hg hm PyProof.Rows.boot_enumerate (PyProof.Rows.callWith_type1 (L2.thn (ha.run pos pins s σ H _ I h) fun us s1 ⟨vs, H1, I1, r1, q1⟩ => ?_) hs rfl))
  rcases q1 with ⟨a, xs, ex, hq, q⟩ | ⟨a, xs, ex, hq, q⟩
  · subst ex
    cases r1 with
    | cons r rr =>
      cases rr
      cases r
      obtain ⟨its, rv, p', hz⟩ := I1.list hq
      refine call_enumerate_list p'.isList fun h' he hit hsz hk => wpAny_pyIter_enum he ?_
      have I2 : L2.Inv X pins σ H1 { s1 with heap := h' } := I1.kept (t' := s1.toks) hk
      refine ⟨s1.heap.objs.size + 1, [s1.heap.objs.size + 1, s1.heap.objs.size], _, _, H1, rfl, I2, turn_enum a (s1.heap.objs.size + 1) s1.heap.objs.size, ⟨⟨.none, he⟩, hit, Nat.succ_ne_self _⟩, fun b hb => ?_, q⟩
      have e' : b = s1.heap.objs.size + 1 ∨ b = s1.heap.objs.size := by simpa using hb
      have hle : s1.heap.objs.size ≤ b := by
        rcases e' with z | z
        · rw [z]; exact Nat.le_add_right _ _
        · rw [z]; exact Nat.le_refl _
      exact I1.fpOk hle (I1.hok.fresh hle)
  · subst ex
    cases r1 with
    | cons r rr =>
      cases rr
      cases r
      obtain ⟨its, rv, p', hz⟩ := I1.tuple hq
      have pt : s1.heap.IsTuple a its.toArray := p'
      refine enum_begins1 (begins_tuple a its.toArray) pt fun h' he ho hsz hk => wpAny_pyIter_enum he ?_
      have I2 : L2.Inv X pins σ H1 { s1 with heap := h' } := I1.kept (t' := s1.toks) hk
      refine ⟨s1.heap.objs.size + 1, [s1.heap.objs.size + 1, s1.heap.objs.size], _, _, H1, rfl, I2, turn_enumT a (s1.heap.objs.size + 1) s1.heap.objs.size, ⟨⟨.none, he⟩, ⟨_, ho, rfl, rfl⟩, Nat.succ_ne_self _⟩, fun b hb => ?_, q⟩
      have e' : b = s1.heap.objs.size + 1 ∨ b = s1.heap.objs.size := by simpa using hb
      have hle : s1.heap.objs.size ≤ b := by
        rcases e' with z | z
        · rw [z]; exact Nat.le_add_right _ _
        · rw [z]; exact Nat.le_refl _
      exact I1.fpOk hle (I1.hok.fresh hle)
theorem wk_enumT {a : Addr} {vs : List V} {ds : List D} (h : SqT F.K (hid H M) a vs) (r : RpL F.K F.c (hid H M) vs ds) : Wk F (IteT F.K a) H M (enumD 0 ds) := by
  refine ⟨fun H => SqT F.K H a vs, YPair (fun i => some (.int (i : Nat))) (fun i => vs[i]?), ?_, fun H2 M2 x => (hid_ex H2 M2).sqT (x.sqT h), fun i P σ H2 g s M2 x H' hi ex E y => ?_⟩
  · rw [enumD_len, ← r.length]
    refine ⟨fun i _ hi q => ⟨vs, vs[i], q, by simp [hi]⟩, fun _ q => ⟨vs, q, Nat.le_refl _⟩, fun i H v H' _ q y => ?_⟩
    obtain ⟨T, x, h1, h2, h3, h4⟩ := y
    exact ⟨T, .int (i : Nat), x, h1, h2, h3, rfl, h4 vs q⟩
  · obtain ⟨T, x1, y1, rfl, hT, rfl, e1, e2⟩ := y
    cases e1
    obtain ⟨d, h1, h2⟩ := r.get' e2
    obtain ⟨E2, x2, r2⟩ := new_pair E hT (.int (i : Nat)) (h2.mono ex)
    exact ⟨_, by rw [enumD_get ds 0 i d h1, Nat.zero_add], E2, x2, r2, fun a m => upd_ne fun z => E.ne m (by rw [z]; exact hT)⟩
theorem di_enum (hK : X.K = F.K) (hg : Gl X "enumerate") (hm : X.mg "enumerate" = none) (ha : PEd X F W a f) (hs : isStar a = false) : PId X F W (.Tuple elts kk tpos) (.Call (.Name "enumerate" p) [a] [] pos) (iEnumF f) :=
  PI.imp (pi_enumA hg hm (pa_cons ha.keep pa_nil (star_cons hs)) (by rw [star_cons hs]; rfl)) (by
    rintro σ H Q ⟨P, g, s, M, E, h⟩
    refine rdG.seq (R := RD) (R' := RI) (Q' := Q) E h fun v d H1 g1 s1 M1 E1 x1 r1 h1 => ?_
    obtain ⟨ds, q1, q2⟩ := post_opt (α := D) h1
    rw [hK]
    cases r1 with
    | lst k1 k2 =>
      cases q1
      obtain ⟨nm, k1⟩ := hid_some k1
      exact .inl ⟨_, _, rfl, SqL.of k1, q2 _ H1 M1 E1 (Ex.refl _) (wk_enum k1 nm k2)⟩
    | tup k1 k2 =>
      cases q1
      exact .inr ⟨_, _, rfl, (hid_ex H1 M1).sqT k1, q2 _ H1 M1 E1 (Ex.refl _) (wk_enumT k1 k2)⟩
    | _ => cases q1)
end
end DI
end
section
set_option Elab.async false
set_option linter.all false
set_option maxRecDepth 100000
set_option maxHeartbeats 1000000
/-! DIW: the rules in short, their side conditions found where they stand. -/
namespace DI
open PySem L2
abbrev sCon (d : DI.D) : Ga → Sd → Out Rs := fun g s => .ok (.fz d) g s
section
variable {F : Fx} {W : WX} {X : Cx} {e a b : Expr} {es : List Expr} {f fa fb fl fh : Ga → Sd → Out Rs} {ta tb : Ga → Sd → Out Bool} {pos p p2 apos : Pos} {x : Str} {k : Nat}
theorem w_var (i : Nat) (hN : X.N[i]? = some x := by rfl) (hv : Vis X.env.scope x := by first | exact Or.inl rfl | exact Or.inr (Or.inl rfl) | exact Or.inr (Or.inr rfl)) (hd : (x == ("__debug__" : Str)) = false := by decide) (hcd : (x == ("__classdict__" : Str)) = false := by decide) :
    PEd X F W (.Name x pos) (sVar i) := d_var hN hv hd hcd
theorem w_int {i : Int} {j : Nat} : PEd X F W (.Constant (.int i) j pos) (sCon (.int i)) := d_val pe_int fun _ => .int i
theorem w_bl {i : Bool} {j : Nat} : PEd X F W (.Constant (.bool i) j pos) (sCon (.bl i)) := d_val pe_bl fun _ => .bl i
theorem w_non {j : Nat} : PEd X F W (.Constant .none j pos) (sCon .non) := d_val pe_non fun _ => .non
theorem w_str {i : Str} {j : Nat} : PEd X F W (.Constant (.str i) j pos) (sCon (.str i)) := d_val pe_str fun _ => .str i
/-- a constant of the module: a text -/
theorem w_gstr {i : Str} {u : Value} (hm : X.mg x = some u) (r : RelV (.str i) u) (hg : Gl X x := by rfl) (hd : (x == ("__debug__" : Str)) = false := by decide) : PEd X F W (.Name x pos) (sCon (.str i)) := d_val (pe_glob hg hm r hd) fun _ => .str i
/-- .. a tuple of texts -/
theorem strs_rp {K : PySem.W.Frag} {c : Addr} {H : Hp} : ∀ zs : List Str, RpL K c H (zs.map V.str) (zs.map DI.D.str)
  | [] => .nil
  | z :: zs => .cons (.str z) (strs_rp zs)
theorem w_gtup {zs : List Str} {q : Addr} (hm : X.mg x = some (.ref q)) (ht : ∀ H, SqT F.K H q (zs.map V.str)) (hg : Gl X x := by rfl) (hd : (x == ("__debug__" : Str)) = false := by decide) : PEd X F W (.Name x pos) (sCon (.tup (zs.map DI.D.str))) :=
  d_val (pe_glob (v := .ref q) hg hm rfl hd) fun H => .tup (ht H) (strs_rp zs)
theorem w_add (ha : PEd X F W a fa) (hb : PEd X F W b fb) : PEd X F W (.BinOp a .Add b pos) (sTwo (binF .add) fa fb) := d_bin op_addA two_add ha hb
theorem w_sub (ha : PEd X F W a fa) (hb : PEd X F W b fb) : PEd X F W (.BinOp a .Sub b pos) (sTwo (binF .sub) fa fb) := d_bin op_sub two_sub ha hb
theorem w_mul (ha : PEd X F W a fa) (hb : PEd X F W b fb) : PEd X F W (.BinOp a .Mult b pos) (sTwo (binF .mul) fa fb) := d_bin op_mulA two_mul ha hb
theorem w_fdiv (ha : PEd X F W a fa) (hb : PEd X F W b fb) : PEd X F W (.BinOp a .FloorDiv b pos) (sTwo (binF .fdiv) fa fb) := d_bin op_fdiv two_fdiv ha hb
theorem w_mod (ha : PEd X F W a fa) (hb : PEd X F W b fb) : PEd X F W (.BinOp a .Mod b pos) (sTwo (binF .mod) fa fb) := d_bin op_mod two_mod ha hb
theorem w_pow (ha : PEd X F W a fa) (hb : PEd X F W b fb) : PEd X F W (.BinOp a .Pow b pos) (sTwo (binF .pow) fa fb) := d_bin op_pow two_pow ha hb
theorem w_neg (ha : PEd X F W a fa) : PEd X F W (.UnaryOp .USub a pos) (sOne negF fa) := d_un un_neg one_neg ha
abbrev sCmp (o : Cop) (fa fb : Ga → Sd → Out Rs) : Ga → Sd → Out Rs := sTwo (fun x y => (cmpF o x y).map fun k => .fz (.bl k)) fa fb
theorem w_eq (hr : Room k X.A) (hK : X.K = F.K) (ha : PEd X F W a fa) (hb : PEd X F W b fb) : PEd X F W (.Compare a [.Eq] [b] pos) (sCmp .eq fa fb) := d_cmp (op_eqD hr.units) (by rw [hK]; exact two_eq) (nomark _) ha hb
theorem w_ne (hr : Room k X.A) (hK : X.K = F.K) (ha : PEd X F W a fa) (hb : PEd X F W b fb) : PEd X F W (.Compare a [.NotEq] [b] pos) (sCmp .ne fa fb) := d_cmp (op_neD hr.units) (by rw [hK]; exact two_ne) (nomark _) ha hb
theorem w_lt (ha : PEd X F W a fa) (hb : PEd X F W b fb) : PEd X F W (.Compare a [.Lt] [b] pos) (sCmp .lt fa fb) := d_cmp op_lt two_lt (nomark _) ha hb
theorem w_le (ha : PEd X F W a fa) (hb : PEd X F W b fb) : PEd X F W (.Compare a [.LtE] [b] pos) (sCmp .le fa fb) := d_cmp op_le two_le (nomark _) ha hb
theorem w_gt (ha : PEd X F W a fa) (hb : PEd X F W b fb) : PEd X F W (.Compare a [.Gt] [b] pos) (sCmp .gt fa fb) := d_cmp op_gt two_gt (nomark _) ha hb
theorem w_ge (ha : PEd X F W a fa) (hb : PEd X F W b fb) : PEd X F W (.Compare a [.GtE] [b] pos) (sCmp .ge fa fb) := d_cmp op_ge two_ge (nomark _) ha hb
theorem room65 {A : Around} (hr : Room k A) : A.units + 65 < cLine := by have := hr.un; omega
theorem w_in (hr : Room k X.A) (hK : X.K = F.K) (ha : PEd X F W a fa) (hb : PEd X F W b fb) (hm : behindInMarks .In b = false := by rfl) : PEd X F W (.Compare a [.In] [b] pos) (sCmp .isIn fa fb) := d_cmp (op_inA (room65 hr)) (by rw [hK]; exact two_in) hm ha hb
theorem w_nin (hr : Room k X.A) (hK : X.K = F.K) (ha : PEd X F W a fa) (hb : PEd X F W b fb) (hm : behindInMarks .NotIn b = false := by rfl) : PEd X F W (.Compare a [.NotIn] [b] pos) (sCmp .notIn fa fb) := d_cmp (op_notInA (room65 hr)) (by rw [hK]; exact two_notIn) hm ha hb
theorem w_is (ha : PEd X F W a fa) (hb : PEd X F W b fb) : PEd X F W (.Compare a [.Is] [b] pos) (sCmp .isN fa fb) := d_cmp op_isN two_isN (nomark _) ha hb
theorem w_isnt (ha : PEd X F W a fa) (hb : PEd X F W b fb) : PEd X F W (.Compare a [.IsNot] [b] pos) (sCmp .notN fa fb) := d_cmp op_notN two_notN (nomark _) ha hb
-- tests
theorem t_eq (hr : Room k X.A) (hK : X.K = F.K) (ha : PEd X F W a fa) (hb : PEd X F W b fb) : PTd X F W (.Compare a [.Eq] [b] pos) (tOf (sCmp .eq fa fb)) := dt_cmp (op_eqD hr.units) (by rw [hK]; exact two_eq) (nomark _) ha hb
theorem t_ne (hr : Room k X.A) (hK : X.K = F.K) (ha : PEd X F W a fa) (hb : PEd X F W b fb) : PTd X F W (.Compare a [.NotEq] [b] pos) (tOf (sCmp .ne fa fb)) := dt_cmp (op_neD hr.units) (by rw [hK]; exact two_ne) (nomark _) ha hb
theorem t_lt (ha : PEd X F W a fa) (hb : PEd X F W b fb) : PTd X F W (.Compare a [.Lt] [b] pos) (tOf (sCmp .lt fa fb)) := dt_cmp op_lt two_lt (nomark _) ha hb
theorem t_le (ha : PEd X F W a fa) (hb : PEd X F W b fb) : PTd X F W (.Compare a [.LtE] [b] pos) (tOf (sCmp .le fa fb)) := dt_cmp op_le two_le (nomark _) ha hb
theorem t_gt (ha : PEd X F W a fa) (hb : PEd X F W b fb) : PTd X F W (.Compare a [.Gt] [b] pos) (tOf (sCmp .gt fa fb)) := dt_cmp op_gt two_gt (nomark _) ha hb
theorem t_ge (ha : PEd X F W a fa) (hb : PEd X F W b fb) : PTd X F W (.Compare a [.GtE] [b] pos) (tOf (sCmp .ge fa fb)) := dt_cmp op_ge two_ge (nomark _) ha hb
theorem t_in (hr : Room k X.A) (hK : X.K = F.K) (ha : PEd X F W a fa) (hb : PEd X F W b fb) (hm : behindInMarks .In b = false := by rfl) : PTd X F W (.Compare a [.In] [b] pos) (tOf (sCmp .isIn fa fb)) := dt_cmp (op_inA (room65 hr)) (by rw [hK]; exact two_in) hm ha hb
theorem t_nin (hr : Room k X.A) (hK : X.K = F.K) (ha : PEd X F W a fa) (hb : PEd X F W b fb) (hm : behindInMarks .NotIn b = false := by rfl) : PTd X F W (.Compare a [.NotIn] [b] pos) (tOf (sCmp .notIn fa fb)) := dt_cmp (op_notInA (room65 hr)) (by rw [hK]; exact two_notIn) hm ha hb
theorem t_is (ha : PEd X F W a fa) (hb : PEd X F W b fb) : PTd X F W (.Compare a [.Is] [b] pos) (tOf (sCmp .isN fa fb)) := dt_cmp op_isN two_isN (nomark _) ha hb
theorem t_isnt (ha : PEd X F W a fa) (hb : PEd X F W b fb) : PTd X F W (.Compare a [.IsNot] [b] pos) (tOf (sCmp .notN fa fb)) := dt_cmp op_notN two_notN (nomark _) ha hb
theorem t_val (h : PEd X F W e f) (he : ∀ whole, isTrue e X.env whole = (do let v ← whole; standAt e.pos; holding [v] (truthy v)) := by intro _; rfl) : PTd X F W e (tOf f) := dt_val h he
theorem w_ix (hK : X.K = F.K) (ha : PEd X F W a fa) (hb : PEd X F W b fb) (hs : PlainIx b := by intro _ _; rfl) : PEd X F W (.Subscript a b pos) (sTwo (fun x y => (subF x y).map .fz) fa fb) := d_ix (ix_seq) (by rw [hK]; exact two_ix) hs ha hb
-- arguments
theorem a_cons {fr : Ga → Sd → Out (List DI.D)} (ha : PEd X F W e f) (hr : PAd X F W es fr) (hs : isStar e = false := by rfl) : PAd X F W (e :: es) (aCons f fr) := da_cons ha hr hs
theorem l_cons {fr : Ga → Sd → Out (List Rs)} (ha : PEd X F W e f) (hr : PLd X F W es fr) (hs : isStar e = false := by rfl) : PLd X F W (e :: es) (lCons f fr) := dl_cons ha hr hs
theorem p_cons {fr : Ga → Sd → Out (List Rs)} (ha : PEd X F W e f) (hr : PPd X F W es fr) (hs : isStar e = false := by rfl) : PPd X F W (e :: es) (pCons f fr) := dp_cons ha hr hs
abbrev aNil : Ga → Sd → Out (List DI.D) := fun g s => .ok [] g s
abbrev lNil : Ga → Sd → Out (List Rs) := fun g s => .ok [] g s
abbrev oNone : Ga → Sd → Out (Option Int) := fun g s => .ok none g s
theorem w_slc {lo hi : Option Expr} {fl fh : Ga → Sd → Out (Option Int)} (hK : X.K = F.K) (ha : PEd X F W a fa) (hl : POd X F W lo fl) (hh : POd X F W hi fh) : PEd X F W (.Subscript a (.Slice lo hi none p2) pos) (sSlc fa fl fh) := d_slc ha hl hh hK
-- built-ins
theorem w_len (hK : X.K = F.K) (hm : X.mg "len" = none) (ha : PEd X F W a fa) (hg : Gl X "len" := by rfl) (hs : isStar a = false := by rfl) : PEd X F W (.Call (.Name "len" p) [a] [] pos) (sBi (biF .len) (lCons fa lNil)) :=
  d_bi (CallR.or call_len_seq call_len_str) (many_len hK) hg hm PySem.boot_len (dl_cons ha dl_nil hs) (by decide) (by decide) hs rfl
theorem w_list (hK : X.K = F.K) (hm : X.mg "list" = none) (ha : PEd X F W a fa) (hg : Gl X "list" := by rfl) (hs : isStar a = false := by rfl) (hc : X.calm = true := by rfl) : PEd X F W (.Call (.Name "list" p) [a] [] pos) (sBi (biF .list) (lCons fa lNil)) :=
  d_biT (cr_list hc) (many_list hK) hg hm PyProof.Rows.boot_list (dl_cons ha dl_nil hs) (by decide) (by decide) hs rfl
theorem w_tuple (hK : X.K = F.K) (hm : X.mg "tuple" = none) (ha : PEd X F W a fa) (hg : Gl X "tuple" := by rfl) (hs : isStar a = false := by rfl) : PEd X F W (.Call (.Name "tuple" p) [a] [] pos) (sBi (biF .tuple) (lCons fa lNil)) :=
  d_biT call_tuple_of (many_tuple hK) hg hm PyProof.Rows.boot_tuple (dl_cons ha dl_nil hs) (by decide) (by decide) hs rfl
theorem w_all (hc : X.calm = true) (hm : X.mg "all" = none) (ha : PEd X F W a fa) (hg : Gl X "all" := by rfl) (hs : isStar a = false := by rfl) : PEd X F W (.Call (.Name "all" p) [a] [] pos) (sBi (biF .all) (lCons fa lNil)) :=
  d_bi (cr_all hc) many_all hg hm PyProof.Rows.boot_all (dl_cons ha dl_nil hs) (by decide) (by decide) hs rfl
theorem w_any (hc : X.calm = true) (hm : X.mg "any" = none) (ha : PEd X F W a fa) (hg : Gl X "any" := by rfl) (hs : isStar a = false := by rfl) : PEd X F W (.Call (.Name "any" p) [a] [] pos) (sBi (biF .any) (lCons fa lNil)) :=
  d_bi (cr_any hc) many_any hg hm PyProof.Rows.boot_any (dl_cons ha dl_nil hs) (by decide) (by decide) hs rfl
theorem w_isi (t : Ty) (hK : X.K = F.K) (hm : X.mg "isinstance" = none) (ha : PEd X F W a fa) (h1 : PE X b (tC (.ty t.nm))) (hg : Gl X "isinstance" := by rfl) (hs : isStar a = false := by rfl) (hs2 : isStar b = false := by rfl) :
    PEd X F W (.Call (.Name "isinstance" p) [a, b] [] pos) (sOne (isiF [t]) fa) := d_isi1 (p2 := p) hK hg hm PyProof.Rows.boot_isinstance ha hs h1 hs2
theorem w_isiT {bs : List Expr} {kk : Nat} (tys : List Ty) (hK : X.K = F.K) (hm : X.mg "isinstance" = none) (ha : PEd X F W a fa) (h1 : PA X bs fun σ H Q => Q (tys.map fun t => V.ty t.nm) H) (hg : Gl X "isinstance" := by rfl) (hs : isStar a = false := by rfl) (hl : tys.length ≤ 1000 := by decide) :
    PEd X F W (.Call (.Name "isinstance" p) [a, .Tuple bs kk p2] [] pos) (sOne (isiF tys) fa) := d_isiT hK hg hm PyProof.Rows.boot_isinstance ha hs h1 hl
theorem ty_e (t : Ty) (hm : X.mg x = none) (hv : bootBuiltins x = some (.type t.nm)) (hg : Gl X x := by rfl) (hn : x ≠ "__name__" := by decide) (hd : (x == ("__debug__" : Str)) = false := by decide) : PE X (.Name x pos) (tC (.ty t.nm)) := pe_bltn hg hm hv rfl hn hd
theorem tys_nil : PA X [] fun σ H Q => Q (([] : List Ty).map fun t => V.ty t.nm) H := PA.imp pa_nil fun _ _ _ h => h
theorem tys_cons {t : Ty} {tys : List Ty} (h : PE X e (tC (.ty t.nm))) (hr : PA X es fun σ H Q => Q (tys.map fun t => V.ty t.nm) H) (hs : isStar e = false := by rfl) : PA X (e :: es) fun σ H Q => Q ((t :: tys).map fun t => V.ty t.nm) H :=
  PA.imp (pa_cons h hr (star_cons hs)) fun _ _ _ h => h
-- calls
theorem w_call {n j : Nat} {ψ : List DI.D → Sd → FOut} {fs : Ga → Sd → Out (List DI.D)} {ff : Addr} {fd : FuncData} {ps : List Str} (Fn : FnOk X.prog X.w X.K X.mg X.base (L2.CX X.prog X.w) k ff fd ps (spF F n ψ)) (hψ : ∀ ds s, ds.length ≠ n → ψ ds s = .bad) (hr : Room j X.A) (hm : X.mg x = some (.ref ff))
    (hk : PySem.W.keepIn X.K (.ref ff) = true) (hb : Binds X.K fd ps []) (tk : Takes X W) (ha : PAd X F W (e :: es) fs) (hj : k ≤ j := by decide) (hg : Gl X x := by rfl) (hdb : (x == ("__debug__" : Str)) = false := by decide) (h1 : isStar e = false := by rfl) (h2 : noStar es = true := by rfl) :
    PEd X F W (.Call (.Name x p) (e :: es) [] pos) (sCall (callG ψ) fs) := d_call Fn hψ (hr.mono hj) hg hm hk hb tk ha hdb h1 h2
-- methods of own lists
abbrev sMth0 (m : Mt) (i : Nat) : Ga → Sd → Out Rs := sMth m i aNil
theorem w_append (i : Nat) {fs : Ga → Sd → Out (List DI.D)} (ha : PAd X F W (e :: es) fs) (hN : X.N[i]? = some x := by rfl) (hv : Vis X.env.scope x := by first | exact Or.inl rfl | exact Or.inr (Or.inl rfl) | exact Or.inr (Or.inr rfl)) (hd : (x == ("__debug__" : Str)) = false := by decide) (hcd : (x == ("__classdict__" : Str)) = false := by decide) (hline : (apos.endLine == pos.line) = true := by rfl)
    (hfew : ((backTo pos (starEach (e :: es) X.env)).all (fun x => !x.1) && (backToKw pos (keywordEach [] X.env)).all (fun x => x.1.isSome) && decide ((e :: es).length + ([] : List Keyword).length + (if ([] : List Keyword).isEmpty then 0 else 1) < 30)) = true := by rfl) (h1 : isStar e = false := by rfl) (h2 : noStar es = true := by rfl) :
    PEd X F W (.Call (.Attribute (.Name x p) "append" apos) (e :: es) [] pos) (sMth .append i fs) := d_mth mth_append PySem.F.slot_list_append PySem.F.type_list_append mt_append hN hv hd hcd ha hline hfew h1 h2
theorem w_extend (i : Nat) {fs : Ga → Sd → Out (List DI.D)} (ha : PAd X F W (e :: es) fs) (hN : X.N[i]? = some x := by rfl) (hv : Vis X.env.scope x := by first | exact Or.inl rfl | exact Or.inr (Or.inl rfl) | exact Or.inr (Or.inr rfl)) (hd : (x == ("__debug__" : Str)) = false := by decide) (hcd : (x == ("__classdict__" : Str)) = false := by decide) (hline : (apos.endLine == pos.line) = true := by rfl)
    (hfew : ((backTo pos (starEach (e :: es) X.env)).all (fun x => !x.1) && (backToKw pos (keywordEach [] X.env)).all (fun x => x.1.isSome) && decide ((e :: es).length + ([] : List Keyword).length + (if ([] : List Keyword).isEmpty then 0 else 1) < 30)) = true := by rfl) (h1 : isStar e = false := by rfl) (h2 : noStar es = true := by rfl) :
    PEd X F W (.Call (.Attribute (.Name x p) "extend" apos) (e :: es) [] pos) (sMth .extend i fs) := d_mth mth_extend PySem.F.slot_list_extend PySem.F.type_list_extend mt_extend hN hv hd hcd ha hline hfew h1 h2
theorem w_popAt (i : Nat) {fs : Ga → Sd → Out (List DI.D)} (ha : PAd X F W (e :: es) fs) (hN : X.N[i]? = some x := by rfl) (hv : Vis X.env.scope x := by first | exact Or.inl rfl | exact Or.inr (Or.inl rfl) | exact Or.inr (Or.inr rfl)) (hd : (x == ("__debug__" : Str)) = false := by decide) (hcd : (x == ("__classdict__" : Str)) = false := by decide) (hline : (apos.endLine == pos.line) = true := by rfl)
    (hfew : ((backTo pos (starEach (e :: es) X.env)).all (fun x => !x.1) && (backToKw pos (keywordEach [] X.env)).all (fun x => x.1.isSome) && decide ((e :: es).length + ([] : List Keyword).length + (if ([] : List Keyword).isEmpty then 0 else 1) < 30)) = true := by rfl) (h1 : isStar e = false := by rfl) (h2 : noStar es = true := by rfl) :
    PEd X F W (.Call (.Attribute (.Name x p) "pop" apos) (e :: es) [] pos) (sMth .popAt i fs) := d_mth mth_popAt PySem.F.slot_list_pop PySem.F.type_list_pop mt_popAt hN hv hd hcd ha hline hfew h1 h2
theorem w_pop (i : Nat) (hN : X.N[i]? = some x := by rfl) (hv : Vis X.env.scope x := by first | exact Or.inl rfl | exact Or.inr (Or.inl rfl) | exact Or.inr (Or.inr rfl)) (hd : (x == ("__debug__" : Str)) = false := by decide) (hcd : (x == ("__classdict__" : Str)) = false := by decide) (hline : (apos.endLine == pos.line) = true := by rfl) :
    PEd X F W (.Call (.Attribute (.Name x p) "pop" apos) [] [] pos) (sMth0 .pop i) := d_mth0 mth_pop PySem.F.slot_list_pop PySem.F.type_list_pop mt_pop hN hv hd hcd hline
theorem w_insert (i : Nat) {fs : Ga → Sd → Out (List DI.D)} (ha : PAd X F W (e :: es) fs) (hN : X.N[i]? = some x := by rfl) (hv : Vis X.env.scope x := by first | exact Or.inl rfl | exact Or.inr (Or.inl rfl) | exact Or.inr (Or.inr rfl)) (hd : (x == ("__debug__" : Str)) = false := by decide) (hcd : (x == ("__classdict__" : Str)) = false := by decide) (hline : (apos.endLine == pos.line) = true := by rfl)
    (hfew : ((backTo pos (starEach (e :: es) X.env)).all (fun x => !x.1) && (backToKw pos (keywordEach [] X.env)).all (fun x => x.1.isSome) && decide ((e :: es).length + ([] : List Keyword).length + (if ([] : List Keyword).isEmpty then 0 else 1) < 30)) = true := by rfl) (h1 : isStar e = false := by rfl) (h2 : noStar es = true := by rfl) :
    PEd X F W (.Call (.Attribute (.Name x p) "insert" apos) (e :: es) [] pos) (sMth .insert i fs) := d_mth mth_insert PySem.F.slot_list_insert PySem.F.type_list_insert mt_insert hN hv hd hcd ha hline hfew h1 h2
-- statements
variable {u v : Ga → Sd → Out Flow}
theorem x_set (i : Nat) (hN : X.N.Nodup) (h : PEd X F W e f) (hi : X.N[i]? = some x := by rfl) (hx : Loc X.env.scope x := by first | exact Or.inl rfl | exact Or.inr rfl) (hs : swapsWith e (some (.Name x p)) pos.line X.env = pure false := by rfl) (hf : X.fn x = true ∨ X.env.scope.names.lookup x = some .local := by first | exact .inl rfl | exact .inr rfl) :
    PSd X F W (.Assign [.Name x p] e pos) (sAsg (.nm i) f) := ds_set hN hi hx h hs hf
theorem x_exp (h : PEd X F W e f) (hs : swapsWith e none pos.line X.env = pure false := by rfl) : PSd X F W (.Expr e pos) (sExp f) := ds_exp h hs
theorem x_for {it tg : Expr} {body : List Stmt} {gt : TG} {t : Tg} {fi : Ga → Sd → Out (List DI.D)} (hp : PassesOwn (model X.prog X.w) X.A X.env X.xe) (hc : X.calm = true) (hi : PId X F W tg it fi) (hg : PG X tg gt) (ht : TgR F gt t) (hb : PSsd X F W body u)
    (hs : ∀ x, foldedSetIterable it X.env x = pure x := by intro _; rfl) : PSd X F W (.For tg it body [] pos) (sFor t fi u) := ds_for hp hc hi hg ht hb hs
theorem x_while (n : Nat) {c : Expr} {body : List Stmt} (hp : PassesOwn (model X.prog X.w) X.A X.env X.xe) (hc : PTd X F W c ta) (hb : PSsd X F W body u) : PSd X F W (.While c body [] pos) (whlL ta u n) := ds_while hp hc hb
theorem x_asg {elts : List Expr} {kk : Nat} {tpos : Pos} {gt : TG} {t1 t2 : Tg} (h : PEd X F W e f) (hg : PG X (.Tuple elts kk tpos) gt) (ht : TgR F gt (.cons t1 t2)) (hs : swapsWithSole [.Tuple elts kk tpos] e pos.line X.env = pure false := by rfl) (hw : swappedStores [.Tuple elts kk tpos] e X.env = pure none := by rfl) :
    PSd X F W (.Assign [.Tuple elts kk tpos] e pos) (sAsg (.cons t1 t2) f) := ds_asg rfl h hg ht hs hw
theorem x_sto (i : Nat) (ha : PEd X F W a fa) (hb : PEd X F W b fb) (hN : X.N[i]? = some x := by rfl) (hv : Vis X.env.scope x := by first | exact Or.inl rfl | exact Or.inr (Or.inl rfl) | exact Or.inr (Or.inr rfl)) (hd : (x == ("__debug__" : Str)) = false := by decide) (hcd : (x == ("__classdict__" : Str)) = false := by decide)
    (hs : swapsWithSole [.Subscript (.Name x p) b p2] a pos.line X.env = pure false := by rfl) (hw : swappedStores [.Subscript (.Name x p) b p2] a X.env = pure none := by rfl)
    (hg : ∀ v, assign (.Subscript (.Name x p) b p2) X.env v = (do
      let ov ← holding [v] (eval (.Name x p) X.env)
      let iv ← holding [v, ov] (eval b X.env)
      standAt p2
      holding [v, ov, iv] (setItem ov iv v)
      release [v, ov, iv] []) := by intro _; rfl) : PSd X F W (.Assign [.Subscript (.Name x p) b p2] a pos) (sSto i fb fa) := ds_sto hN hv hd hcd ha hb hs hw hg
theorem w_lc {elt tg it : Expr} {ifs : List Expr} {scope : Scope} (own : List (Str × Nat)) {gt : TG} {t : Tg} {fi : Ga → Sd → Out (List DI.D)} {fc : Ga → Sd → Out Bool} {fe : Ga → Sd → Out Rs} (hc : X.calm = true) (hN : X.N.Nodup) (hi : PId X F W tg it fi)
    (ok : BlkOk X.N X.env.scope scope own) (hg : ∀ (s : Shared) (H : Hp) (C : Addr) (cl : List (Str × Addr)) (fp : List Addr), PG (X.blk s H scope (compEnvC scope cl C X.env) fp) tg gt) (ht : TgR F gt t) (hsub : ∀ j ∈ t.slots, j ∈ own.map (·.2))
    (hf : ∀ (s : Shared) (H : Hp) (C : Addr) (cl : List (Str × Addr)) (fp : List Addr), PTsd (X.blk s H scope (compEnvC scope cl C X.env) fp) F W0 ifs fc)
    (he : ∀ (s : Shared) (H : Hp) (C : Addr) (cl : List (Str × Addr)) (fp : List Addr), PEd (X.blk s H scope (compEnvC scope cl C X.env) fp) F W0 elt fe) (hs : ∀ x, foldedSetIterable it X.env x = pure x := by intro _; rfl) :
    PEd X F W (.ListComp elt [⟨tg, it, ifs, 0⟩] scope pos) (sLc (own.map (·.2)) fi t fc fe) := d_lc hc hN hi ok hg ht hsub hf he hs
theorem x_setLc (i : Nat) {y : Str} {py spos : Pos} {elt tg it : Expr} {ifs : List Expr} {scope : Scope} (own : List (Str × Nat)) {gt : TG} {t : Tg} {fi : Ga → Sd → Out (List DI.D)} {fc : Ga → Sd → Out Bool} {fe : Ga → Sd → Out Rs} (hc : X.calm = true) (hN : X.N.Nodup) (hi : PId X F W tg it fi)
    (ok : BlkOk X.N X.env.scope scope own) (hg : ∀ (s : Shared) (H : Hp) (C : Addr) (cl : List (Str × Addr)) (fp : List Addr), PG (X.blk s H scope (compEnvC scope cl C X.env) fp) tg gt) (ht : TgR F gt t) (hsub : ∀ j ∈ t.slots, j ∈ own.map (·.2))
    (hf : ∀ (s : Shared) (H : Hp) (C : Addr) (cl : List (Str × Addr)) (fp : List Addr), PTsd (X.blk s H scope (compEnvC scope cl C X.env) fp) F W0 ifs fc)
    (he : ∀ (s : Shared) (H : Hp) (C : Addr) (cl : List (Str × Addr)) (fp : List Addr), PEd (X.blk s H scope (compEnvC scope cl C X.env) fp) F W0 elt fe)
    (hsw : swapsWith (.ListComp elt [⟨tg, it, ifs, 0⟩] scope pos) (some (.Name y py)) spos.line X.env = pure true) (hy : X.N[i]? = some y := by rfl) (hyl : X.env.scope.names.lookup y = some .local := by rfl) (hs : ∀ x, foldedSetIterable it X.env x = pure x := by intro _; rfl) :
    PSd X F W (.Assign [.Name y py] (.ListComp elt [⟨tg, it, ifs, 0⟩] scope pos) spos) (sAsg (.nm i) (sLc (own.map (·.2)) fi t fc fe)) := ds_setLc hc hN hy hyl hsw hi ok hg ht hsub hf he hs
end
end DI
end
section
set_option Elab.async false
set_option linter.all false
set_option maxRecDepth 100000
set_option maxHeartbeats 1000000
/-! DIDrawF: what the spring of draws does, in plain Lean. -/
namespace DI
open PySem L2
/-- cells are eaten till one is great -/
def eat : List Int → Int → Int → List Int × Int × Int
  | [], b, m => ([], b, m)
  | x :: xs, b, m => if b = 0 then eat xs (if x ≥ 1000000000000000000 then x else 0) ((m * 65599 + x + 7) % 2147483647) else (x :: xs, b, m)
def Sd.Ok (s : Sd) : Prop := 0 ≤ s.big ∧ 0 ≤ s.mix ∧ s.mix < 2147483647 ∧ 0 ≤ s.cnt
instance (s : Sd) : Decidable s.Ok := inferInstanceAs (Decidable (_ ∧ _))
def mixF (mix cnt : Int) : Int := (((mix + 6151 * cnt + 130003) ^ 5) % 2147483629 * 69621 + 40009 * cnt + 31) ^ 3 % 1000000007
def drawF (s : Sd) (many : Int) : Int × Sd :=
  let e := eat s.cells s.big s.mix
  if 0 < e.2.1 then (e.2.1 % many, ⟨e.1, e.2.1 / many, s.cnt + 1, e.2.2⟩)
  else (mixF e.2.2 (s.cnt + 1) % many, ⟨e.1, e.2.1, s.cnt + 1, e.2.2⟩)
def drawOk (s : Sd) (many : Int) : Prop := s.Ok ∧ 0 < many ∧ many < 1073741824 ∧ s.cnt < 1099511627776
instance (s : Sd) (many : Int) : Decidable (drawOk s many) := inferInstanceAs (Decidable (_ ∧ _))
def ψDraw : List DI.D → Sd → FOut
  | [.strm, .int many], s => if drawOk s many then .ok (.int (drawF s many).1) false (drawF s many).2 else .bad
  | _, _ => .bad
theorem ψDraw_bad : ∀ ds s, ds.length ≠ 2 → ψDraw ds s = .bad := by
  intro ds s h
  rcases ds with _ | ⟨a, _ | ⟨b, _ | ⟨c, r⟩⟩⟩
  · rfl
  · cases a <;> rfl
  · exact absurd rfl h
  · cases a <;> cases b <;> rfl
theorem eat_big : ∀ (xs : List Int) (b m : Int), 0 ≤ b → 0 ≤ (eat xs b m).2.1
  | [], b, m, h => h
  | x :: xs, b, m, h => by
    unfold eat
    split
    · refine eat_big xs _ _ ?_
      split <;> omega
    · exact h
theorem eat_mix : ∀ (xs : List Int) (b m : Int), 0 ≤ m → m < 2147483647 → 0 ≤ (eat xs b m).2.2 ∧ (eat xs b m).2.2 < 2147483647
  | [], b, m, h, h2 => ⟨h, h2⟩
  | x :: xs, b, m, h, h2 => by
    unfold eat
    split
    · exact eat_mix xs _ _ (Int.emod_nonneg _ (by decide)) (Int.emod_lt_of_pos _ (by decide))
    · exact ⟨h, h2⟩
theorem drawF_ok {s : Sd} {many : Int} (h : drawOk s many) : 0 ≤ (drawF s many).1 ∧ (drawF s many).1 < many ∧ (drawF s many).2.Ok ∧ (drawF s many).2.cnt = s.cnt + 1 := by
  obtain ⟨⟨h1, h2, h3, h4⟩, h5, h6, h7⟩ := h
  have b := eat_big s.cells s.big s.mix h1
  have m := eat_mix s.cells s.big s.mix h2 h3
  unfold drawF
  dsimp only
  split
  · refine ⟨Int.emod_nonneg _ (by omega), Int.emod_lt_of_pos _ h5, ⟨Int.ediv_nonneg b (by omega), m.1, m.2, by show 0 ≤ s.cnt + 1; omega⟩, rfl⟩
  · exact ⟨Int.emod_nonneg _ (by omega), Int.emod_lt_of_pos _ h5, ⟨b, m.1, m.2, by show 0 ≤ s.cnt + 1; omega⟩, rfl⟩
end DI
end
section
set_option Elab.async false
set_option linter.all false
set_option maxRecDepth 100000
set_option maxHeartbeats 1000000
/-! DIMore: three names at once, what is never reached. -/
namespace DI
open PySem L2
section
variable {F : Fx} {W : WX} {X : Cx} {e a b c : Expr} {st : Stmt} {sts : List Stmt} {pos : Pos} {f fa fb : Ga → Sd → Out Rs}
/-- what is never reached need not be covered -/
theorem d_bad : PEd X F W e (fun _ _ => .bad) := ⟨fun _ _ _ _ _ _ ⟨_, _, _, _, _, h⟩ => h.elim⟩
theorem ds_bad : PSd X F W st (fun _ _ => .bad) := ⟨fun _ _ _ _ _ _ ⟨_, _, _, _, _, h⟩ => h.elim⟩
theorem dss_bad : PSsd X F W sts (fun _ _ => .bad) := ⟨fun _ _ _ _ _ _ ⟨_, _, _, _, _, h⟩ => h.elim⟩
theorem set3 {i j l : Nat} {σ σ' : St} {u v w : V} (hij : i ≠ j) (hil : i ≠ l) (hjl : j ≠ l) (hlen : σ'.length = σ.length) (h1 : ∀ m, m ∉ [i, j, l] → σ'[m]? = σ[m]?) (a1 : σ'[i]? = some (some u)) (a2 : σ'[j]? = some (some v)) (a3 : σ'[l]? = some (some w)) :
    σ' = ((σ.set i (some u)).set j (some v)).set l (some w) := by
  refine List.ext_getElem? fun m => ?_
  have lt : ∀ {k x}, σ'[k]? = some x → k < σ.length := fun {k x} e => by rw [← hlen]; exact (List.getElem?_eq_some_iff.mp e).1
  by_cases e1 : m = l
  · subst e1
    rw [a3, List.getElem?_set_self (by simp only [List.length_set]; exact lt a3)]
  · rw [get_set_ne e1]
    by_cases e2 : m = j
    · subst e2
      rw [a2, List.getElem?_set_self (by simp only [List.length_set]; exact lt a2)]
    · rw [get_set_ne e2]
      by_cases e3 : m = i
      · subst e3
        rw [a1, List.getElem?_set_self (lt a1)]
      · rw [get_set_ne e3]
        exact h1 m (by simp [e1, e2, e3])
theorem ds_par3 {i j l : Nat} {x y z : Str} {fs : Ga → Sd → Out (List Rs)} {px py pz pt : Pos} {kt k2 : Nat} {pt2 : Pos} (hc : X.calm = true) (hN : X.N.Nodup) (hi : X.N[i]? = some x) (hj : X.N[j]? = some y) (hl : X.N[l]? = some z) (hij : i ≠ j) (hil : i ≠ l) (hjl : j ≠ l)
    (hx : X.env.scope.names.lookup x = some .local) (hy : X.env.scope.names.lookup y = some .local) (hz : X.env.scope.names.lookup z = some .local) (ha : PPd X F W [a, b, c] fs)
    (hw : swappedStores [.Tuple [.Name x px, .Name y py, .Name z pz] kt pt] (.Tuple [a, b, c] k2 pt2) X.env = pure (some [x, y, z]))
    (hs : swapsWithSole [.Tuple [.Name x px, .Name y py, .Name z pz] kt pt] (.Tuple [a, b, c] k2 pt2) pos.line X.env = pure false) :
    PSd X F W (.Assign [.Tuple [.Name x px, .Name y py, .Name z pz] kt pt] (.Tuple [a, b, c] k2 pt2) pos) (sPar [i, j, l] fs) :=
  PS.imp (ps_par3 hc hN hi hj hl hij hil hjl hx hy hz ha hw hs) fun D σ H q => by
    have nd : ([i, j, l] : List Nat).Nodup := by simp [hij, hil, hjl]
    have z := par_end (F := F) (W := W) (D := D) nd (fun vs σ => match vs with | [u, v, w] => ((σ.set i (some u)).set j (some v)).set l (some w) | _ => σ) (fun vs σ σ' hl h1 h2 h3 => ?_) σ H q
    · obtain ⟨P, g, s, M, E, h⟩ := z
      refine ⟨P, g, s, M, E, ?_⟩
      cases o : fs g s with
      | bad => rw [o] at h; exact h
      | ex c d g1 s1 => rw [o] at h; exact h
      | ok rs g1 s1 =>
        rw [o] at h
        intro vs H1 M1 E1 x1 r1
        obtain ⟨hl, k⟩ := h vs H1 M1 E1 x1 r1
        rcases vs with _ | ⟨v, _ | ⟨w, _ | ⟨u, _ | ⟨u2, r⟩⟩⟩⟩
        · cases hl
        · cases hl
        · cases hl
        · exact ⟨v, w, u, rfl, k⟩
        · cases hl
    · rcases vs with _ | ⟨v, _ | ⟨w, _ | ⟨u, _ | ⟨u2, r⟩⟩⟩⟩
      · cases hl
      · cases hl
      · cases hl
      · exact set3 hij hil hjl h1 h2 (h3 0 i v rfl rfl) (h3 1 j w rfl rfl) (h3 2 l u rfl rfl)
      · cases hl
theorem x_par2 (i j : Nat) {x y : Str} {fs : Ga → Sd → Out (List Rs)} {px py pt : Pos} {kt k2 : Nat} {pt2 : Pos} (hN : X.N.Nodup) (ha : PPd X F W [a, b] fs) (hc : X.calm = true := by rfl) (hi : X.N[i]? = some x := by rfl) (hj : X.N[j]? = some y := by rfl) (hij : i ≠ j := by decide)
    (hx : X.env.scope.names.lookup x = some .local := by rfl) (hy : X.env.scope.names.lookup y = some .local := by rfl)
    (hw : swappedStores [.Tuple [.Name x px, .Name y py] kt pt] (.Tuple [a, b] k2 pt2) X.env = pure (some [x, y]) := by rfl)
    (hs : swapsWithSole [.Tuple [.Name x px, .Name y py] kt pt] (.Tuple [a, b] k2 pt2) pos.line X.env = pure false := by rfl) :
    PSd X F W (.Assign [.Tuple [.Name x px, .Name y py] kt pt] (.Tuple [a, b] k2 pt2) pos) (sPar [i, j] fs) := ds_par2 hc hN hi hj hij hx hy ha hw hs
theorem x_par3 (i j l : Nat) {x y z : Str} {fs : Ga → Sd → Out (List Rs)} {px py pz pt : Pos} {kt k2 : Nat} {pt2 : Pos} (hN : X.N.Nodup) (ha : PPd X F W [a, b, c] fs) (hc : X.calm = true := by rfl) (hi : X.N[i]? = some x := by rfl) (hj : X.N[j]? = some y := by rfl) (hl : X.N[l]? = some z := by rfl) (hij : i ≠ j := by decide) (hil : i ≠ l := by decide) (hjl : j ≠ l := by decide)
    (hx : X.env.scope.names.lookup x = some .local := by rfl) (hy : X.env.scope.names.lookup y = some .local := by rfl) (hz : X.env.scope.names.lookup z = some .local := by rfl)
    (hw : swappedStores [.Tuple [.Name x px, .Name y py, .Name z pz] kt pt] (.Tuple [a, b, c] k2 pt2) X.env = pure (some [x, y, z]) := by rfl)
    (hs : swapsWithSole [.Tuple [.Name x px, .Name y py, .Name z pz] kt pt] (.Tuple [a, b, c] k2 pt2) pos.line X.env = pure false := by rfl) :
    PSd X F W (.Assign [.Tuple [.Name x px, .Name y py, .Name z pz] kt pt] (.Tuple [a, b, c] k2 pt2) pos) (sPar [i, j, l] fs) := ds_par3 hc hN hi hj hl hij hil hjl hx hy hz ha hw hs
/-- values in another order -/
theorem permL_vals {vs : List V} {us : List Value} (r : Vals vs us) : ∀ pm : List Nat, Vals (permL pm vs) (permL pm us)
  | [] => .nil
  | i :: pm => by
    unfold permL
    rw [List.filterMap_cons, List.filterMap_cons]
    cases q : vs[i]? with
    | none =>
      have : us[i]? = none := by rw [List.getElem?_eq_none_iff] at q ⊢; rw [← r.length]; exact q
      rw [this]
      exact permL_vals r pm
    | some v =>
      obtain ⟨u, h1, h2⟩ := r.get q
      rw [h1]
      exact .cons h2 (permL_vals r pm)
theorem kG_rel {pm : List Nat} {vs : List V} {us : List Value} {zs : List V} {ws : List Value} (r : Vals vs us) (rz : Vals zs ws) : Vals (kG pm vs zs) (kG pm us ws) := by
  cases r with
  | nil => exact permL_vals rz pm
  | cons h t => exact .nil
end
section
variable {P : Program} {w : World} {K : PySem.W.Frag} {mg : Str → Option Value} {base : Heap} {N : List Str} {qual : Str} {sc : Scope} {f : Addr} {cdv : Value} {A : Around} {outer : List PySem.Env} {s : Shared} {H : Hp} {E : XK}
theorem tk_def : Takes (cxOf (L2.CX P w) P w K mg base N qual sc f cdv A outer s H E) (fun c d _ H => E c d H) := takes_of rfl rfl rfl rfl
theorem hp_def : PassesOwn (model P w) (A.deeper (PyProof.Rows.envOfC qual sc s.heap.objs.size f cdv)) (PyProof.Rows.envOfC qual sc s.heap.objs.size f cdv) (cxOf (L2.CX P w) P w K mg base N qual sc f cdv A outer s H E).xe := passes_of rfl
end
end DI
end
section
set_option Elab.async false
set_option linter.all false
set_option maxRecDepth 100000
set_option maxHeartbeats 1000000
/-! DISum: sum(lists, start), start a list. -/
namespace DI
open PySem L2
theorem args_sum2 (a b : Value) : argsOk "sum" ⟨[a, b], []⟩ := by unfold argsOk; kernel_rfl
theorem sub_list_str : isSubtype (.type "list") (.type "str") = pure false := by rw [isSubtype_type]; kernel_rfl
theorem sub_list_bytes : isSubtype (.type "list") (.type "bytes") = pure false := by rw [isSubtype_type]; kernel_rfl
theorem sub_list_bytearray : isSubtype (.type "list") (.type "bytearray") = pure false := by rw [isSubtype_type]; kernel_rfl
section
variable {X : Cx} {pins : List (Addr × Obj)} {σ : L2.St} {R : Result → Shared → Prop}
theorem Ex.sqL {K : PySem.W.Frag} {G H : Hp} (x : ∀ b o, G b = some o → H b = some o) {a : Addr} {xs : List V} (h : SqL K G a xs) : SqL K H a xs := by
  rcases h with (h | ⟨o, h⟩) | h
  · exact .inl (.inl (x _ _ h))
  · exact .inl (.inr ⟨o, x _ _ h⟩)
  · exact .inr h
theorem FpOk.other {H : Hp} {b T : Addr} {o : HO} (h : FpOk X pins H b) (n : b ≠ T) : FpOk X pins (upd H T o) b := ⟨by rw [upd_ne n]; exact h.1, h.2⟩
theorem sum_loop {G : Hp} {b0 : Addr} {a it S : Addr} {ls : List Addr} {yss : List (List V)} {zs : List V} (hh : X.A.handled = none) (hSit : S ≠ it) (hall : (zs ++ yss.flatten).length ≤ sizeLine) (hlen : ls.length = yss.length) :
    ∀ (k i : Nat) (s : Shared) (H : Hp) (tot : Addr) (c : Nat), ls.length - i = k → i ≤ ls.length → Inv X pins σ H s → SqL X.K H a (ls.map V.ref) → s.heap.IsListIter it a i → FpOk X pins H it → FpOk X pins H S →
      s.heap.get? S = some { cls := .type "list", dict := none, data := .seq #[.ref tot] c, slots := #[] } → H tot = some (.lst (zs ++ (yss.take i).flatten)) → (∀ b o, G b = some o → H b = some o) → (tot = b0 ∨ G tot = none) →
      (∀ (j : Nat) (l : Addr) (ys : List V), ls[j]? = some l → yss[j]? = some ys → H l = some (.lst ys)) →
      (∀ H' s' p, Inv X pins σ H' s' → (∀ b o, H b = some o → H' b = some o) → H' p = some (.lst (zs ++ yss.flatten)) → (p = b0 ∨ G p = none) → R (.ok (.ret (.ref p))) s') →
      codeAny (model X.prog X.w) X.A (.builtin "sum.loop" ⟨[.ref it, .ref S, rawInt 2, rawInt 0], []⟩) R s := by
  intro k
  induction k with
  | zero =>
    intro i s H tot c hk hi I hq hit fi fS hS ht hG hp hl hR
    have e : i = ls.length := by omega
    subst e
    refine codeAny_builtin F.entry_sum_loop ?_
    rw [Around.under_plainId F.plain_sum_loop _]
    show wpAny _ X.A.in1 (seqItems? (.ref S) >>= _) _ _ s
    refine wpAny_bind (wpAny_seqItems hS rfl ?_)
    obtain ⟨its, rv, pl, _⟩ := I.list hq
    have hl2 := rv.length
    show wpAny _ X.A.in1 (tryCatch (pyNext (.ref it)) _ >>= _) _ _ s
    refine wpAny_bind (wpAny_tryCatch (wpAny_pyNext_list_end hh hit pl.isList (by rw [List.length_map] at hl2; simp [hl2]) fun h' sb => ?_))
    refine wpAny_pure (hR H _ tot (I.turnedL (t' := s.toks) (ch := [it]) (fun b o hb e => sb b o (fun z => hb (by simp [z])) e) (fun b hb => by rw [List.mem_singleton.mp hb]; exact fi)) (fun _ _ e => e) ?_ hp)
    rw [ht, hlen, List.take_length]
  | succ k ih =>
    intro i s H tot c hk hi I hq hit fi fS hS ht hG hp hl hR
    have hlt : i < ls.length := by omega
    refine codeAny_builtin F.entry_sum_loop ?_
    rw [Around.under_plainId F.plain_sum_loop _]
    show wpAny _ X.A.in1 (seqItems? (.ref S) >>= _) _ _ s
    refine wpAny_bind (wpAny_seqItems hS rfl ?_)
    obtain ⟨its, rv, pl, _⟩ := I.list hq
    obtain ⟨l, el⟩ : ∃ l, ls[i]? = some l := ⟨ls[i], List.getElem?_eq_getElem hlt⟩
    obtain ⟨ys, ey⟩ : ∃ ys, yss[i]? = some ys := ⟨yss[i], List.getElem?_eq_getElem (by omega)⟩
    obtain ⟨u, hu, ru⟩ := rv.get (i := i) (x := V.ref l) (by rw [List.getElem?_map, el]; rfl)
    cases ru
    have hitlt : it < s.heap.objs.size := by obtain ⟨_, e1, _⟩ := hit; exact Heap.lt_size e1
    have hSlt : S < s.heap.objs.size := Heap.lt_size hS
    show wpAny _ X.A.in1 (tryCatch (pyNext (.ref it)) _ >>= _) _ _ s
    refine wpAny_bind (wpAny_tryCatch (wpAny_pyNext_list_item hit pl.isList (x := .ref l) (by simpa using hu) fun h' hit' sb => ?_))
    have I1 : Inv X pins σ H { s with heap := h' } := I.turnedL (t' := s.toks) (ch := [it]) (fun b o hb e => (sb.2 b (fun z => hb (by simp [z]))).trans e) (fun b hb => by rw [List.mem_singleton.mp hb]; exact fi)
    have hS1 : h'.get? S = some { cls := .type "list", dict := none, data := .seq #[.ref tot] c, slots := #[] } := (sb.2 S hSit).trans hS
    obtain ⟨z1, t1, n1, r1, q1, e1⟩ := I1.lstM ht
    obtain ⟨z2, t2, n2, r2, q2, e2⟩ := I1.lstM (hl i l ys el ey)
    have hd : yss.drop i = ys :: yss.drop (i + 1) := by
      have h3 : i < yss.length := by omega
      rw [List.drop_eq_getElem_cons h3]
      rw [List.getElem?_eq_getElem h3] at ey
      rw [Option.some.inj ey]
    have htake : yss.take (i + 1) = yss.take i ++ [ys] := by
      have h3 : i < yss.length := by omega
      rw [List.take_succ, ey]; rfl
    have hall2 : (zs ++ (yss.take i).flatten).length + ys.length ≤ sizeLine := by
      have : yss.flatten = (yss.take i).flatten ++ (ys ++ (yss.drop (i + 1)).flatten) := by
        conv => lhs; rw [← List.take_append_drop i yss, List.flatten_append, hd, List.flatten_cons]
      rw [this] at hall
      simp only [List.length_append] at hall ⊢
      omega
    have hsz : h'.objs.size = s.heap.objs.size := sb.1
    show wpAny _ X.A.in1 ((holding [Value.ref l] (binaryOp .Add (.ref tot) (.ref l))).attempt >>= _) _ _ _
    refine wpAny_bind (wpAny_attempt (wpAny_holding (PySem.P.add_list e1 e2 ?_ (by rw [List.size_toArray, List.size_toArray]; omega))))
    have ea : t1.toArray ++ t2.toArray = (t1 ++ t2).toArray := by simp
    rw [ea]
    have I2 : Inv X pins σ (upd H h'.objs.size (.lst (zs ++ (yss.take i).flatten ++ ys))) { s with heap := h'.push { cls := .type "list", data := .seq (t1 ++ t2).toArray } } := I1.lnew (t' := s.toks) (r1.append r2) (by rw [List.length_append]; omega)
    have fS2 : FpOk X pins (upd H h'.objs.size (.lst (zs ++ (yss.take i).flatten ++ ys))) S := FpOk.other fS (Nat.ne_of_lt (by rw [hsz]; exact hSlt))
    have fi2 : FpOk X pins (upd H h'.objs.size (.lst (zs ++ (yss.take i).flatten ++ ys))) it := FpOk.other fi (Nat.ne_of_lt (by rw [hsz]; exact hitlt))
    have hS2 : (h'.push { cls := .type "list", data := .seq (t1 ++ t2).toArray }).get? S = some { cls := .type "list", dict := none, data := .seq #[.ref tot] c, slots := #[] } := Heap.get?_push_of_some _ hS1
    show wpAny _ X.A.in1 (updateSeq S (fun _ => #[Value.ref h'.objs.size]) >>= _) _ _ _
    refine wpAny_bind (wpAny_updateSeq hS2 rfl ?_)
    have hS3 := Heap.get?_update_self (Obj.mapSeq fun _ => #[Value.ref h'.objs.size]) hS2 rfl
    refine wpAny_bind (wpAny_letGo ?_)
    refine wpAny_bind (wpAny_updateSeq hS3 rfl (wpAny_pure ⟨plainId_quiet F.plain_sum_loop _, ?_⟩))
    have up : ∀ b o, b ≠ S → (h'.push { cls := .type "list", data := .seq (t1 ++ t2).toArray }).get? b = some o → (((h'.push { cls := .type "list", data := .seq (t1 ++ t2).toArray }).update S (Obj.mapSeq fun _ => #[Value.ref h'.objs.size])).update S (Obj.mapSeq fun _ => #[Value.ref h'.objs.size])).get? b = some o :=
      fun b o hb e => (Heap.get?_update_other _ _ (Ne.symm hb)).trans ((Heap.get?_update_other _ _ (Ne.symm hb)).trans e)
    have I3 := I2.turnedL (t' := s.toks) (ch := [S]) (fun b o hb e => up b o (fun z => hb (by simp [z])) e) (fun b hb => by rw [List.mem_singleton.mp hb]; exact fS2)
    have ex : ∀ b o, H b = some o → (upd H h'.objs.size (.lst (zs ++ (yss.take i).flatten ++ ys))) b = some o := fun b o e => by
      rw [upd_ne (fun z => by rw [z, I1.fresh] at e; cases e)]; exact e
    refine ih (i + 1) _ _ h'.objs.size _ (by omega) hlt I3 ?_ (hit'.at fun o e => up it o (Ne.symm hSit) (Heap.get?_push_of_some _ e)) fi2 fS2 (Heap.get?_update_self _ hS3 rfl) ?_ (fun b o e => ex b o (hG b o e)) (.inr ?_) (fun j l ys e1 e2 => ex _ _ (hl j l ys e1 e2)) fun H' s' p J g q => hR H' s' p J (fun b o e => g b o (ex b o e)) q
    · exact Ex.sqL ex hq
    · rw [upd_same, htake, List.flatten_append]
      simp
    · cases e : G h'.objs.size with
      | none => rfl
      | some o =>
        have := hG _ _ e
        rw [I1.fresh] at this; cases this
theorem call_sumL (hcalm : X.calm = true) : CallR X (.builtin "sum") (fun xs H Q => ∃ (a b : Addr) (ls : List Addr) (yss : List (List V)) (zs : List V), xs = [.ref a, .ref b] ∧ SqL X.K H a (ls.map V.ref) ∧ ls.length = yss.length ∧
    (∀ (j : Nat) (l : Addr) (ys : List V), ls[j]? = some l → yss[j]? = some ys → H l = some (.lst ys)) ∧ H b = some (.lst zs) ∧ (zs ++ yss.flatten).length ≤ sizeLine ∧
    ∀ H' p, (∀ b o, H b = some o → H' b = some o) → H' p = some (.lst (zs ++ yss.flatten)) → (p = b ∨ H p = none) → Q (.ref p) H') := by
  intro pins s σ H xs us Q I r q
  obtain ⟨a, b, ls, yss, zs, rfl, hq, hlen, hl, hb, hall, q⟩ := q
  obtain ⟨u1, u2, rfl, r1, r2⟩ := vals2 r
  cases r1
  cases r2
  have hh := I.ok.hd hcalm
  refine call_function_tree F.kind_sum F.plain_sum F.entry_sum (args_sum2 _ _) ?_
  unfold Builtin.«sum»
  simp only [List.length_cons, List.length_nil]
  rw [if_neg (by decide)]
  refine wpAny_bind (wpAny_of_eq (show Builtin.Builtins.bindParams "sum" ["start"] 0 ⟨[Value.ref b], []⟩ = pure [some (Value.ref b)] from rfl) ?_)
  obtain ⟨its, rv, pl, _⟩ := I.list hq
  refine wpAny_bind (wpAny_pyIter_list pl.isList ?_)
  have I1 : Inv X pins σ H { s with heap := s.heap.push { cls := .type "list_iterator", data := .fields #[.ref a, .int 0 0] } } := I.kept (t' := s.toks) fun b o e => Heap.get?_push_of_some _ e
  obtain ⟨_, tb, nb, _, _, eb⟩ := I1.lstM hb
  have tyb : Shared.TypeIs ({ s with heap := s.heap.push { cls := .type "list_iterator", data := .fields #[.ref a, .int 0 0] } } : Shared) (.ref b) "list" := ⟨_, eb, rfl⟩
  refine wpAny_bind (wpAny_pure ?_)
  simp only [List.forIn_cons, List.forIn_nil]
  refine wpAny_bind (wpAny_bind (wpAny_bind (wpAny_isInstance (T := "list") (b := false) tyb sub_list_str ?_)))
  simp only [Bool.false_eq_true, if_false]
  refine wpAny_pure (wpAny_bind (wpAny_bind (wpAny_isInstance (T := "list") (b := false) tyb sub_list_bytes ?_)))
  simp only [Bool.false_eq_true, if_false]
  refine wpAny_pure (wpAny_bind (wpAny_bind (wpAny_isInstance (T := "list") (b := false) tyb sub_list_bytearray ?_)))
  simp only [Bool.false_eq_true, if_false]
  refine wpAny_pure (wpAny_pure ?_)
  refine wpAny_bind (wpAny_newObj_type ?_)
  have I2 : Inv X pins σ H { s with heap := (s.heap.push { cls := .type "list_iterator", data := .fields #[.ref a, .int 0 0] }).push { cls := .type "list", data := .seq [Value.ref b].toArray } } := I1.kept (t' := s.toks) fun b o e => Heap.get?_push_of_some _ e
  have sz : (s.heap.push { cls := .type "list_iterator", data := .fields #[.ref a, .int 0 0] }).objs.size = s.heap.objs.size + 1 := Heap.size_push ..
  have hit : ((s.heap.push { cls := .type "list_iterator", data := .fields #[.ref a, .int 0 0] }).push { cls := .type "list", data := .seq [Value.ref b].toArray }).IsListIter s.heap.objs.size a 0 := ⟨_, Heap.get?_push_of_some _ (Heap.get?_push_size _ rfl), rfl, rfl⟩
  refine wpAny_pure ⟨plainId_quiet F.plain_sum_loop _, ?_⟩
  refine sum_loop (G := H) (b0 := b) (a := a) (ls := ls) (yss := yss) (zs := zs) hh (by show (s.heap.push { cls := .type "list_iterator", data := .fields #[.ref a, .int 0 0] }).objs.size ≠ s.heap.objs.size; rw [sz]; exact Nat.succ_ne_self _) hall hlen ls.length 0 _ H b _ rfl (Nat.zero_le _) I2 hq hit
    (I.fpOk (Nat.le_refl _) I.fresh) (I1.fpOk (Nat.le_refl _) I1.fresh) (Heap.get?_push_size _ rfl) (by simpa using hb) (fun _ _ e => e) (.inl rfl) hl fun H' s' p J g e n => ?_
  exact ⟨.ref p, H', J, rfl, q H' p g e n⟩
end
end DI
end
section
set_option Elab.async false
set_option linter.all false
set_option maxRecDepth 100000
set_option maxHeartbeats 1000000
/-! DIRepr: repr of lists and tuples (with empty dicts within). -/
namespace DI
open PySem L2
mutual
def D.rd : DI.D → Option PyData
  | .non => some .none
  | .bl b => some (.bool b)
  | .int i => some (.int i)
  | .str s => some (.str s)
  | .lst xs => match D.rdAll xs with
    | some ds => some (.list ds)
    | none => none
  | .tup xs => match D.rdAll xs with
    | some ds => some (.tuple ds)
    | none => none
  | .dic [] => some (.dict [])
  | .dic _ => none
  | .strm => none
def D.rdAll : List DI.D → Option (List PyData)
  | [] => some []
  | x :: xs => match D.rd x with
    | some d => match D.rdAll xs with
      | some ds => some (d :: ds)
      | none => none
    | none => none
end
section
variable {X : Cx} {pins : List (Addr × Obj)} {σ : L2.St} {H : Hp} {s : Shared} {c : Addr}
theorem rdAll_cons {x : DI.D} {xs : List DI.D} {p : List PyData} (h : D.rdAll (x :: xs) = some p) : ∃ d ds, D.rd x = some d ∧ D.rdAll xs = some ds ∧ p = d :: ds := by
  unfold D.rdAll at h
  cases h1 : D.rd x with
  | none => rw [h1] at h; cases h
  | some d =>
    rw [h1] at h
    cases h2 : D.rdAll xs with
    | none => rw [h2] at h; cases h
    | some ds => rw [h2] at h; cases h; exact ⟨d, ds, rfl, rfl, rfl⟩
theorem rd_lst {xs : List DI.D} {p : PyData} (h : D.rd (.lst xs) = some p) : ∃ ds, D.rdAll xs = some ds ∧ p = .list ds := by
  unfold D.rd at h
  cases h2 : D.rdAll xs with
  | none => rw [h2] at h; cases h
  | some ds => rw [h2] at h; cases h; exact ⟨ds, rfl, rfl⟩
theorem rd_tup {xs : List DI.D} {p : PyData} (h : D.rd (.tup xs) = some p) : ∃ ds, D.rdAll xs = some ds ∧ p = .tuple ds := by
  unfold D.rd at h
  cases h2 : D.rdAll xs with
  | none => rw [h2] at h; cases h
  | some ds => rw [h2] at h; cases h; exact ⟨ds, rfl, rfl⟩
/-- a list's own repr -/
def LstRep (prog : Program) (w : World) (h : Heap) (a : Addr) (ds : List PyData) : Prop := ∃ (o : Obj) (l : List Value) (n : Nat) (bs as : List Addr), h.get? a = some o ∧ o.cls = .type "list" ∧ o.data = .seq l.toArray n ∧ ReadsAll h l ds as ∧ a ∉ bs ∧ ReprAllK prog w bs h (PyData.depthAll ds) l (PyData.shownAll ds)
mutual
theorem rp_repr (I : Inv X pins σ H s) : ∀ {v : V} {d : DI.D}, Rp X.K c H v d → ∀ (u : Value) (p : PyData), D.rd d = some p → RelV v u → p.showable = true → p.shown.length ≤ sizeLine →
    ∃ bs as, Reads s.heap u p as ∧ ReadAtMost s.heap p.depth bs ∧ ReprK X.prog X.w bs s.heap p.depth u p.shown
  | _, _, .non, u, p, e, r, _, _ => by
    cases e; cases r
    exact ⟨[], _, .none, (fun _ h => nomatch h), by simp only [PyData.shown]; exact .of_is ReprIs.none _ _ _⟩
  | _, _, .bl b, u, p, e, r, _, _ => by
    cases e; cases r
    exact ⟨[], _, .bool b, (fun _ h => nomatch h), by simp only [PyData.shown]; exact .of_is (ReprIs.bool b) _ _ _⟩
  | _, _, .int i, u, p, e, r, hs, _ => by
    cases e
    obtain ⟨t, rfl⟩ := r
    exact ⟨[], _, .int i t, (fun _ h => nomatch h), by simp only [PyData.shown]; exact .of_is (ReprIs.int t (by simpa [PyData.showable] using hs)) _ _ _⟩
  | _, _, .str z, u, p, e, r, _, hz => by
    cases e
    obtain ⟨t, rfl⟩ := r
    exact ⟨[], _, .str z t, (fun _ h => nomatch h), by simp only [PyData.shown]; exact .of_is (ReprIs.str z t (by simpa only [PyData.shown] using hz)) _ _ _⟩
  | _, _, .lst (a := a) h1 h2, u, p, e, r, hs, hz => by
    obtain ⟨ds, e1, rfl⟩ := rd_lst e
    cases r
    have hz' : (listText (PyData.shownAll ds)).length ≤ sizeLine := by simpa only [PyData.shown] using hz
    obtain ⟨_, its, n, rv, _, ho⟩ := I.lstM h1
    obtain ⟨bs, as, q1, hb, hk⟩ := rp_reprAll I h2 its ds e1 rv (by simpa [PyData.showable] using hs) (fun t ht => Nat.le_trans (listText_mem_le ht) hz')
    have r : Reads s.heap (.ref a) (.list ds) (a :: as) := .list ho rfl rfl q1
    have hna : a ∉ bs := not_mem_of_deeper r (by simp only [PyData.depth]; omega) hb
    refine ⟨a :: bs, _, r, ReadAtMost.cons r (by simp only [PyData.depth]; omega) hb, ?_⟩
    simp only [PyData.depth, PyData.shown]
    cases its with
    | nil =>
      cases q1
      simp only [PyData.shownAll, listText_nil]
      exact ReprK.listEmpty ho rfl rfl
    | cons y l => exact ReprK.list ho rfl rfl hna (by simpa using hk.length_eq) (fun i y e => hk.item i y (by simpa using e))
  | _, _, .tup (a := a) h1 h2, u, p, e, r, hs, hz => by
    obtain ⟨ds, e1, rfl⟩ := rd_tup e
    cases r
    have hz' : (tupleText (PyData.shownAll ds)).length ≤ sizeLine := by simpa only [PyData.shown] using hz
    obtain ⟨its, rv, ⟨o, ho, hc, n, hd⟩, _⟩ := I.tuple h1
    obtain ⟨bs, as, q1, hb, hk⟩ := rp_reprAll I h2 its ds e1 rv (by simpa [PyData.showable] using hs) (fun t ht => Nat.le_trans (tupleText_mem_le ht) hz')
    have r : Reads s.heap (.ref a) (.tuple ds) as := .tuple ho hc hd q1
    have hna : a ∉ bs := not_mem_of_deeper r (by simp only [PyData.depth]; omega) hb
    refine ⟨a :: bs, _, r, ReadAtMost.cons r (by simp only [PyData.depth]; omega) hb, ?_⟩
    simp only [PyData.depth, PyData.shown]
    exact ReprK.tuple ho hc hd hna hk
  | _, _, .dic (a := a) (ks := ks) h1 h2, u, p, e, r, hs, hz => by
    cases h2 with
    | cons _ _ => cases e
    | nil =>
      cases e
      cases r
      obtain ⟨_, hsys, vs, kv, dd⟩ := dk_of I.hok h1
      cases kv
      obtain ⟨o, es, ep, ho, hx, hd, _, hp, _⟩ := dd
      have he : es.toList = [] := by
        cases h : es.toList with
        | nil => rfl
        | cons y ys => rw [h] at hp; cases hp
      have r : Reads s.heap (.ref a) (.dict []) (a :: [] ++ []) := .dict ho hx.1 hd (by rw [he]; exact .nil) (by rw [he]; exact .nil)
      refine ⟨[a], _, r, ReadAtMost.cons r (Nat.zero_le _) (fun _ h => nomatch h), ?_⟩
      simp only [PyData.depth, PyData.shown, PyData.shownKv, PyData.depthKv]
      exact ReprK.dict ho hx.1 hd hsys (fun h => nomatch h) (by rw [he]; exact .nil)
  | _, _, .strm, u, p, e, _, _, _ => by cases e
theorem rp_reprAll (I : Inv X pins σ H s) : ∀ {vs : List V} {ds : List DI.D}, RpL X.K c H vs ds → ∀ (us : List Value) (ps : List PyData), D.rdAll ds = some ps → Vals vs us → PyData.showableAll ps = true → (∀ t ∈ PyData.shownAll ps, t.length ≤ sizeLine) →
    ∃ bs as, ReadsAll s.heap us ps as ∧ ReadAtMost s.heap (PyData.depthAll ps) bs ∧ ReprAllK X.prog X.w bs s.heap (PyData.depthAll ps) us (PyData.shownAll ps)
  | _, _, .nil, us, ps, e, r, _, _ => by
    cases e; cases r
    exact ⟨[], [], .nil, (fun _ h => nomatch h), by simp only [PyData.shownAll]; exact .nil⟩
  | _, _, .cons h1 h2, us, ps, e, r, hs, hz => by
    obtain ⟨d, ds, e1, e2, rfl⟩ := rdAll_cons e
    cases r with
    | cons r1 r2 =>
      have hs' : d.showable = true ∧ PyData.showableAll ds = true := by simpa [PyData.showableAll] using hs
      obtain ⟨b1, as, q1, hb1, k1⟩ := rp_repr I h1 _ d e1 r1 hs'.1 (hz _ (by simp only [PyData.shownAll]; exact List.mem_cons_self ..))
      obtain ⟨b2, as2, q2, hb2, k2⟩ := rp_reprAll I h2 _ ds e2 r2 hs'.2 (fun t ht => hz t (by simp only [PyData.shownAll]; exact List.mem_cons_of_mem _ ht))
      refine ⟨b1 ++ b2, _, .cons q1 q2, ?_, ?_⟩
      · intro b hm
        simp only [PyData.depthAll]
        rcases List.mem_append.mp hm with hm | hm
        · obtain ⟨d', as', r', hd'⟩ := hb1 b hm
          exact ⟨d', as', r', Nat.le_trans hd' (Nat.le_max_left _ _)⟩
        · obtain ⟨d', as', r', hd'⟩ := hb2 b hm
          exact ⟨d', as', r', Nat.le_trans hd' (Nat.le_max_right _ _)⟩
      · simp only [PyData.depthAll, PyData.shownAll]
        exact .cons ((k1.more fun b hb => List.mem_append_left _ hb).level_le (Nat.le_max_left _ _)) (k2.more_le (fun b hb => List.mem_append_right _ hb) (Nat.le_max_right _ _))
end
theorem call_repr_rp (hg : X.A.guards = some []) (hu : X.A.units + 100 < cLine) : CallR X (.builtin "repr") (fun xs H Q => ∃ (c : Addr) (v : V) (d : DI.D) (p : PyData), xs = [v] ∧ Rp X.K c H v d ∧ D.rd d = some p ∧ ((∃ ds, d = .lst ds) ∨ ∃ ds, d = .tup ds) ∧ p.showable = true ∧ p.shown.length ≤ sizeLine ∧ p.depth ≤ 60 ∧ Q (.str p.shown) H) := by
  intro pins s σ H xs us Q I r q
  obtain ⟨c, v, d, p, rfl, h, e, hd, hs, hz, hp, q⟩ := q
  obtain ⟨u, rfl, ru⟩ := vals1 r
  rcases hd with ⟨xs, rfl⟩ | ⟨xs, rfl⟩
  · obtain ⟨ds, e1, rfl⟩ := rd_lst e
    cases h with
    | lst h1 h2 =>
      rename_i a vs
      cases ru
      have hz' : (listText (PyData.shownAll ds)).length ≤ sizeLine := by simpa only [PyData.shown] using hz
      obtain ⟨_, its, n, rv, _, ho⟩ := I.lstM h1
      obtain ⟨bs, as, q1, hb, hk⟩ := rp_reprAll I h2 its ds e1 rv (by simpa [PyData.showable] using hs) (fun t ht => Nat.le_trans (listText_mem_le ht) hz')
      have r : Reads s.heap (.ref a) (.list ds) (a :: as) := .list ho rfl rfl q1
      have hna : a ∉ bs := not_mem_of_deeper r (by simp only [PyData.depth]; omega) hb
      simp only [PyData.depth] at hp
      simp only [PyData.shown] at q
      have done : ∀ (h' : Heap) (t tk : Nat), (∀ b o, s.heap.get? b = some o → h'.get? b = some o) → EP X pins σ Q (.str (listText (PyData.shownAll ds)) t) { s with heap := h', toks := tk } := fun h' t tk k => ⟨.str _, H, I.kept k, ⟨t, rfl⟩, q⟩
      refine call_repr_slot (by omega) (⟨_, ho, rfl⟩ : s.TypeIs (.ref a) "list") F.slot_list_repr.toG ?_
      cases its with
      | nil =>
        cases q1
        simp only [PyData.shownAll, listText_nil] at done
        exact call_list_repr_empty ⟨_, ho, rfl⟩ ho rfl ⟨_, _, rfl, done s.heap _ _ fun _ _ e => e⟩
      | cons y l =>
        exact call_list_reprK ho rfl rfl hna (by simpa using hk.length_eq) (fun i y e => hk.item i y (by simpa using e)) hg (fun b _ => Clear.nil b) (by show X.A.units + 1 + _ < cLine; omega) (fun _ _ e => e) (fun h' u tk k => ⟨_, _, rfl, done h' u tk k⟩) hz'
  · obtain ⟨ds, e1, rfl⟩ := rd_tup e
    cases h with
    | tup h1 h2 =>
      rename_i a vs
      cases ru
      have hz' : (tupleText (PyData.shownAll ds)).length ≤ sizeLine := by simpa only [PyData.shown] using hz
      obtain ⟨its, rv, ⟨o, ho, hc, n, hd⟩, _⟩ := I.tuple h1
      obtain ⟨bs, as, q1, hb, hk⟩ := rp_reprAll I h2 its ds e1 rv (by simpa [PyData.showable] using hs) (fun t ht => Nat.le_trans (tupleText_mem_le ht) hz')
      have r : Reads s.heap (.ref a) (.tuple ds) as := .tuple ho hc hd q1
      have hna : a ∉ bs := not_mem_of_deeper r (by simp only [PyData.depth]; omega) hb
      simp only [PyData.depth] at hp
      simp only [PyData.shown] at q
      have done : ∀ (h' : Heap) (t tk : Nat), (∀ b o, s.heap.get? b = some o → h'.get? b = some o) → EP X pins σ Q (.str (tupleText (PyData.shownAll ds)) t) { s with heap := h', toks := tk } := fun h' t tk k => ⟨.str _, H, I.kept k, ⟨t, rfl⟩, q⟩
      refine call_repr_slot (by omega) (⟨_, ho, hc⟩ : s.TypeIs (.ref a) "tuple") F.slot_tuple_repr ?_
      exact call_tuple_reprK ho hc hd hna hk hg (fun b _ => Clear.nil b) (by show X.A.units + 1 + _ < cLine; omega) (fun _ _ e => e) (fun h' u tk k => ⟨_, _, rfl, done h' u tk k⟩) hz'
end
end DI
end
section
set_option Elab.async false
set_option linter.all false
set_option maxRecDepth 100000
set_option maxHeartbeats 1000000
/-! DIZipN: the next of a zip whose last tuple is still held. -/
namespace DI
open PySem L2
/-- the zip object, its last tuple at T0, held -/
abbrev ZipH (h : Heap) (z TI TO T0 : Addr) (b : Bool) : Prop :=
  h.get? z = some { cls := .type "zip", dict := none, data := .fields #[rawInt T0, .bool b, .bool false, .ref TI, .ref TO], slots := #[] }
section
variable {prog : Program} {w : World} {A : Around} {E : Value → Shared → Prop} {s : Shared}
theorem wpAny_loadIfAlive {a : Addr} {Q : Option Obj → Shared → Prop} (h : Q (s.heap.get? a) s) : wpAny (model prog w) A (loadIfAlive a) Q E s := fun Γ p _ => by
  show Sem.wp _ Γ (.loadIfAlive a .pure) _ _ p s
  rw [Sem.wp_loadIfAlive]
  exact h
theorem own_held {z TI TO T0 : Addr} {b : Bool} {o0 : Obj} {Q : Bool → Shared → Prop} (hz : ZipH s.heap z TI TO T0 b) (h0 : s.heap.get? T0 = some o0)
    (hQ : ∀ h', ZipH h' z TI TO T0 true → Heap.SameBut z s.heap h' → Q false { s with heap := h' }) : wpAny (model prog w) A (Builtin.SmallTypes.ownedTupleIsFree (.ref z)) Q E s := by
  unfold Builtin.SmallTypes.ownedTupleIsFree
  refine wpAny_bind (wpAny_field hz rfl (x := rawInt T0) rfl ?_)
  show wpAny _ A (loadIfAlive T0 >>= _) _ _ _
  refine wpAny_bind (wpAny_loadIfAlive ?_)
  rw [h0]
  simp only [Option.isNone_some, Bool.false_eq_true, if_false]
  refine wpAny_bind (wpAny_field hz rfl (x := .bool b) rfl ?_)
  cases b with
  | true =>
    rw [if_neg (by decide)]
    exact wpAny_pure (hQ s.heap hz ⟨rfl, fun _ _ => rfl⟩)
  | false =>
    rw [if_pos (by decide)]
    refine wpAny_bind (wpAny_setField_rec hz (by simp) fun h₁ hz₁ hs₁ => ?_)
    exact wpAny_pure (hQ h₁ hz₁ hs₁)
theorem zip_next_held {z TI TO i1 i2 l1 l2 T0 : Addr} {bb : Bool} {o0 : Obj} {k1 k2 : Nat} {xs ys : Array Value} {x y : Value} {Q : Value → Shared → Prop} (D : ZipApart z TI TO i1 i2 l1 l2)
    (hz : ZipH s.heap z TI TO T0 bb) (h0 : s.heap.get? T0 = some o0) (hTI : IsPair s.heap TI (.ref i1) (.ref i2))
    (h1 : s.heap.IsListIter i1 l1 k1) (h2 : s.heap.IsListIter i2 l2 k2) (hl1 : s.heap.IsList l1 xs) (hl2 : s.heap.IsList l2 ys) (hx : xs[k1]? = some x) (hy : ys[k2]? = some y)
    (hQ : ∀ h', ZipH h' z TI TO T0 true → h'.IsListIter i1 l1 (k1 + 1) → h'.IsListIter i2 l2 (k2 + 1) → IsPair h' s.heap.objs.size x y → h'.objs.size = s.heap.objs.size + 1 →
      (∀ c o, c ≠ z → c ≠ i1 → c ≠ i2 → s.heap.get? c = some o → h'.get? c = some o) → Q (.ref s.heap.objs.size) { s with heap := h' }) :
    wpAny (model prog w) A (Builtin.«zip.__next__» ⟨[.ref z], []⟩) (fun fin s' => ∃ v, fin = .done (.ret v) ∧ Q v s') E s := by
  show wpAny _ _ (field (.ref z) 2 >>= _) _ _ _
  refine wpAny_bind (wpAny_field hz rfl (x := .bool false) rfl ?_)
  show wpAny _ _ (field (.ref z) 3 >>= _) _ _ _
  refine wpAny_bind (wpAny_field hz rfl (x := .ref TI) rfl ?_)
  refine wpAny_bind (wpAny_seqItems hTI rfl ?_)
  show wpAny _ _ (Builtin.SmallTypes.ownedTupleIsFree (.ref z) >>= _) _ _ _
  refine wpAny_bind (own_held hz h0 fun h₁ hz₁ hs₁ => ?_)
  simp only [Bool.false_eq_true, if_false]
  refine wpAny_bind ?_
  rw [← Array.forIn_toList]
  simp only [List.forIn_cons, List.forIn_nil]
  refine wpAny_bind (wpAny_bind (wpAny_holding ?_))
  show wpAny _ _ (Builtin.SmallTypes.nextOf (.ref i1) >>= _) _ _ _
  refine wpAny_bind (wpAny_nextOf_list_item (h1.extBut hs₁.extBut D.i1z) (hl1.extBut hs₁.extBut D.l1z) hx fun h₂ h1₂ hs₂ => wpAny_pure (wpAny_pure ?_))
  refine wpAny_bind (wpAny_bind (wpAny_holding ?_))
  show wpAny _ _ (Builtin.SmallTypes.nextOf (.ref i2) >>= _) _ _ _
  refine wpAny_bind (wpAny_nextOf_list_item ((h2.extBut hs₁.extBut D.i2z).extBut hs₂.extBut D.i12.symm)
    ((hl2.extBut hs₁.extBut D.l2z).extBut hs₂.extBut D.l2i1) hy fun h₃ h2₃ hs₃ => wpAny_pure (wpAny_pure (wpAny_pure ?_)))
  have hsz : h₃.objs.size = s.heap.objs.size := by rw [hs₃.1, hs₂.1, hs₁.1]
  refine wpAny_bind (wpAny_newTuple ?_ (by show 2 ≤ sizeLine; decide))
  have hz₃ : ZipH h₃ z TI TO T0 true := hs₃.extBut _ _ D.i2z.symm (hs₂.extBut _ _ D.i1z.symm hz₁)
  have hk : ∀ c o, c ≠ z → c ≠ i1 → c ≠ i2 → s.heap.get? c = some o → h₃.get? c = some o := fun c o c1 c2 c3 e => hs₃.extBut _ _ c3 (hs₂.extBut _ _ c2 (hs₁.extBut _ _ c1 e))
  refine wpAny_pure ⟨_, rfl, ?_⟩
  show Q (.ref h₃.objs.size) _
  rw [hsz]
  refine hQ _ (Heap.get?_push_of_some _ hz₃) ((h1₂.extBut hs₃.extBut D.i12).at fun o e => Heap.get?_push_of_some _ e) (h2₃.at fun o e => Heap.get?_push_of_some _ e) ?_ (by rw [Heap.size_push, hsz]) fun c o c1 c2 c3 e => Heap.get?_push_of_some _ (hk c o c1 c2 c3 e)
  rw [← hsz]
  exact Heap.get?_push_size _ rfl
theorem zip_end_held {z TI TO i1 i2 l1 l2 T0 : Addr} {bb : Bool} {o0 : Obj} {k1 k2 : Nat} {xs ys : Array Value} {Q : Fin → Shared → Prop} (hh : A.handled = none) (D : ZipApart z TI TO i1 i2 l1 l2)
    (hz : ZipH s.heap z TI TO T0 bb) (h0 : s.heap.get? T0 = some o0) (hTI : IsPair s.heap TI (.ref i1) (.ref i2))
    (h1 : s.heap.IsListIter i1 l1 k1) (h2 : s.heap.IsListIter i2 l2 k2) (hl1 : s.heap.IsList l1 xs) (hl2 : s.heap.IsList l2 ys) (hend : xs[k1]? = none ∨ ys[k2]? = none)
    (hE : ∀ h' e, (∀ c o, c ≠ z → c ≠ i1 → c ≠ i2 → s.heap.get? c = some o → h'.get? c = some o) → (∃ o, h'.get? e = some o ∧ o.cls = .type "StopIteration") → E (.ref e) { s with heap := h' }) :
    wpAny (model prog w) A (Builtin.«zip.__next__» ⟨[.ref z], []⟩) Q E s := by
  show wpAny _ _ (field (.ref z) 2 >>= _) _ _ _
  refine wpAny_bind (wpAny_field hz rfl (x := .bool false) rfl ?_)
  show wpAny _ _ (field (.ref z) 3 >>= _) _ _ _
  refine wpAny_bind (wpAny_field hz rfl (x := .ref TI) rfl ?_)
  refine wpAny_bind (wpAny_seqItems hTI rfl ?_)
  show wpAny _ _ (Builtin.SmallTypes.ownedTupleIsFree (.ref z) >>= _) _ _ _
  refine wpAny_bind (own_held hz h0 fun h₁ hz₁ hs₁ => ?_)
  simp only [Bool.false_eq_true, if_false]
  refine wpAny_bind ?_
  rw [← Array.forIn_toList]
  simp only [List.forIn_cons, List.forIn_nil]
  refine wpAny_bind (wpAny_bind (wpAny_holding ?_))
  show wpAny _ _ (Builtin.SmallTypes.nextOf (.ref i1) >>= _) _ _ _
  cases hx : xs[k1]? with
  | none =>
    exact wpAny_bind (wpAny_nextOf_list_end hh (h1.extBut hs₁.extBut D.i1z) (hl1.extBut hs₁.extBut D.l1z) hx fun h₂ e hs₂ he => hE h₂ e (fun c o c1 c2 _ x => hs₂ _ _ c2 (hs₁.extBut _ _ c1 x)) he)
  | some x =>
    have hy : ys[k2]? = none := by rcases hend with h | h; rw [hx] at h; cases h; exact h
    refine wpAny_bind (wpAny_nextOf_list_item (h1.extBut hs₁.extBut D.i1z) (hl1.extBut hs₁.extBut D.l1z) hx fun h₂ h1₂ hs₂ => wpAny_pure (wpAny_pure ?_))
    refine wpAny_bind (wpAny_bind (wpAny_holding ?_))
    show wpAny _ _ (Builtin.SmallTypes.nextOf (.ref i2) >>= _) _ _ _
    exact wpAny_bind (wpAny_nextOf_list_end hh ((h2.extBut hs₁.extBut D.i2z).extBut hs₂.extBut D.i12.symm) ((hl2.extBut hs₁.extBut D.l2z).extBut hs₂.extBut D.l2i1) hy fun h₃ e hs₃ he =>
      hE h₃ e (fun c o c1 c2 c3 x => hs₃ _ _ c3 (hs₂.extBut _ _ c2 (hs₁.extBut _ _ c1 x))) he)
theorem pyNext_zip_held {z TI TO i1 i2 l1 l2 T0 : Addr} {bb : Bool} {o0 : Obj} {k1 k2 : Nat} {xs ys : Array Value} {x y : Value} {Q : Option Value → Shared → Prop} (D : ZipApart z TI TO i1 i2 l1 l2)
    (hz : ZipH s.heap z TI TO T0 bb) (h0 : s.heap.get? T0 = some o0) (hTI : IsPair s.heap TI (.ref i1) (.ref i2))
    (h1 : s.heap.IsListIter i1 l1 k1) (h2 : s.heap.IsListIter i2 l2 k2) (hl1 : s.heap.IsList l1 xs) (hl2 : s.heap.IsList l2 ys) (hx : xs[k1]? = some x) (hy : ys[k2]? = some y)
    (hQ : ∀ h', ZipH h' z TI TO T0 true → h'.IsListIter i1 l1 (k1 + 1) → h'.IsListIter i2 l2 (k2 + 1) → IsPair h' s.heap.objs.size x y → h'.objs.size = s.heap.objs.size + 1 →
      (∀ c o, c ≠ z → c ≠ i1 → c ≠ i2 → s.heap.get? c = some o → h'.get? c = some o) → Q (some (.ref s.heap.objs.size)) { s with heap := h' }) :
    wpAny (model prog w) A (pyNext (.ref z)) Q E s := by
  have hT : s.TypeIs (.ref z) "zip" := ⟨_, hz, rfl⟩
  unfold pyNext
  exact wpAny_bind (wpAny_attempt (wpAny_callSpecial?_slot (name := Str.ofString "__next__") hT F.slot_zip_next
    (wpAny_call_entry F.slot_zip_next hT F.entry_zip_next
      (zip_next_held D hz h0 hTI h1 h2 hl1 hl2 hx hy fun h' a1 a3 a4 a5 a6 a7 => wpAny_pure (hQ h' a1 a3 a4 a5 a6 a7)) (F.args_zip_next_1 _))))
theorem pyNext_zip_endH {z TI TO i1 i2 l1 l2 T0 : Addr} {bb : Bool} {o0 : Obj} {k1 k2 : Nat} {xs ys : Array Value} {Q : Option Value → Shared → Prop} (hh : A.handled = none) (D : ZipApart z TI TO i1 i2 l1 l2)
    (hz : ZipH s.heap z TI TO T0 bb) (h0 : s.heap.get? T0 = some o0) (hTI : IsPair s.heap TI (.ref i1) (.ref i2))
    (h1 : s.heap.IsListIter i1 l1 k1) (h2 : s.heap.IsListIter i2 l2 k2) (hl1 : s.heap.IsList l1 xs) (hl2 : s.heap.IsList l2 ys) (hend : xs[k1]? = none ∨ ys[k2]? = none)
    (hQ : ∀ h', (∀ c o, c ≠ z → c ≠ i1 → c ≠ i2 → s.heap.get? c = some o → h'.get? c = some o) → Q none { s with heap := h' }) : wpAny (model prog w) A (pyNext (.ref z)) Q E s := by
  have hT : s.TypeIs (.ref z) "zip" := ⟨_, hz, rfl⟩
  unfold pyNext
  refine wpAny_bind (wpAny_attempt (wpAny_callSpecial?_slot (name := Str.ofString "__next__") hT F.slot_zip_next
    (wpAny_call_entry F.slot_zip_next hT F.entry_zip_next (zip_end_held hh D hz h0 hTI h1 h2 hl1 hl2 hend fun h' e hk he => ?_) (F.args_zip_next_1 _))))
  obtain ⟨o, ho, hc⟩ := he
  refine wpAny_bind (wpAny_isInstance (T := "StopIteration") (b := true) ⟨o, ho, hc⟩ isSubtype_stop ?_)
  exact wpAny_pure (hQ _ hk)
end
end DI
end
section
set_option Elab.async false
set_option linter.all false
set_option maxRecDepth 100000
set_option maxHeartbeats 1000000
/-! DIZipL: list(zip(a, b)), both lists. -/
namespace DI
open PySem L2
namespace F
theorem zip_no_len : typeLookup (.type "zip") "__len__" = pure none := by rw [typeLookup_type, builtinLookup_eq_fast]; kernel_rfl
theorem zip_no_hint : typeLookup (.type "zip") "__length_hint__" = pure none := by rw [typeLookup_type, builtinLookup_eq_fast]; kernel_rfl
end F
section
variable {X : Cx} {A : Around} {pins : List (Addr × Obj)} {σ : L2.St} {R : Result → Shared → Prop}
/-- what has been gathered: new pairs -/
def Got (G H : Hp) (xs ys : List V) (ts : List Addr) : Prop := ∀ (j : Nat) (t : Addr), ts[j]? = some t → ∃ x y, xs[j]? = some x ∧ ys[j]? = some y ∧ H t = some (.tup [x, y]) ∧ G t = none
theorem Got.push {G H : Hp} {xs ys : List V} {ts : List Addr} {x y : V} {T : Addr} (h : Got G H xs ys ts) (hx : xs[ts.length]? = some x) (hy : ys[ts.length]? = some y) (hT : H T = none) (hG : G T = none) : Got G (upd H T (.tup [x, y])) xs ys (ts ++ [T]) := fun j t e => by
  by_cases hj : j < ts.length
  · rw [List.getElem?_append_left hj] at e
    obtain ⟨x', y', a1, a2, a3, a4⟩ := h j t e
    exact ⟨x', y', a1, a2, by rw [upd_ne (ne_of_none a3 hT)]; exact a3, a4⟩
  · rw [List.getElem?_append_right (by omega)] at e
    have e2 : j - ts.length = 0 := by
      cases q : j - ts.length with
      | zero => rfl
      | succ n => rw [q] at e; simp at e
    rw [e2] at e
    cases e
    have e3 : j = ts.length := by omega
    rw [e3]
    exact ⟨x, y, hx, hy, upd_same, hG⟩
theorem lz_loop {G : Hp} {a b z TI TO i1 i2 S : Addr} {xs ys : List V} (D : ZipApart z TI TO i1 i2 a b) (hh : A.handled = none) (hSn : S ≠ z ∧ S ≠ TI ∧ S ≠ TO ∧ S ≠ i1 ∧ S ≠ i2) (hlx : xs.length ≤ sizeLine) :
    ∀ (k : Nat) (s : Shared) (H : Hp) (ts : List Addr) (us : List Value) (c : Nat), min xs.length ys.length - ts.length = k → ts.length ≤ min xs.length ys.length → Inv X pins σ H s → SqL X.K H a xs → SqL X.K H b ys →
      ((ts = [] ∧ IsZip s.heap z TI TO .none) ∨ ∃ T0 b0, T0 ∈ ts ∧ ZipH s.heap z TI TO T0 b0) → IsPair s.heap TI (.ref i1) (.ref i2) → (∃ x y, IsPair s.heap TO x y) → s.heap.IsListIter i1 a ts.length → s.heap.IsListIter i2 b ts.length →
      (∀ q ∈ [z, TI, TO, i1, i2, S], FpOk X pins H q) → s.heap.get? S = some { cls := .type "list", dict := none, data := .seq us.toArray c, slots := #[] } → us = ts.map Value.ref → (∀ b o, G b = some o → H b = some o) → Got G H xs ys ts →
      (∀ H' s' ts' c', Inv X pins σ H' s' → (∀ b o, G b = some o → H' b = some o) → H' S = none → s'.heap.get? S = some { cls := .type "list", dict := none, data := .seq (ts'.map Value.ref).toArray c', slots := #[] } → ts'.length = min xs.length ys.length → Got G H' xs ys ts' → R (.ok (.ret .none)) s') →
      codeAny (model X.prog X.w) A (.builtin "list.extend.loop" ⟨[.ref S, .ref z, .none], []⟩) R s := by
  intro k
  induction k with
  | zero =>
    intro s H ts us c hk hi I hqa hqb hz hTI hTO h1 h2 hf hS hus hG hgot hR
    subst hus
    refine codeAny_builtin PySem.F.entry_extend_loop ?_
    rw [Around.under_plainId PySem.F.plain_extend_loop _]
    show wpAny _ A.in1 (pyNext (.ref z) >>= _) _ _ s
    obtain ⟨its1, rv1, pl1, _⟩ := I.list hqa
    obtain ⟨its2, rv2, pl2, _⟩ := I.list hqb
    have e1 := rv1.length
    have e2 := rv2.length
    have hend : its1.toArray[ts.length]? = none ∨ its2.toArray[ts.length]? = none := by
      rcases Nat.le_total xs.length ys.length with q | q
      · exact .inl (by simp; omega)
      · exact .inr (by simp; omega)
    have fin : ∀ h', (∀ c o, c ≠ z → c ≠ TO → c ≠ i1 → c ≠ i2 → s.heap.get? c = some o → h'.get? c = some o) → R (.ok (.ret .none)) { s with heap := h' } := fun h' hk' =>
      hR H _ ts c (I.turnedL (t' := s.toks) (ch := [z, TO, i1, i2]) (fun c o hb q => hk' c o (fun q' => hb (by simp [q'])) (fun q' => hb (by simp [q'])) (fun q' => hb (by simp [q'])) (fun q' => hb (by simp [q'])) q) (fun q hq => hf q (by
        simp at hq ⊢; rcases hq with q | q | q | q <;> simp [q]))) hG (hf S (by simp)).1 (hk' S _ hSn.1 hSn.2.2.1 hSn.2.2.2.1 hSn.2.2.2.2 hS) (by omega) hgot
    rcases hz with ⟨_, hz⟩ | ⟨T0, b0, hm, hz⟩
    · obtain ⟨x0, y0, hTO⟩ := hTO
      exact wpAny_bind (wpAny_pyNext_zip_end hh D hz hTI hTO h1 h2 pl1.isList pl2.isList hend fun h' hk' => wpAny_pure (fin h' hk'))
    · obtain ⟨j, hj, ej⟩ := List.getElem_of_mem hm
      obtain ⟨_, _, _, _, a3, _⟩ := hgot j T0 (by rw [List.getElem?_eq_getElem hj, ej])
      obtain ⟨_, its, _, ⟨o0, ho0, _⟩⟩ := I.hok _ _ a3
      exact wpAny_bind (pyNext_zip_endH hh D hz ho0 hTI h1 h2 pl1.isList pl2.isList hend fun h' hk' => wpAny_pure (fin h' fun c o c1 _ c3 c4 e => hk' c o c1 c3 c4 e))
  | succ k ih =>
    intro s H ts us c hk hi I hqa hqb hz hTI hTO h1 h2 hf hS hus hG hgot hR
    subst hus
    refine codeAny_builtin PySem.F.entry_extend_loop ?_
    rw [Around.under_plainId PySem.F.plain_extend_loop _]
    show wpAny _ A.in1 (pyNext (.ref z) >>= _) _ _ s
    obtain ⟨its1, rv1, pl1, _⟩ := I.list hqa
    obtain ⟨its2, rv2, pl2, _⟩ := I.list hqb
    obtain ⟨x, hx⟩ : ∃ x, xs[ts.length]? = some x := ⟨xs[ts.length]'(by omega), List.getElem?_eq_getElem _⟩
    obtain ⟨y, hy⟩ : ∃ y, ys[ts.length]? = some y := ⟨ys[ts.length]'(by omega), List.getElem?_eq_getElem _⟩
    obtain ⟨u, hu, ru⟩ := rv1.get hx
    obtain ⟨u2, hu2, ru2⟩ := rv2.get hy
    have lt : ∀ {c : Addr} {o : Obj}, s.heap.get? c = some o → c < s.heap.objs.size := fun e => Heap.lt_size e
    have hzl : z < s.heap.objs.size := by
      rcases hz with ⟨_, hz⟩ | ⟨T0, b0, hm, hz⟩ <;> exact lt hz
    have hTIl := lt hTI
    have hTOl : TO < s.heap.objs.size := by obtain ⟨_, _, e⟩ := hTO; exact lt e
    have hi1l : i1 < s.heap.objs.size := by obtain ⟨_, e, _⟩ := h1; exact lt e
    have hi2l : i2 < s.heap.objs.size := by obtain ⟨_, e, _⟩ := h2; exact lt e
    have hSl := lt hS
    -- the turn, whichever way the tuple came
    have turn : ∀ h', (∃ T0 b0, T0 ∈ ts ++ [s.heap.objs.size] ∧ ZipH h' z TI TO T0 b0) → (∃ x y, IsPair h' TO x y) → h'.IsListIter i1 a (ts.length + 1) → h'.IsListIter i2 b (ts.length + 1) → IsPair h' s.heap.objs.size u u2 → h'.objs.size = s.heap.objs.size + 1 →
        (∀ c o, c ≠ z → c ≠ TO → c ≠ i1 → c ≠ i2 → s.heap.get? c = some o → h'.get? c = some o) →
        wpAny (model X.prog X.w) A.in1 (updateSeq S (·.push (Value.ref s.heap.objs.size)) >>= fun _ => again (.builtin "list.extend.loop" ⟨[.ref S, .ref z, .none], []⟩))
          (fun fin s' => match fin with | .done f => R (.ok f) s' | .again c' => c'.quiet = true ∧ codeAny (model X.prog X.w) A c' R s') (fun e s' => R (.error e) s') { s with heap := h' } := by
      intro h' hz' hTO' h1' h2' hT hsz hk'
      have new : ObjOk X.prog X.w (upd H s.heap.objs.size (.tup [x, y])) h' s.heap.objs.size (.tup [x, y]) := ⟨by show 2 ≤ sizeLine; decide, [u, u2], .cons ru (.cons ru2 .nil), ⟨_, hT, rfl, _, rfl⟩⟩
      have I1 : Inv X pins σ (upd H s.heap.objs.size (.tup [x, y])) { s with heap := h' } :=
        I.turnedNew (t' := s.toks) (ch := [z, TO, i1, i2]) (fun c o hb q => hk' c o (fun q' => hb (by simp [q'])) (fun q' => hb (by simp [q'])) (fun q' => hb (by simp [q'])) (fun q' => hb (by simp [q'])) q)
          (fun q hq => hf q (by simp at hq ⊢; rcases hq with q | q | q | q <;> simp [q])) (Nat.le_refl _) new
      have hf1 : ∀ q ∈ [z, TI, TO, i1, i2, S], FpOk X pins (upd H s.heap.objs.size (.tup [x, y])) q := fun q hq => FpOk.other (hf q hq) (by
        simp at hq
        rcases hq with q | q | q | q | q | q <;> (rw [q]; exact Nat.ne_of_lt (by assumption)))
      have hS1 := hk' S _ hSn.1 hSn.2.2.1 hSn.2.2.2.1 hSn.2.2.2.2 hS
      have hn : (ts.map Value.ref).length + 1 ≤ sizeLine := by rw [List.length_map]; omega
      refine wpAny_bind (wpAny_updateSeq hS1 rfl (wpAny_pure ⟨plainId_quiet PySem.F.plain_extend_loop _, ?_⟩) (by simp at hn ⊢; omega) (by simp at hn ⊢; omega))
      have hS2 := Heap.get?_update_self (Obj.mapSeq (·.push (Value.ref s.heap.objs.size))) hS1 rfl
      have up : ∀ q o, q ≠ S → h'.get? q = some o → (h'.update S (Obj.mapSeq (·.push (Value.ref s.heap.objs.size)))).get? q = some o := fun q o n e => (Heap.get?_update_other _ _ (Ne.symm n)).trans e
      have I2 := I1.turnedL (t' := s.toks) (ch := [S]) (fun q o hb e => up q o (fun z => hb (by simp [z])) e) (fun q hq => by rw [List.mem_singleton.mp hq]; exact hf1 S (by simp))
      have ex : ∀ q o, H q = some o → upd H s.heap.objs.size (.tup [x, y]) q = some o := fun q o e => by rw [upd_ne (ne_of_none e I.fresh)]; exact e
      have hG0 : G s.heap.objs.size = none := by
        cases e : G s.heap.objs.size with
        | none => rfl
        | some o => have := hG _ _ e; rw [I.fresh] at this; cases this
      refine ih _ _ (ts ++ [s.heap.objs.size]) _ _ (by rw [List.length_append]; simp; omega) (by rw [List.length_append]; simp; omega) I2 (Ex.sqL ex hqa) (Ex.sqL ex hqb) ?_ ?_ ?_ ?_ ?_ hf1 hS2 (by simp) (fun q o e => ex q o (hG q o e)) (hgot.push hx hy I.fresh hG0) hR
      · obtain ⟨T0, b0, hm, q⟩ := hz'
        exact .inr ⟨T0, b0, hm, up _ _ (Ne.symm hSn.1) q⟩
      · exact up _ _ (Ne.symm hSn.2.1) (hk' _ _ D.TIz D.TITO D.TIi1 D.TIi2 hTI)
      · obtain ⟨x', y', q⟩ := hTO'
        exact ⟨x', y', up _ _ (Ne.symm hSn.2.2.1) q⟩
      · rw [List.length_append]; exact h1'.at fun o e => up _ _ (Ne.symm hSn.2.2.2.1) e
      · rw [List.length_append]; exact h2'.at fun o e => up _ _ (Ne.symm hSn.2.2.2.2) e
    rcases hz with ⟨_, hz⟩ | ⟨T0, b0, hm, hz⟩
    · obtain ⟨x0, y0, hTO⟩ := hTO
      refine wpAny_bind (wpAny_pyNext_zip_item D hz hTI hTO h1 h2 pl1.isList pl2.isList (x := u) (y := u2) (by simpa using hu) (by simpa using hu2) fun h' z' TO' h1' h2' hT hsz hk' => ?_)
      exact turn h' ⟨_, false, by simp, z'⟩ ⟨_, _, TO'⟩ h1' h2' hT hsz hk'
    · obtain ⟨j, hj, ej⟩ := List.getElem_of_mem hm
      obtain ⟨_, _, _, _, a3, _⟩ := hgot j T0 (by rw [List.getElem?_eq_getElem hj, ej])
      obtain ⟨_, its, _, ⟨o0, ho0, _⟩⟩ := I.hok _ _ a3
      refine wpAny_bind (pyNext_zip_held D hz ho0 hTI h1 h2 pl1.isList pl2.isList (x := u) (y := u2) (by simpa using hu) (by simpa using hu2) fun h' z' h1' h2' hT hsz hk' => ?_)
      obtain ⟨x0, y0, hTO⟩ := hTO
      exact turn h' ⟨T0, true, by simp [hm], z'⟩ ⟨x0, y0, hk' _ _ D.TOz D.TOi1 D.TOi2 hTO⟩ h1' h2' hT hsz fun c o c1 _ c3 c4 e => hk' c o c1 c3 c4 e
end
end DI
end
section
set_option Elab.async false
set_option linter.all false
set_option maxRecDepth 100000
set_option maxHeartbeats 1000000
/-! DIZipC: list(zip(a, b)) as an expression. -/
namespace DI
open PySem L2
section
variable {X : Cx} {A : Around} {pins : List (Addr × Obj)} {σ : L2.St} {H : Hp} {s : Shared}
/-- an object of ours, so far untracked, is tracked -/
theorem track {S : Addr} {o : HO} (I : Inv X pins σ H s) (f : FpOk X pins H S) (new : ObjOk X.prog X.w (upd H S o) s.heap S o) : Inv X pins σ (upd H S o) s := by
  have hn : H S = none := f.1
  refine I.call (g' := s.gens) (t' := s.toks) (d' := s.drawn) (ch := [S]) ⟨fun b u q _ _ _ => q, fun b u q _ _ _ => ⟨u.slots, q⟩, fun b u q n hb => ?_, fun b u q _ => ⟨u, q⟩, fun b xs q => ?_, fun b u xs q => ?_, fun b ps q => ⟨#[], ?_⟩⟩ (fun b u e => ?_) I.bare
    (fun b hb => by rw [List.mem_singleton.mp hb]; exact ⟨f.2.2.2.1, f.2.1, f.2.2.2.2.1, f.2.2.2.2.2⟩)
  · rw [upd_ne (fun z => hb (by simp [z]))]; exact n
  · rw [upd_ne (ne_of_none q hn)]; exact q
  · rw [upd_ne (ne_of_none q hn)]; exact q
  · rw [upd_ne (ne_of_none q hn), q]; simp
  · by_cases hb : b = S
    · subst hb; rw [upd_same] at e; cases e; exact new
    · rw [upd_ne hb] at e
      exact (I.hok b u e).stay (fun _ _ _ z => z) (fun d z => by rw [upd_ne (ne_of_none z hn)]; exact z) fun d xs z => by rw [upd_ne (ne_of_none z hn)]; exact z
theorem ext_zip {R : Result → Shared → Prop} {a b z TI TO i1 i2 S : Addr} {xs ys : List V} (D : ZipApart z TI TO i1 i2 a b) (hh : A.handled = none) (hSn : S ≠ z ∧ S ≠ TI ∧ S ≠ TO ∧ S ≠ i1 ∧ S ≠ i2) (hlx : xs.length ≤ sizeLine) (I : Inv X pins σ H s) (hqa : SqL X.K H a xs) (hqb : SqL X.K H b ys)
    (hz : IsZip s.heap z TI TO .none) (hTI : IsPair s.heap TI (.ref i1) (.ref i2)) (hTO : ∃ x y, IsPair s.heap TO x y) (h1 : s.heap.IsListIter i1 a 0) (h2 : s.heap.IsListIter i2 b 0) (hf : ∀ q ∈ [z, TI, TO, i1, i2, S], FpOk X pins H q) {c : Nat}
    (hS : s.heap.get? S = some { cls := .type "list", dict := none, data := .seq #[] c, slots := #[] })
    (hR : ∀ H' s' ts' c', Inv X pins σ H' s' → (∀ b o, H b = some o → H' b = some o) → H' S = none → s'.heap.get? S = some { cls := .type "list", dict := none, data := .seq (ts'.map Value.ref).toArray c', slots := #[] } → ts'.length = min xs.length ys.length → Got H H' xs ys ts' → R (.ok (.ret .none)) s') :
    wpAny (model X.prog X.w) A.in1 (Builtin.List.listExtendWith (.ref S) (.ref z) .none)
      (fun fin s' => match fin with | .done f => R (.ok f) s' | .again c' => c'.quiet = true ∧ codeAny (model X.prog X.w) A c' R s') (fun e s' => R (.error e) s') s := by
  have hT : s.TypeIs (.ref z) "zip" := ⟨_, hz, rfl⟩
  unfold Builtin.List.listExtendWith
  refine wpAny_bind (wpAny_typeOf hT ?_)
  have e1 : Builtin.List.listSameRef (.ref S) (.ref z) = false := by simp [Builtin.List.listSameRef, hSn.1]
  have e2 : (Value.type "zip" == Value.type "list") = false := by decide
  have e3 : (Value.type "zip" == Value.type "tuple") = false := by decide
  simp only [e1, e2, e3, Bool.or_false, Bool.false_eq_true, if_false]
  refine wpAny_bind (wpAny_pyIter_zip hz ?_)
  refine wpAny_bind (wpAny_holding ?_)
  unfold Builtin.List.listLengthHint
  refine wpAny_bind (wpAny_specialOf hT F.zip_no_len ?_)
  show wpAny _ A.in1 (specialOf (Value.ref z) (Str.ofString "__length_hint__") >>= _) _ _ _
  refine wpAny_bind (wpAny_specialOf hT F.zip_no_hint ?_)
  refine wpAny_pure ?_
  show wpAny _ A.in1 (rule "list.extend.makes-room" >>= fun _ => Builtin.List.listTouch (.ref S) >>= fun _ =>
    again (.builtin "list.extend.loop" ⟨[.ref S, .ref z, .none], []⟩)) _ _ _
  refine wpAny_bind (wpAny_rule ?_)
  refine wpAny_bind ?_
  show wpAny _ A.in1 (updateSeq S (·.push .none) >>= fun _ => updateSeq S (·.pop)) _ _ _
  refine wpAny_bind (wpAny_updateSeq hS rfl ?_)
  have hS₂ := Heap.get?_update_self (Obj.mapSeq (·.push Value.none)) hS rfl
  refine wpAny_updateSeq (hz := by seq_fits) hS₂ rfl ?_
  have hS₃ := Heap.get?_update_self (Obj.mapSeq (·.pop)) hS₂ rfl
  have up : ∀ b o, b ≠ S → s.heap.get? b = some o → ((s.heap.update S (Obj.mapSeq (·.push Value.none))).update S (Obj.mapSeq (·.pop))).get? b = some o :=
    fun b o hb e => (Heap.get?_update_other _ _ (Ne.symm hb)).trans ((Heap.get?_update_other _ _ (Ne.symm hb)).trans e)
  have I1 := I.turnedL (t' := s.toks) (ch := [S]) (fun q o hb e => up q o (fun z => hb (by simp [z])) e) (fun q hq => by rw [List.mem_singleton.mp hq]; exact hf S (by simp))
  obtain ⟨x0, y0, hTO⟩ := hTO
  exact wpAny_pure ⟨plainId_quiet PySem.F.plain_extend_loop _, lz_loop (G := H) D hh hSn hlx _ _ H [] [] _ rfl (Nat.zero_le _) I1 hqa hqb (.inl ⟨rfl, up _ _ (Ne.symm hSn.1) hz⟩) (up _ _ (Ne.symm hSn.2.1) hTI) ⟨x0, y0, up _ _ (Ne.symm hSn.2.2.1) hTO⟩
    (h1.at fun o e => up _ _ (Ne.symm hSn.2.2.2.1) e) (h2.at fun o e => up _ _ (Ne.symm hSn.2.2.2.2) e) hf hS₃ rfl (fun _ _ e => e) (fun j t e => by simp at e) hR⟩
theorem call_lz {Q : Value → Shared → Prop} {E : Value → Shared → Prop} {a b z TI TO i1 i2 : Addr} {xs ys : List V} (D : ZipApart z TI TO i1 i2 a b) (hh : X.A.handled = none) (hlx : xs.length ≤ sizeLine) (I : Inv X pins σ H s) (hqa : SqL X.K H a xs) (hqb : SqL X.K H b ys)
    (hz : IsZip s.heap z TI TO .none) (hTI : IsPair s.heap TI (.ref i1) (.ref i2)) (hTO : ∃ x y, IsPair s.heap TO x y) (h1 : s.heap.IsListIter i1 a 0) (h2 : s.heap.IsListIter i2 b 0) (hf : ∀ q ∈ [z, TI, TO, i1, i2], FpOk X pins H q)
    (hQ : ∀ H' s' (ts : List Addr) p, Inv X pins σ (upd H' p (.lst (ts.map V.ref))) s' → (∀ b o, H b = some o → H' b = some o) → H' p = none → ts.length = min xs.length ys.length → Got H H' xs ys ts → Q (.ref p) s') :
    wpAny (model X.prog X.w) X.A (call (.type "list") [.ref z]) Q E s := by
  refine callType_codes (Q₁ := fun obj s₁ => obj = .ref s.heap.objs.size ∧ s₁ = { s with heap := s.heap.push { cls := .type "list", data := .seq #[] } }) PySem.F.called_list (PySem.F.typeCall_list_1 _) PySem.F.entry_list_init
    (code_list_new _ ⟨rfl, rfl⟩) fun obj s₁ h₁ => ?_
  obtain ⟨rfl, rfl⟩ := h₁
  have hS : (s.heap.push { cls := .type "list", data := .seq #[] }).get? s.heap.objs.size = some { cls := .type "list", data := .seq #[] } := Heap.get?_push_size _ rfl
  have lt : ∀ {c : Addr} {o : Obj}, s.heap.get? c = some o → c < s.heap.objs.size := fun e => Heap.lt_size e
  have pu : ∀ q o, s.heap.get? q = some o → (s.heap.push { cls := .type "list", data := .seq #[] }).get? q = some o := fun q o e => Heap.get?_push_of_some _ e
  have hSn : s.heap.objs.size ≠ z ∧ s.heap.objs.size ≠ TI ∧ s.heap.objs.size ≠ TO ∧ s.heap.objs.size ≠ i1 ∧ s.heap.objs.size ≠ i2 := by
    obtain ⟨x0, y0, hTO'⟩ := hTO
    obtain ⟨_, q1, _⟩ := id h1
    obtain ⟨_, q2, _⟩ := id h2
    exact ⟨Nat.ne_of_gt (lt hz), Nat.ne_of_gt (lt hTI), Nat.ne_of_gt (lt hTO'), Nat.ne_of_gt (lt q1), Nat.ne_of_gt (lt q2)⟩
  have I0 : Inv X pins σ H { s with heap := s.heap.push { cls := .type "list", data := .seq #[] } } := I.kept (t' := s.toks) pu
  have fS : FpOk X pins H s.heap.objs.size := I.fpOk (Nat.le_refl _) I.fresh
  refine ⟨⟨_, hS, rfl⟩, PySem.F.args_list_init_2 _ _, ?_⟩
  show wpAny _ X.A.in1.in1 (do let old ← Builtin.List.listItems (.ref s.heap.objs.size); Builtin.List.listUpdate (.ref s.heap.objs.size) (fun _ => #[]); letGo old.toList.reverse; Builtin.List.listExtendWith (.ref s.heap.objs.size) (.ref z) .none) _ _ _
  refine wpAny_bind ?_
  unfold Builtin.List.listItems
  refine wpAny_bind (wpAny_seqItems hS rfl (wpAny_pure ?_))
  show wpAny _ X.A.in1.in1 (updateSeq s.heap.objs.size (fun _ => #[]) >>= fun _ => letGo (#[] : Array Value).toList.reverse >>= fun _ => Builtin.List.listExtendWith (.ref s.heap.objs.size) (.ref z) .none) _ _ _
  refine wpAny_bind (wpAny_updateSeq hS rfl ?_)
  have hS₂ := Heap.get?_update_self (Obj.mapSeq (fun _ => (#[] : Array Value))) hS rfl
  have up : ∀ q o, q ≠ s.heap.objs.size → (s.heap.push { cls := .type "list", data := .seq #[] }).get? q = some o → ((s.heap.push { cls := .type "list", data := .seq #[] }).update s.heap.objs.size (Obj.mapSeq (fun _ => (#[] : Array Value)))).get? q = some o :=
    fun q o hb e => (Heap.get?_update_other _ _ (Ne.symm hb)).trans e
  refine wpAny_bind (wpAny_letGo ?_)
  have I1 := I0.turnedL (t' := s.toks) (ch := [s.heap.objs.size]) (fun q o hb e => up q o (fun z => hb (by simp [z])) e) (fun q hq => by rw [List.mem_singleton.mp hq]; exact fS)
  have k2 : ∀ q o, q ≠ s.heap.objs.size → s.heap.get? q = some o → ((s.heap.push { cls := .type "list", data := .seq #[] }).update s.heap.objs.size (Obj.mapSeq (fun _ => (#[] : Array Value)))).get? q = some o := fun q o n e => up q o n (pu q o e)
  obtain ⟨x0, y0, hTO'⟩ := hTO
  refine ext_zip (A := X.A.in1) D hh hSn hlx I1 hqa hqb (k2 _ _ (Ne.symm hSn.1) hz) (k2 _ _ (Ne.symm hSn.2.1) hTI) ⟨x0, y0, k2 _ _ (Ne.symm hSn.2.2.1) hTO'⟩ (h1.at fun o e => k2 _ _ (Ne.symm hSn.2.2.2.1) e) (h2.at fun o e => k2 _ _ (Ne.symm hSn.2.2.2.2) e)
    (fun q hq => by
      rcases List.mem_cons.mp hq with q' | hq
      · exact hf q (by simp [q'])
      · by_cases hqS : q = s.heap.objs.size
        · rw [hqS]; exact fS
        · exact hf q (by simp at hq ⊢; rcases hq with h | h | h | h | h <;> first | exact absurd h hqS | simp [h])) hS₂ ?_
  intro H' s' ts c' J g hn e hl got
  refine ⟨rfl, hQ H' s' ts _ ?_ g hn hl got⟩
  have hz2 : (ts.map V.ref).length ≤ sizeLine := by rw [List.length_map]; omega
  have rv : Vals (ts.map V.ref) (ts.map Value.ref) := by
    clear hl got hz2 e
    induction ts with
    | nil => exact .nil
    | cons t ts ih => exact .cons rfl ih
  exact track J ⟨hn, fS.2⟩ ⟨hz2, ts.map Value.ref, c', rv, e⟩
end
end DI
end
section
set_option Elab.async false
set_option linter.all false
set_option maxRecDepth 100000
set_option maxHeartbeats 1000000
/-! DIKb: built-ins whose arguments are kept: sum, dict, repr; list(zip); an empty display of a dict. -/
namespace DI
open PySem L2
section
variable {X : Cx} {F : Fx} {W : WX} {e a b : Expr} {es : List Expr} {p p2 pos pos2 : Pos} {x : Str} {f fa fb : Ga → Sd → Out Rs}
def tLz (K : PySem.W.Frag) (ta : TA) : TE := fun σ H Q => ta σ H fun vs H1 => ∃ (a b : Addr) (xs ys : List V), vs = [.ref a, .ref b] ∧ SqL K H1 a xs ∧ SqL K H1 b ys ∧
  ∀ H' p (ts : List Addr), (∀ b o, H1 b = some o → H' b = some o) → H' p = none → ts.length = min xs.length ys.length → Got H1 H' xs ys ts → Q (.ref p) (upd H' p (.lst (ts.map V.ref)))
theorem pe_listzip {ta : TA} (hc : X.calm = true) (hg : Gl X "list") (hm : X.mg "list" = none) (hg2 : Gl X "zip") (hm2 : X.mg "zip" = none) (ha : PA X [a, b] ta)
    (hs : starEach [a, b] X.env = (false, eval a X.env) :: starEach [b] X.env) (hpl : (backTo pos2 (starEach [b] X.env)).any (·.1) = false) :
    PE X (.Call (.Name "list" p) [.Call (.Name "zip" p2) [a, b] [] pos2] [] pos) (tLz X.K ta) := by
  refine ⟨fun pins s σ H Q I h => ?_⟩
  refine PyProof.Rows.Call_ (ld_blt I hg hm PyProof.Rows.boot_list (PyProof.Rows.callWith_type1 ?_ (by rfl) (by rfl)))
  show wpAny _ _ (spliced ((false, eval (.Call (.Name "zip" p2) [a, b] [] pos2) X.env) :: [])) _ _ s
  refine Calls.spliced_cons ?_
  refine PyProof.Rows.Call_ (ld_blt I hg2 hm2 PyProof.Rows.boot_zip (PyProof.Rows.callWith_type1 (L2.thn (ha.run pos2 pins s σ H _ I h) fun us s1 ⟨vs, H1, I1, r1, q1⟩ => ?_) hs hpl))
  obtain ⟨la, lb, xs, ys, ex, hqx, hqy, q⟩ := q1
  subst ex
  cases r1 with
  | cons r rr =>
    cases rr with
    | cons r' rr =>
      cases rr
      cases r
      cases r'
      obtain ⟨its1, rv1, pl1, hx1⟩ := I1.list hqx
      obtain ⟨its2, rv2, pl2, _⟩ := I1.list hqy
      refine call_zip_2 pl1.isList pl2.isList fun h' hz hTI hTO h1 h2 hsz hk => ?_
      refine Calls.spliced_nil ?_
      have kp : ∀ c o, s1.heap.get? c = some o → h'.get? c = some o := hk
      have I2 : Inv X pins σ H1 { s1 with heap := h' } := I1.kept (t' := s1.toks) kp
      obtain ⟨o1, ho1, _⟩ := pl1.isList
      obtain ⟨o2, ho2, _⟩ := pl2.isList
      refine call_lz (PySem.W.ktu_apart s1.heap.objs.size la lb (Heap.lt_size ho1) (Heap.lt_size ho2)) (I2.ok.hd hc) hx1 I2 hqx hqy hz hTI ⟨_, _, hTO⟩ h1 h2 (fun c hcm => ?_) fun H' s' ts p J g n hl got => ⟨.ref p, _, J, rfl, q H' p ts g n hl got⟩
      have e' : c = s1.heap.objs.size + 4 ∨ c = s1.heap.objs.size + 2 ∨ c = s1.heap.objs.size + 3 ∨ c = s1.heap.objs.size ∨ c = s1.heap.objs.size + 1 := by simpa using hcm
      have hle : s1.heap.objs.size ≤ c := by
        rcases e' with z | z | z | z | z <;> (rw [z]; first | exact Nat.le_add_right _ _ | exact Nat.le_refl _)
      exact I1.fpOk hle (I1.hok.fresh hle)
/-- arguments kept -/
def ManyK (X : Cx) (F : Fx) (r : List V → Hp → VK → Prop) (fn : List DI.D → Option Rs) : Prop :=
  ∀ (P : Par F) (σ : St) (H : Hp) (M : Addr → Prop) (g : Ga) (s : Sd) (vs : List V) (ds : List DI.D) (z : Rs) (Q : VK), En P σ H g s M → RpL F.K F.c (hid H M) vs ds → fn ds = some z →
    (∀ u H' M', En P σ H' g s M' → Ex (hid H M) (hid H' M') → RsR P σ H' M' g u z → Q u H') → r vs H Q
abbrev sBiK (fn : List DI.D → Option Rs) (as : Ga → Sd → Out (List DI.D)) : Ga → Sd → Out Rs := sCall (fun ds g s => optR (fn ds) g s) as
theorem post_optR {P : Par F} {σ : St} {H : Hp} {M : Addr → Prop} {g : Ga} {s : Sd} {Q : VK} : ∀ {o : Option Rs}, PostG P W σ H M (RE P σ) Q (optR o g s) → ∃ z, o = some z ∧ ∀ u H' M', En P σ H' g s M' → Ex (hid H M) (hid H' M') → RsR P σ H' M' g u z → Q u H'
  | none, h => h.elim
  | some z, h => ⟨z, rfl, h⟩
theorem manyK_imp {r : List V → Hp → VK → Prop} {fn : List DI.D → Option Rs} {fs : Ga → Sd → Out (List DI.D)} (hf : ManyK X F r fn) : ∀ σ H Q, rdG F W RE (sBiK fn fs) σ H Q → (fun σ H Q => rdG F W RA fs σ H fun xs H1 => r xs H1 Q) σ H Q := by
  rintro σ H Q ⟨P, g, s, M, E, h⟩
  refine rdG.seq (R := RA) (R' := RE) (Q' := Q) E h fun vs ds H1 g1 s1 M1 E1 x1 rr h1 => ?_
  obtain ⟨z, e, h3⟩ := post_optR h1
  exact hf P σ H1 M1 g1 s1 vs ds z Q E1 rr e h3
theorem d_biK {id : String} {r : List V → Hp → VK → Prop} {fn : List DI.D → Option Rs} {fs : Ga → Sd → Out (List DI.D)} (hc : CallR X (.builtin id) r) (hf : ManyK X F r fn) (hg : Gl X x) (hm : X.mg x = none) (hv : bootBuiltins x = some (.builtin id)) (ha : PAd X F W (e :: es) fs)
    (hn : x ≠ "__name__") (hdb : (x == ("__debug__" : Str)) = false) (h1 : isStar e = false) (h2 : noStar es = true) : PEd X F W (.Call (.Name x p) (e :: es) [] pos) (sBiK fn fs) :=
  PE.imp (pe_callB hc hg hm hv ha hn hdb (star_cons h1) (star_any h2)) (manyK_imp hf)
theorem d_biKT {T : String} {r : List V → Hp → VK → Prop} {fn : List DI.D → Option Rs} {fs : Ga → Sd → Out (List DI.D)} (hc : CallR X (.type T) r) (hf : ManyK X F r fn) (hg : Gl X x) (hm : X.mg x = none) (hv : bootBuiltins x = some (.type T)) (ha : PAd X F W (e :: es) fs)
    (hn : x ≠ "__name__") (hdb : (x == ("__debug__" : Str)) = false) (h1 : isStar e = false) (h2 : noStar es = true) : PEd X F W (.Call (.Name x p) (e :: es) [] pos) (sBiK fn fs) :=
  PE.imp (pe_callTy hc hg hm hv ha hn hdb (star_cons h1) (star_any h2)) (manyK_imp hf)
/-! ### sum -/
def sumF : List DI.D → Option Rs
  | [.lst xs, .lst zs] => match lsts xs with
    | some yss => if lineOk (zs ++ yss.flatten).length then some (.fz (.lst (zs ++ yss.flatten))) else none
    | none => none
  | _ => none
theorem lsts_rp {K : PySem.W.Frag} {c : Addr} {G : Hp} : ∀ {xs : List DI.D} {dss : List (List DI.D)} {vs : List V}, RpL K c G vs xs → lsts xs = some dss → ∃ (ls : List Addr) (yss : List (List V)), vs = ls.map V.ref ∧ ls.length = yss.length ∧ (∀ (j : Nat) (l : Addr) (ys : List V), ls[j]? = some l → yss[j]? = some ys → G l = some (.lst ys)) ∧ RpL K c G yss.flatten dss.flatten
  | [], _, _, .nil, e => by cases e; exact ⟨[], [], rfl, rfl, fun j l ys h => by simp at h, .nil⟩
  | x :: xs, dss, _, .cons h t, e => by
    cases x with
    | lst ds =>
      have e : (lsts xs).map (ds :: ·) = some dss := e
      cases q : lsts xs with
      | none => rw [q] at e; cases e
      | some dss' =>
        rw [q] at e
        cases e
        obtain ⟨ls, yss, rfl, hl, hall, hr⟩ := lsts_rp t q
        cases h with
        | lst h1 h2 =>
          rename_i a vs
          refine ⟨a :: ls, vs :: yss, rfl, by simp [hl], fun j l ys e1 e2 => ?_, ?_⟩
          · cases j with
            | zero => cases e1; cases e2; exact h1
            | succ j => exact hall j l ys (by simpa using e1) (by simpa using e2)
          · rw [List.flatten_cons, List.flatten_cons]
            exact h2.append hr
    | _ => cases e
theorem manyK_sum : ManyK X F (fun xs H Q => ∃ (a b : Addr) (ls : List Addr) (yss : List (List V)) (zs : List V), xs = [.ref a, .ref b] ∧ SqL X.K H a (ls.map V.ref) ∧ ls.length = yss.length ∧
    (∀ (j : Nat) (l : Addr) (ys : List V), ls[j]? = some l → yss[j]? = some ys → H l = some (.lst ys)) ∧ H b = some (.lst zs) ∧ (zs ++ yss.flatten).length ≤ sizeLine ∧
    ∀ H' p, (∀ b o, H b = some o → H' b = some o) → H' p = some (.lst (zs ++ yss.flatten)) → (p = b ∨ H p = none) → Q (.ref p) H') sumF := by
  intro P σ H M g s vs ds z Q E h e k
  rcases ds with _ | ⟨d, _ | ⟨d', _ | ⟨d'', r⟩⟩⟩
  · cases e
  · cases d <;> cases e
  · cases d with
    | lst xs =>
      cases d' with
      | lst zs =>
        have e : (match lsts xs with | some yss => if lineOk (zs ++ yss.flatten).length then some (Rs.fz (.lst (zs ++ yss.flatten))) else none | none => none) = some z := e
        cases q : lsts xs with
        | none => rw [q] at e; cases e
        | some dss =>
          rw [q] at e
          have e : (if lineOk (zs ++ dss.flatten).length then some (Rs.fz (.lst (zs ++ dss.flatten))) else none) = some z := e
          by_cases c : lineOk (zs ++ dss.flatten).length = true
          · rw [if_pos c] at e
            cases e
            cases h with
            | cons h1 t =>
              cases t with
              | cons h2 t =>
                cases t
                cases h1 with
                | lst a1 a2 =>
                  cases h2 with
                  | lst b1 b2 =>
                    obtain ⟨ls, yss, rfl, hl, hall, hr⟩ := lsts_rp a2 q
                    have rr := b2.append hr
                    refine ⟨_, _, ls, yss, _, rfl, SqL.of (hid_some a1).2, hl, fun j l ys e1 e2 => (hid_some (hall j l ys e1 e2)).2, (hid_some b1).2, by rw [rr.length]; exact lineOk_le c, fun H' p g1 g2 g3 => ?_⟩
                    have np : ¬ M p := fun m => by
                      rcases g3 with z | z
                      · rw [z] at m; exact (hid_some b1).1 m
                      · exact E.ne m z
                    obtain ⟨E2, x2⟩ := E.after (H' := H') (s' := s) (fun b o e _ _ => g1 b o e) ⟨⟨E.stm.1, g1 _ _ E.stm.2.1, g1 _ _ E.stm.2.2⟩, tabs_keep E.wd.2 fun b o e _ => g1 b o e⟩
                    exact k _ H' M E2 x2 (.lst (by rw [hid_of np]; exact g2) (rr.mono x2))
          · rw [if_neg c] at e; cases e
      | _ => cases e
    | _ => cases e
  · cases d <;> first | cases e | (cases d' <;> cases e)
theorem w_sumL {fs : Ga → Sd → Out (List DI.D)} (hm : X.mg "sum" = none) (ha : PAd X F W [a, b] fs) (hc : X.calm = true := by rfl) (hg : Gl X "sum" := by rfl) (h1 : isStar a = false := by rfl) (h2 : noStar [b] = true := by rfl) : PEd X F W (.Call (.Name "sum" p) [a, b] [] pos) (sBiK sumF fs) :=
  d_biK (call_sumL hc) manyK_sum hg hm PyProof.Rows.boot_sum ha (by decide) (by decide) h1 h2
/-! ### dict([]), {} -/
def dictF : List DI.D → Option Rs
  | [.lst []] => some (.fz (.dic []))
  | _ => none
theorem En.newDic {P : Par F} {σ : St} {H : Hp} {M : Addr → Prop} {g : Ga} {s : Sd} (E : En P σ H g s M) {p : Addr} (hp : H p = none) : En P σ (upd H p (.dK [])) g s M ∧ Ex (hid H M) (hid (upd H p (.dK [])) M) ∧ Rp F.K F.c (hid (upd H p (.dK [])) M) (.ref p) (.dic []) := by
  obtain ⟨E2, x2, np⟩ := E.alloc hp (.dK [])
  exact ⟨E2, x2, .dic (by rw [hid_of np]; exact upd_same) .nil⟩
theorem manyK_dict : ManyK X F (fun xs H Q => ∃ (a : Addr) (ps : List Addr) (kvs : List (Key × V)), xs = [.ref a] ∧ SqL X.K H a (ps.map V.ref) ∧ Paired (fun p kv => SqT X.K H p [kV kv.1, kv.2]) ps kvs ∧ ∀ p, H p = none → Q (.ref p) (upd H p (.dK (mergeK [] kvs)))) dictF := by
  intro P σ H M g s vs ds z Q E h e k
  rcases ds with _ | ⟨d, _ | ⟨d', r⟩⟩
  · cases e
  · cases d with
    | lst xs =>
      cases xs with
      | cons _ _ => cases e
      | nil =>
        cases e
        cases h with
        | cons h1 t =>
          cases t
          cases h1 with
          | lst a1 a2 =>
            cases a2
            refine ⟨_, [], [], rfl, SqL.of (hid_some a1).2, .nil, fun p hp => ?_⟩
            obtain ⟨E2, x2, r2⟩ := En.newDic E hp
            exact k _ _ M E2 x2 r2
    | _ => cases e
  · cases d with
    | lst xs => cases xs <;> cases e
    | _ => cases e
theorem w_dictL {fs : Ga → Sd → Out (List DI.D)} (hm : X.mg "dict" = none) (ha : PAd X F W [a] fs) (hc : X.calm = true := by rfl) (hg : Gl X "dict" := by rfl) (h1 : isStar a = false := by rfl) : PEd X F W (.Call (.Name "dict" p) [a] [] pos) (sBiK dictF fs) :=
  d_biKT (call_dictP hc) manyK_dict hg hm PyProof.Rows.boot_dict ha (by decide) (by decide) h1 rfl
theorem w_dic0 : PEd X F W (.Dict [] [] pos) (sCon (.dic [])) := PE.imp pe_dnewK (by
  rintro σ H Q ⟨P, g, s, M, E, h⟩ p hp
  obtain ⟨E2, x2, r2⟩ := En.newDic E hp
  exact h _ _ M E2 x2 r2)
/-! ### repr -/
def reprF : List DI.D → Option Rs
  | [.lst xs] => match D.rd (.lst xs) with
    | some p => if p.showable && decide (p.shown.length ≤ sizeLine) && decide (p.depth ≤ 60) then some (.fz (.str p.shown)) else none
    | none => none
  | [.tup xs] => match D.rd (.tup xs) with
    | some p => if p.showable && decide (p.shown.length ≤ sizeLine) && decide (p.depth ≤ 60) then some (.fz (.str p.shown)) else none
    | none => none
  | _ => none
theorem reprF_one {ds : List DI.D} {z : Rs} (h : reprF ds = some z) : ∃ d p, ds = [d] ∧ ((∃ xs, d = .lst xs) ∨ ∃ xs, d = .tup xs) ∧ D.rd d = some p ∧ p.showable = true ∧ p.shown.length ≤ sizeLine ∧ p.depth ≤ 60 ∧ z = .fz (.str p.shown) := by
  have go : ∀ (o : Option PyData), (match o with | some p => if p.showable && decide (p.shown.length ≤ sizeLine) && decide (p.depth ≤ 60) then some (Rs.fz (.str p.shown)) else none | none => none) = some z → ∃ p, o = some p ∧ p.showable = true ∧ p.shown.length ≤ sizeLine ∧ p.depth ≤ 60 ∧ z = .fz (.str p.shown) := by
    intro o e
    cases o with
    | none => cases e
    | some p =>
      have e : (if p.showable && decide (p.shown.length ≤ sizeLine) && decide (p.depth ≤ 60) then some (Rs.fz (.str p.shown)) else none) = some z := e
      by_cases c : (p.showable && decide (p.shown.length ≤ sizeLine) && decide (p.depth ≤ 60)) = true
      · rw [if_pos c] at e
        cases e
        simp only [Bool.and_eq_true, decide_eq_true_eq] at c
        exact ⟨p, rfl, c.1.1, c.1.2, c.2, rfl⟩
      · rw [if_neg c] at e; cases e
  rcases ds with _ | ⟨d, _ | ⟨d', r⟩⟩
  · cases h
  · cases d with
    | lst xs => obtain ⟨p, e, h1, h2, h3, h4⟩ := go _ h; exact ⟨_, p, rfl, .inl ⟨xs, rfl⟩, e, h1, h2, h3, h4⟩
    | tup xs => obtain ⟨p, e, h1, h2, h3, h4⟩ := go _ h; exact ⟨_, p, rfl, .inr ⟨xs, rfl⟩, e, h1, h2, h3, h4⟩
    | _ => cases h
  · cases d <;> cases h
theorem manyK_repr (hK : X.K = F.K) : ManyK X F (fun xs H Q => ∃ (c : Addr) (v : V) (d : DI.D) (p : PyData), xs = [v] ∧ Rp X.K c H v d ∧ D.rd d = some p ∧ ((∃ ds, d = .lst ds) ∨ ∃ ds, d = .tup ds) ∧ p.showable = true ∧ p.shown.length ≤ sizeLine ∧ p.depth ≤ 60 ∧ Q (.str p.shown) H) reprF := by
  intro P σ H M g s vs ds z Q E h e k
  obtain ⟨d, p, rfl, hd, e1, h1, h2, h3, rfl⟩ := reprF_one e
  cases h with
  | cons r t =>
    cases t
    exact ⟨F.c, _, d, p, rfl, by rw [hK]; exact r.mono (hid_ex H M), e1, hd, h1, h2, h3, k _ H M E (Ex.refl _) (.str _)⟩
theorem w_repr {k : Nat} {fs : Ga → Sd → Out (List DI.D)} (hr : Room k X.A) (hgs : X.A.guards = some []) (hK : X.K = F.K) (hm : X.mg "repr" = none) (ha : PAd X F W [a] fs) (hg : Gl X "repr" := by rfl) (h1 : isStar a = false := by rfl) : PEd X F W (.Call (.Name "repr" p) [a] [] pos) (sBiK reprF fs) :=
  d_biK (call_repr_rp hgs (by have := hr.un; omega)) (manyK_repr hK) hg hm PyProof.Rows.boot_repr ha (by decide) (by decide) h1 rfl
/-! ### list(zip) -/
abbrev sLz (as : Ga → Sd → Out (List DI.D)) : Ga → Sd → Out Rs := sBiK (fun ds => (zipF ds).map .nw) as
theorem got_rp {K : PySem.W.Frag} {c : Addr} {G H : Hp} {M : Addr → Prop} (hn : ∀ t, G t = none → ¬ M t) (x : Ex (hid G M) (hid H M)) : ∀ {ds es : List DI.D} {xs ys : List V} {ts : List Addr}, RpL K c (hid G M) xs ds → RpL K c (hid G M) ys es → ts.length = min xs.length ys.length → Got G H xs ys ts → RpL K c (hid H M) (ts.map V.ref) (zipD ds es)
  | [], _, _, _, ts, .nil, r2, hl, _ => by
    have : ts = [] := List.eq_nil_of_length_eq_zero (by simpa using hl)
    rw [this]; exact .nil
  | _ :: _, [], _, _, ts, .cons _ _, .nil, hl, _ => by
    have : ts = [] := List.eq_nil_of_length_eq_zero (by simpa using hl)
    rw [this]; exact .nil
  | d :: ds, e :: es, v :: xs, w :: ys, ts, .cons h1 t1, .cons h2 t2, hl, got => by
    cases ts with
    | nil => simp at hl
    | cons t ts =>
      obtain ⟨x', y', q1, q2, q3, q4⟩ := got 0 t rfl
      cases q1; cases q2
      refine .cons (.tup (.inl (.inl (by rw [hid_of (hn t q4)]; exact q3))) (.cons (h1.mono x) (.cons (h2.mono x) .nil))) (got_rp hn x t1 t2 (by simp at hl; omega) fun j t' ej => ?_)
      obtain ⟨x', y', a1, a2, a3, a4⟩ := got (j + 1) t' (by simpa using ej)
      exact ⟨x', y', by simpa using a1, by simpa using a2, a3, a4⟩
theorem w_listzip {fs : Ga → Sd → Out (List DI.D)} (hK : X.K = F.K) (hm : X.mg "list" = none) (hm2 : X.mg "zip" = none) (ha : PAd X F W [a, b] fs) (hc : X.calm = true := by rfl) (hg : Gl X "list" := by rfl) (hg2 : Gl X "zip" := by rfl)
    (hs : starEach [a, b] X.env = (false, eval a X.env) :: starEach [b] X.env := by rfl) (hpl : (backTo pos2 (starEach [b] X.env)).any (·.1) = false := by rfl) :
    PEd X F W (.Call (.Name "list" p) [.Call (.Name "zip" p2) [a, b] [] pos2] [] pos) (sLz fs) := PE.imp (pe_listzip hc hg hm hg2 hm2 ha hs hpl) (by
  rintro σ H Q ⟨P, g, s, M, E, h⟩
  refine rdG.seq (R := RA) (R' := RE) (Q' := Q) E h fun vs ds H1 g1 s1 M1 E1 x1 rr h1 => ?_
  obtain ⟨z, e, h3⟩ := post_optR h1
  have e : (zipF ds).map Rs.nw = some z := e
  cases q : zipF ds with
  | none => rw [q] at e; cases e
  | some zs =>
    rw [q] at e
    cases e
    rcases ds with _ | ⟨d, _ | ⟨d', _ | ⟨d'', r⟩⟩⟩
    · cases q
    · cases d <;> cases q
    · cases d with
      | lst xs =>
        cases d' with
        | lst ys =>
          cases q
          cases rr with
          | cons r1 t =>
            cases t with
            | cons r2 t =>
              cases t
              cases r1 with
              | lst a1 a2 =>
                cases r2 with
                | lst b1 b2 =>
                  refine ⟨_, _, _, _, rfl, SqL.of (hid_some a1).2, SqL.of (hid_some b1).2, fun H' p ts g1' n hl got => ?_⟩
                  obtain ⟨E2, x2⟩ := E1.after (H' := H') (s' := s1) (fun b o e _ _ => g1' b o e) ⟨⟨E1.stm.1, g1' _ _ E1.stm.2.1, g1' _ _ E1.stm.2.2⟩, tabs_keep E1.wd.2 fun b o e _ => g1' b o e⟩
                  have rz := got_rp (K := F.K) (c := F.c) (M := M1) (fun t ht m => E1.ne m ht) x2 a2 b2 hl got
                  obtain ⟨E3, x3, r3⟩ := E2.nwList n rz
                  exact h3 _ _ _ E3 (x2.trans x3) r3
        | _ => cases q
      | _ => cases q
    · cases d <;> first | cases q | (cases d' <;> cases q))
end
end DI
end
section
set_option Elab.async false
set_option linter.all false
set_option maxRecDepth 100000
set_option maxHeartbeats 1000000
/-! DIGuard: defs that ask for repr: promised where no repr is under way. -/
namespace DI
open PySem L2
/-- the promise of a def, where no repr is under way -/
structure FnG (P : Program) (w : World) (K : PySem.W.Frag) (mg : Str → Option Value) (base : Heap) (CX : CXT) (k : Nat) (f : Addr) (fd : FuncData) (ps : List Str) (sp : Sp) : Prop where
  len : ∀ vs H Q E, sp vs H Q E → vs.length = ps.length
  run : ∀ (A : Around) (outer : List PySem.Env) (s : Shared) (H : Hp) (args : Args) (us : List Value) (vs : List V) (Q : VK) (E : XK), Room k A → A.guards = some [] → Env0 P w K mg base A outer s H → BindsTo s fd args (ps.zip us) → Vals vs us → sp vs H Q E →
    codeAny (model P w) A (.call (.ref f) args) (CR CX outer P w H s Q E) s
section
variable {P : Program} {w : World} {K : PySem.W.Frag} {mg : Str → Option Value} {base : Heap}
theorem FnG.mono {CX : CXT} {j k : Nat} {f : Addr} {fd : FuncData} {ps : List Str} {sp : Sp} (G : FnG P w K mg base CX j f fd ps sp) (h : j ≤ k) : FnG P w K mg base CX k f fd ps sp := ⟨G.len, fun A outer s H args us vs Q E hr => G.run A outer s H args us vs Q E (hr.mono h)⟩
theorem FnG.of {CX : CXT} {k : Nat} {f : Addr} {fd : FuncData} {ps : List Str} {sp : Sp} (G : FnOk P w K mg base CX k f fd ps sp) : FnG P w K mg base CX k f fd ps sp := ⟨G.len, fun A outer s H args us vs Q E hr _ => G.run A outer s H args us vs Q E hr⟩
theorem fnG_of {CX : CXT} {k : Nat} {f : Addr} {name qual : Str} {params : Arguments} {body : List Stmt} {scope : Scope} {dV kV doc pm cdv ct oc : Value} {an od : Option Addr}
    {osl : Array (Option Value)} {N ps : List Str} {sp : Sp} (lk : K.lookup f = some ⟨oc, od, .func (PySem.W.fnOf name qual params body scope dV kV doc pm an cdv ct), osl⟩) (hcd : PySem.W.codeIn K cdv qual = true) (S : FnScope N ps scope)
    (len : ∀ vs H Q E, sp vs H Q E → vs.length = ps.length)
    (hbody : ∀ (A : Around) (outer : List PySem.Env) (s : Shared) (H : Hp) (vs : List V) (Q : VK) (E : XK), Room k (A.deeper (PyProof.Rows.envOfC qual scope s.heap.objs.size f cdv)) → A.guards = some [] → sp vs H Q E →
      ∃ t, PSs (cxOf CX P w K mg base N qual scope f cdv A outer s H E) body t ∧ t { nx := fun _ H' => Q .non H', rt := Q } (L2.start N vs) H) :
    FnG P w K mg base CX (k + 1) f (PySem.W.fnOf name qual params body scope dV kV doc pm an cdv ct) ps sp := by
  refine ⟨len, fun A outer s H args us vs Q E hr hg e0 hb r hsp => ?_⟩
  have hl := len _ _ _ _ hsp
  have KX : K.In s.heap := e0.mod.kin.keeps fun b o e => (e0.bs b o e).1
  have lim : s.heap.NoLimit := e0.mod.nolimit.keeps fun b o e => (e0.bs b o e).1
  have hkind : ∀ y ∈ ps.zip us, scope.names.lookup y.1 = some .local ∨ (scope.names.lookup y.1 = some .cell ∧ ((cellsFrom (s.heap.objs.size + 1) scope.names []).lookup y.1).isSome = true) := fun y hy => by
    rcases S.par y.1 (List.of_mem_zip hy).1 with q | q
    · exact .inl q
    · exact .inr ⟨q, PySem.W.cellsFrom_some _ _ _ (.inl q)⟩
  refine codeAny_call_function hr.depth (KX _ _ lk) rfl S.co S.gen rfl (PySem.W.codeRec_of KX hcd) (hb _ _ _ _ ?_)
  refine wpAny_newFunctionEnv_cells S.kind hkind fun env he s1 x => ?_
  subst he
  refine ⟨lim.keeps x.toInCall.keep, codeAny_func ?_⟩
  obtain ⟨t, ht, hq⟩ := hbody A outer s H vs Q E (hr.deeper _) hg hsp
  have I : Inv (cxOf CX P w K mg base N qual scope f cdv A outer s H E) [] (L2.start N vs) H s1 := inv_start S hr.hd e0 hl r x
  refine wpAny_mono (ht.run [] s1 (L2.start N vs) H _ I hq) (fun fl s' hs => ?_) fun e s' hs => hs
  have fin : ∀ {σ' : St} {H' : Hp} {v : V} {u : Value}, Inv (cxOf CX P w K mg base N qual scope f cdv A outer s H E) [] σ' H' s' → RelV v u → Q v H' → CE outer P w H s Q u s' :=
    fun {σ' H' v u} J rv q => ⟨v, H', J.os, J.bare, J.base, J.hok, rv, q⟩
  cases fl with
  | ret u =>
    obtain ⟨v, σ', H', J, rv, q⟩ := hs
    exact fin J rv q
  | next =>
    obtain ⟨σ', H', J, q⟩ := hs
    exact fin (v := V.non) (u := Value.none) J rfl q
  | brk =>
    obtain ⟨_, _, _, q⟩ := hs
    exact False.elim q
  | cont =>
    obtain ⟨_, _, _, q⟩ := hs
    exact False.elim q
theorem fn_defG {F : Fx} {x qual : Str} {st : Stmt} {f : Addr} {fd : FuncData} {N ps : List Str} {k : Nat} {b : Ga → Sd → Out DI.Flow} (Fn : Fun K x qual st f fd) (S : FnScope N ps (defScope st)) (hn : ps.length ≤ N.length)
    (hb : ∀ (cdv : Value) (A : Around) (outer : List PySem.Env) (s : Shared) (H : Hp) (E : XK), Room k (A.deeper (PyProof.Rows.envOfC qual (defScope st) s.heap.objs.size f cdv)) → A.guards = some [] → PSsd (cxOf (L2.CX P w) P w K mg base N qual (defScope st) f cdv A outer s H E) F (fun c d _ H => E c d H) (defBody st) b) :
    FnG P w K mg base (L2.CX P w) (k + 1) f fd ps (spF F ps.length (fnOf ps.length N.length b)) := by
  obtain ⟨oc, od, kV, doc, pm, an, cdv, ct, osl, rfl, lk, hcd⟩ := Fn.ex
  exact fnG_of lk hcd S (fun vs H Q E h => h.1) fun A outer s H vs Q E hr hg h => ⟨_, hb cdv A outer s H E hr hg, body_ok hn h⟩
end
section
variable {X : Cx} {F : Fx} {W : WX} {e : Expr} {es : List Expr} {p pos : Pos} {x : Str} {k : Nat}
theorem pe_callG {CX : CXT} {f : Addr} {fd : FuncData} {ps : List Str} {sp : Sp} {E : St → XK} {t : TA} (G : FnG X.prog X.w X.K X.mg X.base CX k f fd ps sp) (hr : Room k X.A) (hgs : X.A.guards = some []) (hg : Gl X x) (hm : X.mg x = some (.ref f)) (hk : PySem.W.keepIn X.K (.ref f) = true) (hb : Binds X.K fd ps []) (hx : ∀ σ, PassesAt CX X σ (E σ))
    (ha : PA X (e :: es) t) (hdb : (x == ("__debug__" : Str)) = false) (he : starEach (e :: es) X.env = (false, eval e X.env) :: starEach es X.env) (hpl : (backTo pos (starEach es X.env)).any (·.1) = false) :
    PE X (.Call (.Name x p) (e :: es) [] pos) (tCallS sp E t) := by
  refine ⟨fun pins s σ H Q I h => ?_⟩
  refine wpAny_Call_Name_kw (ld_glob I hg hm ?_ hdb)
  refine PySem.W.callWith_K (h₀ := X.base) I.ok.mod.kin hk (L2.thn (ha.run pos pins s σ H _ I h) fun us s1 ⟨vs, H1, I1, r, q⟩ => ⟨I1.kIn, ?_⟩) he hpl
  have hl : us.length = ps.length := by rw [← r.length]; exact G.len _ _ _ _ q
  have b := hb s1 us I1.kIn (by rw [List.append_nil]; exact hl)
  rw [List.append_nil] at b
  refine wpAny_call (codeAny_mono (G.run X.A X.stack s1 H1 ⟨us, []⟩ us vs Q (E σ) hr hgs I1.env0 b r q) fun r s' hq => ?_)
  cases r with
  | error e => exact hx σ pins H1 s1 e s' I1 hq
  | ok fl =>
    cases fl with
    | ret u => exact I1.after hq
    | next => exact False.elim hq
    | brk => exact False.elim hq
    | cont => exact False.elim hq
theorem w_callG {n j : Nat} {ψ : List DI.D → Sd → FOut} {fs : Ga → Sd → Out (List DI.D)} {ff : Addr} {fd : FuncData} {ps : List Str} (Fn : FnG X.prog X.w X.K X.mg X.base (L2.CX X.prog X.w) k ff fd ps (spF F n ψ)) (hψ : ∀ ds s, ds.length ≠ n → ψ ds s = .bad) (hr : Room j X.A) (hgs : X.A.guards = some []) (hm : X.mg x = some (.ref ff))
    (hk : PySem.W.keepIn X.K (.ref ff) = true) (hb : Binds X.K fd ps []) (tk : Takes X W) (ha : PAd X F W (e :: es) fs) (hj : k ≤ j := by decide) (hg : Gl X x := by rfl) (hdb : (x == ("__debug__" : Str)) = false := by decide) (h1 : isStar e = false := by rfl) (h2 : noStar es = true := by rfl) :
    PEd X F W (.Call (.Name x p) (e :: es) [] pos) (sCall (callG ψ) fs) :=
  PE.imp (pe_callG Fn (hr.mono hj) hgs hg hm hk hb (passAt tk) ha hdb (star_cons h1) (star_any h2)) (by
    rintro σ H Q ⟨P, g, s, M, E, h⟩
    refine rdG.seq (R := RA) (R' := RE) (Q' := Q) E h fun vs ds H1 g1 s1 M1 E1 x1 r1 h1 => ?_
    have post := call_post (ψ := ψ) E1 h1
    have hl : ds.length = n := Decidable.byContradiction fun z => by rw [hψ ds s1 z] at post; exact post
    exact ⟨by rw [RpL.length r1, hl], ds, s1, M1, fun b z => E1.m0 b (P.m0 b z), E1.al, E1.wd, r1, post⟩)
end
end DI
end
section
set_option Elab.async false
set_option linter.all false
set_option maxRecDepth 100000
set_option maxHeartbeats 1000000
/-! DIEnd: the law's call, from a promise that holds where no repr is under way. -/
namespace DI
open PySem L2 PySem.Spec PyProof.Rows
theorem law_callG {P : Program} {w : World} {K : PySem.W.Frag} {mg mb : Str → Option Value} {CX : CXT} {k : Nat} {fa a : Addr} {fd : FuncData} {x : Str} {sp : Sp} {s₁ : Shared} {vs : List Value} {ns : List Int}
    (KX : K.In s₁.heap) (hns : s₁.heap.Ns mainGlobals mg) (hb : s₁.heap.Ns builtinsNs mb) (hbb : ∀ x : Str, x ≠ "__name__" → mb x = bootBuiltins x) (hlim : s₁.heap.NoLimit) (hg : s₁.gens = #[])
    (ha : s₁.heap.get? a = some { cls := .type "list", data := .seq vs.toArray }) (hi : IntsAre vs ns) (hl : ns.length ≤ sizeLine) (hr : Room k callerA)
    (G : ∀ base : Heap, K.In base → base.Ns mainGlobals mg → FnG P w K mg base CX k fa fd [x] sp) (hbind : ∀ (s : Shared) (u : Value), BindsTo s fd ⟨[u], []⟩ [(x, u)])
    (hsp : ∀ H : Hp, SqL K H a (ns.map V.int) → sp [.ref a] H (fun v _ => v = .bl true) fun _ _ _ => False)
    (hCX : ∀ H e s', CX [] H s₁ (fun _ _ _ => False) e s' → False) :
    codeAny (model P w) callerA (.call (.ref fa) ⟨[.ref a], []⟩) (fun r s' => r = .ok (.ret (.bool true)) ∧ OldK s₁.heap s'.heap ∧ s'.os = s₁.os ∧ AllBare s'.gens) s₁ := by
  have rv := vals_ints hi
  have lenV := hi.length
  -- either the script is the module's own list, or it alone is tracked
  obtain ⟨H, hO, hS, hok, hA, hK⟩ : ∃ H : Hp, Only H ∧ SqL K H a (ns.map V.int) ∧ HOk P w H s₁.heap ∧ (∀ b, H b ≠ none → b = a) ∧ (H a ≠ none → K.lookup a = none) := by
    cases hk : K.lookup a with
    | some o =>
      have e := KX a o hk
      rw [ha] at e
      cases e
      exact ⟨fun _ => none, fun _ => .inl rfl, .inr ⟨_, vs.toArray, _, hk, rfl, rfl, rfl, by rw [List.size_toArray, lenV]; exact hl, by simpa using rv⟩, (fun b u z => by have z' : (none : Option HO) = some u := z; cases z'), fun b z => absurd rfl z, fun z => absurd rfl z⟩
    | none =>
      refine ⟨fun b => if b = a then some (.frz { cls := .type "list", data := .seq vs.toArray } (.lst (ns.map V.int))) else none, fun b => ?_, .inl (.inr ⟨{ cls := .type "list", data := .seq vs.toArray }, if_pos rfl⟩), fun b u z => ?_, fun b z => ?_, fun _ => rfl⟩
      · by_cases hb : b = a
        · exact .inr ⟨_, _, if_pos hb⟩
        · exact .inl (if_neg hb)
      · by_cases hb : b = a
        · have z' := (if_pos hb).symm.trans z
          cases z'
          subst hb
          exact ⟨ha, by rw [List.length_map]; exact hl, vs, _, rv, ha⟩
        · have z' := (if_neg hb).symm.trans z
          cases z'
      · by_cases hb : b = a
        · exact hb
        · exact absurd (if_neg hb) z
  have at_a : ∀ {b : Addr}, H b ≠ none → b = a := fun {b} z => hA b z
  have base_of : ∀ {b : Addr} {o : Obj}, s₁.heap.get? b = some o → H b = none → (hidT s₁.heap H).get? b = some o := fun e n => hidT_get e n
  have nsK : ∀ {b : Addr} {m : Str → Option Value}, s₁.heap.Ns b m → (hidT s₁.heap H).Ns b m := fun {b m} ⟨o, es, ep, e, d, r⟩ => ⟨o, es, ep, base_of e (by
    cases q : H b with
    | none => rfl
    | some u =>
      have e' := at_a (b := b) (by rw [q]; simp)
      subst e'
      rw [ha] at e; cases e
      have d' : Data.seq vs.toArray _ = Data.dict es ep := d
      cases d'), d, r⟩
  have hKb : K.In (hidT s₁.heap H) := fun b o e => base_of (KX b o e) (by
    cases q : H b with
    | none => rfl
    | some u =>
      have e' := at_a (b := b) (by rw [q]; simp)
      subst e'
      rw [hK (by rw [q]; simp)] at e; cases e)
  have hM : Mod K mg (hidT s₁.heap H) := ⟨hKb, nsK hns, ⟨mb, nsK hb, hbb⟩, let ⟨mc, h1, h2⟩ := hlim; ⟨mc, nsK h1, h2⟩⟩
  have e0 : Env0 P w K mg (hidT s₁.heap H) callerA [] s₁ H := ⟨rfl, hM, fun b o e => of_hidT e, Nat.le_of_eq (hidT_size _ _), trivial, fun b hb => absurd (show b ∈ ([] : List Addr) from hb) (by simp), hok, .of_eq hg⟩
  refine codeAny_mono ((G _ hKb (nsK hns)).run callerA [] s₁ H ⟨[.ref a], []⟩ [.ref a] [.ref a] _ _ hr rfl e0 (hbind s₁ (.ref a)) (.cons rfl .nil) (hsp H hS)) fun r s' h => ?_
  cases r with
  | error e => exact (hCX H e s' h).elim
  | ok fl =>
    cases fl with
    | next => exact False.elim h
    | brk => exact False.elim h
    | cont => exact False.elim h
    | ret u =>
      obtain ⟨v, H', os, bare, un, hok', r', q⟩ := h
      have q' : v = .bl true := q
      subst q'
      obtain rfl : u = Value.bool true := r'
      refine ⟨rfl, OldK.of_keep fun b o e => ?_, os, bare⟩
      cases q : H b with
      | none => exact un.keep b o e q (by intro z; exact absurd (show b ∈ ([] : List Addr) from z) (by simp)) (by simp)
      | some u =>
        rcases hO b with z | ⟨ob, xs, z⟩
        · rw [q] at z; cases z
        · have z2 := un.frzs b ob _ z
          obtain ⟨e1, _⟩ := hok b _ z
          obtain ⟨e2, _⟩ := hok' b _ z2
          rw [e] at e1; cases e1
          exact e2
theorem walk_ofG {l : PySem.W.OpenLaw} {n k : Nat} {q : Program} {loose : List Str} {XP : (Str → Option Value) → Heap → Prop} {YP : World → Heap → Prop} {d : DefRec} {K : Params → PySem.W.Frag} {CX : World → CXT} {sp : World → Sp} {x : Str}
    (hn : l.most = some n) (hn2 : n ≤ sizeLine) (hdf : d.params.defaults = []) (hr : Room k callerA)
    (hY : ∀ (w : World) (h : Heap), YP w h → (K w.params).In h)
    (G : ∀ (w : World) (mg : Str → Option Value) (fa : Addr) (h : Heap), (K w.params).In h → h.Ns mainGlobals mg → mg d.name = some (.ref fa) →
      ∃ fd : FuncData, (∀ (s : Shared) (u : Value), BindsTo s fd ⟨[u], []⟩ [(x, u)]) ∧
        ∀ base : Heap, (K w.params).In base → base.Ns mainGlobals mg → FnG l.prog w (K w.params) mg base (CX w) k fa fd [x] (sp w))
    (hsp : ∀ (w : World) (H : Hp) (a : Addr) (ns : List Int), ns.length ≤ n → SqL (K w.params) H a (ns.map V.int) → sp w [.ref a] H (fun v _ => v = .bl true) fun _ _ _ => False)
    (hCX : ∀ (w : World) (H : Hp) (s : Shared) (e : Value) (s' : Shared), CX w [] H s (fun _ _ _ => False) e s' → False) :
    PySem.W.WalkO q loose XP YP l.row.toRowW d [] (fun f vs => PySem.call f vs) := by
  refine Att.attach_call hn hdf fun w s₀ s₁ mg mb fa o pm cd doc a vs ns Gr Y ho hd hcd hmg hobj hints hlen hg => ?_
  have KX := hY w _ Y
  obtain ⟨fd, hb, hF⟩ := G w mg fa _ KX Gr.T.g hmg
  exact law_callG KX Gr.T.g Gr.T.b Gr.T.builtins Gr.T.nolimit hg hobj hints (Nat.le_trans hlen hn2) hr hF hb (fun H hS => hsp w H a ns hlen hS) fun H e s' => hCX w H s₁ e s'
/-- an error of the class at S is what «except S» names -/
theorem exm_self {K : PySem.W.Frag} {S : Addr} (h1 : PySem.W.subIn K (.ref S) (.type "BaseException") = some true) (h2 : PySem.W.isClsIn K S = true) (h3 : PySem.W.typeIn K (.ref S) = some (.type "type")) (h4 : PySem.W.subIn K (.ref S) (.ref S) = some true) :
    PySem.W.exmOne K (.ref S) (.ref S) = some true := by
  have e1 : (PySem.W.subIn K (.ref S) (.type "BaseException") == some true) = true := by rw [h1] <;> rfl
  have e2 : ((PySem.W.clsIn K S).isSome && PySem.W.typeIn K (.ref S) == some (.type "type")) = true := by
    have h2' : (PySem.W.clsIn K S).isSome = true := h2
    rw [h2', h3] <;> rfl
  show (if (PySem.W.subIn K (.ref S) (.type "BaseException") == some true) = true then (if ((PySem.W.clsIn K S).isSome && PySem.W.typeIn K (.ref S) == some (.type "type")) = true then PySem.W.subIn K (.ref S) (.ref S) else none) else none) = some true
  rw [if_pos e1, if_pos e2]
  exact h4
/-- one of many readings -/
theorem pss_ex {ι : Type} {X : Cx} {sts : List Stmt} {t : ι → TS} (h : ∀ i, PSs X sts (t i)) : PSs X sts (fun D σ H => ∃ i, t i D σ H) := ⟨fun pins s σ H D I ⟨i, q⟩ => (h i).run pins s σ H D I q⟩
/-- the spring is made -/
def spStart (K : PySem.W.Frag) : Sp := fun vs H Q _ => ∃ (a : Addr) (ns : List Int), vs = [.ref a] ∧ SqL K H a (ns.map V.int) ∧ ∀ H' c k, (∀ b o, H b = some o → H' b = some o) → Strm H' c k ⟨ns, 0, 0, 19⟩ → Q (.ref c) H'
def spLaw (K : PySem.W.Frag) (T : List (Addr × Str)) : Sp := fun vs H Q _ => ∃ (a : Addr) (ns : List Int), vs = [.ref a] ∧ SqL K H a (ns.map V.int) ∧ ns.length ≤ 63 ∧ LamX.Tabs T H ∧ ∀ H', Q (.bl true) H'
end DI
end
section
set_option Elab.async false
set_option linter.all false
set_option maxRecDepth 100000
set_option maxHeartbeats 1000000
/-! DILend: own lists lent to a def that hands back a scalar. -/
namespace DI
open PySem L2
def scalD : DI.D → Bool
  | .non => true
  | .bl _ => true
  | .int _ => true
  | .str _ => true
  | _ => false
def callL (ψ : List DI.D → Sd → FOut) (ds : List DI.D) (g : Ga) (s : Sd) : Out Rs := match ψ ds s with
  | .ok d false s' => if scalD d then .ok (.fz d) g s' else .bad
  | _ => .bad
def lent (ψ : List DI.D → Sd → FOut) (g : Ga) (s : Sd) : Option (List DI.D) → Out Rs
  | some ds => callL ψ ds g s
  | none => .bad
def sCallL (ψ : List DI.D → Sd → FOut) (as : Ga → Sd → Out (List Rs)) : Ga → Sd → Out Rs := fun g s => (as g s).bind fun rs g1 s1 => lent ψ g1 s1 (peeks g1 rs)
section
variable {F : Fx} {P : Par F} {W : WX} {σ : St} {H : Hp} {g : Ga} {s : Sd} {M : Addr → Prop} {X : Cx} {e : Expr} {es : List Expr} {p pos : Pos} {x : Str} {k : Nat}
theorem En.open (E : En P σ H g s M) : Ex (hid H M) (hid H P.M0) := Ex.hidE fun b o m e _ => ⟨fun z => m (E.m0 b z), e⟩
theorem RsR.lend {v : V} {r : Rs} {d : DI.D} (E : En P σ H g s M) (h : RsR P σ H M g v r) (e : peek g r = some d) : Rp F.K F.c (hid H P.M0) v d := by
  cases r with
  | fz d' => cases e; exact Rp.mono E.open h
  | nw xs =>
    cases e
    obtain ⟨a, vs, h1, h2, h3, h4, h5, _⟩ := h
    rw [h1]
    exact .lst (by rw [hid_of h3]; exact h4) (h5.mono E.open)
  | nt o => cases e
  | sl i =>
    have h : σ[i]? = some (some v) := h
    have e : peekS g[i]? = some d := e
    cases q : g[i]? with
    | none => rw [q] at e; cases e
    | some l =>
      rw [q] at e
      cases l with
      | un => cases e
      | ot o => cases e
      | fz d' =>
        cases e
        obtain ⟨v', h1, h2⟩ := E.fz i _ q
        rw [h] at h1; cases h1
        exact h2.mono E.open
      | ow xs =>
        cases e
        obtain ⟨a, vs, h1, h2, h3, h4, h5⟩ := E.ow i _ q
        rw [h] at h1; cases h1
        exact .lst (by rw [hid_of h3]; exact h4) (h5.mono E.open)
theorem RsL.lend (E : En P σ H g s M) : ∀ {vs : List V} {rs : List Rs} {ds : List DI.D}, RsL P σ H M g vs rs → peeks g rs = some ds → RpL F.K F.c (hid H P.M0) vs ds
  | _, _, ds, .nil, e => by cases e; exact .nil
  | _, _, ds, .cons (r := r) (rs := rs) h n t, e => by
    have e : (match peek g r, peeks g rs with | some d, some ds => some (d :: ds) | _, _ => none) = some ds := e
    cases q : peek g r with
    | none => rw [q] at e; cases e
    | some d =>
      cases q2 : peeks g rs with
      | none => rw [q, q2] at e; cases e
      | some ds' =>
        rw [q, q2] at e
        cases e
        exact .cons (h.lend E q) (RsL.lend E t q2)
theorem rp_scal {K : PySem.W.Frag} {c : Addr} {G G' : Hp} {v : V} {d : DI.D} (h : Rp K c G v d) (q : scalD d = true) : Rp K c G' v d := by
  cases h <;> first | exact .non | exact .bl _ | exact .int _ | exact .str _ | cases q
theorem w_callL {n j : Nat} {ψ : List DI.D → Sd → FOut} {fs : Ga → Sd → Out (List Rs)} {ff : Addr} {fd : FuncData} {ps : List Str} (Fn : FnOk X.prog X.w X.K X.mg X.base (L2.CX X.prog X.w) k ff fd ps (spF F n ψ)) (hψ : ∀ ds s, ds.length ≠ n → ψ ds s = .bad) (hr : Room j X.A) (hm : X.mg x = some (.ref ff))
    (hk : PySem.W.keepIn X.K (.ref ff) = true) (hb : Binds X.K fd ps []) (tk : Takes X W) (ha : PLd X F W (e :: es) fs) (hj : k ≤ j := by decide) (hg : Gl X x := by rfl) (hdb : (x == ("__debug__" : Str)) = false := by decide) (h1 : isStar e = false := by rfl) (h2 : noStar es = true := by rfl) :
    PEd X F W (.Call (.Name x p) (e :: es) [] pos) (sCallL ψ fs) :=
  PE.imp (pe_callS Fn (hr.mono hj) hg hm hk hb (passAt tk) ha hdb (star_cons h1) (star_any h2)) (by
    rintro σ H Q ⟨P, g, s, M, E, h⟩
    refine rdG.seq (R := RL) (R' := RE) (Q' := Q) E h fun vs rs H1 g1 s1 M1 E1 x1 r1 h1 => ?_
    have h1 : PostG P W σ H1 M1 (RE P σ) Q (lent ψ g1 s1 (peeks g1 rs)) := h1
    cases q : peeks g1 rs with
    | none => rw [q] at h1; exact h1.elim
    | some ds =>
      rw [q] at h1
      have h1 : PostG P W σ H1 M1 (RE P σ) Q (match ψ ds s1 with | .ok d false s' => if scalD d then .ok (.fz d) g1 s' else .bad | _ => .bad) := h1
      have rr := RsL.lend E1 r1 q
      have post : PostF F P.M0 H1 Q (WE W σ) (ψ ds s1) := by
        cases o : ψ ds s1 with
        | bad => rw [o] at h1; exact h1
        | ex c d s' => rw [o] at h1; exact h1.elim
        | okT t s' => rw [o] at h1; exact h1.elim
        | ok d fr s' =>
          rw [o] at h1
          cases fr with
          | true => exact h1.elim
          | false =>
            have h1 : PostG P W σ H1 M1 (RE P σ) Q (if scalD d then .ok (.fz d) g1 s' else .bad) := h1
            by_cases c : scalD d = true
            · rw [if_pos c] at h1
              intro v H' fr st r
              obtain ⟨E2, x2⟩ := E1.after fr st
              exact h1 v H' M1 E2 x2 (rp_scal r c)
            · rw [if_neg c] at h1; exact h1.elim
      have hl : ds.length = n := Decidable.byContradiction fun z => by rw [hψ ds s1 z] at post; exact post
      exact ⟨by rw [RpL.length rr, hl], ds, s1, P.M0, P.m0, fun a m => E1.al a (E1.m0 a m), E1.wd, rr, post⟩)
end
end DI
end
section
set_option Elab.async false
set_option linter.all false
set_option maxRecDepth 100000
set_option maxHeartbeats 1000000
/-! DIX: more words: int, max, min, calls of nothing, stars, dicts with written keys, their items. -/
namespace DI
open PySem L2
section
variable {F : Fx} {P : Par F} {W : WX} {σ : St} {H : Hp} {g : Ga} {s : Sd} {M : Addr → Prop} {X : Cx} {e a b : Expr} {es : List Expr} {f fa fb : Ga → Sd → Out Rs} {p p2 pos : Pos} {k : Nat} {x : Str}
theorem w_max (hm : X.mg "max" = none) (ha : PEd X F W a fa) (hb : PEd X F W b fb) (hc : X.calm = true := by rfl) (hg : Gl X "max" := by rfl) (hs : isStar a = false := by rfl) (hs2 : isStar b = false := by rfl) : PEd X F W (.Call (.Name "max" p) [a, b] [] pos) (sBi (biF .max2) (lCons fa (lCons fb lNil))) :=
  d_bi (call_max2 hc) many_max2 hg hm PyProof.Rows.boot_max (dl_cons ha (dl_cons hb dl_nil hs2) hs) (by decide) (by decide) hs (by simp [noStar, hs2])
theorem w_intC (hm : X.mg "int" = none) (ha : PEd X F W a fa) (hg : Gl X "int" := by rfl) (hs : isStar a = false := by rfl) : PEd X F W (.Call (.Name "int" p) [a] [] pos) (sBi (biF .int) (lCons fa lNil)) :=
  d_biT call_int1 many_int hg hm PyProof.Rows.boot_int (dl_cons ha dl_nil hs) (by decide) (by decide) hs rfl
theorem w_call0 {n j : Nat} {ψ : List DI.D → Sd → FOut} {ff : Addr} {fd : FuncData} {ps : List Str} (Fn : FnOk X.prog X.w X.K X.mg X.base (L2.CX X.prog X.w) k ff fd ps (spF F n ψ)) (hψ : ∀ ds s, ds.length ≠ n → ψ ds s = .bad) (hr : Room j X.A) (hm : X.mg x = some (.ref ff))
    (hk : PySem.W.keepIn X.K (.ref ff) = true) (hb : Binds X.K fd ps []) (tk : Takes X W) (hj : k ≤ j := by decide) (hg : Gl X x := by rfl) (hdb : (x == ("__debug__" : Str)) = false := by decide) :
    PEd X F W (.Call (.Name x p) [] [] pos) (sCall (callG ψ) aNil) := by
  refine ⟨fun pins s σ H Q I h => ?_⟩
  refine wpAny_Call_Name_kw (ld_glob I hg hm ?_ hdb)
  obtain ⟨P, g, sd, M, E, h⟩ := h
  have h : PostG P W σ H M (RE P σ) Q (callG ψ [] g sd) := h
  have post := call_post (ψ := ψ) (ds := []) E h
  have hl : ([] : List DI.D).length = n := Decidable.byContradiction fun z => by rw [hψ [] sd z] at post; exact post
  exact PySem.W.callWith_K0 I.kIn hk (run_fnSD (us := []) (vs := []) (dvs := []) (E := fun σ => WE W σ) Fn (hr.mono hj) hb .nil (passAt tk σ) I .nil ⟨hl, [], sd, M, fun b z => E.m0 b (P.m0 b z), E.al, E.wd, .nil, post⟩)
/-- [*a, ..], (*a, ..) -/
def seqA : DI.D → Option (List DI.D)
  | .lst xs => some xs
  | .tup xs => some xs
  | _ => none
def aStar (f : Ga → Sd → Out Rs) (as : Ga → Sd → Out (List DI.D)) : Ga → Sd → Out (List DI.D) := fun g s =>
  (f g s).keep.bind fun d g1 s1 => match seqA d with
    | some xs => (as g1 s1).bind fun ds g2 s2 => .ok (xs ++ ds) g2 s2
    | none => .bad
theorem a_star {fr : Ga → Sd → Out (List DI.D)} (hK : X.K = F.K) (ha : PEd X F W e f) (hr : PAd X F W es fr) : PAd X F W (.Starred e p :: es) (aStar f fr) :=
  PA.imp (StX.pa_star ha.keep hr) (by
    rintro σ H Q ⟨P, g, s, M, E, h⟩
    refine rdG.seq (R := RD) (R' := RA) (Q' := Q) E h fun v d H1 g1 s1 M1 E1 x1 r1 h1 => ?_
    rw [hK]
    cases r1 with
    | lst k1 k2 =>
      obtain ⟨nm, k1⟩ := hid_some k1
      refine ⟨_, _, rfl, .inr (SqL.of k1), ?_⟩
      refine rdG.seq (R := RA) (R' := RA) (Q' := Q) E1 h1 fun ws es H2 g2 s2 M2 E2 x2 r2 h2 => ?_
      exact h2 _ H2 M2 E2 (Ex.refl _) ((k2.mono x2).append r2)
    | tup k1 k2 =>
      refine ⟨_, _, rfl, .inl ((hid_ex H1 M1).sqT k1), ?_⟩
      refine rdG.seq (R := RA) (R' := RA) (Q' := Q) E1 h1 fun ws es H2 g2 s2 M2 E2 x2 r2 h2 => ?_
      exact h2 _ H2 M2 E2 (Ex.refl _) ((k2.mono x2).append r2)
    | _ => exact h1.elim)
/-- list(d.items()) -/
def keyD : Key → DI.D
  | .inl i => .int i
  | .inr x => .str x
def itemsF : DI.D → Option Rs
  | .dic kvs => some (.nw (kvs.map fun q => .tup [keyD q.1, q.2]))
  | _ => none
theorem RpK.length {K : PySem.W.Frag} {c : Addr} {H : Hp} : ∀ {vs : List (Key × V)} {ds : List (Key × DI.D)}, RpK K c H vs ds → vs.length = ds.length
  | _, _, .nil => rfl
  | _, _, .cons _ t => by rw [List.length_cons, List.length_cons, RpK.length t]
theorem kV_rp {K : PySem.W.Frag} {c : Addr} {H : Hp} (k : Key) : Rp K c H (kV k) (keyD k) := by
  cases k with
  | inl i => exact .int i
  | inr x => exact .str x
theorem w_items {apos cpos lp : Pos} (hm : X.mg "list" = none) (ha : PEd X F W a fa) (hc : X.calm = true := by rfl) (hg : Gl X "list" := by rfl) (hbase : attributeBase a "items" X.env (eval a X.env) = eval a X.env := by rfl) (hline : (apos.endLine == cpos.line) = true := by rfl) : PEd X F W (.Call (.Name "list" lp) [.Call (.Attribute a "items" apos) [] [] cpos] [] pos) (sOne itemsF fa) :=
  PE.imp (LiI.pe_listItems hc ha.settle hg hm PyProof.Rows.boot_list hbase (hline := hline)) (by
    rintro σ H Q ⟨P, g, s, M, E, h⟩
    refine rdG.seq (R := RS) (R' := RE) (Q' := Q) E h fun v r H1 g1 s1 M1 E1 x1 ⟨rr, n1⟩ h1 => ?_
    obtain ⟨d, z, p1, p3, h3⟩ := post_one h1
    have pk := rr.pk E1 p1
    cases d with
    | dic ks =>
      cases p3
      obtain ⟨da, kvs, rfl, hd, hr⟩ : ∃ da kvs, v = .ref da ∧ hid H1 M1 da = some (.dK kvs) ∧ RpK F.K F.c (hid H1 M1) kvs ks := by
        rcases pk with q | ⟨_, _, _, q, _⟩
        · cases q with
          | dic q1 q2 => exact ⟨_, _, rfl, q1, q2⟩
        · cases q
      refine ⟨da, kvs, rfl, (hid_some hd).2, fun H' q ts k1 k2 k3 k4 k5 k6 => ?_⟩
      -- the pairs are data, the list is new
      have nc : ∀ b, H1 b = none → ¬ M1 b := fun b e m => E1.ne m e
      have fr : Frm F H1 H' := fun b o e _ _ => k1 b o e
      have wd : Wd F H' s1 := ⟨⟨E1.stm.1, k1 _ _ E1.stm.2.1, k1 _ _ E1.stm.2.2⟩, tabs_keep E1.wd.2 fun b o e _ => k1 b o e⟩
      obtain ⟨E2, x2, np, no⟩ := E1.afterNew fr wd (.of k2) (nc q k2) k5
      have items : ∀ {ts : List Addr} {kvs : List (Key × V)} {ks : List (Key × DI.D)}, (∀ t ∈ ts, H1 t = none) → q ∉ ts → Paired (fun (t : Addr) (p : Key × V) => H' t = some (.tup [kV p.1, p.2])) ts kvs → RpK F.K F.c (hid H1 M1) kvs ks → RpL F.K F.c (hid H' (fun b => M1 b ∨ b = q)) (ts.map V.ref) (ks.map fun p => .tup [keyD p.1, p.2]) := by
        intro ts
        induction ts with
        | nil => intro kvs ks _ _ pr hr; cases pr; cases hr; exact .nil
        | cons t ts ih =>
          intro kvs ks hn hq pr hr
          cases pr with
          | cons p1 p2 =>
            cases hr with
            | cons r1 r2 =>
              have nt : ¬ (M1 t ∨ t = q) := fun z => z.elim (nc t (hn t List.mem_cons_self)) fun z => hq (by rw [← z]; exact List.mem_cons_self)
              exact .cons (.tup (SqT.of (by rw [hid_of nt]; exact p1)) (.cons (kV_rp _) (.cons (r1.mono x2) .nil))) (ih (fun b hb => hn b (List.mem_cons_of_mem _ hb)) (fun z => hq (List.mem_cons_of_mem _ z)) p2 r2)
      exact h3 _ H' _ E2 x2 ⟨q, _, rfl, .inr rfl, np, k5, items k3 k4 k6 hr, no⟩
    | _ => cases p3)
/-- {k: v} with a written key -/
def sDic1 (k : Key) (f : Ga → Sd → Out Rs) : Ga → Sd → Out Rs := fun g s => (f g s).keep.bind fun d g1 s1 => .ok (.fz (.dic [(k, d)])) g1 s1
theorem w_dic1 {kx : Expr} (k : Key) (hk : PE X kx (tC (kV k))) (ha : PEd X F W a fa) : PEd X F W (.Dict [some kx] [a] pos) (sDic1 k fa) :=
  PE.imp (pe_disp (pps_cons hk ha.keep pps_nil) (by rfl) rfl (by simp) (by simp)) (by
    rintro σ H Q ⟨P, g, s, M, E, h⟩
    intro q hq
    obtain ⟨E1, x1, no, n0, h0⟩ := E.own hq (.dK [])
    have e0 : upd H q (.dK []) q = some (.dK []) := upd_same
    refine ⟨P.hold q (upd H q (.dK [])), g, s, _, E1.hold (.inr rfl) n0 no, ?_⟩
    have h : PostG P W σ (upd H q (.dK [])) (fun b => M b ∨ b = q) (RE P σ) Q ((fa g s).keep.bind fun d g1 s1 => .ok (.fz (.dic [(k, d)])) g1 s1) := PostG.mono x1 h
    show PostG (P.hold q (upd H q (.dK []))) W σ (upd H q (.dK [])) (fun b => M b ∨ b = q) (RD (P.hold q (upd H q (.dK []))) σ) _ ((fa g s).keep)
    cases o : (fa g s).keep with
    | bad => rw [o] at h; exact h.elim
    | ex c d g1 s1 =>
      rw [o] at h
      exact fun cv dx H' M' E' e r => h cv dx H' M' (E'.unhold n0 h0 e0).1 e r
    | ok d g1 s1 =>
      rw [o] at h
      have h : ∀ v H' M', En P σ H' g1 s1 M' → Ex (hid (upd H q (.dK [])) (fun b => M b ∨ b = q)) (hid H' M') → Rp F.K F.c (hid H' M') v (.dic [(k, d)]) → Q v H' := h
      intro y H2 M2 E2 x2 r2
      obtain ⟨E3, m3, e3, no3⟩ := E2.unhold n0 h0 e0
      refine ⟨e3, [(k, y)], rfl, by simp, ?_⟩
      have em : mergeK [] [(k, y)] = [(k, y)] := rfl
      rw [em]
      obtain ⟨E4, hh, hf⟩ := E3.write m3 n0 e3 rfl no3 (.dK [(k, y)])
      obtain ⟨E5, x5⟩ := E4.free n0 fun i z => no3 i (by rw [← hf i]; exact z)
      refine h _ _ _ E5 (x2.trans (by rw [← hh]; exact x5)) (.dic (by rw [hid_of fun z => z.2 rfl]; exact upd_same) (.cons (Rp.mono x5 (by rw [hh]; exact r2)) .nil)))
/-- x[n].append(c) where x holds a tuple of lists of its own; x is not read behind it -/
def sPApp (i : Nat) (n : Int) : Ga → Sd → Out Rs := fun g s => match g[i]? with
  | some (.ot (.tup os)) => match (ixN os.length n).bind fun k => os[k]? with
    | some (.lst xs) => if xs.length < sizeLine then .ok (.fz .non) (g.set i .un) s else .bad
    | _ => .bad
  | _ => .bad
theorem RoL.get {K : PySem.W.Frag} {c : Addr} {H : Hp} {M : Addr → Prop} : ∀ {vs : List V} {os : List O} {k : Nat} {o : O}, RoL K c H M vs os → os[k]? = some o → ∃ v, vs[k]? = some v ∧ Ro K c H M v o ∧ ∀ a ∈ fp H o v, a ∈ fpL H os vs
  | _, _, k, _, .nil, e => by simp at e
  | _, _, 0, _, .cons (v := v) (vs := vs) (os := os) h _, e => by
    simp at e; subst e
    exact ⟨_, by simp, h, fun a ha => List.mem_append_left _ ha⟩
  | _, _, k + 1, o, .cons (v := v) (vs := vs) (o := o') (os := os) _ t, e => by
    obtain ⟨u, h1, h2, h3⟩ := RoL.get (k := k) (o := o) t (by simpa using e)
    exact ⟨u, by simpa using h1, h2, fun a ha => List.mem_append_right _ (h3 a ha)⟩
theorem w_papp {ce : Expr} {cv : V} {n : Int} {jn : Nat} {apos p3 : Pos} (i : Nat) (hK : X.K = F.K) (hcv : PE X ce (tC cv)) (hN : X.N[i]? = some x := by rfl) (hv : Vis X.env.scope x := by first | exact Or.inl rfl | exact Or.inr (Or.inl rfl) | exact Or.inr (Or.inr rfl)) (hd : (x == ("__debug__" : Str)) = false := by decide) (hcd : (x == ("__classdict__" : Str)) = false := by decide) (hline : (apos.endLine == pos.line) = true := by rfl)
    (hfew : ((backTo pos (starEach [ce] X.env)).all (fun x => !x.1) && (backToKw pos (keywordEach [] X.env)).all (fun x => x.1.isSome) && decide ([ce].length + ([] : List Keyword).length + (if ([] : List Keyword).isEmpty then 0 else 1) < 30)) = true := by rfl) (h1 : isStar ce = false := by rfl) :
    PEd X F W (.Call (.Attribute (.Subscript (.Name x p) (.Constant (.int n) jn p2) p3) "append" apos) [ce] [] pos) (sPApp i n) :=
  PE.imp (pe_bm PySem.F.plainAttrs_list PySem.F.slot_list_append PySem.F.type_list_append mt_append (pe_ix ix_seq (pe_var hN hv hd hcd) pe_int (fun _ _ => rfl)) (pa_cons hcv pa_nil (star_cons h1)) rfl hfew hline (star_cons h1) rfl) (by
    rintro σ H Q ⟨P, g, s, M, E, h⟩
    have h : PostG P W σ H M (RE P σ) Q (match g[i]? with
      | some (.ot (.tup os)) => match (ixN os.length n).bind fun k => os[k]? with
        | some (.lst xs) => if xs.length < sizeLine then .ok (.fz .non) (g.set i .un) s else .bad
        | _ => .bad
      | _ => .bad) := h
    cases q : g[i]? with
    | none => rw [q] at h; exact h.elim
    | some l =>
      rw [q] at h
      cases l with
      | un => exact h.elim
      | fz d => exact h.elim
      | ow xs => exact h.elim
      | ot o =>
        cases o with
        | fz d => exact h.elim
        | lst xs => exact h.elim
        | tup os =>
          have hi : i < g.length := (List.getElem?_eq_some_iff.mp q).1
          obtain ⟨v, e1, r, f, nd, m⟩ := E.tree q rfl
          cases r with
          | tup ha hl =>
            rename_i a vs
            have h : PostG P W σ H M (RE P σ) Q (match (ixN os.length n).bind fun k => os[k]? with
              | some (.lst xs) => if xs.length < sizeLine then .ok (.fz .non) (g.set i .un) s else .bad
              | _ => .bad) := h
            cases q2 : ixN os.length n with
            | none => rw [q2] at h; exact h.elim
            | some k =>
              rw [q2] at h
              have h : PostG P W σ H M (RE P σ) Q (match os[k]? with
                | some (.lst xs) => if xs.length < sizeLine then .ok (.fz .non) (g.set i .un) s else .bad
                | _ => .bad) := h
              cases q3 : os[k]? with
              | none => rw [q3] at h; exact h.elim
              | some o =>
                rw [q3] at h
                cases o with
                | fz d => exact h.elim
                | tup xs => exact h.elim
                | lst xs =>
                  have h : PostG P W σ H M (RE P σ) Q (if xs.length < sizeLine then .ok (.fz .non) (g.set i .un) s else .bad) := h
                  by_cases z : xs.length < sizeLine
                  · rw [if_pos z] at h
                    obtain ⟨u, u1, u2, u3⟩ := hl.get q3
                    cases u2 with
                    | lst hb hbl =>
                      rename_i b us
                      have mb : b ∈ fp H (.tup os) (.ref a) := by
                        rw [fp_tup os (hid_some ha).2]
                        exact u3 b (by rw [fp_lst xs hb]; exact List.mem_cons_self)
                      have E1 := E.drop (l := .un) hi rfl fun d z => by cases z
                      have no := E.dropped (l := .un) hi rfl (by rw [f]; exact mb)
                      have at1 : atI vs n = some (.ref b) := by
                        unfold L2.atI
                        rw [RoL.length hl, q2]
                        exact u1
                      refine ⟨_, e1, .inr (.inl ⟨a, vs, n, .ref b, rfl, rfl, by rw [hK]; exact SqT.of (hid_some ha).2, at1, ?_⟩)⟩
                      refine ⟨.inl ⟨rfl, us, SqL.of hb⟩, b, us, cv, rfl, rfl, hb, by rw [RoL.length hbl]; exact z, ?_⟩
                      obtain ⟨E2, hh, _⟩ := E1.write (m b mb).1 (m b mb).2 hb rfl no (.lst (us ++ [cv]))
                      exact h .non _ M E2 (by rw [hh]; exact Ex.refl _) .non
                  · rw [if_neg z] at h; exact h.elim)
end
end DI
end
section
set_option Elab.async false
set_option linter.all false
set_option maxRecDepth 100000
set_option maxHeartbeats 2000000
/-! DITry: several clauses «except C as n», n the same name in each. -/
namespace DI
open PySem PySem.Spec PyProof.Rows L2
/-- what the clauses wish of an error, one after the other -/
def wAll (K : PySem.W.Frag) (i : Nat) (Wout : WX) (D : Ends) : List (Value × (Addr → Value → Option Addr → TS)) → WX
  | [] => Wout
  | (c, ts) :: r => wAs K c i ts (wAll K i Wout D r) D
inductive ClsOk (X : Cx) (n : Str) : List ExceptHandler → List (Value × (Addr → Value → Option Addr → TS)) → Prop
  | nil : ClsOk X n [] []
  | cons {x : Str} {c : Value} {ts : Addr → Value → Option Addr → TS} {st : Stmt} {su : List Stmt} {p1 p2 : Pos} {hds : List ExceptHandler} {l : List (Value × (Addr → Value → Option Addr → TS))} (nm : Names X x c)
      (run : ∀ (a : Addr) (oe : Obj) (cls : Value) (d : Option Addr) (pn : List (Addr × Obj)), Zc cls d oe → (∃ vs, oe.data = .fields vs) → PSs (X.suite a ((a, oe) :: pn)) (st :: su) (ts a cls d)) (more : ClsOk X n hds l) :
      ClsOk X n (.ExceptHandler (some (.Name x p1)) (some n) (st :: su) p2 :: hds) ((c, ts) :: l)
section
variable {X : Cx} {n : Str} {i : Nat} {body : List Stmt} {hd0 : ExceptHandler} {hds : List ExceptHandler} {l : List (Value × (Addr → Value → Option Addr → TS))} {pos : Pos} {tb : WX → TS} {Wout : WX}
theorem ps_tries (hs : X.stack = X.env :: X.outer) (hf : X.env.frame = some X.env.locals) (hN : X.N.Nodup) (hi : X.N[i]? = some n) (hln : X.env.kindOf n = some .local) (tk : Takes X Wout)
    (hb : ∀ (W : WX) (pn : List (Addr × Obj)) (xe : Value → Shared → Prop), Takes (X.tr pn xe) W → PassesOwn (model X.prog X.w) X.A X.env xe → PSs (X.tr pn xe) body (tb W))
    (ok1 : ClsOk X n (hd0 :: hds) l) : PS X (.Try body (hd0 :: hds) [] [] pos) (fun D σ H => tb (wAll X.K i Wout D l) D σ H) := by
  refine ⟨fun pins s σ H D I h => wpAny_Try_except ?_⟩
  have okX := I.ok
  have frX : X.A.frames = some (X.env :: X.outer) := by rw [okX.frames, hs]
  refine wpAny_mono ((hb (wAll X.K i Wout D l) (X.pn ++ pins) (fun e s₁ => wpAny (model X.prog X.w) X.A (noteFrame e X.env) (fun _ s₂ => wpAny (model X.prog X.w) X.A (setFlight e none) (fun _ s₃ =>
    wpAny (model X.prog X.w) X.A (handleBy e X.env (hd0 :: hds)) (SP X pins D) X.xe s₃) X.xe s₂) X.xe s₁) (fun u s' xx => ?caught) PassesOwn.looking).run [] s σ H D (I.toTry _) h) (fun f s1 done => ?went) (fun e s1 he => he)
  case went =>
    cases f with
    | next => obtain ⟨σ1, H1, J, q⟩ := done; exact wpAny_execs_nil ⟨σ1, H1, J.ofTry okX, q⟩
    | brk => obtain ⟨σ1, H1, J, q⟩ := done; exact ⟨σ1, H1, J.ofTry okX, q⟩
    | cont => obtain ⟨σ1, H1, J, q⟩ := done; exact ⟨σ1, H1, J.ofTry okX, q⟩
    | ret u => obtain ⟨v, σ1, H1, J, r, q⟩ := done; exact ⟨v, σ1, H1, J.ofTry okX, r, q⟩
  case caught =>
    obtain ⟨a, B, sI, pins', σ', H', cls, d, rfl, J', nb, up, sky, na, os, ag, wish⟩ := xx
    have J := J'.ofTry okX
    show wpAny (model X.prog X.w) X.A (noteFrame (.ref a) X.env) _ _ _
    refine Sky.land Zc.steady frX hf (by rw [← hs]; exact sky) fun h3 fl3 up3 => ?_
    have J3 : Inv X pins σ' H' { s' with heap := h3 } := J.landed nb fl3.1 (up.trans up3) os ag
    obtain ⟨o3, v3, g3, z3, d3⟩ := fl3.there
    have far : a ∉ frs (X.env :: X.outer) := fun hm => by
      obtain ⟨_, o', e', hn⟩ := fl3.2.2.1.mem hm
      rw [g3] at e'; cases e'
      exact hn _ d3
    have farL : a ≠ X.env.locals := fun z => far (List.mem_filterMap.mpr ⟨X.env, List.mem_cons_self, by rw [hf, z]⟩)
    have farF : a ∉ X.fs := fun hm => by
      obtain ⟨e, he, q⟩ := List.mem_filterMap.mp hm
      exact far (List.mem_filterMap.mpr ⟨e, List.mem_cons_of_mem _ he, q⟩)
    have S3 := J3.suite g3 d3 na farL farF
    have LT : PySem.W.Looks (model X.prog X.w) h3 (typeOf (.ref a)) cls := fun A Q E s k q => wpAny_typeOf_ref (k _ _ g3) (by rw [z3.1]; exact q)
    suffices go : ∀ {hs2 : List ExceptHandler} {l2 : List (Value × (Addr → Value → Option Addr → TS))}, ClsOk X n hs2 l2 → wAll X.K i Wout D l2 cls d σ' H' →
        wpAny (model X.prog X.w) X.A (handleBy (.ref a) X.env hs2) (SP X pins D) X.xe { s' with heap := h3 } from go ok1 wish
    intro hs2 l2 hk
    induction hk with
    | nil =>
      intro w
      refine wpAny_handleBy_nil ?_
      obtain ⟨_, _, _, _, _, T, _, _, he, _, hd, h1, _⟩ := id fl3
      unfold PySem.passOn
      refine wpAny_bind (wpAny_field he hd h1 ?_)
      rw [if_neg (show ¬ ((Value.ref T == Value.none) = true) from by simp)]
      have away : wpAny (model X.prog X.w) X.A (setFlight (.ref a) X.env.frame) (fun _ s4 => wpAny (model X.prog X.w) X.A (throw (.ref a) : Sem PySem.Flow) (SP X pins D) X.xe s4) X.xe { s' with heap := h3 } := by
        rw [hf]
        refine HandSPX.setFlight_upZ fl3 fun h4 hh4 up4 => wpAny_throw (tk _ _ ⟨a, B, sI, pins, σ', H', cls, d, rfl, J, nb, (up.trans up3).trans up4, .inr (.inr (by rw [hs]; exact hh4)), na, os, ag, w⟩)
      first
        | exact wpAny_bind (wpAny_pure (wpAny_bind away))
        | exact wpAny_bind away
    | @cons x c ts st su p1 p2 hds2 l3 nm run more ih =>
      intro w
      obtain ⟨b, hb1, hyes, hno⟩ := w
      refine wpAny_handleBy_cons (codeAny_handlers_test ?_) (by intro q; cases q)
      have named : ∀ {Q : Value → Shared → Prop} {E : Value → Shared → Prop}, Q c { s' with heap := h3 } → wpAny (model X.prog X.w) (X.A.mark (some (.ref a))) (eval (.Name x p1) X.env) Q E { s' with heap := h3 } := fun {Q E} q => by
        obtain ⟨hg, hdbg, hm | ⟨hm, hv, hnn⟩⟩ := nm
        · exact ld_glob (X := X.suite a ((a, o3) :: (X.pn ++ pins))) S3 hg hm q hdbg
        · exact ld_blt (X := X.suite a ((a, o3) :: (X.pn ++ pins))) S3 hg hm hv q hnn hdbg
      refine named ((PySem.W.exm_one (M := model X.prog X.w) J3.kIn LT hb1).here ?_)
      cases b with
      | false => exact ih (hno rfl)
      | true =>
        refine codeAny_handlers_suite_as (HandSPX.lands_againZ fl3 fun h4 fl4 up4 => ?_)
        have J4 : Inv X pins σ' H' { s' with heap := h4 } := J.landed nb fl4.1 ((up.trans up3).trans up4) os ag
        obtain ⟨o4, v4, g4, z4, d4⟩ := fl4.there
        have S4 := J4.suite g4 d4 na farL farF
        refine store_ok (X := X.suite a ((a, o4) :: (X.pn ++ pins))) (v := .ref a) S4 hN hi (.inl hln) rfl (fun s5 S5 => ?_) (.inr hln)
        refine wpAny_mono ((run a o4 cls d (X.pn ++ pins) z4 ⟨_, d4⟩).run [] s5 _ H' _ S5 (hyes rfl a na)) (fun f s6 hsp => ?_) (fun _ _ z => False.elim z)
        have out : ∀ {σ6 : L2.St} {H6 : Hp} {Q : Shared → Prop}, Inv (X.suite a ((a, o4) :: (X.pn ++ pins))) [] σ6 H6 s6 → (∀ s7, Inv X pins (σ6.set i none) H6 s7 → Q s7) →
            wpAny (model X.prog X.w) X.A (do bindName X.env n .none; unbindBehindTheSuite X.env n p2) (fun _ s7 => Q s7) X.xe s6 := fun S6 hq => gone_ok (S6.unsuite okX) hN hi hln hq
        cases f with
        | next => obtain ⟨_, _, S6, q6⟩ := hsp; exact out S6 fun s7 J7 => ⟨_, _, J7, q6⟩
        | brk => obtain ⟨_, _, S6, q6⟩ := hsp; exact out S6 fun s7 J7 => ⟨_, _, J7, q6⟩
        | cont => obtain ⟨_, _, S6, q6⟩ := hsp; exact out S6 fun s7 J7 => ⟨_, _, J7, q6⟩
        | ret u => obtain ⟨_, _, _, S6, r6, q6⟩ := hsp; exact out S6 fun s7 J7 => ⟨_, _, _, J7, r6, q6⟩
end
end DI
end
section
set_option Elab.async false
set_option linter.all false
set_option maxRecDepth 100000
set_option maxHeartbeats 1000000
/-! DIEnumZip: enumerate(zip(a, b)), both lists. -/
namespace DI
open PySem PySem.Spec L2
/-- the zip object, in whatever state -/
abbrev ZB (h : Heap) (z TI TO : Addr) (f0 : Value) (b : Bool) : Prop :=
  h.get? z = some { cls := .type "zip", dict := none, data := .fields #[f0, .bool b, .bool false, .ref TI, .ref TO], slots := #[] }
def ZA (h : Heap) (z TI TO : Addr) : Prop := ∃ f0 b, ZB h z TI TO f0 b ∧ (f0 = .none ∨ ∃ T : Addr, f0 = rawInt T)
section
variable {prog : Program} {w : World} {A : Around} {E : Value → Shared → Prop} {s : Shared}
theorem zip_next_free {z TI TO i1 i2 l1 l2 : Addr} {f0 : Value} {bb : Bool} {k1 k2 : Nat} {xs ys : Array Value} {x y a b : Value} {Q : Value → Shared → Prop} (D : ZipApart z TI TO i1 i2 l1 l2)
    (hfree : ∀ Q : Bool → Shared → Prop, Q true s → wpAny (model prog w) A (Builtin.SmallTypes.ownedTupleIsFree (.ref z)) Q E s)
    (hz : ZB s.heap z TI TO f0 bb) (hTI : IsPair s.heap TI (.ref i1) (.ref i2)) (hTO : IsPair s.heap TO a b)
    (h1 : s.heap.IsListIter i1 l1 k1) (h2 : s.heap.IsListIter i2 l2 k2) (hl1 : s.heap.IsList l1 xs) (hl2 : s.heap.IsList l2 ys) (hx : xs[k1]? = some x) (hy : ys[k2]? = some y)
    (hQ : ∀ h', ZB h' z TI TO (rawInt s.heap.objs.size) false → IsPair h' TO x y → h'.IsListIter i1 l1 (k1 + 1) → h'.IsListIter i2 l2 (k2 + 1) → IsPair h' s.heap.objs.size x y → h'.objs.size = s.heap.objs.size + 1 →
      (∀ c o, c ≠ z → c ≠ TO → c ≠ i1 → c ≠ i2 → s.heap.get? c = some o → h'.get? c = some o) → Q (.ref s.heap.objs.size) { s with heap := h' }) :
    wpAny (model prog w) A (Builtin.«zip.__next__» ⟨[.ref z], []⟩) (fun fin s' => ∃ v, fin = .done (.ret v) ∧ Q v s') E s := by
  show wpAny _ _ (field (.ref z) 2 >>= _) _ _ _
  refine wpAny_bind (wpAny_field hz rfl (x := .bool false) rfl ?_)
  show wpAny _ _ (field (.ref z) 3 >>= _) _ _ _
  refine wpAny_bind (wpAny_field hz rfl (x := .ref TI) rfl ?_)
  refine wpAny_bind (wpAny_seqItems hTI rfl ?_)
  show wpAny _ _ (Builtin.SmallTypes.ownedTupleIsFree (.ref z) >>= _) _ _ _
  refine wpAny_bind (hfree _ ?_)
  simp only [if_true]
  refine wpAny_bind (wpAny_rule ?_)
  refine wpAny_bind (wpAny_field hz rfl (x := .ref TO) rfl ?_)
  refine wpAny_bind (wpAny_setField_rec hz (by simp) fun h₁ hz₁ hs₁ => ?_)
  replace hz₁ : ZB h₁ z TI TO .ellipsis bb := hz₁
  refine wpAny_bind ?_
  simp only [List.zipIdx_cons, List.zipIdx_nil, List.forIn_cons, List.forIn_nil]
  refine wpAny_bind (wpAny_bind (wpAny_onRaise ?_))
  show wpAny _ _ (Builtin.SmallTypes.nextOf (.ref i1) >>= _) _ _ _
  refine wpAny_bind (wpAny_nextOf_list_item (h1.extBut hs₁.extBut D.i1z) (hl1.extBut hs₁.extBut D.l1z) hx fun h₂ h1₂ hs₂ => wpAny_pure ?_)
  have hTO₂ : IsPair h₂ TO a b := hs₂.extBut _ _ D.TOi1 (hs₁.extBut _ _ D.TOz hTO)
  refine wpAny_bind (wpAny_seqItems hTO₂ rfl ?_)
  refine wpAny_bind (wpAny_updateSeq_pair hTO₂ fun h₃ hTO₃ hs₃ => ?_)
  replace hTO₃ : IsPair h₃ TO x b := hTO₃
  refine wpAny_bind (wpAny_letGo (wpAny_pure ?_))
  refine wpAny_bind (wpAny_bind (wpAny_onRaise ?_))
  show wpAny _ _ (Builtin.SmallTypes.nextOf (.ref i2) >>= _) _ _ _
  refine wpAny_bind (wpAny_nextOf_list_item (((h2.extBut hs₁.extBut D.i2z).extBut hs₂.extBut D.i12.symm).extBut hs₃.extBut D.TOi2.symm)
    (((hl2.extBut hs₁.extBut D.l2z).extBut hs₂.extBut D.l2i1).extBut hs₃.extBut D.l2TO) hy fun h₄ h2₄ hs₄ => wpAny_pure ?_)
  have hTO₄ : IsPair h₄ TO x b := hs₄.extBut _ _ D.TOi2 hTO₃
  refine wpAny_bind (wpAny_seqItems hTO₄ rfl ?_)
  refine wpAny_bind (wpAny_updateSeq_pair hTO₄ fun h₅ hTO₅ hs₅ => ?_)
  replace hTO₅ : IsPair h₅ TO x y := hTO₅
  refine wpAny_bind (wpAny_letGo (wpAny_pure (wpAny_pure ?_)))
  refine wpAny_bind (wpAny_seqItems hTO₅ rfl ?_)
  refine wpAny_bind (wpAny_newTuple ?_)
  have hsz : h₅.objs.size = s.heap.objs.size := by rw [hs₅.1, hs₄.1, hs₃.1, hs₂.1, hs₁.1]
  have hz₅ : ZB h₅ z TI TO .ellipsis bb := hs₅.extBut _ _ D.TOz.symm (hs₄.extBut _ _ D.i2z.symm (hs₃.extBut _ _ D.TOz.symm (hs₂.extBut _ _ D.i1z.symm hz₁)))
  have hk₅ : ∀ c o, c ≠ z → c ≠ TO → c ≠ i1 → c ≠ i2 → s.heap.get? c = some o → h₅.get? c = some o := fun c o c1 c2 c3 c4 e =>
    hs₅.extBut _ _ c2 (hs₄.extBut _ _ c4 (hs₃.extBut _ _ c2 (hs₂.extBut _ _ c3 (hs₁.extBut _ _ c1 e))))
  have h1₅ : h₅.IsListIter i1 l1 (k1 + 1) := ((h1₂.extBut hs₃.extBut D.TOi1.symm).extBut hs₄.extBut D.i12).extBut hs₅.extBut D.TOi1.symm
  have h2₅ : h₅.IsListIter i2 l2 (k2 + 1) := h2₄.extBut hs₅.extBut D.TOi2.symm
  have hzlt : z < h₅.objs.size := Heap.lt_size hz₅
  show wpAny _ _ (Builtin.SmallTypes.ownedTupleHandOut (.ref z) (.ref h₅.objs.size) >>= _) _ _ _
  refine wpAny_bind ?_
  unfold Builtin.SmallTypes.ownedTupleHandOut
  have hz₆ : ZB (h₅.push { cls := .type "tuple", data := .seq #[x, y] }) z TI TO .ellipsis bb := Heap.get?_push_of_some _ hz₅
  refine wpAny_bind (wpAny_setField_rec hz₆ (by simp) fun h₇ hz₇ hs₇ => ?_)
  replace hz₇ : ZB h₇ z TI TO (rawInt h₅.objs.size) bb := hz₇
  refine wpAny_setField_rec hz₇ (by simp) fun h₈ hz₈ hs₈ => ?_
  replace hz₈ : ZB h₈ z TI TO (rawInt h₅.objs.size) false := hz₈
  have up : ∀ c o, c ≠ z → h₅.get? c = some o → h₈.get? c = some o := fun c o c1 e => hs₈.extBut _ _ c1 (hs₇.extBut _ _ c1 (Heap.get?_push_of_some _ e))
  have hT₈ : IsPair h₈ h₅.objs.size x y := hs₈.extBut _ _ (Nat.ne_of_gt hzlt) (hs₇.extBut _ _ (Nat.ne_of_gt hzlt) (Heap.get?_push_size _ rfl))
  have hz8 : h₈.objs.size = h₅.objs.size + 1 := by rw [hs₈.1, hs₇.1, Heap.size_push]
  rw [hsz] at hz₈ hT₈ hz8
  refine wpAny_pure ⟨_, rfl, ?_⟩
  show Q (.ref h₅.objs.size) _
  rw [hsz]
  exact hQ h₈ hz₈ (up _ _ D.TOz hTO₅) (h1₅.at fun o e => up _ o D.i1z e) (h2₅.at fun o e => up _ o D.i2z e) hT₈ hz8 fun c o c1 c2 c3 c4 e => up c o c1 (hk₅ c o c1 c2 c3 c4 e)
theorem zip_end_free {z TI TO i1 i2 l1 l2 : Addr} {f0 : Value} {bb : Bool} {k1 k2 : Nat} {xs ys : Array Value} {a b : Value} {Q : Fin → Shared → Prop} (hh : A.handled = none) (D : ZipApart z TI TO i1 i2 l1 l2)
    (hfree : ∀ Q : Bool → Shared → Prop, Q true s → wpAny (model prog w) A (Builtin.SmallTypes.ownedTupleIsFree (.ref z)) Q E s)
    (hz : ZB s.heap z TI TO f0 bb) (hTI : IsPair s.heap TI (.ref i1) (.ref i2)) (hTO : IsPair s.heap TO a b)
    (h1 : s.heap.IsListIter i1 l1 k1) (h2 : s.heap.IsListIter i2 l2 k2) (hl1 : s.heap.IsList l1 xs) (hl2 : s.heap.IsList l2 ys) (hend : xs[k1]? = none ∨ ys[k2]? = none)
    (hE : ∀ h' e, (∀ c o, c ≠ z → c ≠ TO → c ≠ i1 → c ≠ i2 → s.heap.get? c = some o → h'.get? c = some o) → (∃ o, h'.get? e = some o ∧ o.cls = .type "StopIteration") → E (.ref e) { s with heap := h' }) :
    wpAny (model prog w) A (Builtin.«zip.__next__» ⟨[.ref z], []⟩) Q E s := by
  show wpAny _ _ (field (.ref z) 2 >>= _) _ _ _
  refine wpAny_bind (wpAny_field hz rfl (x := .bool false) rfl ?_)
  show wpAny _ _ (field (.ref z) 3 >>= _) _ _ _
  refine wpAny_bind (wpAny_field hz rfl (x := .ref TI) rfl ?_)
  refine wpAny_bind (wpAny_seqItems hTI rfl ?_)
  show wpAny _ _ (Builtin.SmallTypes.ownedTupleIsFree (.ref z) >>= _) _ _ _
  refine wpAny_bind (hfree _ ?_)
  simp only [if_true]
  refine wpAny_bind (wpAny_rule ?_)
  refine wpAny_bind (wpAny_field hz rfl (x := .ref TO) rfl ?_)
  refine wpAny_bind (wpAny_setField_rec hz (by simp) fun h₁ hz₁ hs₁ => ?_)
  replace hz₁ : ZB h₁ z TI TO .ellipsis bb := hz₁
  refine wpAny_bind ?_
  simp only [List.zipIdx_cons, List.zipIdx_nil, List.forIn_cons, List.forIn_nil]
  refine wpAny_bind (wpAny_bind (wpAny_onRaise ?_))
  show wpAny _ _ (Builtin.SmallTypes.nextOf (.ref i1) >>= _) _ _ _
  cases hx : xs[k1]? with
  | none =>
    refine wpAny_bind (wpAny_nextOf_list_end hh (h1.extBut hs₁.extBut D.i1z) (hl1.extBut hs₁.extBut D.l1z) hx fun h₂ e hs₂ he => ?_)
    obtain ⟨oe, hoe, hce⟩ := he
    have hz₂ : ZB h₂ z TI TO .ellipsis bb := hs₂ _ _ D.i1z.symm hz₁
    have hez : e ≠ z := fun x => by subst x; rw [hz₂] at hoe; cases hoe; simp at hce
    refine wpAny_setField_rec hz₂ (by simp) fun h₃ _ hs₃ => hE h₃ e (fun c o c1 _ c3 _ x => hs₃.extBut _ _ c1 (hs₂ _ _ c3 (hs₁.extBut _ _ c1 x))) ⟨oe, hs₃.extBut _ _ hez hoe, hce⟩
  | some x =>
    have hy : ys[k2]? = none := by rcases hend with h | h; rw [hx] at h; cases h; exact h
    refine wpAny_bind (wpAny_nextOf_list_item (h1.extBut hs₁.extBut D.i1z) (hl1.extBut hs₁.extBut D.l1z) hx fun h₂ h1₂ hs₂ => wpAny_pure ?_)
    have hTO₂ : IsPair h₂ TO a b := hs₂.extBut _ _ D.TOi1 (hs₁.extBut _ _ D.TOz hTO)
    refine wpAny_bind (wpAny_seqItems hTO₂ rfl ?_)
    refine wpAny_bind (wpAny_updateSeq_pair hTO₂ fun h₃ hTO₃ hs₃ => ?_)
    refine wpAny_bind (wpAny_letGo (wpAny_pure ?_))
    refine wpAny_bind (wpAny_bind (wpAny_onRaise ?_))
    show wpAny _ _ (Builtin.SmallTypes.nextOf (.ref i2) >>= _) _ _ _
    refine wpAny_bind (wpAny_nextOf_list_end hh (((h2.extBut hs₁.extBut D.i2z).extBut hs₂.extBut D.i12.symm).extBut hs₃.extBut D.TOi2.symm)
      (((hl2.extBut hs₁.extBut D.l2z).extBut hs₂.extBut D.l2i1).extBut hs₃.extBut D.l2TO) hy fun h₄ e hs₄ he => ?_)
    obtain ⟨oe, hoe, hce⟩ := he
    have hz₄ : ZB h₄ z TI TO .ellipsis bb := hs₄ _ _ D.i2z.symm (hs₃.extBut _ _ D.TOz.symm (hs₂.extBut _ _ D.i1z.symm hz₁))
    have hez : e ≠ z := fun x => by subst x; rw [hz₄] at hoe; cases hoe; simp at hce
    refine wpAny_setField_rec hz₄ (by simp) fun h₅ _ hs₅ => hE h₅ e (fun c o c1 c2 c3 c4 x => hs₅.extBut _ _ c1 (hs₄ _ _ c4 (hs₃.extBut _ _ c2 (hs₂.extBut _ _ c3 (hs₁.extBut _ _ c1 x))))) ⟨oe, hs₅.extBut _ _ hez hoe, hce⟩
/-- the owned tuple is free: surely, or it is held -/
theorem zb_free {z TI TO : Addr} {f0 : Value} {b : Bool} (hz : ZB s.heap z TI TO f0 b) (hf : f0 = .none ∨ ∃ T : Addr, f0 = rawInt T) :
    (∀ Q : Bool → Shared → Prop, Q true s → wpAny (model prog w) A (Builtin.SmallTypes.ownedTupleIsFree (.ref z)) Q E s) ∨ ∃ (T0 : Addr) (o0 : Obj), f0 = rawInt T0 ∧ s.heap.get? T0 = some o0 := by
  rcases hf with e | ⟨T, e⟩
  · subst e
    refine .inl fun Q q => ?_
    unfold Builtin.SmallTypes.ownedTupleIsFree
    exact wpAny_bind (wpAny_field hz rfl (x := .none) rfl (wpAny_pure q))
  · subst e
    cases h0 : s.heap.get? T with
    | some o0 => exact .inr ⟨T, o0, rfl, h0⟩
    | none =>
      refine .inl fun Q q => ?_
      unfold Builtin.SmallTypes.ownedTupleIsFree
      refine wpAny_bind (wpAny_field hz rfl (x := rawInt T) rfl ?_)
      show wpAny _ A (loadIfAlive T >>= _) _ _ _
      refine wpAny_bind (wpAny_loadIfAlive ?_)
      rw [h0]
      simp only [Option.isNone_none, if_true]
      exact wpAny_pure q
theorem zip_next_any {z TI TO i1 i2 l1 l2 : Addr} {k1 k2 : Nat} {xs ys : Array Value} {x y : Value} {Q : Value → Shared → Prop} (D : ZipApart z TI TO i1 i2 l1 l2)
    (hz : ZA s.heap z TI TO) (hTI : IsPair s.heap TI (.ref i1) (.ref i2)) (hTO : ∃ a b, IsPair s.heap TO a b)
    (h1 : s.heap.IsListIter i1 l1 k1) (h2 : s.heap.IsListIter i2 l2 k2) (hl1 : s.heap.IsList l1 xs) (hl2 : s.heap.IsList l2 ys) (hx : xs[k1]? = some x) (hy : ys[k2]? = some y)
    (hQ : ∀ h', ZA h' z TI TO → (∃ a b, IsPair h' TO a b) → h'.IsListIter i1 l1 (k1 + 1) → h'.IsListIter i2 l2 (k2 + 1) → IsPair h' s.heap.objs.size x y → h'.objs.size = s.heap.objs.size + 1 →
      (∀ c o, c ≠ z → c ≠ TO → c ≠ i1 → c ≠ i2 → s.heap.get? c = some o → h'.get? c = some o) → Q (.ref s.heap.objs.size) { s with heap := h' }) :
    wpAny (model prog w) A (Builtin.«zip.__next__» ⟨[.ref z], []⟩) (fun fin s' => ∃ v, fin = .done (.ret v) ∧ Q v s') E s := by
  obtain ⟨f0, b, hb, hf⟩ := hz
  obtain ⟨a0, b0, hTO⟩ := hTO
  rcases zb_free (prog := prog) (w := w) (A := A) (E := E) hb hf with g | ⟨T0, o0, e, h0⟩
  · exact zip_next_free D g hb hTI hTO h1 h2 hl1 hl2 hx hy fun h' a1 a2 a3 a4 a5 a6 a7 => hQ h' ⟨_, _, a1, .inr ⟨_, rfl⟩⟩ ⟨_, _, a2⟩ a3 a4 a5 a6 a7
  · subst e
    exact zip_next_held D hb h0 hTI h1 h2 hl1 hl2 hx hy fun h' a1 a3 a4 a5 a6 a7 => hQ h' ⟨_, _, a1, .inr ⟨_, rfl⟩⟩ ⟨_, _, a7 _ _ D.TOz D.TOi1 D.TOi2 hTO⟩ a3 a4 a5 a6 fun c o c1 _ c3 c4 q => a7 c o c1 c3 c4 q
theorem zip_end_any {z TI TO i1 i2 l1 l2 : Addr} {k1 k2 : Nat} {xs ys : Array Value} {Q : Fin → Shared → Prop} (hh : A.handled = none) (D : ZipApart z TI TO i1 i2 l1 l2)
    (hz : ZA s.heap z TI TO) (hTI : IsPair s.heap TI (.ref i1) (.ref i2)) (hTO : ∃ a b, IsPair s.heap TO a b)
    (h1 : s.heap.IsListIter i1 l1 k1) (h2 : s.heap.IsListIter i2 l2 k2) (hl1 : s.heap.IsList l1 xs) (hl2 : s.heap.IsList l2 ys) (hend : xs[k1]? = none ∨ ys[k2]? = none)
    (hE : ∀ h' e, (∀ c o, c ≠ z → c ≠ TO → c ≠ i1 → c ≠ i2 → s.heap.get? c = some o → h'.get? c = some o) → (∃ o, h'.get? e = some o ∧ o.cls = .type "StopIteration") → E (.ref e) { s with heap := h' }) :
    wpAny (model prog w) A (Builtin.«zip.__next__» ⟨[.ref z], []⟩) Q E s := by
  obtain ⟨f0, b, hb, hf⟩ := hz
  obtain ⟨a0, b0, hTO⟩ := hTO
  rcases zb_free (prog := prog) (w := w) (A := A) (E := E) hb hf with g | ⟨T0, o0, e, h0⟩
  · exact zip_end_free hh D g hb hTI hTO h1 h2 hl1 hl2 hend hE
  · subst e
    exact zip_end_held hh D hb h0 hTI h1 h2 hl1 hl2 hend fun h' e a7 he => hE h' e (fun c o c1 _ c3 c4 q => a7 c o c1 c3 c4 q) he
theorem nextOf_zip_any {z TI TO i1 i2 l1 l2 : Addr} {k1 k2 : Nat} {xs ys : Array Value} {x y : Value} {Q : Value → Shared → Prop} (D : ZipApart z TI TO i1 i2 l1 l2)
    (hz : ZA s.heap z TI TO) (hTI : IsPair s.heap TI (.ref i1) (.ref i2)) (hTO : ∃ a b, IsPair s.heap TO a b)
    (h1 : s.heap.IsListIter i1 l1 k1) (h2 : s.heap.IsListIter i2 l2 k2) (hl1 : s.heap.IsList l1 xs) (hl2 : s.heap.IsList l2 ys) (hx : xs[k1]? = some x) (hy : ys[k2]? = some y)
    (hQ : ∀ h', ZA h' z TI TO → (∃ a b, IsPair h' TO a b) → h'.IsListIter i1 l1 (k1 + 1) → h'.IsListIter i2 l2 (k2 + 1) → IsPair h' s.heap.objs.size x y → h'.objs.size = s.heap.objs.size + 1 →
      (∀ c o, c ≠ z → c ≠ TO → c ≠ i1 → c ≠ i2 → s.heap.get? c = some o → h'.get? c = some o) → Q (.ref s.heap.objs.size) { s with heap := h' }) :
    wpAny (model prog w) A (Builtin.SmallTypes.nextOf (.ref z)) Q E s := by
  have hT : s.TypeIs (.ref z) "zip" := by obtain ⟨_, _, h, _⟩ := hz; exact ⟨_, h, rfl⟩
  unfold Builtin.SmallTypes.nextOf
  exact wpAny_bind (wpAny_callSpecial?_slot (name := Str.ofString "__next__") hT F.slot_zip_next
    (wpAny_call_entry F.slot_zip_next hT F.entry_zip_next (zip_next_any D hz hTI hTO h1 h2 hl1 hl2 hx hy fun h' a1 a2 a3 a4 a5 a6 a7 => wpAny_pure (hQ h' a1 a2 a3 a4 a5 a6 a7)) (F.args_zip_next_1 _)))
theorem nextOf_zip_end {z TI TO i1 i2 l1 l2 : Addr} {k1 k2 : Nat} {xs ys : Array Value} {Q : Value → Shared → Prop} (hh : A.handled = none) (D : ZipApart z TI TO i1 i2 l1 l2)
    (hz : ZA s.heap z TI TO) (hTI : IsPair s.heap TI (.ref i1) (.ref i2)) (hTO : ∃ a b, IsPair s.heap TO a b)
    (h1 : s.heap.IsListIter i1 l1 k1) (h2 : s.heap.IsListIter i2 l2 k2) (hl1 : s.heap.IsList l1 xs) (hl2 : s.heap.IsList l2 ys) (hend : xs[k1]? = none ∨ ys[k2]? = none)
    (hE : ∀ h' e, (∀ c o, c ≠ z → c ≠ TO → c ≠ i1 → c ≠ i2 → s.heap.get? c = some o → h'.get? c = some o) → (∃ o, h'.get? e = some o ∧ o.cls = .type "StopIteration") → E (.ref e) { s with heap := h' }) :
    wpAny (model prog w) A (Builtin.SmallTypes.nextOf (.ref z)) Q E s := by
  have hT : s.TypeIs (.ref z) "zip" := by obtain ⟨_, _, h, _⟩ := hz; exact ⟨_, h, rfl⟩
  unfold Builtin.SmallTypes.nextOf
  exact wpAny_bind (wpAny_callSpecial?_slot (name := Str.ofString "__next__") hT F.slot_zip_next
    (wpAny_call_entry F.slot_zip_next hT F.entry_zip_next (zip_end_any hh D hz hTI hTO h1 h2 hl1 hl2 hend hE) (F.args_zip_next_1 _)))
/-! ### the enumerate around it -/
theorem enum_next_any {e it : Addr} {i : Nat} {old : Value} {Q : Value → Shared → Prop} {R : Value → Heap → Prop}
    (hN : ∀ (Q' : Value → Shared → Prop) (E' : Value → Shared → Prop), (∀ x h1, R x h1 → Q' x { s with heap := h1 }) → wpAny (model prog w) A (Builtin.SmallTypes.nextOf (.ref it)) Q' E' s)
    (he : IsEnum s.heap e it i old) (hR : ∀ x h1, R x h1 → IsEnum h1 e it i old)
    (hQ : ∀ x h1 h', R x h1 → IsEnumOut h' e it ((i : Int) + 1) x h1.objs.size → h'.get? h1.objs.size = some { cls := .type "tuple", data := .seq #[.int i s.toks, x] } → h'.objs.size = h1.objs.size + 1 →
      (∀ b o, b ≠ e → h1.get? b = some o → h'.get? b = some o) → Q (.ref h1.objs.size) { s with heap := h', toks := s.toks + 1 }) :
    wpAny (model prog w) A (Builtin.«enumerate.__next__» ⟨[.ref e], []⟩) (fun fin s' => ∃ v, fin = .done (.ret v) ∧ Q v s') E s := by
  obtain ⟨hp, g, d, tk, os⟩ := s
  show wpAny _ _ (field (.ref e) 2 >>= _) _ _ _
  refine wpAny_bind (wpAny_field he rfl (x := .ref it) rfl ?_)
  refine wpAny_bind (hN _ _ fun x h₁ r => ?_)
  have he₁ : IsEnum h₁ e it i old := hR x h₁ r
  have hz := hQ x h₁
  show wpAny _ _ (field (.ref e) 3 >>= _) _ _ ⟨h₁, g, d, tk, os⟩
  refine wpAny_bind (wpAny_field he₁ rfl (x := rawInt i) rfl ?_)
  show wpAny _ _ (field (.ref e) 4 >>= _) _ _ ⟨h₁, g, d, tk, os⟩
  refine wpAny_bind (wpAny_field he₁ rfl (x := .none) rfl ?_)
  show wpAny _ _ (mkInt i >>= _) _ _ ⟨h₁, g, d, tk, os⟩
  refine wpAny_bind (wpAny_mkInt ?_)
  show wpAny _ _ (setField (.ref e) 3 (rawInt ((i : Int) + 1)) >>= _) _ _ ⟨h₁, g, d, tk + 1, os⟩
  refine wpAny_bind (wpAny_setField_rec he₁ (by simp) fun h₂ he₂ hs₂ => ?_)
  replace hs₂ : Heap.SameBut e h₁ h₂ := hs₂
  replace he₂ : IsEnum h₂ e it ((i : Int) + 1) old := he₂
  show wpAny _ _ (setField (.ref e) 4 .none >>= _) _ _ ⟨h₂, g, d, tk + 1, os⟩
  refine wpAny_bind (wpAny_setField_rec he₂ (by simp) fun h₃ he₃ hs₃ => ?_)
  replace hs₃ : Heap.SameBut e h₂ h₃ := hs₃
  replace he₃ : IsEnum h₃ e it ((i : Int) + 1) old := he₃
  show wpAny _ _ (newTuple [.int i tk, x] >>= _) _ _ ⟨h₃, g, d, tk + 1, os⟩
  refine wpAny_bind (wpAny_newTuple ?_)
  have he₄ : IsEnum (h₃.push { cls := .type "tuple", data := .seq #[.int i tk, x] }) e it ((i : Int) + 1) old := Heap.get?_push_of_some _ he₃
  generalize hh₄ : h₃.push { cls := .type "tuple", data := .seq #[.int i tk, x] } = h₄ at he₄
  have hsz : h₃.objs.size = h₁.objs.size := by rw [hs₃.1, hs₂.1]
  have hel : e < h₁.objs.size := Heap.lt_size he₁
  have ht₄ : h₄.get? h₁.objs.size = some { cls := .type "tuple", data := .seq #[.int i tk, x] } := by rw [← hh₄, ← hsz]; exact Heap.get?_push_size _ rfl
  have hz₄ : h₄.objs.size = h₁.objs.size + 1 := by rw [← hh₄, Heap.size_push, hsz]
  have hk₄ : ∀ b o, b ≠ e → h₁.get? b = some o → h₄.get? b = some o := fun b o hbe hb => by
    rw [← hh₄]; exact Heap.get?_push_of_some _ (hs₃.extBut b o hbe (hs₂.extBut b o hbe hb))
  show wpAny _ _ (Builtin.SmallTypes.ownedTupleIsFree (.ref e) >>= _) _ _ ⟨h₄, g, d, tk + 1, os⟩
  rw [hsz]
  refine wpAny_bind ?_
  · unfold Builtin.SmallTypes.ownedTupleIsFree
    refine wpAny_bind (wpAny_field he₄ rfl (x := .none) rfl (wpAny_pure ?_))
    simp only [if_true]
    refine wpAny_bind (wpAny_rule ?_)
    refine wpAny_bind (wpAny_field he₄ rfl (x := old) rfl ?_)
    refine wpAny_bind (wpAny_setField_rec he₄ (by simp) fun h₅ he₅ hs₅ => ?_)
    replace hs₅ : Heap.SameBut e h₄ h₅ := hs₅
    replace he₅ : IsEnum h₅ e it ((i : Int) + 1) x := he₅
    show wpAny _ _ (Builtin.SmallTypes.ownedTupleHandOut (.ref e) (.ref h₁.objs.size) >>= _) _ _ ⟨h₅, g, d, tk + 1, os⟩
    refine wpAny_bind ?_
    · unfold Builtin.SmallTypes.ownedTupleHandOut
      refine wpAny_bind (wpAny_setField_rec he₅ (by simp) fun h₆ he₆ hs₆ => ?_)
      replace hs₆ : Heap.SameBut e h₅ h₆ := hs₆
      replace he₆ : IsEnumOut h₆ e it ((i : Int) + 1) x h₁.objs.size := he₆
      refine wpAny_setField_rec he₆ (by simp) fun h₇ he₇ hs₇ => ?_
      replace hs₇ : Heap.SameBut e h₆ h₇ := hs₇
      replace he₇ : IsEnumOut h₇ e it ((i : Int) + 1) x h₁.objs.size := he₇
      refine wpAny_bind (wpAny_letGo (wpAny_pure ⟨_, rfl, hz h₇ r he₇ ?_ ?_ ?_⟩))
      · exact hs₇.extBut _ _ (Nat.ne_of_gt hel) (hs₆.extBut _ _ (Nat.ne_of_gt hel) (hs₅.extBut _ _ (Nat.ne_of_gt hel) ht₄))
      · rw [hs₇.1, hs₆.1, hs₅.1, hz₄]
      · exact fun b o hbe hb => hs₇.extBut b o hbe (hs₆.extBut b o hbe (hs₅.extBut b o hbe (hk₄ b o hbe hb)))
theorem pyNext_enum_any {e it : Addr} {i : Nat} {old : Value} {Q : Option Value → Shared → Prop} {R : Value → Heap → Prop}
    (hN : ∀ (Q' : Value → Shared → Prop) (E' : Value → Shared → Prop), (∀ x h1, R x h1 → Q' x { s with heap := h1 }) → wpAny (model prog w) A.in1 (Builtin.SmallTypes.nextOf (.ref it)) Q' E' s)
    (he : IsEnum s.heap e it i old) (hR : ∀ x h1, R x h1 → IsEnum h1 e it i old)
    (hQ : ∀ x h1 h', R x h1 → IsEnumOut h' e it ((i : Int) + 1) x h1.objs.size → h'.get? h1.objs.size = some { cls := .type "tuple", data := .seq #[.int i s.toks, x] } → h'.objs.size = h1.objs.size + 1 →
      (∀ b o, b ≠ e → h1.get? b = some o → h'.get? b = some o) → Q (some (.ref h1.objs.size)) { s with heap := h', toks := s.toks + 1 }) :
    wpAny (model prog w) A (pyNext (.ref e)) Q E s := by
  have hT : s.TypeIs (.ref e) "enumerate" := ⟨_, he, rfl⟩
  unfold pyNext
  exact wpAny_bind (wpAny_attempt (wpAny_callSpecial?_slot (name := Str.ofString "__next__") hT F.slot_enumerate_next
    (wpAny_call_entry F.slot_enumerate_next hT F.entry_enumerate_next (enum_next_any hN he hR fun x h1 h' a b c d k => wpAny_pure (hQ x h1 h' a b c d k)) (F.args_enumerate_next_1 _))))
theorem pyNext_enum_zend {e z TI TO i1 i2 l1 l2 : Addr} {k : Nat} {i : Int} {old : Value} {xs ys : Array Value} {Q : Option Value → Shared → Prop} (hh : A.handled = none) (D : ZipApart z TI TO i1 i2 l1 l2)
    (he : IsEnum s.heap e z i old) (hz : ZA s.heap z TI TO) (hTI : IsPair s.heap TI (.ref i1) (.ref i2)) (hTO : ∃ a b, IsPair s.heap TO a b)
    (h1 : s.heap.IsListIter i1 l1 k) (h2 : s.heap.IsListIter i2 l2 k) (hl1 : s.heap.IsList l1 xs) (hl2 : s.heap.IsList l2 ys) (hend : xs[k]? = none ∨ ys[k]? = none)
    (hQ : ∀ h', (∀ c o, c ≠ z → c ≠ TO → c ≠ i1 → c ≠ i2 → s.heap.get? c = some o → h'.get? c = some o) → Q none { s with heap := h' }) : wpAny (model prog w) A (pyNext (.ref e)) Q E s := by
  have hT : s.TypeIs (.ref e) "enumerate" := ⟨_, he, rfl⟩
  unfold pyNext
  refine wpAny_bind (wpAny_attempt (wpAny_callSpecial?_slot (name := Str.ofString "__next__") hT F.slot_enumerate_next
    (wpAny_call_entry F.slot_enumerate_next hT F.entry_enumerate_next ?_ (F.args_enumerate_next_1 _))))
  show wpAny _ _ (field (.ref e) 2 >>= _) _ _ _
  refine wpAny_bind (wpAny_field he rfl (x := .ref z) rfl ?_)
  refine wpAny_bind (nextOf_zip_end hh D hz hTI hTO h1 h2 hl1 hl2 hend fun h' x he' hx' => ?_)
  obtain ⟨o, ho, hc⟩ := hx'
  refine wpAny_bind (wpAny_isInstance (T := "StopIteration") (b := true) ⟨o, ho, hc⟩ isSubtype_stop ?_)
  exact wpAny_pure (hQ _ he')
end
/-- enumerate(zip(a, b)): each turn a new pair in a new pair -/
def IteZ (K : PySem.W.Frag) (a b : Addr) : It :=
  ⟨fun i H => ∃ (xs ys : List V) (x y : V), SqL K H a xs ∧ SqL K H b ys ∧ xs[i]? = some x ∧ ys[i]? = some y,
    fun i H v H' => ∃ T1 T2 x y, v = .ref T2 ∧ H T1 = none ∧ upd H T1 (.tup [x, y]) T2 = none ∧ H' = upd (upd H T1 (.tup [x, y])) T2 (.tup [.int (i : Nat), .ref T1]) ∧ (∀ xs, SqL K H a xs → xs[i]? = some x) ∧ ∀ ys, SqL K H b ys → ys[i]? = some y,
    fun i H => ∃ xs ys : List V, SqL K H a xs ∧ SqL K H b ys ∧ (xs.length ≤ i ∨ ys.length ≤ i)⟩
theorem turn_enumZ {P : Program} {w : World} {K : PySem.W.Frag} {elts : List Expr} {kk : Nat} {tpos : Pos} {a b e z TI TO i1 i2 : Addr} (D : ZipApart z TI TO i1 i2 a b) (hez : e ≠ z) (heT : e ≠ TI) (heO : e ≠ TO) (he1 : e ≠ i1) (he2 : e ≠ i2) :
    Turn P w K (.Tuple elts kk tpos) (IteZ K a b) [e, z, TI, TO, i1, i2] e (fun i h => (∃ old, IsEnum h e z ((i : Nat) : Int) old) ∧ ZA h z TI TO ∧ IsPair h TI (.ref i1) (.ref i2) ∧ (∃ x y, IsPair h TO x y) ∧ h.IsListIter i1 a i ∧ h.IsListIter i2 b i) where
  mem := by simp
  obj := fun i h st c hc => by
    obtain ⟨⟨old, he⟩, ⟨f0, bb, hz, _⟩, hTI, ⟨x, y, hTO⟩, ⟨o1, e1, _, d1⟩, ⟨o2, e2, _, d2⟩⟩ := st
    have e' : c = e ∨ c = z ∨ c = TI ∨ c = TO ∨ c = i1 ∨ c = i2 := by simpa using hc
    rcases e' with q | q | q | q | q | q
    · rw [q]; exact ⟨_, he, fun v q => nomatch q⟩
    · rw [q]; exact ⟨_, hz, fun v q => nomatch q⟩
    · rw [q]; exact ⟨_, hTI, fun v q => nomatch q⟩
    · rw [q]; exact ⟨_, hTO, fun v q => nomatch q⟩
    · rw [q]; exact ⟨o1, e1, fun v q => by rw [d1] at q; cases q⟩
    · rw [q]; exact ⟨o2, e2, fun v q => by rw [d2] at q; cases q⟩
  keep := fun i h h' st k => by
    obtain ⟨⟨old, he⟩, ⟨f0, bb, hz, hf⟩, hTI, ⟨x, y, hTO⟩, h1, h2⟩ := st
    exact ⟨⟨old, k e (by simp) _ he⟩, ⟨f0, bb, k z (by simp) _ hz, hf⟩, k TI (by simp) _ hTI, ⟨x, y, k TO (by simp) _ hTO⟩, h1.at fun o q => k i1 (by simp) o q, h2.at fun o q => k i2 (by simp) o q⟩
  item := by
    intro X hP hw hK hc i pins s σ H E I hf st hg
    subst hP hw hK
    obtain ⟨⟨old, he⟩, hz, hTI, hTO, h1, h2⟩ := st
    obtain ⟨xs, ys, x, y, hqx, hqy, hx, hy⟩ := hg
    obtain ⟨its, rv, p, _⟩ := I.list hqx
    obtain ⟨its2, rv2, p2, _⟩ := I.list hqy
    obtain ⟨u, hu, ru⟩ := rv.get hx
    obtain ⟨u2, hu2, ru2⟩ := rv2.get hy
    have hel : e < s.heap.objs.size := Heap.lt_size he
    have lt : ∀ c ∈ [e, z, TI, TO, i1, i2], c < s.heap.objs.size := fun c hcm => by
      have e' : c = e ∨ c = z ∨ c = TI ∨ c = TO ∨ c = i1 ∨ c = i2 := by simpa using hcm
      rcases e' with q | q | q | q | q | q
      · rw [q]; exact hel
      · rw [q]; obtain ⟨_, _, e0, _⟩ := hz; exact Heap.lt_size e0
      · rw [q]; exact Heap.lt_size hTI
      · rw [q]; obtain ⟨_, _, e0⟩ := hTO; exact Heap.lt_size e0
      · rw [q]; obtain ⟨_, e1, _⟩ := h1; exact Heap.lt_size e1
      · rw [q]; obtain ⟨_, e2, _⟩ := h2; exact Heap.lt_size e2
    refine pyNext_enum_any (R := fun v h' => v = .ref s.heap.objs.size ∧ ZA h' z TI TO ∧ (∃ a b, IsPair h' TO a b) ∧ h'.IsListIter i1 a (i + 1) ∧ h'.IsListIter i2 b (i + 1) ∧ IsPair h' s.heap.objs.size u u2 ∧ h'.objs.size = s.heap.objs.size + 1 ∧
      (∀ c o, c ≠ z → c ≠ TO → c ≠ i1 → c ≠ i2 → s.heap.get? c = some o → h'.get? c = some o)) (old := old) (i := i) (it := z)
      (fun Q' E' hR => nextOf_zip_any D hz hTI hTO h1 h2 p.isList p2.isList (x := u) (y := u2) (by simpa using hu) (by simpa using hu2) fun h' a1 a2 a3 a4 a5 a6 a7 => hR _ h' ⟨rfl, a1, a2, a3, a4, a5, a6, a7⟩)
      he (fun v h' r => r.2.2.2.2.2.2.2 e _ hez heO he1 he2 he) fun v h1' h' r ho hT hsz hk => ?_
    obtain ⟨rfl, z1, TO1, a3, a4, a5, a6, a7⟩ := r
    refine ⟨_, rfl, wpAny_letOwnedTupleGo_enum (s := { s with heap := h', toks := s.toks + 1 }) ho fun h'' he' sb => ?_⟩
    have up : ∀ c o, c ≠ e → h1'.get? c = some o → h''.get? c = some o := fun c o n q => (sb.2 c n).trans (hk c o n q)
    have new1 : ObjOk X.prog X.w (upd H s.heap.objs.size (.tup [x, y])) h1' s.heap.objs.size (.tup [x, y]) :=
      ⟨by show 2 ≤ sizeLine; decide, [u, u2], .cons ru (.cons ru2 .nil), ⟨_, a5, rfl, _, rfl⟩⟩
    have I1 : Inv X pins σ (upd H s.heap.objs.size (.tup [x, y])) { s with heap := h1' } :=
      I.turnedNew (t' := s.toks) (ch := [e, z, TI, TO, i1, i2]) (fun c o hb q => a7 c o (fun q' => hb (by simp [q'])) (fun q' => hb (by simp [q'])) (fun q' => hb (by simp [q'])) (fun q' => hb (by simp [q'])) q) hf (Nat.le_refl _) new1
    have ne1 : ∀ c ∈ [e, z, TI, TO, i1, i2], c ≠ s.heap.objs.size := fun c hc => Nat.ne_of_lt (lt c hc)
    have hT2 : h''.get? h1'.objs.size = some { cls := .type "tuple", data := .seq #[.int i s.toks, .ref s.heap.objs.size] } := (sb.2 _ (by rw [a6]; exact Nat.ne_of_gt (Nat.lt_succ_of_lt hel))).trans hT
    have new2 : ObjOk X.prog X.w (upd (upd H s.heap.objs.size (.tup [x, y])) h1'.objs.size (.tup [.int (i : Nat), .ref s.heap.objs.size])) h'' h1'.objs.size (.tup [.int (i : Nat), .ref s.heap.objs.size]) :=
      ⟨by show 2 ≤ sizeLine; decide, [.int i s.toks, .ref s.heap.objs.size], .cons ⟨_, rfl⟩ (.cons rfl .nil), ⟨_, hT2, rfl, _, rfl⟩⟩
    have I2 : Inv X pins σ (upd (upd H s.heap.objs.size (.tup [x, y])) h1'.objs.size (.tup [.int (i : Nat), .ref s.heap.objs.size])) { s with heap := h'', toks := s.toks + 1 } :=
      I1.turnedNew (t' := s.toks + 1) (ch := [e]) (fun c o hb q => up c o (fun q' => hb (by simp [q'])) q) (fun c hc => FpOk.other (hf c (by simp at hc; simp [hc])) (ne1 c (by simp at hc; simp [hc]))) (Nat.le_refl _) new2
    have e1 : ((i + 1 : Nat) : Int) = (i : Int) + 1 := by omega
    have hee : IsEnum h'' e z ((i + 1 : Nat) : Int) (.ref s.heap.objs.size) := by rw [e1]; exact he'
    refine ⟨.ref h1'.objs.size, _, I2, rfl, ⟨_, _, x, y, rfl, I.hok.fresh (Nat.le_refl _), I1.hok.fresh (Nat.le_refl _), rfl, fun l hl => by rw [I.list_inj hl hqx]; exact hx, fun l hl => by rw [I.list_inj hl hqy]; exact hy⟩, ⟨⟨_, hee⟩, ?_, ?_, ?_, ?_, ?_⟩, fun c hcm => ?_⟩
    · obtain ⟨f0, bb, q, hff⟩ := z1
      exact ⟨f0, bb, up _ _ (Ne.symm hez) q, hff⟩
    · exact up _ _ (Ne.symm heT) (a7 _ _ D.TIz D.TITO D.TIi1 D.TIi2 hTI)
    · obtain ⟨x1, y1, q⟩ := TO1
      exact ⟨x1, y1, up _ _ (Ne.symm heO) q⟩
    · exact a3.at fun o q => up _ _ (Ne.symm he1) q
    · exact a4.at fun o q => up _ _ (Ne.symm he2) q
    · have hcl := lt c hcm
      rw [upd_ne (by rw [a6]; exact Nat.ne_of_lt (Nat.lt_succ_of_lt hcl)), upd_ne (Nat.ne_of_lt hcl)]
      exact (hf c hcm).1
  done := by
    intro X hP hw hK hc i pins s σ H E I hf st hg
    subst hP hw hK
    obtain ⟨⟨old, he⟩, hz, hTI, hTO, h1, h2⟩ := st
    obtain ⟨xs, ys, hqx, hqy, hend⟩ := hg
    obtain ⟨its, rv, p, _⟩ := I.list hqx
    obtain ⟨its2, rv2, p2, _⟩ := I.list hqy
    have l1 := rv.length
    have l2 := rv2.length
    have hen : its.toArray[i]? = none ∨ its2.toArray[i]? = none := by
      rcases hend with q | q
      · exact .inl (by simp; omega)
      · exact .inr (by simp; omega)
    exact pyNext_enum_zend (I.ok.hd hc) D he hz hTI hTO h1 h2 p.isList p2.isList hen fun h' hk => ⟨rfl, I.turnedL (t' := s.toks) (ch := [e, z, TI, TO, i1, i2]) (fun c o hb q =>
      hk c o (fun q' => hb (by simp [q'])) (fun q' => hb (by simp [q'])) (fun q' => hb (by simp [q'])) (fun q' => hb (by simp [q'])) q) hf⟩
  self := fun A i s Q E st h => let ⟨⟨_, he⟩, _⟩ := st; wpAny_pyIter_enum he h
set_option maxHeartbeats 1000000 in
theorem meets_enumerate_newZ {z TI TO : Addr} {f0 : Value} :
    Meets (Builtin.«enumerate.__new__» ⟨[.type "enumerate", .ref z], []⟩) (fun _ R s => IsZip s.heap z TI TO f0 ∧
      R (.ok (.ret (.ref s.heap.objs.size))) { s with heap := s.heap.push { cls := .type "enumerate", data := .fields #[.none, .bool false, .ref z, rawInt 0, .none, .none] } }) :=
  .of_wp fun prog w A R s h => by
    obtain ⟨hp, g, d, tk, os⟩ := s; obtain ⟨h1, h⟩ := h
    have hsub := sub_enumerate
    have q1 : ∀ {A' : Around} {E : Value → Shared → Prop} {Q : Value → Shared → Prop}, Q (.ref z) ⟨hp, g, d, tk, os⟩ → wpAny (model prog w) A' (pyIter (.ref z)) Q E ⟨hp, g, d, tk, os⟩ :=
      fun q => wpAny_pyIter_zip h1 q
    wp_walk using q1
    refine wpAny_stack_any fun st => wpAny_pure ?_
    split
    · rename_i c _ _ _ _ _
      cases (c == Value.type "enumerate")
      · wp_walk using q1
        exact ⟨_, rfl, h⟩
      · wp_walk using q1
        exact ⟨_, rfl, h⟩
    · wp_walk using q1
      exact ⟨_, rfl, h⟩
theorem enum_beginsZ {prog : Program} {w : World} {A : Around} {E : Value → Shared → Prop} {s : Shared} {z TI TO : Addr} {f0 : Value} {Q : Value → Shared → Prop} (h1 : IsZip s.heap z TI TO f0)
    (h : ∀ h', IsEnum h' s.heap.objs.size z 0 .none → h'.objs.size = s.heap.objs.size + 1 → (∀ b o, s.heap.get? b = some o → h'.get? b = some o) → Q (.ref s.heap.objs.size) { s with heap := h' }) :
    wpAny (model prog w) A (call (.type "enumerate") [.ref z]) Q E s := by
  refine callType_new F.called_enumerate (by decide) (F.typeCall_enumerate_1 _) (F.newCall_enumerate_1 _) (fun obj => F.args_object_init_2 obj _) F.entry_enumerate_new
    meets_enumerate_newZ ⟨h1, ?_⟩
  have he : IsEnum (s.heap.push { cls := .type "enumerate", data := .fields #[.none, .bool false, .ref z, rawInt 0, .none, .none] }) s.heap.objs.size z 0 .none := Heap.get?_push_size _ rfl
  exact ⟨⟨_, he, rfl⟩, h _ he (Heap.size_push ..) fun b o x => Heap.get?_push_of_some _ x⟩
section
variable {X : Cx} {F : Fx} {W : WX} {a b : Expr} {p p2 pos pos2 tpos : Pos} {elts : List Expr} {kk : Nat}
def iEnZ (K : PySem.W.Frag) (ta : TA) : TI := fun σ H R => ta σ H fun vs H1 => ∃ a b xs ys, vs = [.ref a, .ref b] ∧ SqL K H1 a xs ∧ SqL K H1 b ys ∧ R (IteZ K a b) H1
theorem pi_enumZ {ta : TA} (hg : Gl X "enumerate") (hm : X.mg "enumerate" = none) (hg2 : Gl X "zip") (hm2 : X.mg "zip" = none) (ha : PA X [a, b] ta)
    (hs : starEach [a, b] X.env = (false, eval a X.env) :: starEach [b] X.env) (hpl : (backTo pos2 (starEach [b] X.env)).any (·.1) = false) :
    PI X (.Tuple elts kk tpos) (.Call (.Name "enumerate" p) [.Call (.Name "zip" p2) [a, b] [] pos2] [] pos) (iEnZ X.K ta) := by
  refine ⟨fun pins s σ H R I h => ?_⟩
  refine PyProof.Rows.Call_ (ld_blt I hg hm PyProof.Rows.boot_enumerate (PyProof.Rows.callWith_type1 ?_ (by rfl) (by rfl)))
  show wpAny _ _ (spliced ((false, eval (.Call (.Name "zip" p2) [a, b] [] pos2) X.env) :: [])) _ _ s
  refine Calls.spliced_cons ?_
  refine PyProof.Rows.Call_ (ld_blt I hg2 hm2 PyProof.Rows.boot_zip (PyProof.Rows.callWith_type1 (L2.thn (ha.run pos2 pins s σ H _ I h) fun us s1 ⟨vs, H1, I1, r1, q1⟩ => ?_) hs hpl))
  obtain ⟨la, lb, xs, ys, ex, hqx, hqy, q⟩ := q1
  subst ex
  cases r1 with
  | cons r rr =>
    cases rr with
    | cons r' rr =>
      cases rr
      cases r
      cases r'
      obtain ⟨its1, rv1, pl1, hx1⟩ := I1.list hqx
      obtain ⟨its2, rv2, pl2, _⟩ := I1.list hqy
      refine call_zip_2 pl1.isList pl2.isList fun h' hz hTI hTO h1 h2 hsz hk => ?_
      refine Calls.spliced_nil ?_
      refine enum_beginsZ hz fun h'' he hsz2 hk2 => wpAny_pyIter_enum he ?_
      have he : IsEnum h'' (s1.heap.objs.size + 5) (s1.heap.objs.size + 4) 0 .none := hsz ▸ he
      have I2 : Inv X pins σ H1 { s1 with heap := h'' } := I1.kept (t' := s1.toks) fun c o e => hk2 c o (hk c o e)
      show PIE X pins σ _ R (.ref h'.objs.size) _
      rw [hsz]
      refine ⟨s1.heap.objs.size + 5, [s1.heap.objs.size + 5, s1.heap.objs.size + 4, s1.heap.objs.size + 2, s1.heap.objs.size + 3, s1.heap.objs.size, s1.heap.objs.size + 1], _, _, H1, rfl, I2, turn_enumZ (PySem.W.ktu_apart s1.heap.objs.size la lb pl1.lt pl2.lt) (by simp) (by simp) (by simp) (by simp) (by simp),
        ⟨⟨_, he⟩, ⟨_, _, hk2 _ _ hz, .inl rfl⟩, hk2 _ _ hTI, ⟨_, _, hk2 _ _ hTO⟩, h1.at fun o e => hk2 _ o e, h2.at fun o e => hk2 _ o e⟩, fun c hcm => ?_, q⟩
      have e' : c = s1.heap.objs.size + 5 ∨ c = s1.heap.objs.size + 4 ∨ c = s1.heap.objs.size + 2 ∨ c = s1.heap.objs.size + 3 ∨ c = s1.heap.objs.size ∨ c = s1.heap.objs.size + 1 := by simpa using hcm
      have hle : s1.heap.objs.size ≤ c := by
        rcases e' with z | z | z | z | z | z <;> (rw [z]; first | exact Nat.le_add_right _ _ | exact Nat.le_refl _)
      exact I1.fpOk hle (I1.hok.fresh hle)
theorem walk_enumZ {K : PySem.W.Frag} {a b : Addr} {xs ys : List V} {n : Nat} (hn : n = min xs.length ys.length) :
    Walk (IteZ K a b) n (fun H => SqL K H a xs ∧ SqL K H b ys) (fun i H v H' => ∃ T1 T2 x y, v = .ref T2 ∧ H T1 = none ∧ upd H T1 (.tup [x, y]) T2 = none ∧ H' = upd (upd H T1 (.tup [x, y])) T2 (.tup [.int (i : Nat), .ref T1]) ∧ xs[i]? = some x ∧ ys[i]? = some y) := by
  refine ⟨fun i H hi q => ⟨xs, ys, xs[i]'(by omega), ys[i]'(by omega), q.1, q.2, by simp, by simp⟩, fun H q => ⟨xs, ys, q.1, q.2, by omega⟩, fun i H v H' hi q y => ?_⟩
  obtain ⟨T1, T2, x, y, h1, h2, h3, h4, h5, h6⟩ := y
  exact ⟨T1, T2, x, y, h1, h2, h3, h4, h5 xs q.1, h6 ys q.2⟩
theorem wk_enumZ {H : Hp} {M : Addr → Prop} {a b : Addr} {vs ws : List V} {ds es : List D} (h : H a = some (.lst vs)) (hm : ¬ M a) (r : RpL F.K F.c (hid H M) vs ds) (h' : H b = some (.lst ws)) (hm' : ¬ M b) (r' : RpL F.K F.c (hid H M) ws es) : Wk F (IteZ F.K a b) H M (enumD 0 (zipD ds es)) := by
  refine ⟨fun H => SqL F.K H a vs ∧ SqL F.K H b ws, _, walk_enumZ (by rw [enumD_len, zipD_len, r.length, r'.length]), fun H2 M2 x => ⟨SqL.of (x.of_hid hm h).2, SqL.of (x.of_hid hm' h').2⟩, fun i P σ H2 g s M2 x H' hi ex E y => ?_⟩
  obtain ⟨T1, T2, x1, y1, rfl, hT1, hT2, rfl, e1, e2⟩ := y
  obtain ⟨d, g1, g2⟩ := r.get' e1
  obtain ⟨d', g1', g2'⟩ := r'.get' e2
  obtain ⟨E2, x2, r2⟩ := new_pair E hT1 (g2.mono ex) (g2'.mono ex)
  obtain ⟨E3, x3, r3⟩ := new_pair E2 hT2 (.int (i : Nat)) r2
  refine ⟨_, by rw [enumD_get (zipD ds es) 0 i _ (zipD_get ds es i d d' g1 g1'), Nat.zero_add], E3, x2.trans x3, r3, fun a m => ?_⟩
  rw [upd_ne fun z => E2.ne m (by rw [z]; exact hT2), upd_ne fun z => E.ne m (by rw [z]; exact hT1)]
def iEnZF (as : Ga → Sd → Out (List D)) : Ga → Sd → Out (List D) := fun g s => (as g s).bind fun ds g1 s1 => optD ((zipF ds).map (enumD 0)) g1 s1
theorem di_enumZ {fs : Ga → Sd → Out (List D)} (hK : X.K = F.K) (hg : Gl X "enumerate") (hg2 : Gl X "zip") (hm : X.mg "enumerate" = none) (hm2 : X.mg "zip" = none) (ha : PAd X F W [a, b] fs) (hs : isStar a = false) (hs2 : isStar b = false) :
    PId X F W (.Tuple elts kk tpos) (.Call (.Name "enumerate" p) [.Call (.Name "zip" p2) [a, b] [] pos2] [] pos) (iEnZF fs) :=
  PI.imp (pi_enumZ hg hm hg2 hm2 ha (star_cons hs) (star_any (by simp [hs2]))) (by
    rintro σ H Q ⟨P, g, s, M, E, h⟩
    refine rdG.seq (R' := RI) (Q' := Q) E h fun vs ds H1 g1 s1 M1 E1 x1 r1 h1 => ?_
    obtain ⟨xs, q1, q2⟩ := post_opt (α := D) h1
    rw [hK]
    cases r1 with
    | nil => cases q1
    | cons k1 k2 =>
      cases k2 with
      | nil => cases k1 <;> cases q1
      | cons k3 k4 =>
        cases k4 with
        | cons k5 k6 => cases k1 <;> cases k3 <;> cases q1
        | nil =>
          cases k1 with
          | lst u1 u2 =>
            cases k3 with
            | lst w1 w2 =>
              cases q1
              obtain ⟨n1, u1⟩ := hid_some u1
              obtain ⟨n2, w1⟩ := hid_some w1
              exact ⟨_, _, _, _, rfl, SqL.of u1, SqL.of w1, q2 _ H1 M1 E1 (Ex.refl _) (wk_enumZ u1 n1 u2 w1 n2 w2)⟩
            | _ => cases q1
          | _ => cases k3 <;> cases q1)
/-! ### zip of two lists or of two tuples -/
def zipAF : List D → Option (List D)
  | [.lst xs, .lst ys] => some (zipD xs ys)
  | [.tup xs, .tup ys] => some (zipD xs ys)
  | _ => none
def iZipAF (as : Ga → Sd → Out (List D)) : Ga → Sd → Out (List D) := fun g s => (as g s).bind fun ds g1 s1 => optD (zipAF ds) g1 s1
theorem walk_zipT {K : PySem.W.Frag} {a b : Addr} {xs ys : List V} {n : Nat} (hn : n = min xs.length ys.length) :
    Walk (RZ.ItzT K a b) n (fun H => SqT K H a xs ∧ SqT K H b ys) (YPair (fun i => xs[i]?) (fun i => ys[i]?)) := by
  subst hn
  refine ⟨fun i _ hi q => ?_, fun _ q => ⟨xs, ys, q.1, q.2, by omega⟩, fun i H v H' _ q y => ?_⟩
  · have h1 : i < xs.length := by omega
    have h2 : i < ys.length := by omega
    exact ⟨xs, ys, xs[i], ys[i], q.1, q.2, by simp [h1], by simp [h2]⟩
  · obtain ⟨T, x, z, h1, h2, h3, h4, h5⟩ := y
    exact ⟨T, x, z, h1, h2, h3, h4 xs q.1, h5 ys q.2⟩
theorem wk_zipT {H : Hp} {M : Addr → Prop} {a b : Addr} {vs ws : List V} {ds es : List D} (h : SqT F.K (hid H M) a vs) (r : RpL F.K F.c (hid H M) vs ds) (h' : SqT F.K (hid H M) b ws) (r' : RpL F.K F.c (hid H M) ws es) : Wk F (RZ.ItzT F.K a b) H M (zipD ds es) := by
  refine ⟨fun H => SqT F.K H a vs ∧ SqT F.K H b ws, _, walk_zipT (by rw [zipD_len, r.length, r'.length]), fun H2 M2 x => ⟨(hid_ex H2 M2).sqT (x.sqT h), (hid_ex H2 M2).sqT (x.sqT h')⟩, fun i P σ H2 g s M2 x H' hi ex E y => ?_⟩
  obtain ⟨T, x1, y1, rfl, hT, rfl, e1, e2⟩ := y
  obtain ⟨d, h1, h2⟩ := r.get' e1
  obtain ⟨d', h1', h2'⟩ := r'.get' e2
  obtain ⟨E2, x2, r2⟩ := new_pair E hT (h2.mono ex) (h2'.mono ex)
  exact ⟨_, zipD_get ds es i d d' h1 h1', E2, x2, r2, fun a m => upd_ne fun z => E.ne m (by rw [z]; exact hT)⟩
theorem di_zipA {fs : Ga → Sd → Out (List D)} (hK : X.K = F.K) (hg : Gl X "zip") (hm : X.mg "zip" = none) (ha : PAd X F W [a, b] fs) (hs : isStar a = false) (hs2 : isStar b = false) : PId X F W (.Tuple elts kk tpos) (.Call (.Name "zip" p) [a, b] [] pos) (iZipAF fs) :=
  PI.imp (RZ.pi_zipA hg hm ha (star_cons hs) (star_any (by simp [hs2]))) (by
    rintro σ H Q ⟨P, g, s, M, E, h⟩
    refine rdG.seq (R' := RI) (Q' := Q) E h fun vs ds H1 g1 s1 M1 E1 x1 r1 h1 => ?_
    obtain ⟨xs, q1, q2⟩ := post_opt (α := D) h1
    rw [hK]
    cases r1 with
    | nil => cases q1
    | cons k1 k2 =>
      cases k2 with
      | nil => cases k1 <;> cases q1
      | cons k3 k4 =>
        cases k4 with
        | cons k5 k6 => cases k1 <;> cases k3 <;> cases q1
        | nil =>
          cases k1 with
          | lst u1 u2 =>
            cases k3 with
            | lst w1 w2 =>
              cases q1
              obtain ⟨n1, u1⟩ := hid_some u1
              obtain ⟨n2, w1⟩ := hid_some w1
              exact ⟨_, _, _, _, rfl, .inl ⟨SqL.of u1, SqL.of w1, q2 _ H1 M1 E1 (Ex.refl _) (wk_zip u1 n1 u2 w1 n2 w2)⟩⟩
            | _ => cases q1
          | tup u1 u2 =>
            cases k3 with
            | tup w1 w2 =>
              cases q1
              exact ⟨_, _, _, _, rfl, .inr ⟨(hid_ex H1 M1).sqT u1, (hid_ex H1 M1).sqT w1, q2 _ H1 M1 E1 (Ex.refl _) (wk_zipT u1 u2 w1 w2)⟩⟩
            | _ => cases q1
          | _ => cases k3 <;> cases q1)
end
end DI
end
section
set_option Elab.async false
set_option linter.all false
set_option maxRecDepth 100000
set_option maxHeartbeats 2000000
/-! DILam: a lambda handed to a def that calls it in a try. -/
namespace DI
open PySem PySem.Spec PyProof.Rows L2 LamX
section
variable {F : Fx} {P : Par F} {W : WX} {σ : L2.St} {H H1 : Hp} {g : Ga} {s : Sd} {M : Addr → Prop} {X : Cx}
theorem frm_tables (e : ExtN H H1) : Frm F H H1 := fun b o h t _ => e b o h fun ps z => by rw [z] at t; cases t
theorem En.tables (E : En P σ H g s M) (e : ExtN H H1) (T1 : Tabs F.T H1) : En P σ H1 g s M ∧ Ex (hid H M) (hid H1 M) :=
  E.after (frm_tables e) ⟨⟨E.stm.1, (e _ _ E.stm.2.1 fun _ z => by cases z), (e _ _ E.stm.2.2 fun _ z => by cases z)⟩, T1⟩
/-- told: try: return (told, a()) / except C as e: return (tag, e.field) .. -/
def TTr (F : Fx) (told : Str) (tags : Nat → Option Str) : (XK → Hp → VK → Prop) → Hp → VK → Prop := fun tl H Q =>
  tl (fun cls dx H' => ∃ j C fl tag, tags j = some tag ∧ F.cls j = some (C, fl) ∧ cls = .ref C ∧ ∃ a v, dx = some a ∧ H' a = some (.xd [(fl, v)]) ∧ ∀ T, H' T = none → Q (.ref T) (upd H' T (.tup [.str tag, v])))
    H (fun v H' => [V.str told, v].length ≤ sizeLine ∧ ∀ T, H' T = none → Q (.ref T) (upd H' T (.tup [.str told, v])))
def lamOut (told : Str) (tags : Nat → Option Str) : Out DI.D → Out Rs
  | .ok d g s => .ok (.fz (.tup [.str told, d])) g s
  | .ex c d g s => match tags c with
    | some t => .ok (.fz (.tup [.str t, d])) g s
    | none => .bad
  | .bad => .bad
def sLam (told : Str) (tags : Nat → Option Str) (f : Ga → Sd → Out Rs) : Ga → Sd → Out Rs := fun g s => lamOut told tags (f g s).keep
theorem tk_lam {A : Around} {outer : List PySem.Env} {s : Shared} {H : Hp} {E : XK} {scope : Scope} {f c' : Addr} : Takes (lamCx X A outer s H E scope f c') (fun c d _ H => E c d H) := takes_of rfl rfl rfl rfl
theorem w_lam {Ng : List Str} {x a : Str} {g c Pa : Addr} {k : Nat} {st : Stmt} {fd : FuncData} {told : Str} {tags : Nat → Option Str} {params : Arguments} {body : Expr} {scope : Scope} {fb : Ga → Sd → Out Rs} {p lpos pos : Pos}
    (Fg : Fun X.K x x st g fd) (hb : L2.Binds X.K fd [a] []) (hm : X.mg x = some (.ref g)) (hk : PySem.W.keepIn X.K (.ref g) = true) (Sg : FnScope Ng [a] (defScope st))
    (hG : ∀ cdg, GivesTo X Ng x (defScope st) g cdg (defBody st) a (X.env.qual ++ "<lambda>") (TTr F told tags))
    (TB : TabB X.base X.mg c Pa) (hcode : X.env.code = .ref c) (hmT : (Pa, X.env.qual ++ "<lambda>") ∈ F.T) (hu : ∀ p ∈ F.T, p.1 = Pa → p.2 = X.env.qual ++ "<lambda>") (hr : Room (k + 2) X.A)
    (hbind : ∀ (q : Str) (cl : List (Str × Addr)) (pm cv ctv : Value), bindArgs (PySem.W.kla_fn "<lambda>" q params body scope cl pm cv ctv) ⟨[], []⟩ = pure [])
    (hbody : ∀ (A : Around) (outer : List PySem.Env) (s : Shared) (H : Hp) (E : XK) (f c' : Addr), Room k (A.deeper (lamEnv X scope s.heap.objs.size f c')) → PEd (lamCx X A outer s H E scope f c') F (fun c d _ H => E c d H) body fb)
    (L : LamS X.env.scope scope := by exact LamX.lamS_by (by kernel_rfl)) (hdef : defaultsOf params X.env = ([], []) := by rfl) (hg : Gl X x := by rfl) (hNg : Ng[0]? = some a := by rfl) (hva : Vis (defScope st) a := by first | exact Or.inl rfl | exact Or.inr (Or.inl rfl) | exact Or.inr (Or.inr rfl))
    (hdb : (x == ("__debug__" : Str)) = false := by decide) (hd : (a == ("__debug__" : Str)) = false := by decide) (hcd : (a == ("__classdict__" : Str)) = false := by decide) :
    PEd X F W (.Call (.Name x p) [.Lambda params body scope lpos] [] pos) (sLam told tags fb) := by
  obtain ⟨oc, od, kV, doc, pm, an, cdv, ct, osl, rfl, lk, hcd'⟩ := Fg.ex
  refine PE.imp (pe_lamcall (t := fun E => rdG F (fun c d _ H => E c d H) RD fun g s => (fb g s).keep) hg hm hk lk hcd' hb Sg hNg hva (hG cdv) TB hcode hmT hu hr L hdef hbind (fun A outer s H E f c' hr => (hbody A outer s H E f c' hr).keep) hdb hd hcd) ?_
  rintro σ H Q ⟨P, g, s, M, E, h⟩
  refine ⟨E.wd.2, fun H1 eN T1 => ?_⟩
  obtain ⟨E1, x1⟩ := E.tables eN T1
  refine ⟨P, g, s, M, E1, ?_⟩
  have h : PostG P W σ H M (RE P σ) Q (lamOut told tags (fb g s).keep) := h
  show PostG P (fun c d _ H => _) σ H1 M (RD P σ) (fun v H' => [V.str told, v].length ≤ sizeLine ∧ ∀ T, H' T = none → Q (.ref T) (upd H' T (.tup [.str told, v]))) ((fb g s).keep)
  cases o : (fb g s).keep with
  | bad => rw [o] at h; exact h
  | ok d g1 s1 =>
    rw [o] at h
    intro v H' M' E' x' r
    refine ⟨by show 2 ≤ sizeLine; decide, fun T hT => ?_⟩
    obtain ⟨E2, x2, r2⟩ := E'.nwTup hT (.cons (.str told) (.cons r .nil))
    exact h _ _ _ E2 (x1.trans (x'.trans x2)) r2
  | ex c d g1 s1 =>
    rw [o] at h
    intro cv dx H' M' E' x' hx
    obtain ⟨C, fl, b, v, h1, h2, h3, h4, h5, h6⟩ := hx
    cases q : tags c with
    | none =>
      have h : PostG P W σ H M (RE P σ) Q (match tags c with | some t => .ok (.fz (.tup [.str t, d])) g1 s1 | none => .bad) := h
      rw [q] at h; exact h.elim
    | some tag =>
      have h : PostG P W σ H M (RE P σ) Q (match tags c with | some t => .ok (.fz (.tup [.str t, d])) g1 s1 | none => .bad) := h
      rw [q] at h
      refine ⟨c, C, fl, tag, q, h1, h2, b, v, h3, h4, fun T hT => ?_⟩
      obtain ⟨E2, x2, r2⟩ := E'.nwTup hT (.cons (.str tag) (.cons h6 .nil))
      exact h _ _ _ E2 (x1.trans (x'.trans x2)) r2
end
section
variable {F : Fx} {W : WX} {X : Cx} {x : Str} {pos : Pos}
theorem w_mv (i : Nat) (hN : X.N[i]? = some x := by rfl) (hv : Vis X.env.scope x := by first | exact Or.inl rfl | exact Or.inr (Or.inl rfl) | exact Or.inr (Or.inr rfl)) (hd : (x == ("__debug__" : Str)) = false := by decide) (hcd : (x == ("__classdict__" : Str)) = false := by decide) :
    PEd X F W (.Name x pos) (sMv i) := d_mv hN hv hd hcd
end
section
variable {F : Fx} {W : WX} {X : Cx} {a b : Expr} {pos : Pos}
/-- x, y = (a, b), one of the names a cell: a pair is made, then taken apart -/
theorem x_par2c (i j : Nat) {x y : Str} {fs : Ga → Sd → Out (List Rs)} {px py pt : Pos} {kt k2 : Nat} {pt2 : Pos} (hK : X.K = F.K) (p1 : PG X (.Name x px) (gName i)) (p2 : PG X (.Name y py) (gName j)) (ha : PPd X F W [a, b] fs) (hij : i ≠ j := by decide) (hc : X.calm = true := by rfl)
    (hs : swapsWithSole [.Tuple [.Name x px, .Name y py] kt pt] (.Tuple [a, b] k2 pt2) pos.line X.env = pure false := by rfl) (hw : swappedStores [.Tuple [.Name x px, .Name y py] kt pt] (.Tuple [a, b] k2 pt2) X.env = pure none := by rfl) :
    PSd X F W (.Assign [.Tuple [.Name x px, .Name y py] kt pt] (.Tuple [a, b] k2 pt2) pos) (sPar [i, j] fs) :=
  PS.imp (ps_asg (pe_tup ha) (pg_tup hc (pgs_cons p1 (pgs_cons p2 pgs_nil))) hs hw) (by
    rintro D σ H ⟨P, g, s, M, E, h⟩
    have nd : ([i, j] : List Nat).Nodup := by simp [hij]
    refine rdG.then (R := RPs) E h fun vs rs H1 g1 s1 M1 E1 x1 ⟨os, q1, q2, q3, q4⟩ h1 => ?_
    have h1 : PostS P W D H1 M1 (match putAll [i, j] rs g1 with | some g2 => .ok .nx g2 s1 | none => .bad) := h1
    cases q : putAll [i, j] rs g1 with
    | none => rw [q] at h1; exact h1.elim
    | some g2 =>
      rw [q] at h1
      have l2 : vs.length = 2 := (put_ok nd E1 ⟨os, q1, q2, q3, q4⟩ q).1
      refine ⟨by rw [l2]; decide, fun p hp => ?_⟩
      obtain ⟨E2, x2, np⟩ := E1.alloc hp (.tup vs)
      have kp : ∀ a, M1 a → upd H1 p (.tup vs) a = H1 a := fun a m => upd_ne fun z => np (by rw [← z]; exact m)
      obtain ⟨r2, ef⟩ := q2.mono x2 fun a ha => kp a (q4 a ha).1
      have R2 : RsP P σ (upd H1 p (.tup vs)) M1 g1 vs rs := ⟨os, q1, r2, by rw [ef]; exact q3, fun a ha => by
        rw [ef] at ha
        exact ⟨(q4 a ha).1, (q4 a ha).2.1, fun i z => (q4 a ha).2.2 i (by rw [← E1.feet x2 kp i]; exact z)⟩⟩
      obtain ⟨hl, σ', p1, p2, p3, p4⟩ := put_ok nd E2 R2 q
      rcases vs with _ | ⟨v, _ | ⟨w, _ | ⟨u, r⟩⟩⟩
      · cases l2
      · cases l2
      · have es : σ' = (σ.set i (some v)).set j (some w) := by
          refine List.ext_getElem? fun l => ?_
          by_cases e1 : l = j
          · subst e1
            have k := p4 1 l w rfl rfl
            have hlt : l < σ'.length := (List.getElem?_eq_some_iff.mp k).1
            rw [k, List.getElem?_set_self (by rw [List.length_set]; omega)]
          · rw [get_set_ne e1]
            by_cases e2 : l = i
            · subst e2
              have k := p4 0 l v rfl rfl
              have hlt : l < σ'.length := (List.getElem?_eq_some_iff.mp k).1
              rw [k, List.getElem?_set_self (by omega)]
            · rw [get_set_ne e2]
              exact p3 l (by simp [e1, e2])
        refine ⟨_, _, rfl, SqT.of upd_same, rfl, ?_⟩
        subst es
        exact ⟨v, [w], rfl, w, [], rfl, rfl, h1 _ _ M1 p1 x2⟩
      · cases l2)
end
/-- at an error the slots are as many as the names -/
theorem takes_len {X : Cx} {W : WX} (tk : Takes X W) : Takes X (fun cls d σ H => σ.length = X.N.length → W cls d σ H) := fun u s' ⟨a, B, sI, pins, σ, H, cls, d, e, I, nb, up, sky, na, os, ag, w⟩ =>
  tk u s' ⟨a, B, sI, pins, σ, H, cls, d, e, I, nb, up, sky, na, os, ag, w I.len⟩
/-- code behind a statement that never ends well -/
theorem pss_no {X : Cx} {sts : List Stmt} : PSs X sts (fun _ _ _ => False) := ⟨fun _ _ _ _ _ _ h => h.elim⟩
/-- raise C(x), x a name: the thing in it is x's very value -/
theorem ps_raisV {X : Cx} {W : WX} {k i : Nat} {x fl pn y : Str} {C fI : Addr} {fd : FuncData} {p p2 cpos pos : Pos} (hc : X.calm = true) (tk : Takes X W) (T : OexC X.K C) (iC : PySem.W.findIn X.K (.ref C) "__init__" = some (some (.ref fI))) (tI : PySem.W.typeIn X.K (.ref fI) = some (.type "function"))
    (F1 : FnOk X.prog X.w X.K X.mg X.base CX0 k fI fd ["self", pn] (spInit C fl)) (hr : Room (k + 1) X.A) (hb : Binds X.K fd ["self", pn] []) (hg : Gl X x) (hm : X.mg x = some (.ref C)) (hv : PE X (.Name y p2) (tVar i)) (hdb : (x == ("__debug__" : Str)) = false) :
    PS X (.Raise (some (.Call (.Name x p) [.Name y p2] [] cpos)) none pos) (fun _ σ H => ∃ v, σ[i]? = some (some v) ∧ ∀ dx, H dx = none → W (.ref C) (some dx) σ (upd H dx (.xd [(fl, v)]))) :=
  PS.imp (ps_raise hc tk (pmk_oex T iC tI F1 hr hb .nil pass0 hg hm (pa_cons hv pa_nil (star_cons rfl)) hdb (star_cons rfl) (by rfl))) (by
    rintro D σ H ⟨v, e, h⟩
    refine ⟨v, e, by show 1 ≤ 1000; decide, fun a ha => ?_⟩
    refine ⟨a, v, rfl, upd_same, fun dx hdx hne => ⟨rfl, dx, [(fl, v)], upd_same, by rw [upd_ne hne, upd_same], ?_, ?_⟩⟩
    · rw [upd_ne hne] at hdx; exact hdx
    · have hdx : H dx = none := by rw [upd_ne hne] at hdx; exact hdx
      have e : upd (del (upd (upd (upd H a (exo a C none)) dx (exd dx [(fl, v)])) a (exo a C (some dx))) a) dx (.xd [(fl, v)]) = upd H dx (.xd [(fl, v)]) := by
        funext b
        by_cases b1 : b = dx
        · subst b1; rw [upd_same, upd_same]
        · rw [upd_ne b1, upd_ne b1]
          by_cases b2 : b = a
          · subst b2; rw [del_same, ha]
          · rw [del_ne b2, upd_ne b2, upd_ne b1, upd_ne b2]
      rw [e]
      exact h dx hdx)
/-- a def whose code object is known -/
structure FunC (K : PySem.W.Frag) (x qual : Str) (st : Stmt) (f : Addr) (fd : FuncData) (c : Addr) : Prop where
  ex : ∃ (oc : Value) (od : Option Addr) (kV doc pm : Value) (an : Option Addr) (ct : Value) (osl : Array (Option Value)),
    fd = PySem.W.fnOf x qual (defArgs st) (defBody st) (defScope st) .none kV doc pm an (.ref c) ct ∧ K.lookup f = some ⟨oc, od, .func fd, osl⟩ ∧ PySem.W.codeIn K (.ref c) qual = true
theorem fn_defC {P : Program} {w : World} {K : PySem.W.Frag} {mg : Str → Option Value} {base : Heap} {F : Fx} {x qual : Str} {st : Stmt} {f c : Addr} {fd : FuncData} {N ps : List Str} {k : Nat} {b : Ga → Sd → Out DI.Flow} (Fn : FunC K x qual st f fd c) (S : FnScope N ps (defScope st)) (hn : ps.length ≤ N.length)
    (hb : ∀ (A : Around) (outer : List PySem.Env) (s : Shared) (H : Hp) (E : XK), Room k (A.deeper (envOfC qual (defScope st) s.heap.objs.size f (.ref c))) → PSsd (cxOf (L2.CX P w) P w K mg base N qual (defScope st) f (.ref c) A outer s H E) F (fun c d _ H => E c d H) (defBody st) b) :
    FnOk P w K mg base (L2.CX P w) (k + 1) f fd ps (spF F ps.length (fnOf ps.length N.length b)) := by
  obtain ⟨oc, od, kV, doc, pm, an, ct, osl, rfl, lk, hcd⟩ := Fn.ex
  exact fn_of lk hcd S (fun vs H Q E h => h.1) fun A outer s H vs Q E hr h => ⟨_, hb A outer s H E hr, body_ok hn h⟩
/-- an error of the class at S is not what «except T» names -/
theorem exm_other {K : PySem.W.Frag} {S T : Addr} (h1 : PySem.W.subIn K (.ref T) (.type "BaseException") = some true) (h2 : PySem.W.isClsIn K T = true) (h3 : PySem.W.typeIn K (.ref T) = some (.type "type")) (h4 : PySem.W.subIn K (.ref S) (.ref T) = some false) :
    PySem.W.exmOne K (.ref S) (.ref T) = some false := by
  have e1 : (PySem.W.subIn K (.ref T) (.type "BaseException") == some true) = true := by rw [h1] <;> rfl
  have e2 : ((PySem.W.clsIn K T).isSome && PySem.W.typeIn K (.ref T) == some (.type "type")) = true := by
    have h2' : (PySem.W.clsIn K T).isSome = true := h2
    rw [h2', h3] <;> rfl
  show (if (PySem.W.subIn K (.ref T) (.type "BaseException") == some true) = true then (if ((PySem.W.clsIn K T).isSome && PySem.W.typeIn K (.ref T) == some (.type "type")) = true then PySem.W.subIn K (.ref S) (.ref T) else none) else none) = some false
  rw [if_pos e1, if_pos e2]
  exact h4
end DI
end
section
set_option Elab.async false
set_option linter.all false
set_option maxRecDepth 100000
set_option maxHeartbeats 2000000
/-! DIEndT: the law's call with tables of code objects, from a promise that holds where no repr is under way (shaped after the library's end with tables). -/
namespace DI
open PySem PySem.Spec PyProof.Rows L2 LamX
/-- law_call with tables: cs, the code objects and their tables -/
theorem law_callTG {P : Program} {w : World} {K : PySem.W.Frag} {mg mb : Str → Option Value} {CX : CXT} {k : Nat} {fa a : Addr} {cs : List (Addr × Addr)} {fd : FuncData} {x : Str} {sp : Sp} {s₁ : Shared} {vs : List Value} {ns : List Int}
    (KX : K.In s₁.heap) (hns : s₁.heap.Ns mainGlobals mg) (hb : s₁.heap.Ns builtinsNs mb) (hbb : ∀ x : Str, x ≠ "__name__" → mb x = bootBuiltins x) (hlim : s₁.heap.NoLimit) (hg : s₁.gens = #[])
    (hT : ∀ p ∈ cs, s₁.heap.get? p.2 = some { cls := .none, data := .fields #[] }) (nT : ∀ p ∈ cs, K.lookup p.2 = none) (C : ∀ p ∈ cs, PySem.W.CodeHd s₁.heap p.1 p.2)
    (hbm : ∃ (bm : Addr) (ob : Obj), mg "__builtins__" = some (.ref bm) ∧ bm ≠ builtinsNs ∧ s₁.heap.get? bm = some ob ∧ ob.cls = .type "module" ∧ ob.dict = some builtinsNs ∧ ob.data = .plain)
    (ha : s₁.heap.get? a = some { cls := .type "list", data := .seq vs.toArray }) (hi : IntsAre vs ns) (hl : ns.length ≤ sizeLine) (hr : Room k callerA)
    (F : ∀ base : Heap, K.In base → base.Ns mainGlobals mg → (∀ p ∈ cs, TabB base mg p.1 p.2) → FnG P w K mg base CX k fa fd [x] sp) (hbind : ∀ (s : Shared) (u : Value), BindsTo s fd ⟨[u], []⟩ [(x, u)])
    (hsp : ∀ H : Hp, (∀ p ∈ cs, H p.2 = some (.tbl #[])) → SqL K H a (ns.map V.int) → sp [.ref a] H (fun v _ => v = .bl true) fun _ _ _ => False)
    (hCX : ∀ H e s', CX [] H s₁ (fun _ _ _ => False) e s' → False) :
    codeAny (model P w) callerA (.call (.ref fa) ⟨[.ref a], []⟩) (fun r s' => r = .ok (.ret (.bool true)) ∧ OldK s₁.heap s'.heap ∧ s'.os = s₁.os ∧ AllBare s'.gens) s₁ := by
  have rv := vals_ints hi
  have lenV := hi.length
  have isT : ∀ b : Addr, b ∈ cs.map (·.2) → s₁.heap.get? b = some { cls := .none, data := .fields #[] } := fun b hb => by
    obtain ⟨p, hp, e⟩ := List.mem_map.mp hb
    rw [← e]
    exact hT p hp
  have aT : a ∉ cs.map (·.2) := fun z => by
    have q := isT a z
    rw [ha] at q
    have z' : Data.seq vs.toArray _ = Data.fields #[] := congrArg Obj.data (Option.some.inj q)
    cases z'
  have memT : ∀ p ∈ cs, p.2 ∈ cs.map (·.2) := fun p hp => List.mem_map.mpr ⟨p, hp, rfl⟩
  -- from an abstract heap in which nothing but the script and the tables may be tracked
  have core : ∀ H : Hp, (∀ p ∈ cs, H p.2 = some (.tbl #[])) → (∀ b, H b = none ∨ b ∈ cs.map (·.2) ∨ ∃ o xs, H b = some (.frz o (.lst xs))) → SqL K H a (ns.map V.int) → HOk P w H s₁.heap → (∀ b, H b ≠ none → b = a ∨ b ∈ cs.map (·.2)) → (H a ≠ none → K.lookup a = none) →
      codeAny (model P w) callerA (.call (.ref fa) ⟨[.ref a], []⟩) (fun r s' => r = .ok (.ret (.bool true)) ∧ OldK s₁.heap s'.heap ∧ s'.os = s₁.os ∧ AllBare s'.gens) s₁ := by
    intro H hH hO hS hok hA hK
    have base_of : ∀ {b : Addr} {o : Obj}, s₁.heap.get? b = some o → H b = none → (hidT s₁.heap H).get? b = some o := fun e n => hidT_get e n
    have noD : ∀ {b : Addr} {o : Obj}, s₁.heap.get? b = some o → (∀ vs n, o.data ≠ .seq vs n) → o.data ≠ .fields #[] → H b = none := fun {b o} e h1 h2 => by
      cases q : H b with
      | none => rfl
      | some u =>
        rcases hA b (by rw [q]; simp) with e' | e'
        · rw [e', ha] at e
          cases e
          exact (h1 _ _ rfl).elim
        · rw [isT b e'] at e
          cases e
          exact (h2 rfl).elim
    have noA : ∀ {b : Addr} {o : Obj} {es : Array DictEntry} {ep : Nat}, s₁.heap.get? b = some o → o.data = .dict es ep → H b = none := fun {b o es ep} e d => by
      refine noD e (fun vs n z => ?_) fun z => ?_
      · rw [d] at z
        cases z
      · rw [d] at z
        cases z
    have nsK : ∀ {b : Addr} {m : Str → Option Value}, s₁.heap.Ns b m → (hidT s₁.heap H).Ns b m := fun {b m} ⟨o, es, ep, e, d, r⟩ => ⟨o, es, ep, base_of e (noA e d), d, r⟩
    have hKb : K.In (hidT s₁.heap H) := fun b o e => base_of (KX b o e) (by
      cases q : H b with
      | none => rfl
      | some u =>
        rcases hA b (by rw [q]; simp) with e' | e'
        · rw [e'] at e q
          rw [hK (by rw [q]; simp)] at e
          cases e
        · obtain ⟨p, hp, ep⟩ := List.mem_map.mp e'
          rw [← ep, nT p hp] at e
          cases e)
    have hM : L2.Mod K mg (hidT s₁.heap H) := ⟨hKb, nsK hns, ⟨mb, nsK hb, hbb⟩, let ⟨mc, h1, h2⟩ := hlim; ⟨mc, nsK h1, h2⟩⟩
    have TB : ∀ p ∈ cs, TabB (hidT s₁.heap H) mg p.1 p.2 := fun p hp => by
      have hTp := hT p hp
      refine ⟨?_, ?_, fun z => ?_⟩
      · obtain ⟨o, us, file, tf, flags, tg, inF, text, tt, e1, r1, r2, r3, r4, r5, r6, r7, r8, hne⟩ := C p hp
        refine ⟨o, us, file, tf, flags, tg, inF, text, tt, base_of e1 (noD e1 (fun vs n z => ?_) fun z => ?_), r1, r2, r3, r4, r5, r6, r7, r8, hne⟩
        · rw [r2] at z
          cases z
        · rw [r2] at z
          cases z
          simp at r3
      · obtain ⟨bm, ob, b1, b2, b3, b4, b5, b6⟩ := hbm
        have nG : bm ≠ mainGlobals := fun q => by
          obtain ⟨o, es, ep, e, hd, _⟩ := hns
          rw [q, e] at b3
          cases b3
          rw [hd] at b6
          cases b6
        have nP : bm ≠ p.2 := fun q => by
          rw [q, hTp] at b3
          cases b3
          cases b6
        refine ⟨bm, ob, b1, b2, nG, nP, base_of b3 (noD b3 (fun vs n z => ?_) fun z => ?_), b4, b5, b6⟩
        · rw [b6] at z
          cases z
        · rw [b6] at z
          cases z
      · obtain ⟨o, es, ep, e, hd, _⟩ := hns
        rw [z, hTp] at e
        cases e
        cases hd
    have e0 : Env0 P w K mg (hidT s₁.heap H) callerA [] s₁ H := ⟨rfl, hM, fun b o e => of_hidT e, Nat.le_of_eq (hidT_size _ _), trivial, fun b hb => absurd (show b ∈ ([] : List Addr) from hb) (by simp), hok, .of_eq hg⟩
    refine codeAny_mono ((F _ hKb (nsK hns) TB).run callerA [] s₁ H ⟨[.ref a], []⟩ [.ref a] [.ref a] _ _ hr rfl e0 (hbind s₁ (.ref a)) (.cons rfl .nil) (hsp H hH hS)) fun r s' h => ?_
    cases r with
    | error e => exact (hCX H e s' h).elim
    | ok fl =>
      cases fl with
      | next => exact False.elim h
      | brk => exact False.elim h
      | cont => exact False.elim h
      | ret u =>
        obtain ⟨v, H', os, bare, un, hok', r', q⟩ := h
        have q' : v = .bl true := q
        subst q'
        obtain rfl : u = Value.bool true := r'
        have key : ∀ b o, b ∉ cs.map (·.2) → s₁.heap.get? b = some o → s'.heap.get? b = some o := fun b o nb e => by
          cases q : H b with
          | none => exact un.keep b o e q (by intro z; exact absurd (show b ∈ ([] : List Addr) from z) (by simp)) (by simp)
          | some u =>
            rcases hO b with z | z | ⟨ob, xs, z⟩
            · rw [q] at z; cases z
            · exact absurd z nb
            · have z2 := un.frzs b ob _ z
              obtain ⟨e1, _⟩ := hok b _ z
              obtain ⟨e2, _⟩ := hok' b _ z2
              rw [e] at e1; cases e1
              exact e2
        have grown : ∀ p ∈ cs, ∃ more : Array Value, s'.heap.get? p.2 = some { cls := .none, data := .fields more } := fun p hp => by
          obtain ⟨more, z⟩ := un.tbls p.2 #[] (hH p hp)
          exact ⟨_, hok' p.2 _ z⟩
        refine ⟨rfl, ⟨fun b o e => ?_, fun b o e => ?_⟩, os, bare⟩
        · by_cases hb : b ∈ cs.map (·.2)
          · obtain ⟨p, hp, ep⟩ := List.mem_map.mp hb
            obtain ⟨more, hm⟩ := grown p hp
            rw [← ep] at e ⊢
            rw [hT p hp] at e
            cases e
            exact .inr (.inl ⟨((C p hp).tab (hT p hp)).isCodeTable, rfl, #[], more, rfl, by rw [Array.empty_append]; exact hm⟩)
          · exact .inl (key b o hb e)
        · by_cases hb : b ∈ cs.map (·.2)
          · obtain ⟨p, hp, ep⟩ := List.mem_map.mp hb
            obtain ⟨more, hm⟩ := grown p hp
            rw [← ep]
            exact ⟨_, hm⟩
          · exact ⟨o, key b o hb e⟩
  cases hk : K.lookup a with
  | some o =>
    have e := KX a o hk
    rw [ha] at e
    cases e
    refine core (fun b => if b ∈ cs.map (·.2) then some (.tbl #[]) else none) (fun p hp => if_pos (memT p hp)) (fun b => ?_) (.inr ⟨_, vs.toArray, _, hk, rfl, rfl, rfl, by rw [List.size_toArray, lenV]; exact hl, by simpa using rv⟩) (fun b u z => ?_) (fun b z => ?_) fun z => absurd (show (if a ∈ cs.map (·.2) then some (HO.tbl #[]) else none) = none from if_neg aT) z
    · by_cases hb : b ∈ cs.map (·.2)
      · exact .inr (.inl hb)
      · exact .inl (if_neg hb)
    · by_cases hb : b ∈ cs.map (·.2)
      · have z' := (if_pos hb).symm.trans z
        cases z'
        exact isT b hb
      · have z' := (if_neg hb).symm.trans z
        cases z'
    · by_cases hb : b ∈ cs.map (·.2)
      · exact .inr hb
      · exact absurd (if_neg hb) z
  | none =>
    refine core (fun b => if b = a then some (.frz { cls := .type "list", data := .seq vs.toArray } (.lst (ns.map V.int))) else if b ∈ cs.map (·.2) then some (.tbl #[]) else none) (fun p hp => (if_neg (show ¬ p.2 = a from fun z => aT (by rw [← z]; exact memT p hp))).trans (if_pos (memT p hp))) (fun b => ?_)
      (.inl (.inr ⟨{ cls := .type "list", data := .seq vs.toArray }, if_pos rfl⟩)) (fun b u z => ?_) (fun b z => ?_) fun _ => hk
    · by_cases hb : b = a
      · exact .inr (.inr ⟨_, _, if_pos hb⟩)
      · by_cases hb2 : b ∈ cs.map (·.2)
        · exact .inr (.inl hb2)
        · exact .inl ((if_neg hb).trans (if_neg hb2))
    · by_cases hb : b = a
      · have z' := (if_pos hb).symm.trans z
        cases z'
        rw [hb]
        exact ⟨ha, by rw [List.length_map]; exact hl, vs, _, rv, ha⟩
      · have z1 := (if_neg hb).symm.trans z
        by_cases hb2 : b ∈ cs.map (·.2)
        · have z' := (if_pos hb2).symm.trans z1
          cases z'
          exact isT b hb2
        · have z' := (if_neg hb2).symm.trans z1
          cases z'
    · by_cases hb : b = a
      · exact .inl hb
      · by_cases hb2 : b ∈ cs.map (·.2)
        · exact .inr hb2
        · exact absurd ((if_neg hb).trans (if_neg hb2)) z
/-- what is known of the law's promise at the head's heap h -/
def LawAtG (l : PySem.W.OpenLaw) (w : World) (K : PySem.W.Frag) (CX : CXT) (k n : Nat) (x : Str) (mg : Str → Option Value) (fa : Addr) (h : Heap) : Prop :=
  ∃ (fd : FuncData) (cs : List (Addr × Addr)) (sp : Sp), (∀ p ∈ cs, h.get? p.2 = some { cls := .none, data := .fields #[] }) ∧ (∀ p ∈ cs, K.lookup p.2 = none) ∧ (∀ p ∈ cs, PySem.W.CodeHd h p.1 p.2) ∧ (∀ (s : Shared) (u : Value), BindsTo s fd ⟨[u], []⟩ [(x, u)]) ∧
    (∀ (H : Hp) (a : Addr) (ns : List Int), ns.length ≤ n → (∀ z ∈ ns, Builtin.Int.intBits z ≤ 1048576) → (∀ p ∈ cs, H p.2 = some (.tbl #[])) → SqL K H a (ns.map V.int) → sp [.ref a] H (fun v _ => v = .bl true) fun _ _ _ => False) ∧
    ∀ base : Heap, K.In base → base.Ns mainGlobals mg → (∀ p ∈ cs, TabB base mg p.1 p.2) → FnG l.prog w K mg base CX k fa fd [x] sp
theorem walk_ofTG {l : PySem.W.OpenLaw} {n k : Nat} {q : Program} {loose : List Str} {XP : (Str → Option Value) → Heap → Prop} {YP : World → Heap → Prop} {d : DefRec} {K : Params → PySem.W.Frag} {CX : World → CXT} {x : Str}
    (hn : l.most = some n) (hn2 : n ≤ sizeLine) (hdf : d.params.defaults = []) (hr : Room k callerA) (hY : ∀ (w : World) (h : Heap), YP w h → (K w.params).In h)
    (F : ∀ (w : World) (mg : Str → Option Value) (fa : Addr) (h : Heap), YP w h → (K w.params).In h → h.Ns mainGlobals mg → mg d.name = some (.ref fa) → LawAtG l w (K w.params) (CX w) k n x mg fa h)
    (hCX : ∀ (w : World) (H : Hp) (s : Shared) (e : Value) (s' : Shared), CX w [] H s (fun _ _ _ => False) e s' → False) :
    PySem.W.WalkO q loose XP YP l.row.toRowW d [] (fun f vs => PySem.call f vs) := by
  refine Att.attach_callB hn hdf fun w s₀ s₁ mg mb fa o pm cd doc a vs ns G Y ho hd hcd hmg hobj hints hlen hbits hg => ?_
  have KX := hY w _ Y
  obtain ⟨fd, cs, sp, hT, nT, C, hb, hsp, hF⟩ := F w mg fa _ Y KX G.T.g hmg
  exact law_callTG KX G.T.g G.T.b G.T.builtins G.T.nolimit hg hT nT C G.T.bmain hobj hints (Nat.le_trans hlen hn2) hr hF hb (fun H hH hS => hsp H a ns hlen hbits hH hS) fun H e s' => hCX w H s₁ e s'
end DI
end
section
set_option Elab.async false
set_option linter.all false
set_option maxRecDepth 100000
set_option maxHeartbeats 4000000
/-! the spring of draws, walked by hand -/
namespace K14
open PySem L2 DI
def top (i : Nat) : Stmt := PySem.Challenge.pw_twinforks_k14_whole_endless_rows.main.body.getD i (.Pass ⟨0, 0, 0, 0⟩)
abbrev s_draw : Stmt := top 31
section
variable {P : Program} {w : World} {K : PySem.W.Frag} {mg : Str → Option Value} {base : Heap} {F : Fx}
theorem sc_draw : FnScope ["stream", "many", "cell", "digit", "mixed"] ["stream", "many"] (defScope s_draw) := ⟨rfl, rfl, rfl, by decide +kernel, rfl, by decide +kernel, by decide +kernel⟩
/-- what is left of the spring while cells are eaten -/
def At (F : Fx) (H0 H : Hp) (s : Sd) : Prop := Wd F H s ∧ Frm F H0 H
theorem At.ck {H0 H : Hp} {s : Sd} (h : At F H0 H s) : F.c ≠ F.k := h.1.1.1
theorem At.put {H0 H : Hp} {s : Sd} (h : At F H0 H s) (s' : Sd) (hc : s'.cells = s.cells) : At F H0 (upd H F.c (.lst [.ref F.k, .int s'.big, .int s'.cnt, .int s'.mix])) s' :=
  ⟨⟨⟨h.1.1.1, upd_same, by rw [upd_ne (Ne.symm h.1.1.1), hc]; exact h.1.1.2.2⟩, tabs_upd h.1.2 h.1.1.2.1 rfl _⟩, fun b o e t n => by rw [upd_ne fun z => n (.inl z)]; exact h.2 b o e t n⟩
theorem At.eat {H0 H : Hp} {s : Sd} (h : At F H0 H s) (cells : List Int) : At F H0 (upd H F.k (.lst (cells.map V.int))) ⟨cells, s.big, s.cnt, s.mix⟩ :=
  ⟨⟨⟨h.1.1.1, by rw [upd_ne h.1.1.1]; exact h.1.1.2.1, upd_same⟩, tabs_upd h.1.2 h.1.1.2.2 rfl _⟩, fun b o e t n => by rw [upd_ne fun z => n (.inr z)]; exact h.2 b o e t n⟩
theorem At.ex {H0 H : Hp} {s : Sd} (h : At F H0 H s) {p : Addr} (hp : H p = none) (o : HO) : At F H0 (upd H p o) s := by
  have n1 : F.c ≠ p := fun z => by rw [← z, h.1.1.2.1] at hp; cases hp
  have n2 : F.k ≠ p := fun z => by rw [← z, h.1.1.2.2] at hp; cases hp
  exact ⟨⟨⟨h.1.1.1, by rw [upd_ne n1]; exact h.1.1.2.1, by rw [upd_ne n2]; exact h.1.1.2.2⟩, tabs_keep h.1.2 fun b u e _ => by rw [upd_ne (fun z => by rw [z, hp] at e; cases e)]; exact e⟩, fun b u e t m => by
    have e2 := h.2 b u e t m
    rw [upd_ne (fun z => by rw [z, hp] at e2; cases e2)]; exact e2⟩
theorem iteT {b : Bool} {p q : Prop} (h : b = true) (hp : p) : if b = true then p else q := by rw [if_pos h]; exact hp
theorem iteF {b : Bool} {p q : Prop} (h : ¬ b = true) (hq : q) : if b = true then p else q := by rw [if_neg h]; exact hq
theorem pos_of (n : Int) (a : Int) (h : 0 < n) : (fun x j => 0 < j : Int → Int → Prop) a n := h
theorem si0 (n : Nat) : seqIndex? 0 (n+1) = some 0 := by
  unfold seqIndex?
  simp
theorem dp_ints {K : PySem.W.Frag} {H : Hp} : ∀ ns : List Int, DpAll K H (ns.map V.int) (ns.map PyData.int)
  | [] => .nil
  | n :: ns => .cons (.int n) (dp_ints ns)
theorem shaped_ints (ns : List Int) : SeqAt.shaped (.list (ns.map PyData.int)) = true := by
  have h1 : ∀ ns : List Int, PyData.canLayAll0 (ns.map PyData.int) = true := fun ns => by
    induction ns with
    | nil => rfl
    | cons n ns ih => rw [List.map_cons]; unfold PyData.canLayAll0; rw [ih]; rfl
  have h2 : ∀ ns : List Int, PyData.depthAll (ns.map PyData.int) = 0 := fun ns => by
    induction ns with
    | nil => simp [PyData.depthAll]
    | cons n ns ih => rw [List.map_cons]; unfold PyData.depthAll; rw [ih]; simp [PyData.depth]
  unfold SeqAt.shaped
  rw [Bool.and_eq_true]
  refine ⟨?_, ?_⟩
  · show PyData.canLay0 _ = true
    unfold PyData.canLay0
    exact h1 ns
  · rw [decide_eq_true_eq]
    unfold PyData.depth
    rw [h2]; decide
theorem ne_ints (ns : List Int) : (!PyData.eqv (.list (ns.map PyData.int)) (.list [])) = !ns.isEmpty := by
  cases ns <;> simp [PyData.eqv, PyData.eqvAll]
theorem ok_draw {f : Addr} {fd : FuncData} (Fn : Fun F.K "_law_draw" "_law_draw" s_draw f fd) (hint : mg "int" = none) : FnOk P w F.K mg base (L2.CX P w) 1 f fd ["stream", "many"] (spF F 2 ψDraw) := by
  refine Fn.okX sc_draw (fun vs H Q E h => h.1) (fun cdv A outer s H vs Q E hr h => ?_)
  obtain ⟨hl, ds, sd, M0, m1, al, wd, r, post⟩ := h
  have st := wd.1
  -- the arguments
  obtain ⟨many, rfl, hok⟩ : ∃ many, ds = [.strm, .int many] ∧ drawOk sd many := by
    rcases ds with _ | ⟨a, _ | ⟨b, _ | ⟨d, rest⟩⟩⟩
    · exact post.elim
    · cases a <;> exact post.elim
    · cases a <;> first
        | exact post.elim
        | (cases b <;> first
            | exact post.elim
            | (rename_i many
               refine ⟨many, rfl, ?_⟩
               by_cases z : drawOk sd many
               · exact z
               · have post : PostF _ M0 H Q E (if drawOk sd many then .ok (.int (drawF sd many).1) false (drawF sd many).2 else .bad) := post
                 rw [if_neg z] at post
                 exact post.elim))
    · cases a <;> cases b <;> exact post.elim
  have post : PostF F M0 H Q E (.ok (.int (drawF sd many).1) false (drawF sd many).2) := by
    have post : PostF _ M0 H Q E (if drawOk sd many then .ok (.int (drawF sd many).1) false (drawF sd many).2 else .bad) := post
    rw [if_pos hok] at post
    exact post
  obtain rfl : vs = [.ref F.c, .int many] := by
    cases r with
    | cons r1 r2 =>
      cases r2 with
      | cons r3 r4 =>
        cases r4
        cases r1
        cases r3
        rfl
  obtain ⟨⟨o1, o2, o3, o4⟩, o5, o6, o7⟩ := id hok
  have hu := (hr.units : _ + 64 < cLine)
  -- behind the loop
  obtain ⟨tR, hR, qR⟩ : ∃ t, PSs (cxOf (L2.CX P w) P w F.K mg base ["stream", "many", "cell", "digit", "mixed"] "_law_draw" (defScope s_draw) f cdv A outer s H E) ((defBody s_draw).drop 2) t ∧
      ∀ (cells : List Int) (big mix : Int) (x : Option V) (H1 : Hp), At F H H1 ⟨cells, big, sd.cnt + 1, mix⟩ → eat sd.cells sd.big sd.mix = (cells, big, mix) → t { nx := fun _ H' => Q .non H', rt := Q } [some (.ref F.c), some (.int many), x, none, none] H1 := by
    refine ⟨_, (pss_cons (ps_if (pt_cmpR op_gt (pe_ix ix_list (pv 0) pe_int (fun _ _ => rfl)) pe_int (nomark _))
      (pss_cons (ps_set (i := 3) sc_draw.nd rfl (Or.inl rfl) (pe_op op_mod (pe_callTy call_int1 (by rfl) hint PyProof.Rows.boot_int (pa_cons (pe_ix ix_list (pv 0) pe_int (fun _ _ => rfl)) pa_nil)) (pv 1)))
      (pss_cons (ps_asg (pe_op op_fdiv (pe_ix ix_list (pv 0) pe_int (fun _ _ => rfl)) (pv 1)) (pg_sub (pv 0) pe_int set_list))
      (pss_one (ps_ret (pv 3)))))
      pss_nil)
    (pss_cons (ps_set (i := 4) sc_draw.nd rfl (Or.inl rfl) (pe_op op_mod (pe_callTy call_int1 (by rfl) hint PyProof.Rows.boot_int (pa_cons (pe_op op_pow (pe_op op_add (pe_op op_add (pe_ix ix_list (pv 0) pe_int (fun _ _ => rfl)) (pe_op op_mul pe_int (pe_ix ix_list (pv 0) pe_int (fun _ _ => rfl)))) pe_int) pe_int) pa_nil)) pe_int))
    (pss_one (ps_ret (pe_op op_mod (pe_op op_mod (pe_callTy call_int1 (by rfl) hint PyProof.Rows.boot_int (pa_cons (pe_op op_pow (pe_op op_add (pe_op op_add (pe_op op_mul (pv 4) pe_int) (pe_op op_mul pe_int (pe_ix ix_list (pv 0) pe_int (fun _ _ => rfl)))) pe_int) pe_int) pa_nil)) pe_int) (pv 1))))) ), ?_⟩
    intro cells big mix x H1 a2 he
    obtain ⟨wd2, fr2⟩ := id a2
    have st2 := wd2.1
    have hc : H1 F.c = some (.lst [.ref F.k, .int big, .int (sd.cnt + 1), .int mix]) := st2.2.1
    have hb := eat_big sd.cells sd.big sd.mix o1
    have hm := eat_mix sd.cells sd.big sd.mix o2 o3
    rw [he] at hb hm
    have hb : 0 ≤ big := hb
    have hm : 0 ≤ mix ∧ mix < 2147483647 := hm
    refine ⟨_, rfl, F.c, _, 1, _, rfl, rfl, SqL.of hc, rfl, _, _, rfl, rfl, _, rfl, ?_⟩
    by_cases h0 : (0 : Int) < big
    · refine iteT (decide_eq_true h0) ?_
      have hdr : drawF sd many = (big % many, ⟨cells, big / many, sd.cnt + 1, mix⟩) := by
        unfold drawF
        dsimp only
        rw [he]
        exact if_pos h0
      rw [hdr] at post
      refine ⟨_, rfl, F.c, _, 1, _, rfl, rfl, SqL.of hc, rfl, .inl ⟨_, rfl, _, rfl, _, _, rfl, rfl, o5, ?_⟩⟩
      refine ⟨_, rfl, F.c, _, 1, _, rfl, rfl, SqL.of hc, rfl, _, rfl, _, _, rfl, rfl, ⟨o5, o6⟩, _, rfl, F.c, _, 1, 1, rfl, rfl, hc, rfl, ?_⟩
      have a3 := a2.put ⟨cells, big / many, sd.cnt + 1, mix⟩ rfl
      exact ⟨_, rfl, post _ _ a3.2 a3.1 (.int _)⟩
    · refine iteF (fun z => h0 (of_decide_eq_true z)) ?_
      have hdr : drawF sd many = (mixF mix (sd.cnt + 1) % many, ⟨cells, big, sd.cnt + 1, mix⟩) := by
        unfold drawF
        dsimp only
        rw [he]
        exact if_neg h0
      rw [hdr] at post
      refine ⟨_, rfl, F.c, _, 3, _, rfl, rfl, SqL.of hc, rfl, _, rfl, F.c, _, 2, _, rfl, rfl, SqL.of hc, rfl, _, _, rfl, rfl, .inl ⟨by decide, by decide⟩, _, _, rfl, rfl, _, _, rfl, rfl, _, _, rfl, rfl, ⟨by decide, by decide, ?_⟩, .inl ⟨_, rfl, _, _, rfl, rfl, by show (0:Int) < _; decide, ?_⟩⟩
      · show (mix + 6151 * (sd.cnt + 1) + 130003).natAbs < 2 ^ 64
        omega
      · have hx := Int.emod_lt_of_pos ((mix + 6151 * (sd.cnt + 1) + 130003) ^ 5) (b := 2147483629) (by decide)
        have hx0 := Int.emod_nonneg ((mix + 6151 * (sd.cnt + 1) + 130003) ^ 5) (b := 2147483629) (by decide)
        refine ⟨_, rfl, _, _, rfl, rfl, .inl ⟨?_, ?_⟩, _, rfl, F.c, _, 2, _, rfl, rfl, SqL.of hc, rfl, _, _, rfl, rfl, .inl ⟨by decide, by decide⟩, _, _, rfl, rfl, _, _, rfl, rfl, _, _, rfl, rfl, ⟨by decide, by decide, ?_⟩, .inl ⟨_, rfl, _, _, rfl, rfl, by show (0:Int) < _; decide, _, rfl, _, _, rfl, rfl, o5, ?_⟩⟩
        · show -(2 ^ 64) < (mix + 6151 * (sd.cnt + 1) + 130003) ^ 5 % 2147483629
          omega
        · show (mix + 6151 * (sd.cnt + 1) + 130003) ^ 5 % 2147483629 < 2 ^ 64
          omega
        · show ((mix + 6151 * (sd.cnt + 1) + 130003) ^ 5 % 2147483629 * 69621 + 40009 * (sd.cnt + 1) + 31).natAbs < 2 ^ 64
          omega
        · exact post _ _ fr2 wd2 (.int _)
  refine ⟨_, pss_cons (ps_asg (pe_op op_add (pe_ix ix_list (pv 0) pe_int (fun _ _ => rfl)) pe_int) (pg_sub (pv 0) pe_int set_list))
    (pss_cons (ps_while (passes_of rfl) (pw_and (pt_cmpR op_eq (pe_ix ix_list (pv 0) pe_int (fun _ _ => rfl)) pe_int (nomark _)) (pw_and1 (pt_cmpR (op_neD hu) (pe_ix ix_list (pv 0) pe_int (fun _ _ => rfl)) (pe_lst pa_nil) (nomark _)))).pt
      (pss_cons (ps_set (i := 2) sc_draw.nd rfl (Or.inl rfl) (pe_bm PySem.F.plainAttrs_list PySem.F.slot_list_pop PySem.F.type_list_pop mt_popAt (pe_ix ix_list (pv 0) pe_int (fun _ _ => rfl)) (pa_cons pe_int pa_nil)))
      (pss_cons (ps_asg (pe_op op_mod (pe_callTy call_int1 (by rfl) hint PyProof.Rows.boot_int (pa_cons (pe_op op_add (pe_op op_add (pe_op op_mul (pe_ix ix_list (pv 0) pe_int (fun _ _ => rfl)) pe_int) (pv 2)) pe_int) pa_nil)) pe_int) (pg_sub (pv 0) pe_int set_list))
      (pss_one (ps_asg (pe_ifExp (pt_cmpR op_ge (pv 2) (pe_op op_pow pe_int pe_int) (nomark _)) (pv 2) pe_int) (pg_sub (pv 0) pe_int set_list))))))
    hR), ?_⟩
  -- stream[2] = stream[2] + 1
  refine ⟨_, rfl, F.c, _, 2, _, rfl, rfl, SqL.of st.2.1, rfl, _, _, rfl, rfl, _, rfl, F.c, _, 2, 2, rfl, rfl, st.2.1, rfl, ?_⟩
  have a0 : At F H H sd := ⟨wd, fun _ _ e _ _ => e⟩
  have a1 := a0.put ⟨sd.cells, sd.big, sd.cnt + 1, sd.mix⟩ rfl
  refine ⟨fun m σ H1 => ∃ cells big mix x, σ = [some (.ref F.c), some (.int many), x, none, none] ∧ m = cells.length ∧ At F H H1 ⟨cells, big, sd.cnt + 1, mix⟩ ∧ eat cells big mix = eat sd.cells sd.big sd.mix ∧ 0 ≤ mix ∧ mix < 2147483647,
    ⟨_, sd.cells, sd.big, sd.mix, none, rfl, rfl, a1, rfl, o2, o3⟩, ?_⟩
  rintro m σ H1 ⟨cells, big, mix, x, rfl, rfl, a2, he, hm1, hm2⟩
  obtain ⟨wd2, fr2⟩ := id a2
  have st2 := wd2.1
  have hc : H1 F.c = some (.lst [.ref F.k, .int big, .int (sd.cnt + 1), .int mix]) := st2.2.1
  refine ⟨_, rfl, F.c, _, 1, _, rfl, rfl, SqL.of hc, rfl, rfl, _, rfl, ?_⟩
  by_cases h0 : big = 0
  · subst h0
    refine iteT rfl ?_
    have hk : H1 F.k = some (.lst (cells.map V.int)) := st2.2.2
    refine ⟨_, rfl, F.c, _, 0, _, rfl, rfl, SqL.of hc, rfl, by decide, fun q hq => ?_⟩
    have a3 := a2.ex hq (.lst [])
    have hk3 : upd H1 q (.lst []) F.k = some (.lst (cells.map V.int)) := a3.1.1.2.2
    have hc3 : upd H1 q (.lst []) F.c = some (.lst [.ref F.k, .int 0, .int (sd.cnt + 1), .int mix]) := a3.1.1.2.1
    refine ⟨.list (cells.map PyData.int), .list [], .lst (SqL.of hk3) (dp_ints cells), .lst (SqL.of upd_same) .nil, shaped_ints cells, by decide, _, rfl, ?_⟩
    cases cells with
    | nil =>
      refine iteF (by decide) ?_
      exact qR [] 0 mix x _ a3 (by rw [← he]; rfl)
    | cons y ys =>
      refine iteT (by rw [ne_ints]; rfl) ?_
      refine ⟨fun σ' H' => ∃ cells big mix x, σ' = [some (.ref F.c), some (.int many), x, none, none] ∧ cells.length < (y :: ys).length ∧ At F H H' ⟨cells, big, sd.cnt + 1, mix⟩ ∧ eat cells big mix = eat sd.cells sd.big sd.mix ∧ 0 ≤ mix ∧ mix < 2147483647,
        fun σ' H' ⟨cells, big, mix, x, e1, e2, e3, e4, e5, e6⟩ => ⟨cells.length, e2, cells, big, mix, x, e1, rfl, e3, e4, e5, e6⟩, ?_⟩
      -- cell = stream[0].pop(0)
      refine ⟨_, rfl, F.c, _, 0, _, rfl, rfl, SqL.of hc3, rfl, .inl ⟨rfl, _, SqL.of hk3⟩, F.k, _, 0, 0, _, rfl, rfl, hk3, by decide, by decide, by rw [List.length_map]; exact si0 _, rfl, ?_⟩
      have a4 := a3.eat ys
      have hc4 : upd (upd H1 q (.lst [])) F.k (.lst (ys.map V.int)) F.c = some (.lst [.ref F.k, .int 0, .int (sd.cnt + 1), .int mix]) := a4.1.1.2.1
      -- stream[3] = ..
      refine ⟨_, rfl, F.c, _, 3, _, rfl, rfl, SqL.of hc4, rfl, _, _, rfl, rfl, .inl ⟨by omega, by omega⟩, _, rfl, _, _, rfl, rfl, _, _, rfl, rfl, .inl ⟨_, rfl, _, _, rfl, rfl, by show (0:Int) < _; decide, _, rfl, F.c, _, 3, 3, rfl, rfl, hc4, rfl, ?_⟩⟩
      have a5 := a4.put ⟨ys, 0, sd.cnt + 1, (mix * 65599 + y + 7) % 2147483647⟩ rfl
      have hc5 := a5.1.1.2.1
      -- stream[1] = ..
      refine ⟨_, rfl, _, _, rfl, rfl, ⟨by decide, by decide, by decide⟩, _, _, rfl, rfl, _, rfl, ?_⟩
      have tail : ∀ b : Int, (if y ≥ 1000000000000000000 then y else 0) = b → At F H (upd (upd (upd (upd H1 q (.lst [])) F.k (.lst (ys.map V.int))) F.c (.lst [.ref F.k, .int 0, .int (sd.cnt + 1), .int ((mix * 65599 + y + 7) % 2147483647)])) F.c (.lst [.ref F.k, .int b, .int (sd.cnt + 1), .int ((mix * 65599 + y + 7) % 2147483647)])) ⟨ys, b, sd.cnt + 1, (mix * 65599 + y + 7) % 2147483647⟩ ∧
          eat ys b ((mix * 65599 + y + 7) % 2147483647) = eat sd.cells sd.big sd.mix := fun b hb => by
        refine ⟨a5.put ⟨ys, b, sd.cnt + 1, (mix * 65599 + y + 7) % 2147483647⟩ rfl, ?_⟩
        rw [← he, ← hb]
        show _ = eat (y :: ys) 0 mix
        conv => rhs; unfold eat
        rw [if_pos rfl]
      by_cases hy : (10 : Int) ^ (18 : Int).toNat ≤ y
      · refine iteT (decide_eq_true hy) ?_
        have hy' : y ≥ 1000000000000000000 := hy
        obtain ⟨t1, t2⟩ := tail y (if_pos hy')
        exact ⟨_, rfl, _, rfl, F.c, _, 1, 1, rfl, rfl, hc5, rfl, ys, y, _, _, rfl, by simp, t1, t2, Int.emod_nonneg _ (by decide), Int.emod_lt_of_pos _ (by decide)⟩
      · refine iteF (fun z => hy (of_decide_eq_true z)) ?_
        have hy' : ¬ y ≥ 1000000000000000000 := hy
        obtain ⟨t1, t2⟩ := tail 0 (if_neg hy')
        exact ⟨_, rfl, F.c, _, 1, 1, rfl, rfl, hc5, rfl, ys, 0, _, _, rfl, by simp, t1, t2, Int.emod_nonneg _ (by decide), Int.emod_lt_of_pos _ (by decide)⟩
  · refine iteF (fun z => h0 (by have := of_decide_eq_true z; exact V.int.inj this)) ?_
    refine iteF Bool.false_ne_true ?_
    refine qR cells big mix x H1 a2 ?_
    rw [← he]
    cases cells with
    | nil => rfl
    | cons y ys => unfold eat; rw [if_neg h0]
end
end K14
end
section
set_option Elab.async false
set_option linter.all false
set_option maxRecDepth 100000
set_option maxHeartbeats 4000000
namespace K14
open PySem L2 DI
open LamX (TabB GivesTo Tabs)
structure Df (K : PySem.W.Frag) (mg : Str → Option Value) (x : Str) (st : Stmt) (ps : List Str) (f : Addr) (fd : FuncData) : Prop where
  m : mg x = some (.ref f)
  F : Fun K x x st f fd
  k : PySem.W.keepIn K (.ref f) = true
  b : Binds K fd ps []
structure Tx (K : PySem.W.Frag) (cls : Nat → Option (Addr × Str)) (mg : Str → Option Value) where
  a7 : Addr
  f7 : FuncData
  d7 : Df K mg "is_integer" (top 7) ["thing"] a7 f7
  a8 : Addr
  f8 : FuncData
  d8 : Df K mg "is_number" (top 8) ["thing"] a8 f8
  a9 : Addr
  f9 : FuncData
  d9 : Df K mg "is_row" (top 9) ["thing"] a9 f9
  a10 : Addr
  f10 : FuncData
  d10 : Df K mg "is_endless" (top 10) ["thing"] a10 f10
  a11 : Addr
  f11 : FuncData
  d11 : Df K mg "least" (top 11) ["head", "again"] a11 f11
  a12 : Addr
  f12 : FuncData
  d12 : Df K mg "checked_endless_form" (top 12) ["thing"] a12 f12
  a13 : Addr
  f13 : FuncData
  d13 : Df K mg "checked_endless" (top 13) ["thing"] a13 f13
  a15 : Addr
  f15 : FuncData
  d15 : Df K mg "first_figures" (top 15) ["endless", "many"] a15 f15
  a16 : Addr
  f16 : FuncData
  d16 : Df K mg "row_beneath" (top 16) ["endless", "many"] a16 f16
  a17 : Addr
  f17 : FuncData
  d17 : Df K mg "checked_many" (top 17) ["many"] a17 f17
  a18 : Addr
  f18 : FuncData
  d18 : Df K mg "tops" (top 18) ["endless", "many"] a18 f18
  a19 : Addr
  f19 : FuncData
  d19 : Df K mg "drop_tops" (top 19) ["endless", "many"] a19 f19
  a20 : Addr
  f20 : FuncData
  d20 : Df K mg "put_all" (top 20) ["figures", "endless"] a20 f20
  a21 : Addr
  f21 : FuncData
  d21 : Df K mg "first_unlike" (top 21) ["endless", "other"] a21 f21
  a23 : Addr
  f23 : FuncData
  d23 : Df K mg "_law_f_least" (top 23) ["head", "again"] a23 f23
  a24 : Addr
  f24 : FuncData
  d24 : Df K mg "_law_f_tops" (top 24) ["row", "many"] a24 f24
  a25 : Addr
  f25 : FuncData
  d25 : Df K mg "_law_f_beneath" (top 25) ["row", "many"] a25 f25
  a26 : Addr
  f26 : FuncData
  d26 : Df K mg "_law_f_row" (top 26) ["stream", "many"] a26 f26
  a27 : Addr
  f27 : FuncData
  d27 : Df K mg "_law_f_endless" (top 27) ["stream"] a27 f27
  a28 : Addr
  f28 : FuncData
  d28 : Df K mg "_law_f_as_told" (top 28) ["stream", "row"] a28 f28
  a29 : Addr
  f29 : FuncData
  d29 : Df K mg "_law_f_odd_rows" (top 29) [] a29 f29
  a30 : Addr
  f30 : FuncData
  d30 : Df K mg "_law_start" (top 30) ["script"] a30 f30
  a31 : Addr
  f31 : FuncData
  d31 : Df K mg "_law_draw" (top 31) ["stream", "many"] a31 f31
  a32 : Addr
  f32 : FuncData
  d32 : Df K mg "_law_mixed" (top 32) ["stream", "some"] a32 f32
  a33 : Addr
  f33 : FuncData
  d33 : Df K mg "_law_same" (top 33) ["found", "due"] a33 f33
  a34 : Addr
  f34 : FuncData
  d34 : Df K mg "_law_loose" (top 34) ["stream", "thing"] a34 f34
  a35 : Addr
  f35 : FuncData
  d35 : Df K mg "_law_row_or" (top 35) ["ask"] a35 f35
  a36 : Addr
  f36 : FuncData
  d36 : Df K mg "_law_below" (top 36) ["row", "many"] a36 f36
  a37 : Addr
  f37 : FuncData
  d37 : Df K mg "_law_row_right" (top 37) ["stream", "row"] a37 f37
  a38 : Addr
  f38 : FuncData
  d38 : Df K mg "_law_unlike_right" (top 38) ["stream", "row", "other"] a38 f38
  a39 : Addr
  f39 : FuncData
  d39 : Df K mg "_law_refused_right" (top 39) ["stream", "row"] a39 f39
  a40 : Addr
  f40 : FuncData
  d40 : Df K mg "law" (top 40) ["script"] a40 f40
  C_BadEndless : Addr
  i_BadEndless : Addr
  fd_BadEndless : FuncData
  m_BadEndless : mg "BadEndless" = some (.ref C_BadEndless)
  x_BadEndless : OexC K C_BadEndless
  cl_BadEndless : cls 1 = some (C_BadEndless, ("thing" : Str))
  in_BadEndless : PySem.W.findIn K (.ref C_BadEndless) "__init__" = some (some (.ref i_BadEndless))
  ty_BadEndless : PySem.W.typeIn K (.ref i_BadEndless) = some (.type "function")
  no_BadEndless : PySem.W.findIn K (.ref C_BadEndless) "thing" = some none
  xf_BadEndless : XfC K C_BadEndless
  te_BadEndless : PySem.W.exmOne K (.ref C_BadEndless) (.ref C_BadEndless) = some true
  F_BadEndless : Fun K "__init__" "BadEndless.__init__" (inClass (top 2) 0) i_BadEndless fd_BadEndless
  b_BadEndless : Binds K fd_BadEndless ["self", "thing"] []
  C_BadFigures : Addr
  i_BadFigures : Addr
  fd_BadFigures : FuncData
  m_BadFigures : mg "BadFigures" = some (.ref C_BadFigures)
  x_BadFigures : OexC K C_BadFigures
  cl_BadFigures : cls 2 = some (C_BadFigures, ("thing" : Str))
  in_BadFigures : PySem.W.findIn K (.ref C_BadFigures) "__init__" = some (some (.ref i_BadFigures))
  ty_BadFigures : PySem.W.typeIn K (.ref i_BadFigures) = some (.type "function")
  no_BadFigures : PySem.W.findIn K (.ref C_BadFigures) "thing" = some none
  xf_BadFigures : XfC K C_BadFigures
  te_BadFigures : PySem.W.exmOne K (.ref C_BadFigures) (.ref C_BadFigures) = some true
  F_BadFigures : Fun K "__init__" "BadFigures.__init__" (inClass (top 3) 0) i_BadFigures fd_BadFigures
  b_BadFigures : Binds K fd_BadFigures ["self", "thing"] []
  C_BadMany : Addr
  i_BadMany : Addr
  fd_BadMany : FuncData
  m_BadMany : mg "BadMany" = some (.ref C_BadMany)
  x_BadMany : OexC K C_BadMany
  cl_BadMany : cls 3 = some (C_BadMany, ("thing" : Str))
  in_BadMany : PySem.W.findIn K (.ref C_BadMany) "__init__" = some (some (.ref i_BadMany))
  ty_BadMany : PySem.W.typeIn K (.ref i_BadMany) = some (.type "function")
  no_BadMany : PySem.W.findIn K (.ref C_BadMany) "thing" = some none
  xf_BadMany : XfC K C_BadMany
  te_BadMany : PySem.W.exmOne K (.ref C_BadMany) (.ref C_BadMany) = some true
  F_BadMany : Fun K "__init__" "BadMany.__init__" (inClass (top 4) 0) i_BadMany fd_BadMany
  b_BadMany : Binds K fd_BadMany ["self", "thing"] []
  C_BadOther : Addr
  i_BadOther : Addr
  fd_BadOther : FuncData
  m_BadOther : mg "BadOther" = some (.ref C_BadOther)
  x_BadOther : OexC K C_BadOther
  cl_BadOther : cls 4 = some (C_BadOther, ("thing" : Str))
  in_BadOther : PySem.W.findIn K (.ref C_BadOther) "__init__" = some (some (.ref i_BadOther))
  ty_BadOther : PySem.W.typeIn K (.ref i_BadOther) = some (.type "function")
  no_BadOther : PySem.W.findIn K (.ref C_BadOther) "thing" = some none
  xf_BadOther : XfC K C_BadOther
  te_BadOther : PySem.W.exmOne K (.ref C_BadOther) (.ref C_BadOther) = some true
  F_BadOther : Fun K "__init__" "BadOther.__init__" (inClass (top 5) 0) i_BadOther fd_BadOther
  b_BadOther : Binds K fd_BadOther ["self", "thing"] []
  tn_BadEndless_BadMany : PySem.W.exmOne K (.ref C_BadEndless) (.ref C_BadMany) = some false
  tn_BadEndless_BadFigures : PySem.W.exmOne K (.ref C_BadEndless) (.ref C_BadFigures) = some false
  tn_BadEndless_BadOther : PySem.W.exmOne K (.ref C_BadEndless) (.ref C_BadOther) = some false
  tn_BadMany_BadEndless : PySem.W.exmOne K (.ref C_BadMany) (.ref C_BadEndless) = some false
  tn_BadMany_BadFigures : PySem.W.exmOne K (.ref C_BadMany) (.ref C_BadFigures) = some false
  tn_BadMany_BadOther : PySem.W.exmOne K (.ref C_BadMany) (.ref C_BadOther) = some false
  tn_BadFigures_BadEndless : PySem.W.exmOne K (.ref C_BadFigures) (.ref C_BadEndless) = some false
  tn_BadFigures_BadMany : PySem.W.exmOne K (.ref C_BadFigures) (.ref C_BadMany) = some false
  tn_BadFigures_BadOther : PySem.W.exmOne K (.ref C_BadFigures) (.ref C_BadOther) = some false
  tn_BadOther_BadEndless : PySem.W.exmOne K (.ref C_BadOther) (.ref C_BadEndless) = some false
  tn_BadOther_BadMany : PySem.W.exmOne K (.ref C_BadOther) (.ref C_BadMany) = some false
  tn_BadOther_BadFigures : PySem.W.exmOne K (.ref C_BadOther) (.ref C_BadFigures) = some false
  lc39 : Addr
  lt39 : Addr
  lf39 : FunC K "_law_refused_right" "_law_refused_right" (top 39) a39 f39 lc39
  lh39 : PySem.W.codeHdIn K lc39 lt39 = true
  ln39 : K.lookup lt39 = none
  n_all : mg "all" = none
  n_bool : mg "bool" = none
  n_dict : mg "dict" = none
  n_enumerate : mg "enumerate" = none
  n_int : mg "int" = none
  n_isinstance : mg "isinstance" = none
  n_len : mg "len" = none
  n_list : mg "list" = none
  n_max : mg "max" = none
  n_range : mg "range" = none
  n_repr : mg "repr" = none
  n_tuple : mg "tuple" = none
  n_zip : mg "zip" = none
  kb19 : KBinds K f19 ["endless", "many"] ["many", "endless"] (kG [1, 0]) (kG [1, 0])
  kb18 : KBinds K f18 ["endless", "many"] ["many", "endless"] (kG [1, 0]) (kG [1, 0])
  kb20 : KBinds K f20 ["figures", "endless"] ["endless", "figures"] (kG [1, 0]) (kG [1, 0])
  kb21 : KBinds K f21 ["endless", "other"] ["other", "endless"] (kG [1, 0]) (kG [1, 0])
section
variable {P : Program} {w : World} {mg : Str → Option Value} {base : Heap} {F : Fx}
theorem sc_BadEndless : FnScope ["self", "thing"] ["self", "thing"] (defScope (inClass (top 2) 0)) := ⟨rfl, rfl, rfl, by decide +kernel, rfl, by decide +kernel, by decide +kernel⟩
theorem x_rais_BadEndless {X : Cx} {W : WX} {e : Expr} {f : Ga → Sd → Out Rs} {pos cpos p : Pos} {k : Nat} (T : Tx F.K F.cls X.mg) (hr : Room k X.A) (tk : Takes X W) (ha : PEd X F W e f) (hk : 2 ≤ k := by omega) (hK : X.K = F.K := by rfl) (hg : Gl X "BadEndless" := by rfl) (hc : X.calm = true := by rfl) (h1 : isStar e = false := by rfl) : PSd X F W (.Raise (some (.Call (.Name "BadEndless" p) [e] [] cpos)) none pos) (sRais 1 f) := by
  refine ds_rais (k := 1) (pn := "thing") (fl := "thing") (C := T.C_BadEndless) (fI := T.i_BadEndless) (fd := T.fd_BadEndless) hc tk (by rw [hK]; exact T.x_BadEndless) T.cl_BadEndless (by rw [hK]; exact T.in_BadEndless) (by rw [hK]; exact T.ty_BadEndless) ?_ (hr.mono hk) (by rw [hK]; exact T.b_BadEndless) hg T.m_BadEndless ha (by decide) h1
  rw [hK]
  exact ok_init T.F_BadEndless sc_BadEndless T.x_BadEndless T.no_BadEndless ⟨_, _, _, _, rfl⟩ (Or.inl rfl) (Or.inl rfl) (by decide) (by decide)
theorem sc_BadFigures : FnScope ["self", "thing"] ["self", "thing"] (defScope (inClass (top 3) 0)) := ⟨rfl, rfl, rfl, by decide +kernel, rfl, by decide +kernel, by decide +kernel⟩
theorem x_rais_BadFigures {X : Cx} {W : WX} {e : Expr} {f : Ga → Sd → Out Rs} {pos cpos p : Pos} {k : Nat} (T : Tx F.K F.cls X.mg) (hr : Room k X.A) (tk : Takes X W) (ha : PEd X F W e f) (hk : 2 ≤ k := by omega) (hK : X.K = F.K := by rfl) (hg : Gl X "BadFigures" := by rfl) (hc : X.calm = true := by rfl) (h1 : isStar e = false := by rfl) : PSd X F W (.Raise (some (.Call (.Name "BadFigures" p) [e] [] cpos)) none pos) (sRais 2 f) := by
  refine ds_rais (k := 1) (pn := "thing") (fl := "thing") (C := T.C_BadFigures) (fI := T.i_BadFigures) (fd := T.fd_BadFigures) hc tk (by rw [hK]; exact T.x_BadFigures) T.cl_BadFigures (by rw [hK]; exact T.in_BadFigures) (by rw [hK]; exact T.ty_BadFigures) ?_ (hr.mono hk) (by rw [hK]; exact T.b_BadFigures) hg T.m_BadFigures ha (by decide) h1
  rw [hK]
  exact ok_init T.F_BadFigures sc_BadFigures T.x_BadFigures T.no_BadFigures ⟨_, _, _, _, rfl⟩ (Or.inl rfl) (Or.inl rfl) (by decide) (by decide)
theorem sc_BadMany : FnScope ["self", "thing"] ["self", "thing"] (defScope (inClass (top 4) 0)) := ⟨rfl, rfl, rfl, by decide +kernel, rfl, by decide +kernel, by decide +kernel⟩
theorem x_rais_BadMany {X : Cx} {W : WX} {e : Expr} {f : Ga → Sd → Out Rs} {pos cpos p : Pos} {k : Nat} (T : Tx F.K F.cls X.mg) (hr : Room k X.A) (tk : Takes X W) (ha : PEd X F W e f) (hk : 2 ≤ k := by omega) (hK : X.K = F.K := by rfl) (hg : Gl X "BadMany" := by rfl) (hc : X.calm = true := by rfl) (h1 : isStar e = false := by rfl) : PSd X F W (.Raise (some (.Call (.Name "BadMany" p) [e] [] cpos)) none pos) (sRais 3 f) := by
  refine ds_rais (k := 1) (pn := "thing") (fl := "thing") (C := T.C_BadMany) (fI := T.i_BadMany) (fd := T.fd_BadMany) hc tk (by rw [hK]; exact T.x_BadMany) T.cl_BadMany (by rw [hK]; exact T.in_BadMany) (by rw [hK]; exact T.ty_BadMany) ?_ (hr.mono hk) (by rw [hK]; exact T.b_BadMany) hg T.m_BadMany ha (by decide) h1
  rw [hK]
  exact ok_init T.F_BadMany sc_BadMany T.x_BadMany T.no_BadMany ⟨_, _, _, _, rfl⟩ (Or.inl rfl) (Or.inl rfl) (by decide) (by decide)
theorem sc_BadOther : FnScope ["self", "thing"] ["self", "thing"] (defScope (inClass (top 5) 0)) := ⟨rfl, rfl, rfl, by decide +kernel, rfl, by decide +kernel, by decide +kernel⟩
theorem x_rais_BadOther {X : Cx} {W : WX} {e : Expr} {f : Ga → Sd → Out Rs} {pos cpos p : Pos} {k : Nat} (T : Tx F.K F.cls X.mg) (hr : Room k X.A) (tk : Takes X W) (ha : PEd X F W e f) (hk : 2 ≤ k := by omega) (hK : X.K = F.K := by rfl) (hg : Gl X "BadOther" := by rfl) (hc : X.calm = true := by rfl) (h1 : isStar e = false := by rfl) : PSd X F W (.Raise (some (.Call (.Name "BadOther" p) [e] [] cpos)) none pos) (sRais 4 f) := by
  refine ds_rais (k := 1) (pn := "thing") (fl := "thing") (C := T.C_BadOther) (fI := T.i_BadOther) (fd := T.fd_BadOther) hc tk (by rw [hK]; exact T.x_BadOther) T.cl_BadOther (by rw [hK]; exact T.in_BadOther) (by rw [hK]; exact T.ty_BadOther) ?_ (hr.mono hk) (by rw [hK]; exact T.b_BadOther) hg T.m_BadOther ha (by decide) h1
  rw [hK]
  exact ok_init T.F_BadOther sc_BadOther T.x_BadOther T.no_BadOther ⟨_, _, _, _, rfl⟩ (Or.inl rfl) (Or.inl rfl) (by decide) (by decide)
/-! is_integer -/
theorem sc_is_integer : FnScope ["thing"] ["thing"] (defScope (top 7)) := ⟨rfl, rfl, rfl, by decide +kernel, rfl, by decide +kernel, by decide +kernel⟩
def b_is_integer : Ga → Sd → Out DI.Flow := (sRet (sAnd (sOne (isiF [.int]) (sVar 0)) (sOne notF (sOne (isiF [.bool]) (sVar 0)))))
def ψ_is_integer : List DI.D → Sd → FOut := fnOf 1 1 (b_is_integer)
theorem ok_is_integer (T : Tx F.K F.cls mg) : FnOk P w F.K mg base (L2.CX P w) 1 T.a7 T.f7 ["thing"] (spF F 1 (ψ_is_integer)) := fn_def T.d7.F sc_is_integer (by decide) (
    fun cdv A outer s H E hr => (ds_one (ds_ret (d_and (w_isi .int rfl T.n_isinstance (w_var 0) (ty_e .int T.n_int rfl)) (d_one (d_not (w_isi .bool rfl T.n_isinstance (w_var 0) (ty_e .bool T.n_bool rfl))))))))
/-! is_number -/
theorem sc_is_number : FnScope ["thing"] ["thing"] (defScope (top 8)) := ⟨rfl, rfl, rfl, by decide +kernel, rfl, by decide +kernel, by decide +kernel⟩
def b_is_number : Ga → Sd → Out DI.Flow := (sRet (sAnd (sCall (callG ψ_is_integer) (aCons (sVar 0) aNil)) (sCmp .ge (sVar 0) (sCon (.int 0)))))
def ψ_is_number : List DI.D → Sd → FOut := fnOf 1 1 (b_is_number)
theorem ok_is_number (T : Tx F.K F.cls mg) : FnOk P w F.K mg base (L2.CX P w) 2 T.a8 T.f8 ["thing"] (spF F 1 (ψ_is_number)) := fn_def T.d8.F sc_is_number (by decide) (
    fun cdv A outer s H E hr => (ds_one (ds_ret (d_and (w_call (ok_is_integer T) fnOf_bad hr T.d7.m T.d7.k T.d7.b tk_def (a_cons (w_var 0) da_nil) (by omega)) (d_one (w_ge (w_var 0) w_int))))))
/-! is_row -/
theorem sc_is_row : FnScope ["thing", "part"] ["thing"] (defScope (top 9)) := ⟨rfl, rfl, rfl, by decide +kernel, rfl, by decide +kernel, by decide +kernel⟩
def b_is_row : Ga → Sd → Out DI.Flow := (sRet (sAnd (sOne (isiF [.list, .tuple]) (sVar 0)) (sBi (biF .all) (lCons (sLc [1] (iSeqF (sVar 0)) (.nm 1) (fun g s => .ok true g s) (sAnd (sCall (callG ψ_is_integer) (aCons (sVar 1) aNil)) (sCmp .isIn (sVar 1) (sTup (aCons (sCon (.int 0)) (aCons (sCon (.int 1)) aNil)))))) lNil))))
def ψ_is_row : List DI.D → Sd → FOut := fnOf 1 2 (b_is_row)
theorem ok_is_row (T : Tx F.K F.cls mg) : FnOk P w F.K mg base (L2.CX P w) 2 T.a9 T.f9 ["thing"] (spF F 1 (ψ_is_row)) := fn_def T.d9.F sc_is_row (by decide) (
    fun cdv A outer s H E hr => (ds_one (ds_ret (d_and (w_isiT [.list, .tuple] rfl T.n_isinstance (w_var 0) (tys_cons (ty_e .list T.n_list rfl) (tys_cons (ty_e .tuple T.n_tuple rfl) tys_nil))) (d_one (w_all rfl T.n_all (w_lc [("part", 1)] rfl sc_is_row.nd (di_seq rfl (w_var 0)) (blkOk_by (N := ["thing", "part"]) (sc := defScope (top 9)) (by decide +kernel)) (fun _ _ _ _ _ => (pg_name (i := 1) sc_is_row.nd rfl (by first | exact Or.inl rfl | exact Or.inr rfl))) (tg_nm 1) (by decide) (fun _ _ _ _ _ => dc_nil) (fun _ _ _ _ _ => (d_and (w_call (ok_is_integer T) fnOf_bad hr T.d7.m T.d7.k T.d7.b takes0 (a_cons (w_var 1) da_nil) (by omega)) (d_one (w_in hr rfl (w_var 1) (d_tup (a_cons w_int (a_cons w_int da_nil))))))))))))))
/-! is_endless -/
theorem sc_is_endless : FnScope ["thing"] ["thing"] (defScope (top 10)) := ⟨rfl, rfl, rfl, by decide +kernel, rfl, by decide +kernel, by decide +kernel⟩
def b_is_endless : Ga → Sd → Out DI.Flow := (sSeq (sIff (tOrF (tNotF (tOf (sOne (isiF [.list, .tuple]) (sVar 0)))) (tOf (sCmp .ne (sBi (biF .len) (lCons (sVar 0) lNil)) (sCon (.int 2))))) (sRet (sCon (.bl false))) (fun g s => .ok .nx g s))
    (sRet (sAnd (sCall (callG ψ_is_row) (aCons (sTwo (fun x y => (subF x y).map .fz) (sVar 0) (sCon (.int 0))) aNil)) (sAnd (sCall (callG ψ_is_row) (aCons (sTwo (fun x y => (subF x y).map .fz) (sVar 0) (sCon (.int 1))) aNil)) (sCmp .gt (sBi (biF .len) (lCons (sTwo (fun x y => (subF x y).map .fz) (sVar 0) (sCon (.int 1))) lNil)) (sCon (.int 0)))))))
def ψ_is_endless : List DI.D → Sd → FOut := fnOf 1 1 (b_is_endless)
theorem ok_is_endless (T : Tx F.K F.cls mg) : FnOk P w F.K mg base (L2.CX P w) 3 T.a10 T.f10 ["thing"] (spF F 1 (ψ_is_endless)) := fn_def T.d10.F sc_is_endless (by decide) (
    fun cdv A outer s H E hr => (ds_cons (ds_if ((dw_or (dt_not (t_val (w_isiT [.list, .tuple] rfl T.n_isinstance (w_var 0) (tys_cons (ty_e .list T.n_list rfl) (tys_cons (ty_e .tuple T.n_tuple rfl) tys_nil))))) (dw_or1 (t_ne hr rfl (w_len rfl T.n_len (w_var 0)) w_int)))).pt (ds_one (ds_ret w_bl)) ds_nil)
    (ds_one (ds_ret (d_and (w_call (ok_is_row T) fnOf_bad hr T.d9.m T.d9.k T.d9.b tk_def (a_cons (w_ix rfl (w_var 0) w_int) da_nil) (by omega)) (d_and (w_call (ok_is_row T) fnOf_bad hr T.d9.m T.d9.k T.d9.b tk_def (a_cons (w_ix rfl (w_var 0) w_int) da_nil) (by omega)) (d_one (w_gt (w_len rfl T.n_len (w_ix rfl (w_var 0) w_int)) w_int))))))))
end
end K14
end
section
set_option Elab.async false
set_option linter.all false
set_option maxRecDepth 100000
set_option maxHeartbeats 4000000
namespace K14
open PySem L2 DI
open LamX (TabB GivesTo Tabs)
section
variable {P : Program} {w : World} {mg : Str → Option Value} {base : Heap} {F : Fx}
/-! least -/
theorem sc_least : FnScope ["head", "again", "many"] ["head", "again"] (defScope (top 11)) := ⟨rfl, rfl, rfl, by decide +kernel, rfl, by decide +kernel, by decide +kernel⟩
def b_least : Ga → Sd → Out DI.Flow := (sSeq (sPar [0, 1] (pCons (sBi (biF .list) (lCons (sVar 0) lNil)) (pCons (sBi (biF .list) (lCons (sVar 1) lNil)) lNil)))
    (sSeq (sFor (.nm 2) (iRngF rngF2 (aCons (sCon (.int 1)) (aCons (sTwo (binF .add) (sBi (biF .len) (lCons (sVar 1) lNil)) (sCon (.int 1))) aNil))) (sIff (tAndF (tOf (sCmp .eq (sTwo (binF .mod) (sBi (biF .len) (lCons (sVar 1) lNil)) (sVar 2)) (sCon (.int 0)))) (tOf (sCmp .eq (sVar 1) (sTwo (binF .mul) (sSlc (sVar 1) oNone (pOf (sVar 2))) (sTwo (binF .fdiv) (sBi (biF .len) (lCons (sVar 1) lNil)) (sVar 2)))))) (sSeq (sAsg (.nm 1) (sSlc (sVar 1) oNone (pOf (sVar 2))))
    (fun g s => .ok .brk g s)) (fun g s => .ok .nx g s)))
    (sSeq (whlL (tAndF (tOf (sCmp .ne (sVar 0) (sLst aNil))) (tOf (sCmp .eq (sTwo (fun x y => (subF x y).map .fz) (sVar 0) (sOne negF (sCon (.int 1)))) (sTwo (fun x y => (subF x y).map .fz) (sVar 1) (sOne negF (sCon (.int 1))))))) (sSeq (sExp (sMth0 .pop 0))
    (sAsg (.nm 1) (sTwo (binF .add) (sLst (aCons (sTwo (fun x y => (subF x y).map .fz) (sVar 1) (sOne negF (sCon (.int 1)))) aNil)) (sSlc (sVar 1) oNone (pOf (sOne negF (sCon (.int 1)))))))) 1000)
    (sRet (sTupT (pCons (sMv 0) (pCons (sMv 1) lNil)))))))
def ψ_least : List DI.D → Sd → FOut := fnOf 2 3 (b_least)
theorem ok_least (T : Tx F.K F.cls mg) : FnOk P w F.K mg base (L2.CX P w) 1 T.a11 T.f11 ["head", "again"] (spF F 2 (ψ_least)) := fn_def T.d11.F sc_least (by decide) (
    fun cdv A outer s H E hr => (ds_cons (x_par2 0 1 sc_least.nd (p_cons (w_list rfl T.n_list (w_var 0)) (p_cons (w_list rfl T.n_list (w_var 1)) dp_nil)))
    (ds_cons (x_for hp_def rfl (di_rng2 rfl T.n_range (a_cons w_int (a_cons (w_add (w_len rfl T.n_len (w_var 1)) w_int) da_nil)) rfl rfl ) (pg_name (i := 2) sc_least.nd rfl (by first | exact Or.inl rfl | exact Or.inr rfl)) (tg_nm 2) (ds_one (ds_if ((dw_and (t_eq hr rfl (w_mod (w_len rfl T.n_len (w_var 1)) (w_var 2)) w_int) (dw_and1 (t_eq hr rfl (w_var 1) (w_mul (w_slc rfl (w_var 1) do_none (do_some (w_var 2))) (w_fdiv (w_len rfl T.n_len (w_var 1)) (w_var 2))))))).pt (ds_cons (x_set 1 sc_least.nd (w_slc rfl (w_var 1) do_none (do_some (w_var 2))))
    (ds_one ds_break)) ds_nil)))
    (ds_cons (x_while 1000 hp_def ((dw_and (t_ne hr rfl (w_var 0) (d_lst da_nil)) (dw_and1 (t_eq hr rfl (w_ix rfl (w_var 0) (w_neg w_int)) (w_ix rfl (w_var 1) (w_neg w_int)))))).pt (ds_cons (x_exp (w_pop 0))
    (ds_one (x_set 1 sc_least.nd (w_add (d_lst (a_cons (w_ix rfl (w_var 1) (w_neg w_int)) da_nil)) (w_slc rfl (w_var 1) do_none (do_some (w_neg w_int))))))))
    (ds_one (ds_ret (d_tupT (p_cons (w_mv 0) (p_cons (w_mv 1) dp_nil)))))))))
/-! checked_endless_form -/
theorem sc_checked_endless_form : FnScope ["thing"] ["thing"] (defScope (top 12)) := ⟨rfl, rfl, rfl, by decide +kernel, rfl, by decide +kernel, by decide +kernel⟩
def b_checked_endless_form : Ga → Sd → Out DI.Flow := (sSeq (sIff (tNotF (tOf (sCall (callG ψ_is_endless) (aCons (sVar 0) aNil)))) (sRais 1 (sVar 0)) (fun g s => .ok .nx g s))
    (sRet (sTup (aCons (sBi (biF .list) (lCons (sTwo (fun x y => (subF x y).map .fz) (sVar 0) (sCon (.int 0))) lNil)) (aCons (sBi (biF .list) (lCons (sTwo (fun x y => (subF x y).map .fz) (sVar 0) (sCon (.int 1))) lNil)) aNil)))))
def ψ_checked_endless_form : List DI.D → Sd → FOut := fnOf 1 1 (b_checked_endless_form)
theorem ok_checked_endless_form (T : Tx F.K F.cls mg) : FnOk P w F.K mg base (L2.CX P w) 4 T.a12 T.f12 ["thing"] (spF F 1 (ψ_checked_endless_form)) := fn_def T.d12.F sc_checked_endless_form (by decide) (
    fun cdv A outer s H E hr => (ds_cons (ds_if (dt_not (t_val (w_call (ok_is_endless T) fnOf_bad hr T.d10.m T.d10.k T.d10.b tk_def (a_cons (w_var 0) da_nil) (by omega)))) (ds_one (x_rais_BadEndless T hr tk_def (w_var 0))) ds_nil)
    (ds_one (ds_ret (d_tup (a_cons (w_list rfl T.n_list (w_ix rfl (w_var 0) w_int)) (a_cons (w_list rfl T.n_list (w_ix rfl (w_var 0) w_int)) da_nil)))))))
/-! checked_endless -/
theorem sc_checked_endless : FnScope ["thing", "head", "again"] ["thing"] (defScope (top 13)) := ⟨rfl, rfl, rfl, by decide +kernel, rfl, by decide +kernel, by decide +kernel⟩
def b_checked_endless : Ga → Sd → Out DI.Flow := (sSeq (sAsg (.cons (.nm 1) (.cons (.nm 2) .nil)) (sCall (callG ψ_checked_endless_form) (aCons (sVar 0) aNil)))
    (sRet (sCall (callG ψ_least) (aCons (sVar 1) (aCons (sVar 2) aNil)))))
def ψ_checked_endless : List DI.D → Sd → FOut := fnOf 1 3 (b_checked_endless)
theorem ok_checked_endless (T : Tx F.K F.cls mg) : FnOk P w F.K mg base (L2.CX P w) 5 T.a13 T.f13 ["thing"] (spF F 1 (ψ_checked_endless)) := fn_def T.d13.F sc_checked_endless (by decide) (
    fun cdv A outer s H E hr => (ds_cons (x_asg (w_call (ok_checked_endless_form T) fnOf_bad hr T.d12.m T.d12.k T.d12.b tk_def (a_cons (w_var 0) da_nil) (by omega)) (pg_tup rfl (pgs_cons (pg_name (i := 1) sc_checked_endless.nd rfl (by first | exact Or.inl rfl | exact Or.inr rfl)) (pgs_cons (pg_name (i := 2) sc_checked_endless.nd rfl (by first | exact Or.inl rfl | exact Or.inr rfl)) pgs_nil))) (tg_tup (tgs_cons (tg_nm 1) (tgs_cons (tg_nm 2) tgs_nil)) rfl))
    (ds_one (ds_ret (w_call (ok_least T) fnOf_bad hr T.d11.m T.d11.k T.d11.b tk_def (a_cons (w_var 1) (a_cons (w_var 2) da_nil)) (by omega))))))
end
end K14
end
section
set_option Elab.async false
set_option linter.all false
set_option maxRecDepth 100000
set_option maxHeartbeats 4000000
namespace K14
open PySem L2 DI
open LamX (TabB GivesTo Tabs)
section
variable {P : Program} {w : World} {mg : Str → Option Value} {base : Heap} {F : Fx}
/-! first_figures -/
theorem sc_first_figures : FnScope ["endless", "many", "head", "again", "found"] ["endless", "many"] (defScope (top 15)) := ⟨rfl, rfl, rfl, by decide +kernel, rfl, by decide +kernel, by decide +kernel⟩
def b_first_figures : Ga → Sd → Out DI.Flow := (sSeq (sAsg (.cons (.nm 2) (.cons (.nm 3) .nil)) (sVar 0))
    (sSeq (sAsg (.nm 4) (sSlc (sVar 2) oNone (pOf (sVar 1))))
    (sSeq (whlL (tOf (sCmp .lt (sBi (biF .len) (lCons (sVar 4) lNil)) (sVar 1))) (sAsg (.nm 4) (sTwo (binF .add) (sVar 4) (sVar 3))) 1000)
    (sRet (sSlc (sVar 4) oNone (pOf (sVar 1)))))))
def ψ_first_figures : List DI.D → Sd → FOut := fnOf 2 5 (b_first_figures)
theorem ok_first_figures (T : Tx F.K F.cls mg) : FnOk P w F.K mg base (L2.CX P w) 1 T.a15 T.f15 ["endless", "many"] (spF F 2 (ψ_first_figures)) := fn_def T.d15.F sc_first_figures (by decide) (
    fun cdv A outer s H E hr => (ds_cons (x_asg (w_var 0) (pg_tup rfl (pgs_cons (pg_name (i := 2) sc_first_figures.nd rfl (by first | exact Or.inl rfl | exact Or.inr rfl)) (pgs_cons (pg_name (i := 3) sc_first_figures.nd rfl (by first | exact Or.inl rfl | exact Or.inr rfl)) pgs_nil))) (tg_tup (tgs_cons (tg_nm 2) (tgs_cons (tg_nm 3) tgs_nil)) rfl))
    (ds_cons (x_set 4 sc_first_figures.nd (w_slc rfl (w_var 2) do_none (do_some (w_var 1))))
    (ds_cons (x_while 1000 hp_def (t_lt (w_len rfl T.n_len (w_var 4)) (w_var 1)) (ds_one (x_set 4 sc_first_figures.nd (w_add (w_var 4) (w_var 3)))))
    (ds_one (ds_ret (w_slc rfl (w_var 4) do_none (do_some (w_var 1)))))))))
/-! row_beneath -/
theorem sc_row_beneath : FnScope ["endless", "many", "head", "again", "at"] ["endless", "many"] (defScope (top 16)) := ⟨rfl, rfl, rfl, by decide +kernel, rfl, by decide +kernel, by decide +kernel⟩
def b_row_beneath : Ga → Sd → Out DI.Flow := (sSeq (sAsg (.cons (.nm 2) (.cons (.nm 3) .nil)) (sVar 0))
    (sSeq (sIff (tOf (sCmp .le (sVar 1) (sBi (biF .len) (lCons (sVar 2) lNil)))) (sRet (sCall (callG ψ_least) (aCons (sSlc (sVar 2) (pOf (sVar 1)) oNone) (aCons (sVar 3) aNil)))) (fun g s => .ok .nx g s))
    (sSeq (sAsg (.nm 4) (sTwo (binF .mod) (sTwo (binF .sub) (sVar 1) (sBi (biF .len) (lCons (sVar 2) lNil))) (sBi (biF .len) (lCons (sVar 3) lNil))))
    (sRet (sCall (callG ψ_least) (aCons (sLst aNil) (aCons (sTwo (binF .add) (sSlc (sVar 3) (pOf (sVar 4)) oNone) (sSlc (sVar 3) oNone (pOf (sVar 4)))) aNil)))))))
def ψ_row_beneath : List DI.D → Sd → FOut := fnOf 2 5 (b_row_beneath)
theorem ok_row_beneath (T : Tx F.K F.cls mg) : FnOk P w F.K mg base (L2.CX P w) 2 T.a16 T.f16 ["endless", "many"] (spF F 2 (ψ_row_beneath)) := fn_def T.d16.F sc_row_beneath (by decide) (
    fun cdv A outer s H E hr => (ds_cons (x_asg (w_var 0) (pg_tup rfl (pgs_cons (pg_name (i := 2) sc_row_beneath.nd rfl (by first | exact Or.inl rfl | exact Or.inr rfl)) (pgs_cons (pg_name (i := 3) sc_row_beneath.nd rfl (by first | exact Or.inl rfl | exact Or.inr rfl)) pgs_nil))) (tg_tup (tgs_cons (tg_nm 2) (tgs_cons (tg_nm 3) tgs_nil)) rfl))
    (ds_cons (ds_if (t_le (w_var 1) (w_len rfl T.n_len (w_var 2))) (ds_one (ds_ret (w_call (ok_least T) fnOf_bad hr T.d11.m T.d11.k T.d11.b tk_def (a_cons (w_slc rfl (w_var 2) (do_some (w_var 1)) do_none) (a_cons (w_var 3) da_nil)) (by omega)))) ds_nil)
    (ds_cons (x_set 4 sc_row_beneath.nd (w_mod (w_sub (w_var 1) (w_len rfl T.n_len (w_var 2))) (w_len rfl T.n_len (w_var 3))))
    (ds_one (ds_ret (w_call (ok_least T) fnOf_bad hr T.d11.m T.d11.k T.d11.b tk_def (a_cons (d_lst da_nil) (a_cons (w_add (w_slc rfl (w_var 3) (do_some (w_var 4)) do_none) (w_slc rfl (w_var 3) do_none (do_some (w_var 4)))) da_nil)) (by omega))))))))
/-! checked_many -/
theorem sc_checked_many : FnScope ["many"] ["many"] (defScope (top 17)) := ⟨rfl, rfl, rfl, by decide +kernel, rfl, by decide +kernel, by decide +kernel⟩
def b_checked_many : Ga → Sd → Out DI.Flow := (sSeq (sIff (tNotF (tOf (sCall (callG ψ_is_number) (aCons (sVar 0) aNil)))) (sRais 3 (sVar 0)) (fun g s => .ok .nx g s))
    (sRet (sVar 0)))
def ψ_checked_many : List DI.D → Sd → FOut := fnOf 1 1 (b_checked_many)
theorem ok_checked_many (T : Tx F.K F.cls mg) : FnOk P w F.K mg base (L2.CX P w) 3 T.a17 T.f17 ["many"] (spF F 1 (ψ_checked_many)) := fn_def T.d17.F sc_checked_many (by decide) (
    fun cdv A outer s H E hr => (ds_cons (ds_if (dt_not (t_val (w_call (ok_is_number T) fnOf_bad hr T.d8.m T.d8.k T.d8.b tk_def (a_cons (w_var 0) da_nil) (by omega)))) (ds_one (x_rais_BadMany T hr tk_def (w_var 0))) ds_nil)
    (ds_one (ds_ret (w_var 0)))))
/-! tops -/
theorem sc_tops : FnScope ["endless", "many", "kept"] ["endless", "many"] (defScope (top 18)) := ⟨rfl, rfl, rfl, by decide +kernel, rfl, by decide +kernel, by decide +kernel⟩
def b_tops : Ga → Sd → Out DI.Flow := (sSeq (sAsg (.nm 2) (sCall (callG ψ_checked_endless) (aCons (sVar 0) aNil)))
    (sRet (sCall (callG ψ_first_figures) (aCons (sVar 2) (aCons (sCall (callG ψ_checked_many) (aCons (sVar 1) aNil)) aNil)))))
def ψ_tops : List DI.D → Sd → FOut := fnOf 2 3 (b_tops)
theorem ok_tops (T : Tx F.K F.cls mg) : FnOk P w F.K mg base (L2.CX P w) 6 T.a18 T.f18 ["endless", "many"] (spF F 2 (ψ_tops)) := fn_def T.d18.F sc_tops (by decide) (
    fun cdv A outer s H E hr => (ds_cons (x_set 2 sc_tops.nd (w_call (ok_checked_endless T) fnOf_bad hr T.d13.m T.d13.k T.d13.b tk_def (a_cons (w_var 0) da_nil) (by omega)))
    (ds_one (ds_ret (w_call (ok_first_figures T) fnOf_bad hr T.d15.m T.d15.k T.d15.b tk_def (a_cons (w_var 2) (a_cons (w_call (ok_checked_many T) fnOf_bad hr T.d17.m T.d17.k T.d17.b tk_def (a_cons (w_var 1) da_nil) (by omega)) da_nil)) (by omega))))))
/-! drop_tops -/
theorem sc_drop_tops : FnScope ["endless", "many", "kept"] ["endless", "many"] (defScope (top 19)) := ⟨rfl, rfl, rfl, by decide +kernel, rfl, by decide +kernel, by decide +kernel⟩
def b_drop_tops : Ga → Sd → Out DI.Flow := (sSeq (sAsg (.nm 2) (sCall (callG ψ_checked_endless) (aCons (sVar 0) aNil)))
    (sRet (sCall (callG ψ_row_beneath) (aCons (sVar 2) (aCons (sCall (callG ψ_checked_many) (aCons (sVar 1) aNil)) aNil)))))
def ψ_drop_tops : List DI.D → Sd → FOut := fnOf 2 3 (b_drop_tops)
theorem ok_drop_tops (T : Tx F.K F.cls mg) : FnOk P w F.K mg base (L2.CX P w) 6 T.a19 T.f19 ["endless", "many"] (spF F 2 (ψ_drop_tops)) := fn_def T.d19.F sc_drop_tops (by decide) (
    fun cdv A outer s H E hr => (ds_cons (x_set 2 sc_drop_tops.nd (w_call (ok_checked_endless T) fnOf_bad hr T.d13.m T.d13.k T.d13.b tk_def (a_cons (w_var 0) da_nil) (by omega)))
    (ds_one (ds_ret (w_call (ok_row_beneath T) fnOf_bad hr T.d16.m T.d16.k T.d16.b tk_def (a_cons (w_var 2) (a_cons (w_call (ok_checked_many T) fnOf_bad hr T.d17.m T.d17.k T.d17.b tk_def (a_cons (w_var 1) da_nil) (by omega)) da_nil)) (by omega))))))
/-! put_all -/
theorem sc_put_all : FnScope ["figures", "endless", "head", "again"] ["figures", "endless"] (defScope (top 20)) := ⟨rfl, rfl, rfl, by decide +kernel, rfl, by decide +kernel, by decide +kernel⟩
def b_put_all : Ga → Sd → Out DI.Flow := (sSeq (sIff (tNotF (tOf (sCall (callG ψ_is_row) (aCons (sVar 0) aNil)))) (sRais 2 (sVar 0)) (fun g s => .ok .nx g s))
    (sSeq (sAsg (.cons (.nm 2) (.cons (.nm 3) .nil)) (sCall (callG ψ_checked_endless) (aCons (sVar 1) aNil)))
    (sRet (sCall (callG ψ_least) (aCons (sLst (aStar (sVar 0) (aStar (sVar 2) aNil))) (aCons (sVar 3) aNil))))))
def ψ_put_all : List DI.D → Sd → FOut := fnOf 2 4 (b_put_all)
theorem ok_put_all (T : Tx F.K F.cls mg) : FnOk P w F.K mg base (L2.CX P w) 6 T.a20 T.f20 ["figures", "endless"] (spF F 2 (ψ_put_all)) := fn_def T.d20.F sc_put_all (by decide) (
    fun cdv A outer s H E hr => (ds_cons (ds_if (dt_not (t_val (w_call (ok_is_row T) fnOf_bad hr T.d9.m T.d9.k T.d9.b tk_def (a_cons (w_var 0) da_nil) (by omega)))) (ds_one (x_rais_BadFigures T hr tk_def (w_var 0))) ds_nil)
    (ds_cons (x_asg (w_call (ok_checked_endless T) fnOf_bad hr T.d13.m T.d13.k T.d13.b tk_def (a_cons (w_var 1) da_nil) (by omega)) (pg_tup rfl (pgs_cons (pg_name (i := 2) sc_put_all.nd rfl (by first | exact Or.inl rfl | exact Or.inr rfl)) (pgs_cons (pg_name (i := 3) sc_put_all.nd rfl (by first | exact Or.inl rfl | exact Or.inr rfl)) pgs_nil))) (tg_tup (tgs_cons (tg_nm 2) (tgs_cons (tg_nm 3) tgs_nil)) rfl))
    (ds_one (ds_ret (w_call (ok_least T) fnOf_bad hr T.d11.m T.d11.k T.d11.b tk_def (a_cons (d_lst (a_star rfl (w_var 0) (a_star rfl (w_var 2) da_nil))) (a_cons (w_var 3) da_nil)) (by omega)))))))
/-! first_unlike -/
theorem sc_first_unlike : FnScope ["endless", "other", "one", "two", "many", "at", "mine", "theirs"] ["endless", "other"] (defScope (top 21)) := ⟨rfl, rfl, rfl, by decide +kernel, rfl, by decide +kernel, by decide +kernel⟩
def b_first_unlike : Ga → Sd → Out DI.Flow := (sSeq (sAsg (.nm 2) (sCall (callG ψ_checked_endless) (aCons (sVar 0) aNil)))
    (sSeq (sIff (tNotF (tOf (sCall (callG ψ_is_endless) (aCons (sVar 1) aNil)))) (sRais 4 (sVar 1)) (fun g s => .ok .nx g s))
    (sSeq (sAsg (.nm 3) (sCall (callG ψ_least) (aCons (sTwo (fun x y => (subF x y).map .fz) (sVar 1) (sCon (.int 0))) (aCons (sTwo (fun x y => (subF x y).map .fz) (sVar 1) (sCon (.int 1))) aNil))))
    (sSeq (sAsg (.nm 4) (sTwo (binF .add) (sTwo (binF .add) (sBi (biF .max2) (lCons (sBi (biF .len) (lCons (sTwo (fun x y => (subF x y).map .fz) (sVar 2) (sCon (.int 0))) lNil)) (lCons (sBi (biF .len) (lCons (sTwo (fun x y => (subF x y).map .fz) (sVar 3) (sCon (.int 0))) lNil)) lNil))) (sBi (biF .len) (lCons (sTwo (fun x y => (subF x y).map .fz) (sVar 2) (sCon (.int 1))) lNil))) (sBi (biF .len) (lCons (sTwo (fun x y => (subF x y).map .fz) (sVar 3) (sCon (.int 1))) lNil))))
    (sSeq (sFor (.cons (.nm 5) (.cons (.cons (.nm 6) (.cons (.nm 7) .nil)) .nil)) (iEnZF (aCons (sCall (callG ψ_first_figures) (aCons (sVar 2) (aCons (sVar 4) aNil))) (aCons (sCall (callG ψ_first_figures) (aCons (sVar 3) (aCons (sVar 4) aNil))) aNil))) (sIff (tOf (sCmp .ne (sVar 6) (sVar 7))) (sRet (sVar 5)) (fun g s => .ok .nx g s)))
    (sRet (sCon .non)))))))
def ψ_first_unlike : List DI.D → Sd → FOut := fnOf 2 8 (b_first_unlike)
theorem ok_first_unlike (T : Tx F.K F.cls mg) : FnOk P w F.K mg base (L2.CX P w) 6 T.a21 T.f21 ["endless", "other"] (spF F 2 (ψ_first_unlike)) := fn_def T.d21.F sc_first_unlike (by decide) (
    fun cdv A outer s H E hr => (ds_cons (x_set 2 sc_first_unlike.nd (w_call (ok_checked_endless T) fnOf_bad hr T.d13.m T.d13.k T.d13.b tk_def (a_cons (w_var 0) da_nil) (by omega)))
    (ds_cons (ds_if (dt_not (t_val (w_call (ok_is_endless T) fnOf_bad hr T.d10.m T.d10.k T.d10.b tk_def (a_cons (w_var 1) da_nil) (by omega)))) (ds_one (x_rais_BadOther T hr tk_def (w_var 1))) ds_nil)
    (ds_cons (x_set 3 sc_first_unlike.nd (w_call (ok_least T) fnOf_bad hr T.d11.m T.d11.k T.d11.b tk_def (a_cons (w_ix rfl (w_var 1) w_int) (a_cons (w_ix rfl (w_var 1) w_int) da_nil)) (by omega)))
    (ds_cons (x_set 4 sc_first_unlike.nd (w_add (w_add (w_max T.n_max (w_len rfl T.n_len (w_ix rfl (w_var 2) w_int)) (w_len rfl T.n_len (w_ix rfl (w_var 3) w_int))) (w_len rfl T.n_len (w_ix rfl (w_var 2) w_int))) (w_len rfl T.n_len (w_ix rfl (w_var 3) w_int))))
    (ds_cons (x_for hp_def rfl (di_enumZ rfl rfl rfl T.n_enumerate T.n_zip (a_cons (w_call (ok_first_figures T) fnOf_bad hr T.d15.m T.d15.k T.d15.b tk_def (a_cons (w_var 2) (a_cons (w_var 4) da_nil)) (by omega)) (a_cons (w_call (ok_first_figures T) fnOf_bad hr T.d15.m T.d15.k T.d15.b tk_def (a_cons (w_var 3) (a_cons (w_var 4) da_nil)) (by omega)) da_nil)) rfl rfl) (pg_tup rfl (pgs_cons (pg_name (i := 5) sc_first_unlike.nd rfl (by first | exact Or.inl rfl | exact Or.inr rfl)) (pgs_cons (pg_tup rfl (pgs_cons (pg_name (i := 6) sc_first_unlike.nd rfl (by first | exact Or.inl rfl | exact Or.inr rfl)) (pgs_cons (pg_name (i := 7) sc_first_unlike.nd rfl (by first | exact Or.inl rfl | exact Or.inr rfl)) pgs_nil))) pgs_nil))) (tg_tup (tgs_cons (tg_nm 5) (tgs_cons (tg_tup (tgs_cons (tg_nm 6) (tgs_cons (tg_nm 7) tgs_nil)) rfl) tgs_nil)) rfl) (ds_one (ds_if (t_ne hr rfl (w_var 6) (w_var 7)) (ds_one (ds_ret (w_var 5))) ds_nil)))
    (ds_one (ds_ret w_non))))))))
end
end K14
end
section
set_option Elab.async false
set_option linter.all false
set_option maxRecDepth 100000
set_option maxHeartbeats 4000000
namespace K14
open PySem L2 DI
open LamX (TabB GivesTo Tabs)
section
variable {P : Program} {w : World} {mg : Str → Option Value} {base : Heap} {F : Fx}
/-! _law_f_least -/
theorem sc__law_f_least : FnScope ["head", "again", "many", "k", "size"] ["head", "again"] (defScope (top 23)) := ⟨rfl, rfl, rfl, by decide +kernel, rfl, by decide +kernel, by decide +kernel⟩
def b__law_f_least : Ga → Sd → Out DI.Flow := (sSeq (sPar [0, 1] (pCons (sBi (biF .list) (lCons (sVar 0) lNil)) (pCons (sBi (biF .list) (lCons (sVar 1) lNil)) lNil)))
    (sSeq (sAsg (.nm 2) (sTwo (fun x y => (subF x y).map .fz) (sLc [4] (iRngF rngF2 (aCons (sCon (.int 1)) (aCons (sTwo (binF .add) (sBi (biF .len) (lCons (sVar 1) lNil)) (sCon (.int 1))) aNil))) (.nm 4) (tOf (sCmp .eq (sTwo (binF .mul) (sSlc (sVar 1) oNone (pOf (sVar 4))) (sTwo (binF .fdiv) (sBi (biF .len) (lCons (sVar 1) lNil)) (sVar 4))) (sVar 1))) (sVar 4)) (sCon (.int 0))))
    (sSeq (sAsg (.nm 1) (sSlc (sVar 1) oNone (pOf (sVar 2))))
    (sSeq (sFor (.nm 3) (iRngF rngF1 (aCons (sBi (biF .len) (lCons (sVar 0) lNil)) aNil)) (sSeq (sIff (tOf (sCmp .ne (sTwo (fun x y => (subF x y).map .fz) (sVar 0) (sOne negF (sCon (.int 1)))) (sTwo (fun x y => (subF x y).map .fz) (sVar 1) (sOne negF (sCon (.int 1)))))) (fun g s => .ok .brk g s) (fun g s => .ok .nx g s))
    (sSeq (sAsg (.nm 1) (sTwo (binF .add) (sSlc (sVar 1) (pOf (sOne negF (sCon (.int 1)))) oNone) (sSlc (sVar 1) oNone (pOf (sOne negF (sCon (.int 1)))))))
    (sExp (sMth0 .pop 0)))))
    (sRet (sTup (aCons (sVar 0) (aCons (sVar 1) aNil))))))))
def ψ__law_f_least : List DI.D → Sd → FOut := fnOf 2 5 (b__law_f_least)
theorem ok__law_f_least (T : Tx F.K F.cls mg) : FnOk P w F.K mg base (L2.CX P w) 1 T.a23 T.f23 ["head", "again"] (spF F 2 (ψ__law_f_least)) := fn_def T.d23.F sc__law_f_least (by decide) (
    fun cdv A outer s H E hr => (ds_cons (x_par2c 0 1 rfl (pg_name (i := 0) sc__law_f_least.nd rfl (by first | exact Or.inl rfl | exact Or.inr rfl)) (pg_name (i := 1) sc__law_f_least.nd rfl (by first | exact Or.inl rfl | exact Or.inr rfl)) (p_cons (w_list rfl T.n_list (w_var 0)) (p_cons (w_list rfl T.n_list (w_var 1)) dp_nil)))
    (ds_cons (x_set 2 sc__law_f_least.nd (w_ix rfl (w_lc [("size", 4)] rfl sc__law_f_least.nd (di_rng2 rfl T.n_range (a_cons w_int (a_cons (w_add (w_len rfl T.n_len (w_var 1)) w_int) da_nil)) rfl rfl ) (blkOk_by (N := ["head", "again", "many", "k", "size"]) (sc := defScope (top 23)) (by decide +kernel)) (fun _ _ _ _ _ => (pg_name (i := 4) sc__law_f_least.nd rfl (by first | exact Or.inl rfl | exact Or.inr rfl))) (tg_nm 4) (by decide) (fun _ _ _ _ _ => dc_one (t_eq hr rfl (w_mul (w_slc rfl (w_var 1) do_none (do_some (w_var 4))) (w_fdiv (w_len rfl T.n_len (w_var 1)) (w_var 4))) (w_var 1))) (fun _ _ _ _ _ => (w_var 4))) w_int))
    (ds_cons (x_set 1 sc__law_f_least.nd (w_slc rfl (w_var 1) do_none (do_some (w_var 2))))
    (ds_cons (x_for hp_def rfl (di_rng1 rfl T.n_range (a_cons (w_len rfl T.n_len (w_var 0)) da_nil) rfl ) (pg_name (i := 3) sc__law_f_least.nd rfl (by first | exact Or.inl rfl | exact Or.inr rfl)) (tg_nm 3) (ds_cons (ds_if (t_ne hr rfl (w_ix rfl (w_var 0) (w_neg w_int)) (w_ix rfl (w_var 1) (w_neg w_int))) (ds_one ds_break) ds_nil)
    (ds_cons (x_set 1 sc__law_f_least.nd (w_add (w_slc rfl (w_var 1) (do_some (w_neg w_int)) do_none) (w_slc rfl (w_var 1) do_none (do_some (w_neg w_int)))))
    (ds_one (x_exp (w_pop 0))))))
    (ds_one (ds_ret (d_tup (a_cons (w_var 0) (a_cons (w_var 1) da_nil))))))))))
/-! _law_f_tops -/
theorem sc__law_f_tops : FnScope ["row", "many", "head", "again"] ["row", "many"] (defScope (top 24)) := ⟨rfl, rfl, rfl, by decide +kernel, rfl, by decide +kernel, by decide +kernel⟩
def b__law_f_tops : Ga → Sd → Out DI.Flow := (sSeq (sAsg (.cons (.nm 2) (.cons (.nm 3) .nil)) (sVar 0))
    (sRet (sSlc (sTwo (binF .add) (sBi (biF .list) (lCons (sVar 2) lNil)) (sTwo (binF .mul) (sBi (biF .list) (lCons (sVar 3) lNil)) (sVar 1))) oNone (pOf (sVar 1)))))
def ψ__law_f_tops : List DI.D → Sd → FOut := fnOf 2 4 (b__law_f_tops)
theorem ok__law_f_tops (T : Tx F.K F.cls mg) : FnOk P w F.K mg base (L2.CX P w) 1 T.a24 T.f24 ["row", "many"] (spF F 2 (ψ__law_f_tops)) := fn_def T.d24.F sc__law_f_tops (by decide) (
    fun cdv A outer s H E hr => (ds_cons (x_asg (w_var 0) (pg_tup rfl (pgs_cons (pg_name (i := 2) sc__law_f_tops.nd rfl (by first | exact Or.inl rfl | exact Or.inr rfl)) (pgs_cons (pg_name (i := 3) sc__law_f_tops.nd rfl (by first | exact Or.inl rfl | exact Or.inr rfl)) pgs_nil))) (tg_tup (tgs_cons (tg_nm 2) (tgs_cons (tg_nm 3) tgs_nil)) rfl))
    (ds_one (ds_ret (w_slc rfl (w_add (w_list rfl T.n_list (w_var 2)) (w_mul (w_list rfl T.n_list (w_var 3)) (w_var 1))) do_none (do_some (w_var 1)))))))
/-! _law_f_beneath -/
theorem sc__law_f_beneath : FnScope ["row", "many", "head", "again", "at"] ["row", "many"] (defScope (top 25)) := ⟨rfl, rfl, rfl, by decide +kernel, rfl, by decide +kernel, by decide +kernel⟩
def b__law_f_beneath : Ga → Sd → Out DI.Flow := (sSeq (sAsg (.cons (.nm 2) (.cons (.nm 3) .nil)) (sVar 0))
    (sSeq (sAsg (.nm 4) (sTwo (binF .mod) (sBi (biF .int) (lCons (sTwo (binF .sub) (sVar 1) (sBi (biF .len) (lCons (sVar 2) lNil))) lNil)) (sBi (biF .len) (lCons (sVar 3) lNil))))
    (sRet (sTup (aCons (sLst aNil) (aCons (sTwo (binF .add) (sSlc (sBi (biF .list) (lCons (sVar 3) lNil)) (pOf (sVar 4)) oNone) (sSlc (sBi (biF .list) (lCons (sVar 3) lNil)) oNone (pOf (sVar 4)))) aNil))))))
def ψ__law_f_beneath : List DI.D → Sd → FOut := fnOf 2 5 (b__law_f_beneath)
theorem ok__law_f_beneath (T : Tx F.K F.cls mg) : FnOk P w F.K mg base (L2.CX P w) 1 T.a25 T.f25 ["row", "many"] (spF F 2 (ψ__law_f_beneath)) := fn_def T.d25.F sc__law_f_beneath (by decide) (
    fun cdv A outer s H E hr => (ds_cons (x_asg (w_var 0) (pg_tup rfl (pgs_cons (pg_name (i := 2) sc__law_f_beneath.nd rfl (by first | exact Or.inl rfl | exact Or.inr rfl)) (pgs_cons (pg_name (i := 3) sc__law_f_beneath.nd rfl (by first | exact Or.inl rfl | exact Or.inr rfl)) pgs_nil))) (tg_tup (tgs_cons (tg_nm 2) (tgs_cons (tg_nm 3) tgs_nil)) rfl))
    (ds_cons (x_set 4 sc__law_f_beneath.nd (w_mod (w_intC T.n_int (w_sub (w_var 1) (w_len rfl T.n_len (w_var 2)))) (w_len rfl T.n_len (w_var 3))))
    (ds_one (ds_ret (d_tup (a_cons (d_lst da_nil) (a_cons (w_add (w_slc rfl (w_list rfl T.n_list (w_var 3)) (do_some (w_var 4)) do_none) (w_slc rfl (w_list rfl T.n_list (w_var 3)) do_none (do_some (w_var 4)))) da_nil))))))))
/-! _law_f_row -/
theorem sc__law_f_row : FnScope ["stream", "many", "k"] ["stream", "many"] (defScope (top 26)) := ⟨rfl, rfl, rfl, by decide +kernel, rfl, by decide +kernel, by decide +kernel⟩
def b__law_f_row : Ga → Sd → Out DI.Flow := (sRet (sLc [2] (iRngF rngF1 (aCons (sCall (callG ψDraw) (aCons (sVar 0) (aCons (sTwo (binF .add) (sVar 1) (sCon (.int 1))) aNil))) aNil)) (.nm 2) (fun g s => .ok true g s) (sCall (callG ψDraw) (aCons (sVar 0) (aCons (sCon (.int 2)) aNil)))))
def ψ__law_f_row : List DI.D → Sd → FOut := fnOf 2 3 (b__law_f_row)
theorem ok__law_f_row (T : Tx F.K F.cls mg) : FnOk P w F.K mg base (L2.CX P w) 2 T.a26 T.f26 ["stream", "many"] (spF F 2 (ψ__law_f_row)) := fn_def T.d26.F sc__law_f_row (by decide) (
    fun cdv A outer s H E hr => (ds_one (ds_ret (w_lc [("k", 2)] rfl sc__law_f_row.nd (di_rng1 rfl T.n_range (a_cons (w_call (ok_draw T.d31.F T.n_int) ψDraw_bad hr T.d31.m T.d31.k T.d31.b tk_def (a_cons (w_var 0) (a_cons (w_add (w_var 1) w_int) da_nil)) (by omega)) da_nil) rfl ) (blkOk_by (N := ["stream", "many", "k"]) (sc := defScope (top 26)) (by decide +kernel)) (fun _ _ _ _ _ => (pg_name (i := 2) sc__law_f_row.nd rfl (by first | exact Or.inl rfl | exact Or.inr rfl))) (tg_nm 2) (by decide) (fun _ _ _ _ _ => dc_nil) (fun _ _ _ _ _ => (w_call (ok_draw T.d31.F T.n_int) ψDraw_bad hr T.d31.m T.d31.k T.d31.b takes0 (a_cons (w_var 0) (a_cons w_int da_nil)) (by omega)))))))
/-! _law_f_endless -/
theorem sc__law_f_endless : FnScope ["stream"] ["stream"] (defScope (top 27)) := ⟨rfl, rfl, rfl, by decide +kernel, rfl, by decide +kernel, by decide +kernel⟩
def b__law_f_endless : Ga → Sd → Out DI.Flow := (sRet (sTup (aCons (sCall (callG ψ__law_f_row) (aCons (sVar 0) (aCons (sCon (.int 4)) aNil))) (aCons (sTwo (binF .add) (sLst (aCons (sCall (callG ψDraw) (aCons (sVar 0) (aCons (sCon (.int 2)) aNil))) aNil)) (sCall (callG ψ__law_f_row) (aCons (sVar 0) (aCons (sCon (.int 3)) aNil)))) aNil))))
def ψ__law_f_endless : List DI.D → Sd → FOut := fnOf 1 1 (b__law_f_endless)
theorem ok__law_f_endless (T : Tx F.K F.cls mg) : FnOk P w F.K mg base (L2.CX P w) 3 T.a27 T.f27 ["stream"] (spF F 1 (ψ__law_f_endless)) := fn_def T.d27.F sc__law_f_endless (by decide) (
    fun cdv A outer s H E hr => (ds_one (ds_ret (d_tup (a_cons (w_call (ok__law_f_row T) fnOf_bad hr T.d26.m T.d26.k T.d26.b tk_def (a_cons (w_var 0) (a_cons w_int da_nil)) (by omega)) (a_cons (w_add (d_lst (a_cons (w_call (ok_draw T.d31.F T.n_int) ψDraw_bad hr T.d31.m T.d31.k T.d31.b tk_def (a_cons (w_var 0) (a_cons w_int da_nil)) (by omega)) da_nil)) (w_call (ok__law_f_row T) fnOf_bad hr T.d26.m T.d26.k T.d26.b tk_def (a_cons (w_var 0) (a_cons w_int da_nil)) (by omega))) da_nil))))))
/-! _law_mixed -/
theorem sc__law_mixed : FnScope ["stream", "some", "left", "k"] ["stream", "some"] (defScope (top 32)) := ⟨rfl, rfl, rfl, by decide +kernel, rfl, by decide +kernel, by decide +kernel⟩
def b__law_mixed : Ga → Sd → Out DI.Flow := (sSeq (sAsg (.nm 2) (sBi (biF .list) (lCons (sVar 1) lNil)))
    (sRet (sLc [3] (iRngF rngF1 (aCons (sBi (biF .len) (lCons (sVar 2) lNil)) aNil)) (.nm 3) (fun g s => .ok true g s) (sMth .popAt 2 (aCons (sCall (callG ψDraw) (aCons (sVar 0) (aCons (sBi (biF .len) (lCons (sVar 2) lNil)) aNil))) aNil)))))
def ψ__law_mixed : List DI.D → Sd → FOut := fnOf 2 4 (b__law_mixed)
theorem ok__law_mixed (T : Tx F.K F.cls mg) : FnOk P w F.K mg base (L2.CX P w) 2 T.a32 T.f32 ["stream", "some"] (spF F 2 (ψ__law_mixed)) := fn_def T.d32.F sc__law_mixed (by decide) (
    fun cdv A outer s H E hr => (ds_cons (x_set 2 sc__law_mixed.nd (w_list rfl T.n_list (w_var 1)))
    (ds_one (ds_ret (w_lc [("k", 3)] rfl sc__law_mixed.nd (di_rng1 rfl T.n_range (a_cons (w_len rfl T.n_len (w_var 2)) da_nil) rfl ) (blkOk_by (N := ["stream", "some", "left", "k"]) (sc := defScope (top 32)) (by decide +kernel)) (fun _ _ _ _ _ => (pg_name (i := 3) sc__law_mixed.nd rfl (by first | exact Or.inl rfl | exact Or.inr rfl))) (tg_nm 3) (by decide) (fun _ _ _ _ _ => dc_nil) (fun _ _ _ _ _ => (w_popAt 2 (a_cons (w_call (ok_draw T.d31.F T.n_int) ψDraw_bad hr T.d31.m T.d31.k T.d31.b takes0 (a_cons (w_var 0) (a_cons (w_len rfl T.n_len (w_var 2)) da_nil)) (by omega)) da_nil))))))))
/-! _law_loose -/
theorem sc__law_loose : FnScope ["stream", "thing", "found", "key", "part"] ["stream", "thing"] (defScope (top 34)) := ⟨rfl, rfl, rfl, by decide +kernel, rfl, by decide +kernel, by decide +kernel⟩
def b__law_loose (r : List DI.D → Sd → FOut) : Ga → Sd → Out DI.Flow := (sSeq (sIff (tOf (sOne (isiF [.dict]) (sVar 1))) (sRet (sBiK dictF (aCons (sLc [3] (iSeqF (sCall (callG ψ__law_mixed) (aCons (sVar 0) (aCons (sBi (biF .list) (lCons (sVar 1) lNil)) aNil)))) (.nm 3) (fun g s => .ok true g s) (sTup (aCons (sVar 3) (aCons (sCall (callG r) (aCons (sVar 0) (aCons (sTwo (fun x y => (subF x y).map .fz) (sVar 1) (sVar 3)) aNil))) aNil)))) aNil))) (fun g s => .ok .nx g s))
    (sSeq (sIff (tNotF (tOf (sOne (isiF [.list, .tuple]) (sVar 1)))) (sRet (sVar 1)) (fun g s => .ok .nx g s))
    (sSeq (sAsg (.nm 2) (sLc [4] (iSeqF (sVar 1)) (.nm 4) (fun g s => .ok true g s) (sCall (callG r) (aCons (sVar 0) (aCons (sVar 4) aNil)))))
    (sRet (sIte (tOf (sCmp .eq (sCall (callG ψDraw) (aCons (sVar 0) (aCons (sCon (.int 3)) aNil))) (sCon (.int 0)))) (sVar 2) (sBi (biF .tuple) (lCons (sVar 2) lNil)))))))
def ψ__law_loose : Nat → List DI.D → Sd → FOut
  | 0 => fnOf 2 5 fun _ _ => .bad
  | n + 1 => fnOf 2 5 (b__law_loose (ψ__law_loose n))
theorem ψ__law_loose_bad : ∀ n ds s, ds.length ≠ 2 → ψ__law_loose n ds s = .bad
  | 0 => fnOf_bad
  | _ + 1 => fnOf_bad
theorem st__law_loose (T : Tx F.K F.cls mg) {n : Nat} {r : List DI.D → Sd → FOut} (hr_bad : ∀ ds s, ds.length ≠ 2 → r ds s = .bad) (ih : FnOk P w F.K mg base (L2.CX P w) (2 + n) T.a34 T.f34 ["stream", "thing"] (spF F 2 r)) : FnOk P w F.K mg base (L2.CX P w) (2 + n + 1) T.a34 T.f34 ["stream", "thing"] (spF F 2 (fnOf 2 5 (b__law_loose r))) := fn_def T.d34.F sc__law_loose (by decide) (
    fun cdv A outer s H E hr => (ds_cons (ds_if (t_val (w_isi .dict rfl T.n_isinstance (w_var 1) (ty_e .dict T.n_dict rfl))) (ds_one (ds_ret (w_dictL T.n_dict (a_cons (w_lc [("key", 3)] rfl sc__law_loose.nd (di_seq rfl (w_call (ok__law_mixed T) fnOf_bad hr T.d32.m T.d32.k T.d32.b tk_def (a_cons (w_var 0) (a_cons (w_list rfl T.n_list (w_var 1)) da_nil)) (by omega))) (blkOk_by (N := ["stream", "thing", "found", "key", "part"]) (sc := defScope (top 34)) (by decide +kernel)) (fun _ _ _ _ _ => (pg_name (i := 3) sc__law_loose.nd rfl (by first | exact Or.inl rfl | exact Or.inr rfl))) (tg_nm 3) (by decide) (fun _ _ _ _ _ => dc_nil) (fun _ _ _ _ _ => (d_tup (a_cons (w_var 3) (a_cons (w_call ih hr_bad hr T.d34.m T.d34.k T.d34.b takes0 (a_cons (w_var 0) (a_cons (w_ix rfl (w_var 1) (w_var 3)) da_nil)) (by omega)) da_nil))))) da_nil)))) ds_nil)
    (ds_cons (ds_if (dt_not (t_val (w_isiT [.list, .tuple] rfl T.n_isinstance (w_var 1) (tys_cons (ty_e .list T.n_list rfl) (tys_cons (ty_e .tuple T.n_tuple rfl) tys_nil))))) (ds_one (ds_ret (w_var 1))) ds_nil)
    (ds_cons (x_setLc 2 [("part", 4)] rfl sc__law_loose.nd (di_seq rfl (w_var 1)) (blkOk_by (N := ["stream", "thing", "found", "key", "part"]) (sc := defScope (top 34)) (by decide +kernel)) (fun _ _ _ _ _ => (pg_name (i := 4) sc__law_loose.nd rfl (by first | exact Or.inl rfl | exact Or.inr rfl))) (tg_nm 4) (by decide) (fun _ _ _ _ _ => dc_nil) (fun _ _ _ _ _ => (w_call ih hr_bad hr T.d34.m T.d34.k T.d34.b takes0 (a_cons (w_var 0) (a_cons (w_var 4) da_nil)) (by omega))) (sw_true rfl rfl rfl rfl))
    (ds_one (ds_ret (d_ite (t_eq hr rfl (w_call (ok_draw T.d31.F T.n_int) ψDraw_bad hr T.d31.m T.d31.k T.d31.b tk_def (a_cons (w_var 0) (a_cons w_int da_nil)) (by omega)) w_int) (w_var 2) (w_tuple rfl T.n_tuple (w_var 2)))))))))
theorem ok__law_loose (T : Tx F.K F.cls mg) : ∀ n : Nat, FnOk P w F.K mg base (L2.CX P w) (3 + n) T.a34 T.f34 ["stream", "thing"] (spF F 2 (ψ__law_loose n))
  | 0 => (fn_def (k := 2) (b := fun _ _ => .bad) T.d34.F sc__law_loose (by decide) (fun _ _ _ _ _ _ _ => dss_bad))
  | n + 1 => (st__law_loose T (n := n + 1) (ψ__law_loose_bad n) ((ok__law_loose T n).mono (by omega))).mono (by omega)
/-! _law_f_as_told -/
theorem sc__law_f_as_told : FnScope ["stream", "row", "head", "again", "k"] ["stream", "row"] (defScope (top 28)) := ⟨rfl, rfl, rfl, by decide +kernel, rfl, by decide +kernel, by decide +kernel⟩
def b__law_f_as_told : Ga → Sd → Out DI.Flow := (sSeq (sPar [2, 3] (pCons (sBi (biF .list) (lCons (sTwo (fun x y => (subF x y).map .fz) (sVar 1) (sCon (.int 0))) lNil)) (pCons (sBi (biF .list) (lCons (sTwo (fun x y => (subF x y).map .fz) (sVar 1) (sCon (.int 1))) lNil)) lNil)))
    (sSeq (sFor (.nm 4) (iRngF rngF1 (aCons (sCall (callG ψDraw) (aCons (sVar 0) (aCons (sCon (.int 3)) aNil))) aNil)) (sPar [2, 3] (pCons (sTwo (binF .add) (sVar 2) (sSlc (sVar 3) oNone (pOf (sCon (.int 1))))) (pCons (sTwo (binF .add) (sSlc (sVar 3) (pOf (sCon (.int 1))) oNone) (sSlc (sVar 3) oNone (pOf (sCon (.int 1))))) lNil))))
    (sRet (sCall (callG (ψ__law_loose 8)) (aCons (sVar 0) (aCons (sTup (aCons (sVar 2) (aCons (sTwo (binF .mul) (sVar 3) (sTwo (binF .add) (sCon (.int 1)) (sCall (callG ψDraw) (aCons (sVar 0) (aCons (sCon (.int 2)) aNil))))) aNil))) aNil))))))
def ψ__law_f_as_told : List DI.D → Sd → FOut := fnOf 2 5 (b__law_f_as_told)
theorem ok__law_f_as_told (T : Tx F.K F.cls mg) : FnOk P w F.K mg base (L2.CX P w) 12 T.a28 T.f28 ["stream", "row"] (spF F 2 (ψ__law_f_as_told)) := fn_def T.d28.F sc__law_f_as_told (by decide) (
    fun cdv A outer s H E hr => (ds_cons (x_par2 2 3 sc__law_f_as_told.nd (p_cons (w_list rfl T.n_list (w_ix rfl (w_var 1) w_int)) (p_cons (w_list rfl T.n_list (w_ix rfl (w_var 1) w_int)) dp_nil)))
    (ds_cons (x_for hp_def rfl (di_rng1 rfl T.n_range (a_cons (w_call (ok_draw T.d31.F T.n_int) ψDraw_bad hr T.d31.m T.d31.k T.d31.b tk_def (a_cons (w_var 0) (a_cons w_int da_nil)) (by omega)) da_nil) rfl ) (pg_name (i := 4) sc__law_f_as_told.nd rfl (by first | exact Or.inl rfl | exact Or.inr rfl)) (tg_nm 4) (ds_one (x_par2 2 3 sc__law_f_as_told.nd (p_cons (w_add (w_var 2) (w_slc rfl (w_var 3) do_none (do_some w_int))) (p_cons (w_add (w_slc rfl (w_var 3) (do_some w_int) do_none) (w_slc rfl (w_var 3) do_none (do_some w_int))) dp_nil)))))
    (ds_one (ds_ret (w_call (ok__law_loose T 8) (ψ__law_loose_bad _) hr T.d34.m T.d34.k T.d34.b tk_def (a_cons (w_var 0) (a_cons (d_tup (a_cons (w_var 2) (a_cons (w_mul (w_var 3) (w_add w_int (w_call (ok_draw T.d31.F T.n_int) ψDraw_bad hr T.d31.m T.d31.k T.d31.b tk_def (a_cons (w_var 0) (a_cons w_int da_nil)) (by omega)))) da_nil))) da_nil)) (by omega)))))))
/-! _law_f_odd_rows -/
theorem sc__law_f_odd_rows : FnScope ["odds"] [] (defScope (top 29)) := ⟨rfl, rfl, rfl, by decide +kernel, rfl, by decide +kernel, by decide +kernel⟩
def b__law_f_odd_rows : Ga → Sd → Out DI.Flow := (sSeq (sAsg (.nm 0) (sLst (aCons (sCon .non) (aCons (sCon (.int 5)) (aCons (sCon (.str "0(1)")) (aCons (sLst aNil) (aCons (sTup aNil) (aCons (sLst (aCons (sLst aNil) (aCons (sLst aNil) aNil))) (aCons (sTup (aCons (sLst (aCons (sCon (.int 0)) (aCons (sCon (.int 1)) aNil))) aNil)) (aCons (sTup (aCons (sLst (aCons (sCon (.int 0)) aNil)) (aCons (sLst (aCons (sCon (.int 1)) aNil)) (aCons (sLst (aCons (sCon (.int 0)) aNil)) aNil)))) (aCons (sTup (aCons (sLst (aCons (sCon (.int 2)) aNil)) (aCons (sLst (aCons (sCon (.int 0)) aNil)) aNil))) (aCons (sTup (aCons (sLst (aCons (sCon (.int 0)) aNil)) (aCons (sLst (aCons (sCon (.bl true)) aNil)) aNil))) (aCons (sTup (aCons (sLst (aCons (sCon (.bl false)) aNil)) (aCons (sLst (aCons (sCon (.int 1)) aNil)) aNil))) aNil)))))))))))))
    (sRet (sTwo (binF .add) (sVar 0) (sLst (aCons (sTup (aCons (sLst (aCons (sCon (.int 0)) aNil)) (aCons (sCon (.str "1")) aNil))) (aCons (sTup (aCons (sCon (.int 0)) (aCons (sLst (aCons (sCon (.int 1)) aNil)) aNil))) (aCons (sTup (aCons (sLst aNil) (aCons (sLst (aCons (sLst (aCons (sCon (.int 1)) aNil)) aNil)) aNil))) (aCons (sTup (aCons (sLst (aCons (sCon .non) aNil)) (aCons (sLst (aCons (sCon (.int 1)) aNil)) aNil))) (aCons (sDic1 (.inl 0) (sLst (aCons (sCon (.int 1)) aNil))) aNil)))))))))
def ψ__law_f_odd_rows : List DI.D → Sd → FOut := fnOf 0 1 (b__law_f_odd_rows)
theorem ok__law_f_odd_rows (T : Tx F.K F.cls mg) : FnOk P w F.K mg base (L2.CX P w) 1 T.a29 T.f29 [] (spF F 0 (ψ__law_f_odd_rows)) := fn_def T.d29.F sc__law_f_odd_rows (by decide) (
    fun cdv A outer s H E hr => (ds_cons (x_set 0 sc__law_f_odd_rows.nd (d_lst (a_cons w_non (a_cons w_int (a_cons w_str (a_cons (d_lst da_nil) (a_cons (d_tup da_nil) (a_cons (d_lst (a_cons (d_lst da_nil) (a_cons (d_lst da_nil) da_nil))) (a_cons (d_tup (a_cons (d_lst (a_cons w_int (a_cons w_int da_nil))) da_nil)) (a_cons (d_tup (a_cons (d_lst (a_cons w_int da_nil)) (a_cons (d_lst (a_cons w_int da_nil)) (a_cons (d_lst (a_cons w_int da_nil)) da_nil)))) (a_cons (d_tup (a_cons (d_lst (a_cons w_int da_nil)) (a_cons (d_lst (a_cons w_int da_nil)) da_nil))) (a_cons (d_tup (a_cons (d_lst (a_cons w_int da_nil)) (a_cons (d_lst (a_cons w_bl da_nil)) da_nil))) (a_cons (d_tup (a_cons (d_lst (a_cons w_bl da_nil)) (a_cons (d_lst (a_cons w_int da_nil)) da_nil))) da_nil)))))))))))))
    (ds_one (ds_ret (w_add (w_var 0) (d_lst (a_cons (d_tup (a_cons (d_lst (a_cons w_int da_nil)) (a_cons w_str da_nil))) (a_cons (d_tup (a_cons w_int (a_cons (d_lst (a_cons w_int da_nil)) da_nil))) (a_cons (d_tup (a_cons (d_lst da_nil) (a_cons (d_lst (a_cons (d_lst (a_cons w_int da_nil)) da_nil)) da_nil))) (a_cons (d_tup (a_cons (d_lst (a_cons w_non da_nil)) (a_cons (d_lst (a_cons w_int da_nil)) da_nil))) (a_cons (w_dic1 (.inl 0) pe_int (d_lst (a_cons w_int da_nil))) da_nil)))))))))))
/-! _law_same -/
theorem sc__law_same : FnScope ["found", "due", "x", "y"] ["found", "due"] (defScope (top 33)) := ⟨rfl, rfl, rfl, by decide +kernel, rfl, by decide +kernel, by decide +kernel⟩
def b__law_same (r : List DI.D → Sd → FOut) : Ga → Sd → Out DI.Flow := (sSeq (sIff (tOf (sOne (isiF [.list, .tuple]) (sVar 1))) (sSeq (sIff (tOrF (tOf (sCmp .ne (sOne (isiF [.list]) (sVar 0)) (sOne (isiF [.list]) (sVar 1)))) (tOf (sCmp .ne (sOne (isiF [.tuple]) (sVar 0)) (sOne (isiF [.tuple]) (sVar 1))))) (sRet (sCon (.bl false))) (fun g s => .ok .nx g s))
    (sRet (sAnd (sCmp .eq (sBi (biF .len) (lCons (sVar 0) lNil)) (sBi (biF .len) (lCons (sVar 1) lNil))) (sBi (biF .all) (lCons (sLc [2, 3] (iZipAF (aCons (sVar 0) (aCons (sVar 1) aNil))) (.cons (.nm 2) (.cons (.nm 3) .nil)) (fun g s => .ok true g s) (sCall (callG r) (aCons (sVar 2) (aCons (sVar 3) aNil)))) lNil))))) (fun g s => .ok .nx g s))
    (sSeq (sIff (tOf (sOne (isiF [.dict]) (sVar 1))) (sRet (sAnd (sOne (isiF [.dict]) (sVar 0)) (sCall (callG r) (aCons (sOne itemsF (sVar 0)) (aCons (sOne itemsF (sVar 1)) aNil))))) (fun g s => .ok .nx g s))
    (sSeq (sIff (tOf (sOne (isiF [.int]) (sVar 1))) (sRet (sAnd (sOne (isiF [.int]) (sVar 0)) (sAnd (sCmp .eq (sOne (isiF [.bool]) (sVar 0)) (sOne (isiF [.bool]) (sVar 1))) (sCmp .eq (sVar 0) (sVar 1))))) (fun g s => .ok .nx g s))
    (sRet (sAnd (sOne notF (sOne (isiF [.int, .list, .tuple, .dict]) (sVar 0))) (sCmp .eq (sVar 0) (sVar 1)))))))
def ψ__law_same : Nat → List DI.D → Sd → FOut
  | 0 => fnOf 2 4 fun _ _ => .bad
  | n + 1 => fnOf 2 4 (b__law_same (ψ__law_same n))
theorem ψ__law_same_bad : ∀ n ds s, ds.length ≠ 2 → ψ__law_same n ds s = .bad
  | 0 => fnOf_bad
  | _ + 1 => fnOf_bad
theorem st__law_same (T : Tx F.K F.cls mg) {n : Nat} {r : List DI.D → Sd → FOut} (hr_bad : ∀ ds s, ds.length ≠ 2 → r ds s = .bad) (ih : FnOk P w F.K mg base (L2.CX P w) (0 + n) T.a33 T.f33 ["found", "due"] (spF F 2 r)) : FnOk P w F.K mg base (L2.CX P w) (0 + n + 1) T.a33 T.f33 ["found", "due"] (spF F 2 (fnOf 2 4 (b__law_same r))) := fn_def T.d33.F sc__law_same (by decide) (
    fun cdv A outer s H E hr => (ds_cons (ds_if (t_val (w_isiT [.list, .tuple] rfl T.n_isinstance (w_var 1) (tys_cons (ty_e .list T.n_list rfl) (tys_cons (ty_e .tuple T.n_tuple rfl) tys_nil)))) (ds_cons (ds_if ((dw_or (t_ne hr rfl (w_isi .list rfl T.n_isinstance (w_var 0) (ty_e .list T.n_list rfl)) (w_isi .list rfl T.n_isinstance (w_var 1) (ty_e .list T.n_list rfl))) (dw_or1 (t_ne hr rfl (w_isi .tuple rfl T.n_isinstance (w_var 0) (ty_e .tuple T.n_tuple rfl)) (w_isi .tuple rfl T.n_isinstance (w_var 1) (ty_e .tuple T.n_tuple rfl)))))).pt (ds_one (ds_ret w_bl)) ds_nil)
    (ds_one (ds_ret (d_and (w_eq hr rfl (w_len rfl T.n_len (w_var 0)) (w_len rfl T.n_len (w_var 1))) (d_one (w_all rfl T.n_all (w_lc [("x", 2), ("y", 3)] rfl sc__law_same.nd (di_zipA rfl rfl T.n_zip (a_cons (w_var 0) (a_cons (w_var 1) da_nil)) rfl rfl) (blkOk_by (N := ["found", "due", "x", "y"]) (sc := defScope (top 33)) (by decide +kernel)) (fun _ _ _ _ _ => (pg_tup rfl (pgs_cons (pg_name (i := 2) sc__law_same.nd rfl (by first | exact Or.inl rfl | exact Or.inr rfl)) (pgs_cons (pg_name (i := 3) sc__law_same.nd rfl (by first | exact Or.inl rfl | exact Or.inr rfl)) pgs_nil)))) (tg_tup (tgs_cons (tg_nm 2) (tgs_cons (tg_nm 3) tgs_nil)) rfl) (by decide) (fun _ _ _ _ _ => dc_nil) (fun _ _ _ _ _ => (w_call ih hr_bad hr T.d33.m T.d33.k T.d33.b takes0 (a_cons (w_var 2) (a_cons (w_var 3) da_nil)) (by omega)))))))))) ds_nil)
    (ds_cons (ds_if (t_val (w_isi .dict rfl T.n_isinstance (w_var 1) (ty_e .dict T.n_dict rfl))) (ds_one (ds_ret (d_and (w_isi .dict rfl T.n_isinstance (w_var 0) (ty_e .dict T.n_dict rfl)) (d_one (w_call ih hr_bad hr T.d33.m T.d33.k T.d33.b tk_def (a_cons (w_items T.n_list (w_var 0)) (a_cons (w_items T.n_list (w_var 1)) da_nil)) (by omega)))))) ds_nil)
    (ds_cons (ds_if (t_val (w_isi .int rfl T.n_isinstance (w_var 1) (ty_e .int T.n_int rfl))) (ds_one (ds_ret (d_and (w_isi .int rfl T.n_isinstance (w_var 0) (ty_e .int T.n_int rfl)) (d_and (w_eq hr rfl (w_isi .bool rfl T.n_isinstance (w_var 0) (ty_e .bool T.n_bool rfl)) (w_isi .bool rfl T.n_isinstance (w_var 1) (ty_e .bool T.n_bool rfl))) (d_one (w_eq hr rfl (w_var 0) (w_var 1))))))) ds_nil)
    (ds_one (ds_ret (d_and (d_not (w_isiT [.int, .list, .tuple, .dict] rfl T.n_isinstance (w_var 0) (tys_cons (ty_e .int T.n_int rfl) (tys_cons (ty_e .list T.n_list rfl) (tys_cons (ty_e .tuple T.n_tuple rfl) (tys_cons (ty_e .dict T.n_dict rfl) tys_nil)))))) (d_one (w_eq hr rfl (w_var 0) (w_var 1))))))))))
theorem ok__law_same (T : Tx F.K F.cls mg) : ∀ n : Nat, FnOk P w F.K mg base (L2.CX P w) (1 + n) T.a33 T.f33 ["found", "due"] (spF F 2 (ψ__law_same n))
  | 0 => (fn_def (k := 0) (b := fun _ _ => .bad) T.d33.F sc__law_same (by decide) (fun _ _ _ _ _ _ _ => dss_bad))
  | n + 1 => (st__law_same T (n := n + 1) (ψ__law_same_bad n) ((ok__law_same T n).mono (by omega))).mono (by omega)
/-! _law_below -/
theorem sc__law_below : FnScope ["row", "many", "below"] ["row", "many"] (defScope (top 36)) := ⟨rfl, rfl, rfl, by decide +kernel, rfl, by decide +kernel, by decide +kernel⟩
def b__law_below : Ga → Sd → Out DI.Flow := (sSeq (sIff (tOf (sCmp .le (sVar 1) (sBi (biF .len) (lCons (sTwo (fun x y => (subF x y).map .fz) (sVar 0) (sCon (.int 0))) lNil)))) (sRet (sCall (callG ψ__law_f_least) (aCons (sSlc (sTwo (fun x y => (subF x y).map .fz) (sVar 0) (sCon (.int 0))) (pOf (sVar 1)) oNone) (aCons (sTwo (fun x y => (subF x y).map .fz) (sVar 0) (sCon (.int 1))) aNil)))) (fun g s => .ok .nx g s))
    (sSeq (sAsg (.nm 2) (sCall (callG ψ__law_f_beneath) (aCons (sVar 0) (aCons (sVar 1) aNil))))
    (sRet (sCall (callG ψ__law_f_least) (aCons (sTwo (fun x y => (subF x y).map .fz) (sVar 2) (sCon (.int 0))) (aCons (sTwo (fun x y => (subF x y).map .fz) (sVar 2) (sCon (.int 1))) aNil))))))
def ψ__law_below : List DI.D → Sd → FOut := fnOf 2 3 (b__law_below)
theorem ok__law_below (T : Tx F.K F.cls mg) : FnOk P w F.K mg base (L2.CX P w) 2 T.a36 T.f36 ["row", "many"] (spF F 2 (ψ__law_below)) := fn_def T.d36.F sc__law_below (by decide) (
    fun cdv A outer s H E hr => (ds_cons (ds_if (t_le (w_var 1) (w_len rfl T.n_len (w_ix rfl (w_var 0) w_int))) (ds_one (ds_ret (w_call (ok__law_f_least T) fnOf_bad hr T.d23.m T.d23.k T.d23.b tk_def (a_cons (w_slc rfl (w_ix rfl (w_var 0) w_int) (do_some (w_var 1)) do_none) (a_cons (w_ix rfl (w_var 0) w_int) da_nil)) (by omega)))) ds_nil)
    (ds_cons (x_set 2 sc__law_below.nd (w_call (ok__law_f_beneath T) fnOf_bad hr T.d25.m T.d25.k T.d25.b tk_def (a_cons (w_var 0) (a_cons (w_var 1) da_nil)) (by omega)))
    (ds_one (ds_ret (w_call (ok__law_f_least T) fnOf_bad hr T.d23.m T.d23.k T.d23.b tk_def (a_cons (w_ix rfl (w_var 2) w_int) (a_cons (w_ix rfl (w_var 2) w_int) da_nil)) (by omega)))))))
end
end K14
end
section
set_option Elab.async false
set_option linter.all false
set_option maxRecDepth 100000
set_option maxHeartbeats 4000000
/-! the spring made; the try; the refused figures that are changed behind -/
namespace K14
open PySem L2 DI
open LamX (TabB GivesTo Tabs)
section
variable {P : Program} {w : World} {K : PySem.W.Frag} {mg : Str → Option Value} {base : Heap}
theorem sc_start : FnScope ["script"] ["script"] (defScope (top 30)) := ⟨rfl, rfl, rfl, by decide +kernel, rfl, by decide +kernel, by decide +kernel⟩
theorem ok_start {f : Addr} {fd : FuncData} (Fn : Fun K "_law_start" "_law_start" (top 30) f fd) (hl : mg "list" = none) : FnOk P w K mg base (L2.CX P w) 1 f fd ["script"] (spStart K) := by
  refine Fn.okX sc_start (fun vs H Q E h => ?_) (fun cdv A outer s H vs Q E hr h => ?_)
  · obtain ⟨a, ns, rfl, _⟩ := h
    rfl
  · obtain ⟨a, ns, rfl, hq, post⟩ := h
    refine ⟨_, pss_one (ps_ret (pe_lst (pa_cons (pe_callTy call_list_of (by rfl) hl PyProof.Rows.boot_list (pa_cons (pv 0) pa_nil)) (pa_cons pe_int (pa_cons pe_int (pa_cons pe_int pa_nil)))))), ?_⟩
    refine ⟨_, rfl, a, _, rfl, .inl hq, fun k hk => ⟨by show 4 ≤ sizeLine; decide, fun c hc => ?_⟩⟩
    have n : c ≠ k := fun z => by rw [z, upd_same] at hc; cases hc
    have hc0 : H c = none := by rw [upd_ne n] at hc; exact hc
    exact post _ c k (fun b o e => by rw [upd_ne (ne_of_none e hc0), upd_ne (ne_of_none e hk)]; exact e) ⟨n, upd_same, by rw [upd_ne n.symm, upd_same]⟩
end
section
variable {P : Program} {w : World} {mg : Str → Option Value} {base : Heap} {F : Fx}
abbrev told : Str := "told"
def tags : Nat → Option Str
  | 1 => some "endless"
  | 2 => some "figures"
  | 3 => some "many"
  | 4 => some "other"
  | _ => none
theorem sc__law_row_or : FnScope ["ask", "e"] ["ask"] (defScope (top 35)) := ⟨rfl, rfl, rfl, by decide +kernel, rfl, by decide +kernel, by decide +kernel⟩
theorem gives (T : Tx F.K F.cls mg) {X : Cx} {cdg : Value} {q : Str} (hmg : X.mg = mg) (hK : X.K = F.K) : GivesTo X ["ask", "e"] "_law_row_or" (defScope (top 35)) T.a35 cdg (defBody (top 35)) "ask" q (TTr F told tags) := by
  subst hmg
  intro f c' s H Q tl act hc h
  have xfEndless : XfC X.K T.C_BadEndless := by rw [hK]; exact T.xf_BadEndless
  have noEndless : PySem.W.findIn X.K (.ref T.C_BadEndless) "thing" = some none := by rw [hK]; exact T.no_BadEndless
  have xfMany : XfC X.K T.C_BadMany := by rw [hK]; exact T.xf_BadMany
  have noMany : PySem.W.findIn X.K (.ref T.C_BadMany) "thing" = some none := by rw [hK]; exact T.no_BadMany
  have xfFigures : XfC X.K T.C_BadFigures := by rw [hK]; exact T.xf_BadFigures
  have noFigures : PySem.W.findIn X.K (.ref T.C_BadFigures) "thing" = some none := by rw [hK]; exact T.no_BadFigures
  have xfOther : XfC X.K T.C_BadOther := by rw [hK]; exact T.xf_BadOther
  have noOther : PySem.W.findIn X.K (.ref T.C_BadOther) "thing" = some none := by rw [hK]; exact T.no_BadOther
  refine ⟨_, pss_one (ps_tries (i := 1) (n := "e") (X := (cxOf C8.CX0 X.prog X.w X.K X.mg X.base ["ask", "e"] "_law_row_or" (defScope (top 35)) T.a35 cdg X.A X.stack s H C8.E0).nox) (Wout := fun _ _ _ _ => False)
      (tb := fun W D σ H => ∃ Ech : XK, (∀ cls d σ' H', Ech cls d H' → σ'.length = 2 → W cls d σ' H') ∧ σ[0]? = some (some (.ref f)) ∧ H c' = some (LamX.CodeO c' q) ∧ tl Ech H (fun v H' => [V.str told, v].length ≤ sizeLine ∧ ∀ T, H' T = none → D.rt (.ref T) (upd H' T (.tup [.str told, v]))))
      rfl rfl sc__law_row_or.nd rfl rfl LamX.takes0 (fun W pn xe tk _ => ?_)
      (.cons (c := .ref T.C_BadEndless) ⟨rfl, by decide, Or.inl T.m_BadEndless⟩ (fun a oe cls d pn hz hf => pss_one (ps_ret (pe_tup (pa_cons pe_str (pa_cons (pe_xf (C := T.C_BadEndless) xfEndless noEndless hz hf (pv 1)) pa_nil)))))
      (.cons (c := .ref T.C_BadMany) ⟨rfl, by decide, Or.inl T.m_BadMany⟩ (fun a oe cls d pn hz hf => pss_one (ps_ret (pe_tup (pa_cons pe_str (pa_cons (pe_xf (C := T.C_BadMany) xfMany noMany hz hf (pv 1)) pa_nil)))))
      (.cons (c := .ref T.C_BadFigures) ⟨rfl, by decide, Or.inl T.m_BadFigures⟩ (fun a oe cls d pn hz hf => pss_one (ps_ret (pe_tup (pa_cons pe_str (pa_cons (pe_xf (C := T.C_BadFigures) xfFigures noFigures hz hf (pv 1)) pa_nil)))))
      (.cons (c := .ref T.C_BadOther) ⟨rfl, by decide, Or.inl T.m_BadOther⟩ (fun a oe cls d pn hz hf => pss_one (ps_ret (pe_tup (pa_cons pe_str (pa_cons (pe_xf (C := T.C_BadOther) xfOther noOther hz hf (pv 1)) pa_nil))))) .nil))))), ?_⟩
  · refine ⟨fun pins s' σ H' D I h' => ?_⟩
    obtain ⟨Ech, hW, h1, h2, h3⟩ := h'
    have hp := fun p1 p2 => act _ pn xe Ech p1 p2 (takes_len tk) fun cls d σ' H' he hl => hW cls d σ' H' he hl
    exact (pss_one (ps_ret (pe_tup (pa_cons pe_str (pa_cons (hp _ _) pa_nil))))).run pins s' σ H' D I ⟨h1, h2, h3⟩
  · refine ⟨_, fun cls d σ' H' he hl => ?_, rfl, hc, h⟩
    obtain ⟨j, C, fl, tag, e1, e2, rfl, a, v, rfl, e3, k⟩ := he
    have fin : ∀ a' : Addr, ∃ (dd : Addr) (fs : List (Str × V)) (v' : V), (some a : Option Addr) = some dd ∧ H' dd = some (.xd fs) ∧ fs.lookup fl = some v' ∧ [V.str tag, v'].length ≤ sizeLine ∧ ∀ T, H' T = none → Q (.ref T) (upd H' T (.tup [.str tag, v'])) := fun a' => ⟨a, [(fl, v)], v, rfl, e3, by simp [List.lookup], by show 2 ≤ sizeLine; decide, k⟩
    have sg : ∀ a' : Addr, (σ'.set 1 (some (.ref a')))[1]? = some (some (.ref a')) := fun a' => List.getElem?_set_self (by omega)
    rcases j with _ | _ | _ | _ | _ | j
    · cases e1
    · cases e1
      rw [T.cl_BadEndless] at e2; cases e2
      refine ⟨true, by rw [show X.K = F.K from hK]; exact T.te_BadEndless, fun _ a' _ => ?_, fun z => by cases z⟩
      exact ⟨.ref a', sg a', rfl, rfl, fin a'⟩
    · cases e1
      rw [T.cl_BadFigures] at e2; cases e2
      refine ⟨false, by rw [show X.K = F.K from hK]; exact T.tn_BadFigures_BadEndless, (fun z => by cases z), fun _ => ⟨false, by rw [show X.K = F.K from hK]; exact T.tn_BadFigures_BadMany, (fun z => by cases z), fun _ => ⟨true, by rw [show X.K = F.K from hK]; exact T.te_BadFigures, fun _ a' _ => ?_, fun z => by cases z⟩⟩⟩
      exact ⟨.ref a', sg a', rfl, rfl, fin a'⟩
    · cases e1
      rw [T.cl_BadMany] at e2; cases e2
      refine ⟨false, by rw [show X.K = F.K from hK]; exact T.tn_BadMany_BadEndless, (fun z => by cases z), fun _ => ⟨true, by rw [show X.K = F.K from hK]; exact T.te_BadMany, fun _ a' _ => ?_, fun z => by cases z⟩⟩
      exact ⟨.ref a', sg a', rfl, rfl, fin a'⟩
    · cases e1
      rw [T.cl_BadOther] at e2; cases e2
      refine ⟨false, by rw [show X.K = F.K from hK]; exact T.tn_BadOther_BadEndless, (fun z => by cases z), fun _ => ⟨false, by rw [show X.K = F.K from hK]; exact T.tn_BadOther_BadMany, (fun z => by cases z), fun _ => ⟨false, by rw [show X.K = F.K from hK]; exact T.tn_BadOther_BadFigures, (fun z => by cases z), fun _ => ⟨true, by rw [show X.K = F.K from hK]; exact T.te_BadOther, fun _ a' _ => ?_, fun z => by cases z⟩⟩⟩⟩
      exact ⟨.ref a', sg a', rfl, rfl, fin a'⟩
    · cases e1
end
end K14
end
section
set_option Elab.async false
set_option linter.all false
set_option maxRecDepth 100000
set_option maxHeartbeats 4000000
/-! the refused figures that are changed behind -/
namespace K14
open PySem L2 DI
open LamX (TabB GivesTo Tabs)
section
variable {P : Program} {w : World} {mg : Str → Option Value} {base : Heap} {F : Fx}
/-- put_all of [0, 2] raises with that very list in the error -/
def spR (F : Fx) (C : Addr) (fl : Str) : Sp := fun vs H Q E => ∃ (v rv : V) (dr : DI.D) (s : Sd) (M0 : Addr → Prop), vs = [v, rv] ∧ (∀ b, F.ch b → M0 b) ∧ (∀ a, M0 a → ∃ o, H a = some o ∧ isTbl o = false) ∧ Wd F H s ∧
  RpL F.K F.c (hid H M0) [v, rv] [.lst [.int 0, .int 2], dr] ∧ ∀ dd H', Frm F H H' → Wd F H' s → H' dd = some (.xd [(fl, v)]) → E (.ref C) (some dd) H'
theorem not_row (dr : DI.D) (s : Sd) : (tNotF (tOf (sCall (callG ψ_is_row) (aCons (sVar 0) aNil)))) (startG 4 [.lst [.int 0, .int 2], dr]) s = .ok true (startG 4 [.lst [.int 0, .int 2], dr]) s := by kernel_rfl
theorem okR_put_all (T : Tx F.K F.cls mg) : FnOk P w F.K mg base (L2.CX P w) 6 T.a20 T.f20 ["figures", "endless"] (spR F T.C_BadFigures "thing") := by
  refine T.d20.F.okX sc_put_all (fun vs H Q E h => ?_) (fun cdv A outer s H vs Q E hr h => ?_)
  · obtain ⟨_, _, _, _, _, rfl, _⟩ := h
    rfl
  · refine ⟨_, pss_cons (ps_if (dt_not (t_val (w_call (F := F) (W := fun c d _ H => E c d H) (ok_is_row T) fnOf_bad hr T.d9.m T.d9.k T.d9.b tk_def (a_cons (w_var 0) da_nil) (by omega))))
      (pss_one (ps_raisV (W := fun c d _ H => E c d H) (k := 1) (i := 0) (pn := "thing") (fl := "thing") (C := T.C_BadFigures) (fI := T.i_BadFigures) (fd := T.fd_BadFigures) rfl tk_def T.x_BadFigures T.in_BadFigures T.ty_BadFigures
        (ok_init T.F_BadFigures sc_BadFigures T.x_BadFigures T.no_BadFigures ⟨_, _, _, _, rfl⟩ (Or.inl rfl) (Or.inl rfl) (by decide) (by decide)) (hr.mono (by omega)) T.b_BadFigures rfl T.m_BadFigures (pv 0) (by decide))) pss_nil) pss_no, ?_⟩
    obtain ⟨v, rv, dr, sd, M0, rfl, m1, al, wd, r, post⟩ := h
    have E0 := start_en (N := ["figures", "endless", "head", "again"]) m1 al wd (by show 2 ≤ 4; decide) r
    refine ⟨_, _, _, _, E0, ?_⟩
    show PostG _ _ _ _ _ _ _ ((tNotF (tOf (sCall (callG ψ_is_row) (aCons (sVar 0) aNil)))) (startG 4 [.lst [.int 0, .int 2], dr]) sd)
    rw [not_row]
    intro b H' M' E' x' rr
    have rr : b = true := rr
    subst rr
    show if true = true then _ else _
    rw [if_pos rfl]
    refine ⟨v, rfl, fun dx hdx => ?_⟩
    obtain ⟨E2, _, _⟩ := E'.alloc hdx (.xd [("thing", v)])
    exact post dx _ (fun b o e t n => E2.fr b o e t n) E2.wd upd_same
def L3 : DI.D := .lst [.int 0, .int 2, .str "late"]
/-- held = [0, 2]; found = _law_row_or(lambda: put_all(held, row)); held.append('late'); return _law_same(found, ('figures', [0, 2, 'late'])) -/
def sTail : Ga → Sd → Out DI.Flow := fun g s => match g with
  | [.fz a, .fz rd, .fz od, .fz fd, .un] => sRet (sCall (callG (ψ__law_same 8)) (aCons (sVar 3) (aCons (sTup (aCons (sCon (.str "figures")) (aCons (sLst (aCons (sCon (.int 0)) (aCons (sCon (.int 2)) (aCons (sCon (.str "late")) aNil)))) aNil))) aNil))) [.fz a, .fz rd, .fz od, .fz (.tup [.str "figures", L3]), .fz L3] s
  | _ => .bad
def qL39 : Str := (PyProof.Rows.envOfC "_law_refused_right" (defScope (top 39)) 0 0 .none).qual ++ "<lambda>"
theorem ds_tail {A : Around} {outer : List PySem.Env} {s0 : Shared} {H0 : Hp} {E : XK} (T : Tx F.K F.cls mg) (TB : TabB base mg T.lc39 T.lt39) (hmT : (T.lt39, qL39) ∈ F.T) (hmU : ∀ p ∈ F.T, p.1 = T.lt39 → p.2 = qL39) (sc : FnScope ["stream", "row", "odd", "found", "held"] ["stream", "row"] (defScope (top 39)))
    (hr : Room 11 (A.deeper (PyProof.Rows.envOfC "_law_refused_right" (defScope (top 39)) s0.heap.objs.size T.a39 (.ref T.lc39)))) :
    PSsd (cxOf (L2.CX P w) P w F.K mg base ["stream", "row", "odd", "found", "held"] "_law_refused_right" (defScope (top 39)) T.a39 (.ref T.lc39) A outer s0 H0 E) F (fun c d _ H => E c d H) ((defBody (top 39)).drop 3) sTail := by
  obtain ⟨oc, od, kV, doc, pm, an, cdv, ct, osl, ef, lk, hcd'⟩ := T.d35.F.ex
  have hb35 := T.d35.b
  rw [ef] at lk hb35
  refine PSs.imp (pss_cons (x_set (F := F) (W := fun c d _ H => E c d H) 4 sc.nd (d_lst (a_cons w_int (a_cons w_int da_nil))))
    (pss_cons (ps_set (i := 3) sc.nd rfl (by first | exact Or.inl rfl | exact Or.inr rfl)
      (LamX.pe_lamcall (T := F.T) (TT := TTr F told tags) (k := 8) (t := fun E' => tCallS (spR F T.C_BadFigures "thing") (fun σ => WE (fun c d _ H => E' c d H) σ) (tCons (tVar 4) (tCons (tVar 1) tNil))) rfl T.d35.m T.d35.k lk hcd' hb35 sc__law_row_or rfl (by first | exact Or.inl rfl | exact Or.inr (Or.inl rfl)) (gives T rfl rfl) TB rfl hmT hmU (hr.mono (by omega)) (LamX.lamS_by (by kernel_rfl)) rfl (fun _ _ _ _ _ => rfl)
        (fun A outer s H E' f c hr2 => ?_)))
    (pss_cons (ps_expr (w_append (F := F) (W := fun c d _ H => E c d H) 4 (a_cons w_str da_nil)))
    (pss_one (ds_ret (F := F) (W := fun c d _ H => E c d H) (w_call (ok__law_same T 8) (ψ__law_same_bad _) hr T.d33.m T.d33.k T.d33.b tk_def (a_cons (w_var 3) (a_cons (d_tup (a_cons w_str (a_cons (d_lst (a_cons w_int (a_cons w_int (a_cons w_str da_nil)))) da_nil))) da_nil)) (by omega))))))) ?_
  · exact pe_callS (okR_put_all T) (hr2.mono (by omega)) rfl T.d20.m T.d20.k T.d20.b (passAt (W := fun c d _ H => E' c d H) tk_lam) (pa_cons (pv 4) (pa_cons (pv 1) pa_nil))
  · rintro D σ H ⟨P0, g, s, M, E1, h⟩
    obtain ⟨a0, rd, od', fd0, rfl⟩ : ∃ a rd od fd, g = [.fz a, .fz rd, .fz od, .fz fd, .un] := by
      unfold sTail at h
      split at h
      · exact ⟨_, _, _, _, rfl⟩
      · exact h.elim
    refine ⟨P0, _, s, M, E1, ?_⟩
    show PostS _ _ _ _ _ (Out.ok .nx [.fz a0, .fz rd, .fz od', .fz fd0, .ow [.int 0, .int 2]] s)
    intro σ1 H1 M1 E1 x1
    refine ⟨E1.wd.2, fun H2 eN T2 => ?_⟩
    obtain ⟨E2, x2⟩ := E1.tables eN T2
    obtain ⟨a, us, e4, ma, na, ha, ra⟩ := E2.ow 4 [.int 0, .int 2] rfl
    obtain ⟨rv, e1, r1⟩ := E2.fz 1 rd rfl
    refine ⟨.ref a, e4, rv, e1, .ref a, rv, rd, s, P0.M0, rfl, P0.m0, fun b z => E2.al b (E2.m0 b z), E2.wd, .cons (.lst (by rw [hid_of na]; exact ha) (ra.mono E2.open)) (.cons (r1.mono E2.open) .nil), fun dd H' fr wd hdd => ?_⟩
    refine ⟨2, T.C_BadFigures, "thing", "figures", rfl, T.cl_BadFigures, rfl, dd, .ref a, rfl, hdd, fun Tt hT => ?_⟩
    obtain ⟨E3, x3⟩ := E2.after fr wd
    obtain ⟨E4, x4, nT⟩ := E3.alloc hT (.tup [.str "figures", .ref a])
    have E5 := E4.put (i := 3) (by show 3 < 5; decide) (v := .ref Tt) (l := .un) (fun d z => by cases z) (fun o z => by cases z)
    refine ⟨P0, _, s, M1, E5, ?_⟩
    show PostG _ _ _ _ _ _ _ (Out.ok (Rs.fz DI.D.non) [.fz a0, .fz rd, .fz od', .un, .ow [.int 0, .int 2, .str "late"]] s)
    intro v H6 M6 E6 x6 _
    have sl : (σ1.set 3 (some (.ref Tt))).length = 5 := E6.len
    have l1 : σ1.length = 5 := by rw [List.length_set] at sl; exact sl
    obtain ⟨nT6, hT6⟩ := x6.of_hid nT upd_same
    obtain ⟨v4, M7, e7, E7, x7, r7⟩ := E6.freeze (i := 4) (xs := [.int 0, .int 2, .str "late"]) rfl
    have ev : v4 = .ref a := by
      rw [List.getElem?_set_ne (by decide)] at e7
      rw [e4] at e7
      exact (Option.some.inj (Option.some.inj e7)).symm
    subst ev
    have hT7 := (x7.of_hid nT6 hT6)
    have E8 := E7.put (i := 3) (by show 3 < 5; decide) (v := .ref Tt) (l := .fz (.tup [.str "figures", L3])) (fun d z => by
      cases z
      exact .tup (SqT.of (by rw [hid_of hT7.1]; exact hT7.2)) (.cons (.str _) (.cons r7 .nil))) (fun o z => by cases z)
    rw [List.set_set] at E8
    refine ⟨P0, _, s, M7, E8, ?_⟩
    exact PostS.mono (x1.trans (x2.trans (x3.trans (x4.trans (x6.trans x7))))) h
end
end K14
end
section
set_option Elab.async false
set_option linter.all false
set_option maxRecDepth 100000
set_option maxHeartbeats 4000000
namespace K14
open PySem L2 DI
open LamX (TabB GivesTo Tabs)
section
variable {P : Program} {w : World} {mg : Str → Option Value} {base : Heap} {F : Fx}
/-! _law_row_right -/
theorem sc__law_row_right : FnScope ["stream", "row", "many", "passed", "kept", "found", "figures", "due"] ["stream", "row"] (defScope (top 37)) := ⟨rfl, rfl, rfl, by decide +kernel, rfl, by decide +kernel, by decide +kernel⟩
def b__law_row_right : Ga → Sd → Out DI.Flow := (sSeq (sFor (.nm 2) (iSeqF (sTup (aCons (sCon (.int 0)) (aCons (sCon (.int 1)) (aCons (sCall (callG ψDraw) (aCons (sVar 0) (aCons (sCon (.int 12)) aNil))) (aCons (sCall (callG ψDraw) (aCons (sVar 0) (aCons (sCon (.int 200)) aNil))) (aCons (sBi (biF .len) (lCons (sTwo (fun x y => (subF x y).map .fz) (sVar 1) (sCon (.int 0))) lNil)) aNil))))))) (sSeq (sAsg (.nm 3) (sCall (callG ψ__law_f_as_told) (aCons (sVar 0) (aCons (sVar 1) aNil))))
    (sSeq (sAsg (.nm 4) (sBiK reprF (aCons (sVar 3) aNil)))
    (sSeq (sAsg (.nm 5) (sLst (aCons (sCall (callG ψ_tops) (aCons (sVar 3) (aCons (sVar 2) aNil))) (aCons (sCall (fun ds => callG ψ_tops (permL [1, 0] ds)) (aCons (sVar 2) (aCons (sVar 1) aNil))) (aCons (sCall (callG ψ_drop_tops) (aCons (sVar 3) (aCons (sVar 2) aNil))) aNil)))))
    (sSeq (sIff (tOrF (tNotF (tOf (sCall (callG (ψ__law_same 8)) (aCons (sVar 5) (aCons (sTwo (binF .add) (sTwo (binF .mul) (sLst (aCons (sCall (callG ψ__law_f_tops) (aCons (sVar 1) (aCons (sVar 2) aNil))) aNil)) (sCon (.int 2))) (sLst (aCons (sCall (callG ψ__law_below) (aCons (sVar 1) (aCons (sVar 2) aNil))) aNil))) aNil))))) (tOf (sCmp .ne (sBiK reprF (aCons (sVar 3) aNil)) (sVar 4)))) (sRet (sCon (.bl false))) (fun g s => .ok .nx g s))
    (sSeq (sAsg (.nm 6) (sCall (callG ψ__law_f_row) (aCons (sVar 0) (aCons (sCon (.int 5)) aNil))))
    (sSeq (sAsg (.nm 7) (sCall (callG ψ__law_f_least) (aCons (sTwo (binF .add) (sVar 6) (sTwo (fun x y => (subF x y).map .fz) (sVar 1) (sCon (.int 0)))) (aCons (sTwo (fun x y => (subF x y).map .fz) (sVar 1) (sCon (.int 1))) aNil))))
    (sSeq (sAsg (.nm 5) (sLst (aCons (sCall (callG ψ_put_all) (aCons (sCall (callG (ψ__law_loose 8)) (aCons (sVar 0) (aCons (sVar 6) aNil))) (aCons (sVar 3) aNil))) (aCons (sCall (fun ds => callG ψ_put_all (permL [1, 0] ds)) (aCons (sVar 1) (aCons (sVar 6) aNil))) aNil))))
    (sSeq (sIff (tNotF (tOf (sCall (callG (ψ__law_same 8)) (aCons (sVar 5) (aCons (sTwo (binF .mul) (sLst (aCons (sVar 7) aNil)) (sCon (.int 2))) aNil))))) (sRet (sCon (.bl false))) (fun g s => .ok .nx g s))
    (sIff (tNotF (tOf (sCall (callG (ψ__law_same 8)) (aCons (sCall (callG ψ_put_all) (aCons (sCall (callG ψ__law_f_tops) (aCons (sVar 1) (aCons (sVar 2) aNil))) (aCons (sCall (callG ψ__law_below) (aCons (sVar 1) (aCons (sVar 2) aNil))) aNil))) (aCons (sCall (callG ψ__law_f_least) (aCons (sTwo (fun x y => (subF x y).map .fz) (sVar 1) (sCon (.int 0))) (aCons (sTwo (fun x y => (subF x y).map .fz) (sVar 1) (sCon (.int 1))) aNil))) aNil))))) (sRet (sCon (.bl false))) (fun g s => .ok .nx g s)))))))))))
    (sSeq (sAsg (.nm 2) (sTwo (binF .add) (sCon (.int 200)) (sCall (callG ψDraw) (aCons (sVar 0) (aCons (sCon (.int 999999000)) aNil)))))
    (sRet (sCall (callG (ψ__law_same 8)) (aCons (sCall (fun ds => callG ψ_drop_tops (permL [1, 0] ds)) (aCons (sVar 2) (aCons (sVar 1) aNil))) (aCons (sCall (callG ψ__law_below) (aCons (sVar 1) (aCons (sVar 2) aNil))) aNil))))))
def ψ__law_row_right : List DI.D → Sd → FOut := fnOf 2 8 b__law_row_right
theorem ok__law_row_right (T : Tx F.K F.cls mg) : FnG P w F.K mg base (L2.CX P w) 13 T.a37 T.f37 ["stream", "row"] (spF F 2 ψ__law_row_right) := fn_defG T.d37.F sc__law_row_right (by decide) (
    fun cdv A outer s H E hr hgs => (ds_cons (x_for hp_def rfl (di_seq rfl (d_tup (a_cons w_int (a_cons w_int (a_cons (w_call (ok_draw T.d31.F T.n_int) ψDraw_bad hr T.d31.m T.d31.k T.d31.b tk_def (a_cons (w_var 0) (a_cons w_int da_nil)) (by omega)) (a_cons (w_call (ok_draw T.d31.F T.n_int) ψDraw_bad hr T.d31.m T.d31.k T.d31.b tk_def (a_cons (w_var 0) (a_cons w_int da_nil)) (by omega)) (a_cons (w_len rfl T.n_len (w_ix rfl (w_var 1) w_int)) da_nil))))))) (pg_name (i := 2) sc__law_row_right.nd rfl (by first | exact Or.inl rfl | exact Or.inr rfl)) (tg_nm 2) (ds_cons (x_set 3 sc__law_row_right.nd (w_call (ok__law_f_as_told T) fnOf_bad hr T.d28.m T.d28.k T.d28.b tk_def (a_cons (w_var 0) (a_cons (w_var 1) da_nil)) (by omega)))
    (ds_cons (x_set 4 sc__law_row_right.nd (w_repr hr hgs rfl T.n_repr (a_cons (w_var 3) da_nil)))
    (ds_cons (x_set 5 sc__law_row_right.nd (d_lst (a_cons (w_call (ok_tops T) fnOf_bad hr T.d18.m T.d18.k T.d18.b tk_def (a_cons (w_var 3) (a_cons (w_var 2) da_nil)) (by omega)) (a_cons (d_callK (pm := [1, 0]) (ks := ["many", "endless"]) rfl (ok_tops T) fnOf_bad (hr.mono (by omega)) rfl T.d18.m T.d18.k T.kb18 tk_def (dk_cons (w_var 2) (dk_cons (w_var 1) dk_nil)) (by decide) rfl rfl rfl) (a_cons (w_call (ok_drop_tops T) fnOf_bad hr T.d19.m T.d19.k T.d19.b tk_def (a_cons (w_var 3) (a_cons (w_var 2) da_nil)) (by omega)) da_nil)))))
    (ds_cons (ds_if ((dw_or (dt_not (t_val (w_call (ok__law_same T 8) (ψ__law_same_bad _) hr T.d33.m T.d33.k T.d33.b tk_def (a_cons (w_var 5) (a_cons (w_add (w_mul (d_lst (a_cons (w_call (ok__law_f_tops T) fnOf_bad hr T.d24.m T.d24.k T.d24.b tk_def (a_cons (w_var 1) (a_cons (w_var 2) da_nil)) (by omega)) da_nil)) w_int) (d_lst (a_cons (w_call (ok__law_below T) fnOf_bad hr T.d36.m T.d36.k T.d36.b tk_def (a_cons (w_var 1) (a_cons (w_var 2) da_nil)) (by omega)) da_nil))) da_nil)) (by omega)))) (dw_or1 (t_ne hr rfl (w_repr hr hgs rfl T.n_repr (a_cons (w_var 3) da_nil)) (w_var 4))))).pt (ds_one (ds_ret w_bl)) ds_nil)
    (ds_cons (x_set 6 sc__law_row_right.nd (w_call (ok__law_f_row T) fnOf_bad hr T.d26.m T.d26.k T.d26.b tk_def (a_cons (w_var 0) (a_cons w_int da_nil)) (by omega)))
    (ds_cons (x_set 7 sc__law_row_right.nd (w_call (ok__law_f_least T) fnOf_bad hr T.d23.m T.d23.k T.d23.b tk_def (a_cons (w_add (w_var 6) (w_ix rfl (w_var 1) w_int)) (a_cons (w_ix rfl (w_var 1) w_int) da_nil)) (by omega)))
    (ds_cons (x_set 5 sc__law_row_right.nd (d_lst (a_cons (w_call (ok_put_all T) fnOf_bad hr T.d20.m T.d20.k T.d20.b tk_def (a_cons (w_call (ok__law_loose T 8) (ψ__law_loose_bad _) hr T.d34.m T.d34.k T.d34.b tk_def (a_cons (w_var 0) (a_cons (w_var 6) da_nil)) (by omega)) (a_cons (w_var 3) da_nil)) (by omega)) (a_cons (d_callK (pm := [1, 0]) (ks := ["endless", "figures"]) rfl (ok_put_all T) fnOf_bad (hr.mono (by omega)) rfl T.d20.m T.d20.k T.kb20 tk_def (dk_cons (w_var 1) (dk_cons (w_var 6) dk_nil)) (by decide) rfl rfl rfl) da_nil))))
    (ds_cons (ds_if (dt_not (t_val (w_call (ok__law_same T 8) (ψ__law_same_bad _) hr T.d33.m T.d33.k T.d33.b tk_def (a_cons (w_var 5) (a_cons (w_mul (d_lst (a_cons (w_var 7) da_nil)) w_int) da_nil)) (by omega)))) (ds_one (ds_ret w_bl)) ds_nil)
    (ds_one (ds_if (dt_not (t_val (w_call (ok__law_same T 8) (ψ__law_same_bad _) hr T.d33.m T.d33.k T.d33.b tk_def (a_cons (w_call (ok_put_all T) fnOf_bad hr T.d20.m T.d20.k T.d20.b tk_def (a_cons (w_call (ok__law_f_tops T) fnOf_bad hr T.d24.m T.d24.k T.d24.b tk_def (a_cons (w_var 1) (a_cons (w_var 2) da_nil)) (by omega)) (a_cons (w_call (ok__law_below T) fnOf_bad hr T.d36.m T.d36.k T.d36.b tk_def (a_cons (w_var 1) (a_cons (w_var 2) da_nil)) (by omega)) da_nil)) (by omega)) (a_cons (w_call (ok__law_f_least T) fnOf_bad hr T.d23.m T.d23.k T.d23.b tk_def (a_cons (w_ix rfl (w_var 1) w_int) (a_cons (w_ix rfl (w_var 1) w_int) da_nil)) (by omega)) da_nil)) (by omega)))) (ds_one (ds_ret w_bl)) ds_nil)))))))))))
    (ds_cons (x_set 2 sc__law_row_right.nd (w_add w_int (w_call (ok_draw T.d31.F T.n_int) ψDraw_bad hr T.d31.m T.d31.k T.d31.b tk_def (a_cons (w_var 0) (a_cons w_int da_nil)) (by omega))))
    (ds_one (ds_ret (w_call (ok__law_same T 8) (ψ__law_same_bad _) hr T.d33.m T.d33.k T.d33.b tk_def (a_cons (d_callK (pm := [1, 0]) (ks := ["many", "endless"]) rfl (ok_drop_tops T) fnOf_bad (hr.mono (by omega)) rfl T.d19.m T.d19.k T.kb19 tk_def (dk_cons (w_var 2) (dk_cons (w_var 1) dk_nil)) (by decide) rfl rfl rfl) (a_cons (w_call (ok__law_below T) fnOf_bad hr T.d36.m T.d36.k T.d36.b tk_def (a_cons (w_var 1) (a_cons (w_var 2) da_nil)) (by omega)) da_nil)) (by omega)))))))
/-! _law_unlike_right -/
theorem sc__law_unlike_right : FnScope ["stream", "row", "other", "many", "one", "two", "places", "due", "found", "at", "first", "below", "bent"] ["stream", "row", "other"] (defScope (top 38)) := ⟨rfl, rfl, rfl, by decide +kernel, rfl, by decide +kernel, by decide +kernel⟩
def b__law_unlike_right : Ga → Sd → Out DI.Flow := (sSeq (sAsg (.nm 3) (sCon (.int 40)))
    (sSeq (sPar [4, 5] (pCons (sCall (callG ψ__law_f_tops) (aCons (sVar 1) (aCons (sVar 3) aNil))) (pCons (sCall (callG ψ__law_f_tops) (aCons (sVar 2) (aCons (sVar 3) aNil))) lNil)))
    (sSeq (sAsg (.nm 6) (sLc [9] (iRngF rngF1 (aCons (sVar 3) aNil)) (.nm 9) (tOf (sCmp .ne (sTwo (fun x y => (subF x y).map .fz) (sVar 4) (sVar 9)) (sTwo (fun x y => (subF x y).map .fz) (sVar 5) (sVar 9)))) (sVar 9)))
    (sSeq (sAsg (.nm 7) (sIte (tOf (sCmp .ne (sVar 6) (sLst aNil))) (sTwo (fun x y => (subF x y).map .fz) (sVar 6) (sCon (.int 0))) (sCon .non)))
    (sSeq (sAsg (.nm 8) (sLst (aCons (sCall (callG ψ_first_unlike) (aCons (sCall (callG ψ__law_f_as_told) (aCons (sVar 0) (aCons (sVar 1) aNil))) (aCons (sVar 2) aNil))) (aCons (sCall (fun ds => callG ψ_first_unlike (permL [1, 0] ds)) (aCons (sVar 1) (aCons (sVar 2) aNil))) aNil))))
    (sSeq (sIff (tNotF (tOf (sCall (callG (ψ__law_same 8)) (aCons (sVar 8) (aCons (sTwo (binF .mul) (sLst (aCons (sVar 7) aNil)) (sCon (.int 2))) aNil))))) (sRet (sCon (.bl false))) (fun g s => .ok .nx g s))
    (sSeq (sAsg (.nm 9) (sCall (callG ψDraw) (aCons (sVar 0) (aCons (sCon (.int 60)) aNil))))
    (sSeq (sPar [10, 11] (pCons (sCall (callG ψ__law_f_tops) (aCons (sVar 1) (aCons (sTwo (binF .add) (sVar 9) (sCon (.int 1))) aNil))) (pCons (sCall (callG ψ__law_below) (aCons (sVar 1) (aCons (sTwo (binF .add) (sVar 9) (sCon (.int 1))) aNil))) lNil)))
    (sSeq (sAsg (.nm 12) (sTup (aCons (sTwo (binF .add) (sTwo (binF .add) (sSlc (sVar 10) oNone (pOf (sVar 9))) (sLst (aCons (sTwo (binF .sub) (sCon (.int 1)) (sTwo (fun x y => (subF x y).map .fz) (sVar 10) (sVar 9))) aNil))) (sTwo (fun x y => (subF x y).map .fz) (sVar 11) (sCon (.int 0)))) (aCons (sTwo (fun x y => (subF x y).map .fz) (sVar 11) (sCon (.int 1))) aNil))))
    (sSeq (sAsg (.nm 8) (sLst (aCons (sCall (callG ψ_first_unlike) (aCons (sVar 1) (aCons (sVar 12) aNil))) (aCons (sCall (callG ψ_first_unlike) (aCons (sVar 12) (aCons (sCall (callG ψ__law_f_as_told) (aCons (sVar 0) (aCons (sVar 1) aNil))) aNil))) (aCons (sCall (callG ψ_first_unlike) (aCons (sVar 12) (aCons (sVar 12) aNil))) aNil)))))
    (sRet (sCall (callG (ψ__law_same 8)) (aCons (sVar 8) (aCons (sLst (aCons (sVar 9) (aCons (sVar 9) (aCons (sCon .non) aNil)))) aNil))))))))))))))
def ψ__law_unlike_right : List DI.D → Sd → FOut := fnOf 3 13 (b__law_unlike_right)
theorem ok__law_unlike_right (T : Tx F.K F.cls mg) : FnOk P w F.K mg base (L2.CX P w) 13 T.a38 T.f38 ["stream", "row", "other"] (spF F 3 (ψ__law_unlike_right)) := fn_def T.d38.F sc__law_unlike_right (by decide) (
    fun cdv A outer s H E hr => (ds_cons (x_set 3 sc__law_unlike_right.nd w_int)
    (ds_cons (x_par2c 4 5 rfl (pg_name (i := 4) sc__law_unlike_right.nd rfl (by first | exact Or.inl rfl | exact Or.inr rfl)) (pg_name (i := 5) sc__law_unlike_right.nd rfl (by first | exact Or.inl rfl | exact Or.inr rfl)) (p_cons (w_call (ok__law_f_tops T) fnOf_bad hr T.d24.m T.d24.k T.d24.b tk_def (a_cons (w_var 1) (a_cons (w_var 3) da_nil)) (by omega)) (p_cons (w_call (ok__law_f_tops T) fnOf_bad hr T.d24.m T.d24.k T.d24.b tk_def (a_cons (w_var 2) (a_cons (w_var 3) da_nil)) (by omega)) dp_nil)))
    (ds_cons (x_setLc 6 [("at", 9)] rfl sc__law_unlike_right.nd (di_rng1 rfl T.n_range (a_cons (w_var 3) da_nil) rfl ) (blkOk_by (N := ["stream", "row", "other", "many", "one", "two", "places", "due", "found", "at", "first", "below", "bent"]) (sc := defScope (top 38)) (by decide +kernel)) (fun _ _ _ _ _ => (pg_name (i := 9) sc__law_unlike_right.nd rfl (by first | exact Or.inl rfl | exact Or.inr rfl))) (tg_nm 9) (by decide) (fun _ _ _ _ _ => dc_one (t_ne hr rfl (w_ix rfl (w_var 4) (w_var 9)) (w_ix rfl (w_var 5) (w_var 9)))) (fun _ _ _ _ _ => (w_var 9)) (sw_true rfl rfl rfl rfl))
    (ds_cons (x_set 7 sc__law_unlike_right.nd (d_ite (t_ne hr rfl (w_var 6) (d_lst da_nil)) (w_ix rfl (w_var 6) w_int) w_non))
    (ds_cons (x_set 8 sc__law_unlike_right.nd (d_lst (a_cons (w_call (ok_first_unlike T) fnOf_bad hr T.d21.m T.d21.k T.d21.b tk_def (a_cons (w_call (ok__law_f_as_told T) fnOf_bad hr T.d28.m T.d28.k T.d28.b tk_def (a_cons (w_var 0) (a_cons (w_var 1) da_nil)) (by omega)) (a_cons (w_var 2) da_nil)) (by omega)) (a_cons (d_callK (pm := [1, 0]) (ks := ["other", "endless"]) rfl (ok_first_unlike T) fnOf_bad (hr.mono (by omega)) rfl T.d21.m T.d21.k T.kb21 tk_def (dk_cons (w_var 1) (dk_cons (w_var 2) dk_nil)) (by decide) rfl rfl rfl) da_nil))))
    (ds_cons (ds_if (dt_not (t_val (w_call (ok__law_same T 8) (ψ__law_same_bad _) hr T.d33.m T.d33.k T.d33.b tk_def (a_cons (w_var 8) (a_cons (w_mul (d_lst (a_cons (w_var 7) da_nil)) w_int) da_nil)) (by omega)))) (ds_one (ds_ret w_bl)) ds_nil)
    (ds_cons (x_set 9 sc__law_unlike_right.nd (w_call (ok_draw T.d31.F T.n_int) ψDraw_bad hr T.d31.m T.d31.k T.d31.b tk_def (a_cons (w_var 0) (a_cons w_int da_nil)) (by omega)))
    (ds_cons (x_par2 10 11 sc__law_unlike_right.nd (p_cons (w_call (ok__law_f_tops T) fnOf_bad hr T.d24.m T.d24.k T.d24.b tk_def (a_cons (w_var 1) (a_cons (w_add (w_var 9) w_int) da_nil)) (by omega)) (p_cons (w_call (ok__law_below T) fnOf_bad hr T.d36.m T.d36.k T.d36.b tk_def (a_cons (w_var 1) (a_cons (w_add (w_var 9) w_int) da_nil)) (by omega)) dp_nil)))
    (ds_cons (x_set 12 sc__law_unlike_right.nd (d_tup (a_cons (w_add (w_add (w_slc rfl (w_var 10) do_none (do_some (w_var 9))) (d_lst (a_cons (w_sub w_int (w_ix rfl (w_var 10) (w_var 9))) da_nil))) (w_ix rfl (w_var 11) w_int)) (a_cons (w_ix rfl (w_var 11) w_int) da_nil))))
    (ds_cons (x_set 8 sc__law_unlike_right.nd (d_lst (a_cons (w_call (ok_first_unlike T) fnOf_bad hr T.d21.m T.d21.k T.d21.b tk_def (a_cons (w_var 1) (a_cons (w_var 12) da_nil)) (by omega)) (a_cons (w_call (ok_first_unlike T) fnOf_bad hr T.d21.m T.d21.k T.d21.b tk_def (a_cons (w_var 12) (a_cons (w_call (ok__law_f_as_told T) fnOf_bad hr T.d28.m T.d28.k T.d28.b tk_def (a_cons (w_var 0) (a_cons (w_var 1) da_nil)) (by omega)) da_nil)) (by omega)) (a_cons (w_call (ok_first_unlike T) fnOf_bad hr T.d21.m T.d21.k T.d21.b tk_def (a_cons (w_var 12) (a_cons (w_var 12) da_nil)) (by omega)) da_nil)))))
    (ds_one (ds_ret (w_call (ok__law_same T 8) (ψ__law_same_bad _) hr T.d33.m T.d33.k T.d33.b tk_def (a_cons (w_var 8) (a_cons (d_lst (a_cons (w_var 9) (a_cons (w_var 9) (a_cons w_non da_nil)))) da_nil)) (by omega)))))))))))))))
end
end K14
end
section
set_option Elab.async false
set_option linter.all false
set_option maxRecDepth 100000
set_option maxHeartbeats 4000000
namespace K14
open PySem L2 DI
open LamX (TabB GivesTo Tabs)
section
variable {P : Program} {w : World} {mg : Str → Option Value} {base : Heap} {F : Fx}
/-! _law_refused_right -/
theorem sc__law_refused_right : FnScope ["stream", "row", "odd", "found", "held"] ["stream", "row"] (defScope (top 39)) := ⟨rfl, rfl, rfl, by decide +kernel, rfl, by decide +kernel, by decide +kernel⟩
def b__law_refused_right : Ga → Sd → Out DI.Flow := (sSeq (sFor (.nm 2) (iSeqF (sCall (callG ψ__law_f_odd_rows) aNil)) (sSeq (sAsg (.nm 3) (sLst (aCons (sLam told tags (sCall (callG ψ_tops) (aCons (sVar 2) (aCons (sCon .non) aNil)))) aNil)))
    (sSeq (sExp (sMth .append 3 (aCons (sLam told tags (sCall (callG ψ_drop_tops) (aCons (sVar 2) (aCons (sOne negF (sCon (.int 1))) aNil)))) aNil)))
    (sSeq (sExp (sMth .append 3 (aCons (sLam told tags (sCall (callG ψ_put_all) (aCons (sLst aNil) (aCons (sVar 2) aNil)))) aNil)))
    (sSeq (sExp (sMth .append 3 (aCons (sLam told tags (sCall (callG ψ_first_unlike) (aCons (sVar 2) (aCons (sCon .non) aNil)))) aNil)))
    (sSeq (sIff (tNotF (tOf (sCall (callG (ψ__law_same 8)) (aCons (sVar 3) (aCons (sTwo (binF .mul) (sLst (aCons (sTup (aCons (sCon (.str "endless")) (aCons (sVar 2) aNil))) aNil)) (sCon (.int 4))) aNil))))) (sRet (sCon (.bl false))) (fun g s => .ok .nx g s))
    (sIff (tNotF (tOf (sCall (callG (ψ__law_same 8)) (aCons (sLam told tags (sCall (callG ψ_first_unlike) (aCons (sVar 1) (aCons (sVar 2) aNil)))) (aCons (sTup (aCons (sCon (.str "other")) (aCons (sVar 2) aNil))) aNil))))) (sRet (sCon (.bl false))) (fun g s => .ok .nx g s))))))))
    (sSeq (sFor (.nm 2) (iSeqF (sTup (aCons (sCon .non) (aCons (sOne negF (sCon (.int 1))) (aCons (sCon (.bl true)) (aCons (sCon (.bl false)) (aCons (sCon (.str "3")) (aCons (sLst (aCons (sCon (.int 2)) aNil)) aNil)))))))) (sSeq (sAsg (.nm 3) (sLst (aCons (sLam told tags (sCall (callG ψ_tops) (aCons (sVar 1) (aCons (sVar 2) aNil)))) aNil)))
    (sSeq (sExp (sMth .append 3 (aCons (sLam told tags (sCall (callG ψ_drop_tops) (aCons (sVar 1) (aCons (sVar 2) aNil)))) aNil)))
    (sIff (tNotF (tOf (sCall (callG (ψ__law_same 8)) (aCons (sVar 3) (aCons (sTwo (binF .mul) (sLst (aCons (sTup (aCons (sCon (.str "many")) (aCons (sVar 2) aNil))) aNil)) (sCon (.int 2))) aNil))))) (sRet (sCon (.bl false))) (fun g s => .ok .nx g s)))))
    (sSeq (sFor (.nm 2) (iSeqF (sTup (aCons (sCon .non) (aCons (sCon (.int 0)) (aCons (sCon (.str "01")) (aCons (sCon (.dic [])) (aCons (sLst (aCons (sCon (.int 2)) aNil)) (aCons (sLst (aCons (sCon (.int 0)) (aCons (sCon (.bl true)) aNil))) (aCons (sLst (aCons (sLst (aCons (sCon (.int 0)) aNil)) aNil)) (aCons (sLst (aCons (sCon (.int 0)) (aCons (sCon .non) aNil))) (aCons (sTup (aCons (sOne negF (sCon (.int 1))) aNil)) aNil))))))))))) (sSeq (sAsg (.nm 3) (sLst (aCons (sLam told tags (sCall (callG ψ_put_all) (aCons (sVar 2) (aCons (sVar 1) aNil)))) aNil)))
    (sSeq (sExp (sMth .append 3 (aCons (sLam told tags (sCall (callG ψ_put_all) (aCons (sVar 2) (aCons (sCon .non) aNil)))) aNil)))
    (sIff (tNotF (tOf (sCall (callG (ψ__law_same 8)) (aCons (sVar 3) (aCons (sTwo (binF .mul) (sLst (aCons (sTup (aCons (sCon (.str "figures")) (aCons (sVar 2) aNil))) aNil)) (sCon (.int 2))) aNil))))) (sRet (sCon (.bl false))) (fun g s => .ok .nx g s)))))
    sTail)))
def ψ__law_refused_right : List DI.D → Sd → FOut := fnOf 2 5 b__law_refused_right
theorem ok__law_refused_right (T : Tx F.K F.cls mg) (TB : TabB base mg T.lc39 T.lt39) (hmT : (T.lt39, qL39) ∈ F.T) (hmU : ∀ p ∈ F.T, p.1 = T.lt39 → p.2 = qL39) : FnOk P w F.K mg base (L2.CX P w) 12 T.a39 T.f39 ["stream", "row"] (spF F 2 ψ__law_refused_right) := fn_defC T.lf39 sc__law_refused_right (by decide) (
    fun A outer s H E hr => (ds_cons (x_for hp_def rfl (di_seq rfl (w_call0 (ok__law_f_odd_rows T) fnOf_bad hr T.d29.m T.d29.k T.d29.b tk_def (by omega))) (pg_name (i := 2) sc__law_refused_right.nd rfl (by first | exact Or.inl rfl | exact Or.inr rfl)) (tg_nm 2) (ds_cons (x_set 3 sc__law_refused_right.nd (d_lst (a_cons (w_lam (k := 9) T.d35.F T.d35.b T.d35.m T.d35.k sc__law_row_or (fun _ => gives T rfl rfl) TB rfl hmT hmU (hr.mono (by omega)) (fun _ _ _ _ _ => rfl) (fun A outer s H E f c hr => (w_call (ok_tops T) fnOf_bad hr T.d18.m T.d18.k T.d18.b tk_lam (a_cons (w_var 2) (a_cons w_non da_nil)) (by omega)))) da_nil)))
    (ds_cons (x_exp (w_append 3 (a_cons (w_lam (k := 9) T.d35.F T.d35.b T.d35.m T.d35.k sc__law_row_or (fun _ => gives T rfl rfl) TB rfl hmT hmU (hr.mono (by omega)) (fun _ _ _ _ _ => rfl) (fun A outer s H E f c hr => (w_call (ok_drop_tops T) fnOf_bad hr T.d19.m T.d19.k T.d19.b tk_lam (a_cons (w_var 2) (a_cons (w_neg w_int) da_nil)) (by omega)))) da_nil)))
    (ds_cons (x_exp (w_append 3 (a_cons (w_lam (k := 9) T.d35.F T.d35.b T.d35.m T.d35.k sc__law_row_or (fun _ => gives T rfl rfl) TB rfl hmT hmU (hr.mono (by omega)) (fun _ _ _ _ _ => rfl) (fun A outer s H E f c hr => (w_call (ok_put_all T) fnOf_bad hr T.d20.m T.d20.k T.d20.b tk_lam (a_cons (d_lst da_nil) (a_cons (w_var 2) da_nil)) (by omega)))) da_nil)))
    (ds_cons (x_exp (w_append 3 (a_cons (w_lam (k := 9) T.d35.F T.d35.b T.d35.m T.d35.k sc__law_row_or (fun _ => gives T rfl rfl) TB rfl hmT hmU (hr.mono (by omega)) (fun _ _ _ _ _ => rfl) (fun A outer s H E f c hr => (w_call (ok_first_unlike T) fnOf_bad hr T.d21.m T.d21.k T.d21.b tk_lam (a_cons (w_var 2) (a_cons w_non da_nil)) (by omega)))) da_nil)))
    (ds_cons (ds_if (dt_not (t_val (w_call (ok__law_same T 8) (ψ__law_same_bad _) hr T.d33.m T.d33.k T.d33.b tk_def (a_cons (w_var 3) (a_cons (w_mul (d_lst (a_cons (d_tup (a_cons w_str (a_cons (w_var 2) da_nil))) da_nil)) w_int) da_nil)) (by omega)))) (ds_one (ds_ret w_bl)) ds_nil)
    (ds_one (ds_if (dt_not (t_val (w_call (ok__law_same T 8) (ψ__law_same_bad _) hr T.d33.m T.d33.k T.d33.b tk_def (a_cons (w_lam (k := 9) T.d35.F T.d35.b T.d35.m T.d35.k sc__law_row_or (fun _ => gives T rfl rfl) TB rfl hmT hmU (hr.mono (by omega)) (fun _ _ _ _ _ => rfl) (fun A outer s H E f c hr => (w_call (ok_first_unlike T) fnOf_bad hr T.d21.m T.d21.k T.d21.b tk_lam (a_cons (w_var 1) (a_cons (w_var 2) da_nil)) (by omega)))) (a_cons (d_tup (a_cons w_str (a_cons (w_var 2) da_nil))) da_nil)) (by omega)))) (ds_one (ds_ret w_bl)) ds_nil))))))))
    (ds_cons (x_for hp_def rfl (di_seq rfl (d_tup (a_cons w_non (a_cons (w_neg w_int) (a_cons w_bl (a_cons w_bl (a_cons w_str (a_cons (d_lst (a_cons w_int da_nil)) da_nil)))))))) (pg_name (i := 2) sc__law_refused_right.nd rfl (by first | exact Or.inl rfl | exact Or.inr rfl)) (tg_nm 2) (ds_cons (x_set 3 sc__law_refused_right.nd (d_lst (a_cons (w_lam (k := 9) T.d35.F T.d35.b T.d35.m T.d35.k sc__law_row_or (fun _ => gives T rfl rfl) TB rfl hmT hmU (hr.mono (by omega)) (fun _ _ _ _ _ => rfl) (fun A outer s H E f c hr => (w_call (ok_tops T) fnOf_bad hr T.d18.m T.d18.k T.d18.b tk_lam (a_cons (w_var 1) (a_cons (w_var 2) da_nil)) (by omega)))) da_nil)))
    (ds_cons (x_exp (w_append 3 (a_cons (w_lam (k := 9) T.d35.F T.d35.b T.d35.m T.d35.k sc__law_row_or (fun _ => gives T rfl rfl) TB rfl hmT hmU (hr.mono (by omega)) (fun _ _ _ _ _ => rfl) (fun A outer s H E f c hr => (w_call (ok_drop_tops T) fnOf_bad hr T.d19.m T.d19.k T.d19.b tk_lam (a_cons (w_var 1) (a_cons (w_var 2) da_nil)) (by omega)))) da_nil)))
    (ds_one (ds_if (dt_not (t_val (w_call (ok__law_same T 8) (ψ__law_same_bad _) hr T.d33.m T.d33.k T.d33.b tk_def (a_cons (w_var 3) (a_cons (w_mul (d_lst (a_cons (d_tup (a_cons w_str (a_cons (w_var 2) da_nil))) da_nil)) w_int) da_nil)) (by omega)))) (ds_one (ds_ret w_bl)) ds_nil)))))
    (ds_cons (x_for hp_def rfl (di_seq rfl (d_tup (a_cons w_non (a_cons w_int (a_cons w_str (a_cons w_dic0 (a_cons (d_lst (a_cons w_int da_nil)) (a_cons (d_lst (a_cons w_int (a_cons w_bl da_nil))) (a_cons (d_lst (a_cons (d_lst (a_cons w_int da_nil)) da_nil)) (a_cons (d_lst (a_cons w_int (a_cons w_non da_nil))) (a_cons (d_tup (a_cons (w_neg w_int) da_nil)) da_nil))))))))))) (pg_name (i := 2) sc__law_refused_right.nd rfl (by first | exact Or.inl rfl | exact Or.inr rfl)) (tg_nm 2) (ds_cons (x_set 3 sc__law_refused_right.nd (d_lst (a_cons (w_lam (k := 9) T.d35.F T.d35.b T.d35.m T.d35.k sc__law_row_or (fun _ => gives T rfl rfl) TB rfl hmT hmU (hr.mono (by omega)) (fun _ _ _ _ _ => rfl) (fun A outer s H E f c hr => (w_call (ok_put_all T) fnOf_bad hr T.d20.m T.d20.k T.d20.b tk_lam (a_cons (w_var 2) (a_cons (w_var 1) da_nil)) (by omega)))) da_nil)))
    (ds_cons (x_exp (w_append 3 (a_cons (w_lam (k := 9) T.d35.F T.d35.b T.d35.m T.d35.k sc__law_row_or (fun _ => gives T rfl rfl) TB rfl hmT hmU (hr.mono (by omega)) (fun _ _ _ _ _ => rfl) (fun A outer s H E f c hr => (w_call (ok_put_all T) fnOf_bad hr T.d20.m T.d20.k T.d20.b tk_lam (a_cons (w_var 2) (a_cons w_non da_nil)) (by omega)))) da_nil)))
    (ds_one (ds_if (dt_not (t_val (w_call (ok__law_same T 8) (ψ__law_same_bad _) hr T.d33.m T.d33.k T.d33.b tk_def (a_cons (w_var 3) (a_cons (w_mul (d_lst (a_cons (d_tup (a_cons w_str (a_cons (w_var 2) da_nil))) da_nil)) w_int) da_nil)) (by omega)))) (ds_one (ds_ret w_bl)) ds_nil)))))
    (ds_tail T TB hmT hmU sc__law_refused_right hr)))))
end
end K14
end
section
set_option Elab.async false
set_option linter.all false
set_option maxRecDepth 100000
set_option maxHeartbeats 4000000
namespace K14
open PySem L2 DI
open LamX (TabB GivesTo Tabs)
section
variable {P : Program} {w : World} {mg : Str → Option Value} {base : Heap} {F : Fx}
/-! law -/
theorem sc_law : FnScope ["script", "stream", "turn", "row", "other", "told", "many"] ["script"] (defScope (top 40)) := ⟨rfl, rfl, rfl, by decide +kernel, rfl, by decide +kernel, by decide +kernel⟩
def b_law : Ga → Sd → Out DI.Flow := (sSeq (sFor (.nm 2) (iRngF rngF1 (aCons (sCon (.int 4)) aNil)) (sSeq (sPar [3, 4] (pCons (sCall (callG ψ__law_f_endless) (aCons (sVar 1) aNil)) (pCons (sCall (callG ψ__law_f_endless) (aCons (sVar 1) aNil)) lNil)))
    (sSeq (sIff (tOrF (tNotF (tOf (sCall (callG ψ__law_row_right) (aCons (sVar 1) (aCons (sVar 3) aNil))))) (tNotF (tOf (sCall (callG ψ__law_unlike_right) (aCons (sVar 1) (aCons (sVar 3) (aCons (sVar 4) aNil))))))) (sRet (sCon (.bl false))) (fun g s => .ok .nx g s))
    (sSeq (sIff (tOrF (tNotF (tOf (sCall (callG ψ__law_unlike_right) (aCons (sVar 1) (aCons (sVar 3) (aCons (sVar 3) aNil)))))) (tNotF (tOf (sCall (callG ψ__law_refused_right) (aCons (sVar 1) (aCons (sVar 3) aNil)))))) (sRet (sCon (.bl false))) (fun g s => .ok .nx g s))
    (sSeq (sPar [5, 6] (pCons (sCall (callG ψ_tops) (aCons (sVar 3) (aCons (sCon (.int 9)) aNil))) (pCons (sCall (callG ψ_drop_tops) (aCons (sVar 3) (aCons (sCon (.int 2)) aNil))) lNil)))
    (sSeq (sExp (sMth .append 5 (aCons (sCon (.str "late")) aNil)))
    (sSeq (sExp (sPApp 6 1))
    (sIff (tNotF (tOf (sCall (callG (ψ__law_same 8)) (aCons (sLst (aCons (sCall (callG ψ_tops) (aCons (sVar 3) (aCons (sCon (.int 9)) aNil))) (aCons (sCall (callG ψ_drop_tops) (aCons (sVar 3) (aCons (sCon (.int 2)) aNil))) aNil))) (aCons (sLst (aCons (sCall (callG ψ__law_f_tops) (aCons (sVar 3) (aCons (sCon (.int 9)) aNil))) (aCons (sCall (callG ψ__law_below) (aCons (sVar 3) (aCons (sCon (.int 2)) aNil))) aNil))) aNil))))) (sRet (sCon (.bl false))) (fun g s => .ok .nx g s)))))))))
    (sRet (sCon (.bl true))))
theorem dv_law (T : Tx F.K F.cls mg) (TB : TabB base mg T.lc39 T.lt39) (hmT : (T.lt39, qL39) ∈ F.T) (hmU : ∀ p ∈ F.T, p.1 = T.lt39 → p.2 = qL39) {cdv : Value} {A : Around} {outer : List PySem.Env} {s : Shared} {H : Hp} {E : XK} (hr : Room 13 (A.deeper (PyProof.Rows.envOfC "law" (defScope (top 40)) s.heap.objs.size T.a40 cdv))) (hgs : A.guards = some []) : PSsd (cxOf (L2.CX P w) P w F.K mg base ["script", "stream", "turn", "row", "other", "told", "many"] "law" (defScope (top 40)) T.a40 cdv A outer s H E) F (fun c d _ H => E c d H) ((defBody (top 40)).drop 1) b_law := (
    (ds_cons (x_for hp_def rfl (di_rng1 rfl T.n_range (a_cons w_int da_nil) rfl ) (pg_name (i := 2) sc_law.nd rfl (by first | exact Or.inl rfl | exact Or.inr rfl)) (tg_nm 2) (ds_cons (x_par2 3 4 sc_law.nd (p_cons (w_call (ok__law_f_endless T) fnOf_bad hr T.d27.m T.d27.k T.d27.b tk_def (a_cons (w_var 1) da_nil) (by omega)) (p_cons (w_call (ok__law_f_endless T) fnOf_bad hr T.d27.m T.d27.k T.d27.b tk_def (a_cons (w_var 1) da_nil) (by omega)) dp_nil)))
    (ds_cons (ds_if ((dw_or (dt_not (t_val (w_callG (ok__law_row_right T) fnOf_bad hr hgs T.d37.m T.d37.k T.d37.b tk_def (a_cons (w_var 1) (a_cons (w_var 3) da_nil)) (by omega)))) (dw_or1 (dt_not (t_val (w_call (ok__law_unlike_right T) fnOf_bad hr T.d38.m T.d38.k T.d38.b tk_def (a_cons (w_var 1) (a_cons (w_var 3) (a_cons (w_var 4) da_nil))) (by omega))))))).pt (ds_one (ds_ret w_bl)) ds_nil)
    (ds_cons (ds_if ((dw_or (dt_not (t_val (w_call (ok__law_unlike_right T) fnOf_bad hr T.d38.m T.d38.k T.d38.b tk_def (a_cons (w_var 1) (a_cons (w_var 3) (a_cons (w_var 3) da_nil))) (by omega)))) (dw_or1 (dt_not (t_val (w_call (ok__law_refused_right T TB hmT hmU) fnOf_bad hr T.d39.m T.d39.k T.d39.b tk_def (a_cons (w_var 1) (a_cons (w_var 3) da_nil)) (by omega))))))).pt (ds_one (ds_ret w_bl)) ds_nil)
    (ds_cons (x_par2 5 6 sc_law.nd (p_cons (w_call (ok_tops T) fnOf_bad hr T.d18.m T.d18.k T.d18.b tk_def (a_cons (w_var 3) (a_cons w_int da_nil)) (by omega)) (p_cons (w_call (ok_drop_tops T) fnOf_bad hr T.d19.m T.d19.k T.d19.b tk_def (a_cons (w_var 3) (a_cons w_int da_nil)) (by omega)) dp_nil)))
    (ds_cons (x_exp (w_append 5 (a_cons w_str da_nil)))
    (ds_cons (x_exp (w_papp 6 rfl pe_str))
    (ds_one (ds_if (dt_not (t_val (w_call (ok__law_same T 8) (ψ__law_same_bad _) hr T.d33.m T.d33.k T.d33.b tk_def (a_cons (d_lst (a_cons (w_call (ok_tops T) fnOf_bad hr T.d18.m T.d18.k T.d18.b tk_def (a_cons (w_var 3) (a_cons w_int da_nil)) (by omega)) (a_cons (w_call (ok_drop_tops T) fnOf_bad hr T.d19.m T.d19.k T.d19.b tk_def (a_cons (w_var 3) (a_cons w_int da_nil)) (by omega)) da_nil))) (a_cons (d_lst (a_cons (w_call (ok__law_f_tops T) fnOf_bad hr T.d24.m T.d24.k T.d24.b tk_def (a_cons (w_var 3) (a_cons w_int da_nil)) (by omega)) (a_cons (w_call (ok__law_below T) fnOf_bad hr T.d36.m T.d36.k T.d36.b tk_def (a_cons (w_var 3) (a_cons w_int da_nil)) (by omega)) da_nil))) da_nil)) (by omega)))) (ds_one (ds_ret w_bl)) ds_nil)))))))))
    (ds_one (ds_ret w_bl))))
end
end K14
end
section
set_option Elab.async false
set_option linter.all false
set_option maxRecDepth 100000
set_option maxHeartbeats 4000000
/-! the law's own def -/
namespace K14
open PySem L2 DI
open LamX (TabB GivesTo Tabs)
section
variable {P : Program} {w : World} {K : PySem.W.Frag} {mg : Str → Option Value} {base : Heap} {cls : Nat → Option (Addr × Str)}
/-- the law's names at the start: the spring alone -/
def g0 : Ga := [.un, .fz .strm, .un, .un, .un, .un, .un]
theorem g0_at {i : Nat} {l : Sl} (e : g0[i]? = some l) : l = .un ∨ (i = 1 ∧ l = .fz .strm) := by
  rcases i with _ | _ | _ | _ | _ | _ | _ | i <;> simp [g0] at e <;> simp [e]
theorem ok_law (T : Tx K cls mg) (TT : List (Addr × Str)) (TB : TabB base mg T.lc39 T.lt39) (hmT : (T.lt39, qL39) ∈ TT) (hmU : ∀ p ∈ TT, p.1 = T.lt39 → p.2 = qL39) (law : ∀ ns : List Int, ns.length ≤ 63 → ∃ g' s', b_law g0 ⟨ns, 0, 0, 19⟩ = .ok (.ret (.fz (.bl true))) g' s') : FnG P w K mg base (L2.CX P w) 14 T.a40 T.f40 ["script"] (spLaw K TT) := by
  obtain ⟨oc, od, kV, doc, pm, an, cdv, ct, osl, e, lk, hcd⟩ := T.d40.F.ex
  rw [e] at lk ⊢
  refine fnG_of (k := 13) lk hcd sc_law (fun vs H Q E h => ?_) fun A outer s H vs Q E hr hgs h => ?_
  · obtain ⟨a, ns, rfl, _⟩ := h
    rfl
  · obtain ⟨a, ns, rfl, hq, hl, hT, post⟩ := h
    refine ⟨_, pss_cons (ps_set (i := 1) sc_law.nd rfl (by first | exact Or.inl rfl | exact Or.inr rfl) (pe_callS (ok_start T.d30.F T.n_list) (hr.mono (by decide)) rfl T.d30.m T.d30.k T.d30.b (passAt tk_def) (pa_cons (pv 0) pa_nil)))
      (pss_ex (ι := Addr × Addr) (t := fun ck => rdS ⟨K, ck.1, ck.2, cls, TT⟩ (fun c d _ H => E c d H) b_law) fun ck => dv_law (F := ⟨K, ck.1, ck.2, cls, TT⟩) T TB hmT hmU hr hgs), ?_⟩
    refine ⟨_, rfl, a, ns, rfl, hq, fun H' c k kp st => ⟨(c, k), ?_⟩⟩
    obtain ⟨g', s', hb⟩ := law ns hl
    have no : ∀ i, foot (((L2.start ["script", "stream", "turn", "row", "other", "told", "many"] [V.ref a]).set 1 (some (.ref c)))) H' g0 i = [] := fun i => foot_none fun l h => by
      rcases g0_at h with rfl | ⟨_, rfl⟩ <;> rfl
    have E0 : En (F := ⟨K, c, k, cls, TT⟩) ⟨H', fun b => b = c ∨ b = k, fun b h => h⟩ ((L2.start ["script", "stream", "turn", "row", "other", "told", "many"] [V.ref a]).set 1 (some (.ref c))) H' g0 ⟨ns, 0, 0, 19⟩ (fun b => b = c ∨ b = k) := by
      refine ⟨rfl, fun i d e => ?_, fun i l o e t => ?_, fun i => (by rw [no]; exact List.nodup_nil), fun i j a _ h => (by rw [no] at h; cases h), fun i a h => (by rw [no] at h; cases h), ⟨st, hT.ext kp⟩, fun _ m => m, fun b m => ?_, fun b o e _ _ => e, fun a m n => absurd m n⟩
      · rcases g0_at e with z | ⟨rfl, z⟩
        · cases z
        · cases z
          exact ⟨.ref c, rfl, .strm⟩
      · rcases g0_at e with rfl | ⟨_, rfl⟩ <;> cases t
      · rcases m with rfl | rfl
        · exact ⟨_, st.2.1, rfl⟩
        · exact ⟨_, st.2.2, rfl⟩
    refine ⟨_, g0, _, _, E0, ?_⟩
    rw [hb]
    intro v σ' H2 M' E' _ rr
    have rr : Rp K c (hid H2 M') v (.bl true) := rr
    cases rr
    exact post H2
end
end K14
end
section
set_option Elab.async false
set_option linter.all false
set_option maxRecDepth 100000
/-! PN0: rows of figures without an end, plainly: the least form is the only one. -/
namespace K14
/-- the n-th figure of h and then a over and over -/
def fig (h a : List Int) (n : Nat) : Int := if n < h.length then h.getD n 0 else a.getD ((n - h.length) % a.length) 0
def rep (n : Nat) (xs : List Int) : List Int := (List.replicate n xs).flatten
def perB (a : List Int) (m : Nat) : Bool := a.length % m == 0 && a == rep (a.length / m) (a.take m)
/-- the first of m, m + 1, .., m + k that p takes; m + k if none ahead does -/
def ff (p : Nat → Bool) : Nat → Nat → Nat
  | 0, m => m
  | k + 1, m => if p m then m else ff p k (m + 1)
def per (a : List Int) : Nat := ff (perB a) (a.length - 1) 1
def root (a : List Int) : List Int := a.take (per a)
/-- the head is given backwards -/
def rollR : List Int → List Int → List Int × List Int
  | [], a => ([], a)
  | x :: r, a => if a.getLast? = some x then rollR r (x :: a.dropLast) else ((x :: r).reverse, a)
def leastF (h a : List Int) : List Int × List Int := rollR h.reverse (root a)
theorem ff_spec {p : Nat → Bool} : ∀ (k m : Nat), p (m + k) = true → p (ff p k m) = true ∧ m ≤ ff p k m ∧ ff p k m ≤ m + k ∧ ∀ j, m ≤ j → j < ff p k m → p j = false
  | 0, m, h => ⟨h, Nat.le_refl _, Nat.le_refl _, fun j h1 h2 => absurd h2 (by show ¬ j < m; omega)⟩
  | k + 1, m, h => by
    unfold ff
    by_cases c : p m = true
    · rw [if_pos c]
      exact ⟨c, Nat.le_refl _, by omega, fun j h1 h2 => absurd h2 (by omega)⟩
    · rw [if_neg c]
      obtain ⟨h1, h2, h3, h4⟩ := ff_spec k (m + 1) (by rw [show m + 1 + k = m + (k + 1) from by omega]; exact h)
      refine ⟨h1, by omega, by omega, fun j j1 j2 => ?_⟩
      by_cases e : j = m
      · rw [e]; simpa using c
      · exact h4 j (by omega) j2
theorem fig_lo {h a : List Int} {n : Nat} (c : n < h.length) : fig h a n = h.getD n 0 := if_pos c
theorem fig_hi {h a : List Int} (n : Nat) : fig h a (h.length + n) = a.getD (n % a.length) 0 := by
  unfold fig
  rw [if_neg (by omega), Nat.add_sub_cancel_left]
theorem fig_nil {a : List Int} (n : Nat) : fig [] a n = a.getD (n % a.length) 0 := by
  have := fig_hi (h := []) (a := a) n
  simpa using this
theorem fig_shift {h a : List Int} (n : Nat) : fig h a (h.length + n) = fig [] a n := by rw [fig_hi, fig_nil]
theorem fig_per {h a : List Int} {n : Nat} (c : h.length ≤ n) : fig h a (n + a.length) = fig h a n := by
  obtain ⟨k, rfl⟩ := Nat.exists_eq_add_of_le c
  rw [Nat.add_assoc, fig_hi, fig_hi, Nat.add_mod_right]
theorem gd (xs : List Int) (i : Nat) : xs.getD i 0 = (xs[i]?).getD 0 := List.getD_eq_getElem?_getD ..
theorem gd_left {xs ys : List Int} {i : Nat} (h : i < xs.length) : (xs ++ ys).getD i 0 = xs.getD i 0 := by rw [gd, gd, List.getElem?_append_left h]
theorem gd_right {xs ys : List Int} {i : Nat} (h : xs.length ≤ i) : (xs ++ ys).getD i 0 = ys.getD (i - xs.length) 0 := by rw [gd, gd, List.getElem?_append_right h]
theorem gd_at {xs : List Int} {i : Nat} (h : i < xs.length) : xs.getD i 0 = xs[i] := by rw [gd, List.getElem?_eq_getElem h]; rfl
theorem rep_len (n : Nat) (xs : List Int) : (rep n xs).length = n * xs.length := by
  unfold rep
  induction n with
  | zero => simp
  | succ n ih => rw [List.replicate_succ, List.flatten_cons, List.length_append, ih, Nat.succ_mul]; omega
theorem rep_succ (n : Nat) (xs : List Int) : rep (n + 1) xs = xs ++ rep n xs := by unfold rep; rw [List.replicate_succ, List.flatten_cons]
theorem rep_getD (n : Nat) (xs : List Int) (i : Nat) (h : i < n * xs.length) : (rep n xs).getD i 0 = xs.getD (i % xs.length) 0 := by
  induction n generalizing i with
  | zero => simp at h
  | succ n ih =>
    rw [rep_succ]
    by_cases c : i < xs.length
    · rw [gd_left c, Nat.mod_eq_of_lt c]
    · rw [gd_right (by omega), ih (i - xs.length) (by rw [Nat.succ_mul] at h; omega)]
      rw [Nat.mod_eq_sub_mod (by omega : i ≥ xs.length)]
theorem eq_of_getD {xs ys : List Int} (hl : xs.length = ys.length) (h : ∀ i, i < xs.length → xs.getD i 0 = ys.getD i 0) : xs = ys := by
  refine List.ext_getElem hl fun i h1 h2 => ?_
  have := h i h1
  rwa [gd_at h1, gd_at h2] at this
theorem take_getD {xs : List Int} {m i : Nat} (h : i < m) : (xs.take m).getD i 0 = xs.getD i 0 := by
  rw [List.getD_eq_getElem?_getD, List.getD_eq_getElem?_getD, List.getElem?_take, if_pos h]
/-- perB tells a period that divides -/
theorem perB_iff {a : List Int} {m : Nat} (h0 : 0 < m) (hd : m ∣ a.length) : perB a m = true ↔ ∀ n, fig [] a (n + m) = fig [] a n := by
  obtain ⟨k, hk⟩ := hd
  have hdiv : a.length / m = k := by rw [hk]; exact Nat.mul_div_cancel_left k h0
  have hmod : a.length % m = 0 := by rw [hk]; exact Nat.mul_mod_right m k
  unfold perB
  rw [hmod, hdiv]
  show (a == rep k (a.take m)) = true ↔ _
  rw [beq_iff_eq]
  by_cases z : a.length = 0
  · have ea : a = [] := List.eq_nil_of_length_eq_zero z
    subst ea
    constructor
    · intro _ n
      rw [fig_nil, fig_nil]; simp
    · intro _
      have : k = 0 := by
        have q : m * k = 0 := by rw [← hk]; rfl
        rcases Nat.mul_eq_zero.mp q with q | q
        · omega
        · exact q
      rw [this]; rfl
  · have hm : m ≤ a.length := by
      rw [hk]
      exact Nat.le_mul_of_pos_right m (Nat.pos_of_ne_zero fun q => z (by rw [hk, q, Nat.mul_zero]))
    have tl : (a.take m).length = m := by rw [List.length_take]; omega
    constructor
    · intro e n
      have at_ : ∀ j, fig [] a j = a.getD (j % m) 0 := fun j => by
        rw [fig_nil]
        have lt : j % a.length < a.length := Nat.mod_lt _ (by omega)
        have q : a.getD (j % a.length) 0 = (rep k (a.take m)).getD (j % a.length) 0 := by rw [← e]
        rw [q, rep_getD _ _ _ (by rw [tl, Nat.mul_comm, ← hk]; exact lt), tl, take_getD (Nat.mod_lt _ h0)]
        congr 1
        rw [hk]
        exact Nat.mod_mul_right_mod j m k
      rw [at_, at_, Nat.add_mod_right]
    · intro e
      have step : ∀ (j : Nat) (i : Nat), fig [] a (i + j * m) = fig [] a i := fun j => by
        induction j with
        | zero => intro i; simp
        | succ j ih => intro i; rw [Nat.succ_mul, ← Nat.add_assoc, e, ih]
      refine eq_of_getD (by rw [rep_len, tl, Nat.mul_comm, ← hk]) fun i hi => ?_
      rw [rep_getD _ _ _ (by rw [tl, Nat.mul_comm, ← hk]; exact hi), tl, take_getD (Nat.mod_lt _ h0)]
      have q := step (i / m) (i % m)
      rw [show i % m + i / m * m = i from by rw [Nat.mul_comm]; exact Nat.mod_add_div i m] at q
      rw [fig_nil, fig_nil, Nat.mod_eq_of_lt hi, Nat.mod_eq_of_lt (Nat.lt_of_lt_of_le (Nat.mod_lt _ h0) hm)] at q
      exact q
theorem perB_dvd {a : List Int} {m : Nat} (h : perB a m = true) : m ∣ a.length := by
  unfold perB at h
  rw [Bool.and_eq_true, beq_iff_eq] at h
  exact Nat.dvd_of_mod_eq_zero h.1
theorem perB_self {a : List Int} (h : a ≠ []) : perB a a.length = true := by
  have h0 : 0 < a.length := List.length_pos_iff.mpr h
  rw [perB_iff h0 (Nat.dvd_refl _)]
  intro n
  have := fig_per (h := []) (a := a) (n := n) (by simp)
  exact this
theorem per_spec {a : List Int} (h : a ≠ []) : perB a (per a) = true ∧ 1 ≤ per a ∧ per a ≤ a.length ∧ ∀ j, 1 ≤ j → j < per a → perB a j = false := by
  have h0 : 0 < a.length := List.length_pos_iff.mpr h
  obtain ⟨h1, h2, h3, h4⟩ := ff_spec (p := perB a) (a.length - 1) 1 (by rw [show 1 + (a.length - 1) = a.length from by omega]; exact perB_self h)
  exact ⟨h1, h2, by unfold per; omega, h4⟩
theorem root_len {a : List Int} (h : a ≠ []) : (root a).length = per a := by
  unfold root
  rw [List.length_take]
  have := (per_spec h).2.2.1
  omega
theorem root_ne {a : List Int} (h : a ≠ []) : root a ≠ [] := fun z => by
  have := root_len h
  rw [z] at this
  have q := (per_spec h).2.1
  simp at this; omega
theorem fig_root0 {a : List Int} (h : a ≠ []) (n : Nat) : fig [] (root a) n = fig [] a n := by
  obtain ⟨h1, h2, h3, h4⟩ := per_spec h
  have e := (perB_iff h2 (perB_dvd h1)).mp h1
  have step : ∀ (j : Nat) (i : Nat), fig [] a (i + j * per a) = fig [] a i := fun j => by
    induction j with
    | zero => intro i; simp
    | succ j ih => intro i; rw [Nat.succ_mul, ← Nat.add_assoc, e, ih]
  rw [fig_nil, root_len h]
  unfold root
  rw [take_getD (Nat.mod_lt _ h2)]
  have q := step (n / per a) (n % per a)
  rw [show n % per a + n / per a * per a = n from by rw [Nat.mul_comm]; exact Nat.mod_add_div n _] at q
  rw [q, fig_nil, Nat.mod_eq_of_lt (Nat.lt_of_lt_of_le (Nat.mod_lt _ h2) h3)]
/-- no shorter period -/
def Prim (a : List Int) : Prop := ∀ m, 0 < m → m ∣ a.length → (∀ n, fig [] a (n + m) = fig [] a n) → m = a.length
theorem root_prim {a : List Int} (h : a ≠ []) : Prim (root a) := by
  intro m h0 hd hp
  obtain ⟨h1, h2, h3, h4⟩ := per_spec h
  rw [root_len h] at hd ⊢
  have hp' : ∀ n, fig [] a (n + m) = fig [] a n := fun n => by rw [← fig_root0 h, ← fig_root0 h]; exact hp n
  have hb : perB a m = true := (perB_iff h0 (Nat.dvd_trans hd (perB_dvd h1))).mpr hp'
  have hle : m ≤ per a := Nat.le_of_dvd h2 hd
  rcases Nat.lt_or_ge m (per a) with c | c
  · rw [h4 m h0 c] at hb; cases hb
  · omega
end K14
end
section
set_option Elab.async false
set_option linter.all false
set_option maxRecDepth 100000
/-! PN1: rolling back; the least form is the only one; rows that agree for long are the same. -/
namespace K14
theorem last_gd {a : List Int} {x : Int} (h : a.getLast? = some x) : a ≠ [] ∧ a.getD (a.length - 1) 0 = x := by
  rw [List.getLast?_eq_getElem?] at h
  have hl := (List.getElem?_eq_some_iff.mp h).1
  exact ⟨fun z => by rw [z] at hl; simp at hl, by rw [gd, h]; rfl⟩
theorem turn_len {a : List Int} (x : Int) (h : a ≠ []) : (x :: a.dropLast).length = a.length := by
  have h0 : 0 < a.length := List.length_pos_iff.mpr h
  rw [List.length_cons, List.length_dropLast]; omega
theorem turn_gd {a : List Int} {x : Int} (h : a.getLast? = some x) (k : Nat) : (x :: a.dropLast).getD ((k + 1) % a.length) 0 = a.getD (k % a.length) 0 := by
  obtain ⟨hn, hx⟩ := last_gd h
  have h0 : 0 < a.length := List.length_pos_iff.mpr hn
  have lt : k % a.length < a.length := Nat.mod_lt _ h0
  by_cases c : k % a.length + 1 < a.length
  · have e : (k + 1) % a.length = k % a.length + 1 := by
      rw [Nat.add_mod]
      by_cases z : a.length = 1
      · omega
      · rw [Nat.mod_eq_of_lt (a := 1) (by omega), Nat.mod_eq_of_lt c]
    rw [e, gd, List.getElem?_cons_succ, ← gd, gd, gd, List.getElem?_dropLast, if_pos (by omega)]
  · have e1 : k % a.length = a.length - 1 := by omega
    have e : (k + 1) % a.length = 0 := by
      have q : (k + 1) % a.length = (k % a.length + 1) % a.length := by rw [Nat.mod_add_mod]
      rw [q, e1, Nat.sub_add_cancel h0, Nat.mod_self]
    rw [e, e1, hx]; rfl
theorem fig_turn {r a : List Int} {x : Int} (h : a.getLast? = some x) (n : Nat) : fig (r ++ [x]) a n = fig r (x :: a.dropLast) n := by
  obtain ⟨hn, hx⟩ := last_gd h
  have h0 : 0 < a.length := List.length_pos_iff.mpr hn
  by_cases c : n < r.length
  · rw [fig_lo (by simp; omega), fig_lo c, gd_left c]
  · obtain ⟨k, rfl⟩ := Nat.exists_eq_add_of_le (Nat.le_of_not_lt c)
    cases k with
    | zero =>
      rw [fig_lo (by simp), fig_hi, gd_right (by simp)]
      simp
    | succ k =>
      rw [fig_hi, turn_len x hn, turn_gd h]
      have e : r.length + (k + 1) = (r ++ [x]).length + k := by simp; omega
      rw [e, fig_hi]
theorem turn_last {a : List Int} {x : Int} (h : a.getLast? = some x) : a ≠ [] := (last_gd h).1
theorem turn_prim {a : List Int} {x : Int} (h : a.getLast? = some x) (p : Prim a) : Prim (x :: a.dropLast) := by
  intro m h0 hd hp
  have hl := turn_len x (turn_last h)
  rw [hl] at hd ⊢
  have sh : ∀ n, fig [] (x :: a.dropLast) (n + 1) = fig [] a n := fun n => by
    rw [← fig_turn (r := []) h]
    have := fig_shift (h := [x]) (a := a) n
    rw [← this]
    congr 1
    simp; omega
  refine p m h0 hd fun n => ?_
  rw [← sh, ← sh, show n + m + 1 = n + 1 + m from by omega, hp]
theorem roll_len : ∀ (r a : List Int), a ≠ [] → (rollR r a).2.length = a.length
  | [], a, _ => rfl
  | x :: r, a, h => by
    unfold rollR
    by_cases c : a.getLast? = some x
    · rw [if_pos c, roll_len r _ (by simp), turn_len x h]
    · rw [if_neg c]
theorem roll_fig : ∀ (r a : List Int) (n : Nat), fig (rollR r a).1 (rollR r a).2 n = fig r.reverse a n
  | [], a, n => rfl
  | x :: r, a, n => by
    unfold rollR
    by_cases c : a.getLast? = some x
    · rw [if_pos c, roll_fig r, List.reverse_cons, fig_turn c]
    · rw [if_neg c]
theorem roll_prim : ∀ (r a : List Int), Prim a → Prim (rollR r a).2
  | [], a, h => h
  | x :: r, a, h => by
    unfold rollR
    by_cases c : a.getLast? = some x
    · rw [if_pos c]; exact roll_prim r _ (turn_prim c h)
    · rw [if_neg c]; exact h
theorem roll_end : ∀ (r a : List Int) (x : Int), (rollR r a).1.getLast? = some x → (rollR r a).2.getLast? ≠ some x
  | [], a, x, h => by
    have h : ([] : List Int).getLast? = some x := h
    cases h
  | y :: r, a, x, h => by
    unfold rollR at h ⊢
    by_cases c : a.getLast? = some y
    · rw [if_pos c] at h ⊢; exact roll_end r _ x h
    · rw [if_neg c] at h ⊢
      have e : x = y := by
        simp at h
        exact h.symm
      rw [e]; exact c
theorem roll_ne {r a : List Int} (h : a ≠ []) : (rollR r a).2 ≠ [] := fun z => by
  have := roll_len r a h
  rw [z] at this
  exact h (List.eq_nil_of_length_eq_zero this.symm)
theorem roll_le : ∀ (r a : List Int), (rollR r a).1.length ≤ r.length
  | [], a => Nat.le_refl _
  | x :: r, a => by
    unfold rollR
    by_cases c : a.getLast? = some x
    · rw [if_pos c]; exact Nat.le_trans (roll_le r _) (by simp)
    · rw [if_neg c]; simp
/-- a least form -/
structure Least (e : List Int × List Int) : Prop where
  ne : e.2 ≠ []
  prim : Prim e.2
  mn : ∀ x, e.1.getLast? = some x → e.2.getLast? ≠ some x
theorem least_fig {h a : List Int} (ha : a ≠ []) (n : Nat) : fig (leastF h a).1 (leastF h a).2 n = fig h a n := by
  unfold leastF
  rw [roll_fig, List.reverse_reverse]
  by_cases c : n < h.length
  · rw [fig_lo c, fig_lo c]
  · obtain ⟨k, rfl⟩ := Nat.exists_eq_add_of_le (Nat.le_of_not_lt c)
    rw [fig_shift, fig_shift, fig_root0 ha]
theorem least_least {h a : List Int} (ha : a ≠ []) : Least (leastF h a) := ⟨roll_ne (root_ne ha), roll_prim _ _ (root_prim ha), roll_end _ _⟩
theorem least_le {h a : List Int} (ha : a ≠ []) : (leastF h a).1.length ≤ h.length ∧ (leastF h a).2.length ≤ a.length := by
  refine ⟨by have := roll_le h.reverse (root a); rw [List.length_reverse] at this; exact this, ?_⟩
  unfold leastF
  rw [roll_len _ _ (root_ne ha), root_len ha]
  exact (per_spec ha).2.2.1
theorem per_mod {t : Nat → Int} : ∀ p q : Nat, (∀ n, t (n + p) = t n) → (∀ n, t (n + q) = t n) → ∀ n, t (n + Nat.gcd p q) = t n := by
  intro p q
  induction p, q using Nat.gcd.induction with
  | H0 q => intro _ h n; rw [Nat.gcd_zero_left]; exact h n
  | H1 m q hm ih =>
    intro h1 h2 n
    rw [Nat.gcd_rec]
    refine ih (fun n => ?_) h1 n
    have st : ∀ j i, t (i + j * m) = t i := fun j => by
      induction j with
      | zero => intro i; simp
      | succ j ih => intro i; rw [Nat.succ_mul, ← Nat.add_assoc, h1, ih]
    have e := h2 n
    rw [← st (q / m) (n + q % m), show n + q % m + q / m * m = n + q from by rw [Nat.add_assoc, Nat.mul_comm, Nat.mod_add_div]]
    exact e
theorem least_uniq0 {e e' : List Int × List Int} (h : Least e) (h' : Least e') (hf : ∀ n, fig e.1 e.2 n = fig e'.1 e'.2 n) (hl : e.1.length ≤ e'.1.length) : e = e' := by
  obtain ⟨H, A⟩ := e
  obtain ⟨H', A'⟩ := e'
  have hl : H.length ≤ H'.length := hl
  have hf : ∀ n, fig H A n = fig H' A' n := hf
  have p0 : 0 < A.length := List.length_pos_iff.mpr h.ne
  have p0' : 0 < A'.length := List.length_pos_iff.mpr h'.ne
  have t1 : ∀ n, fig H A (H'.length + (n + A.length)) = fig H A (H'.length + n) := fun n => by
    rw [← Nat.add_assoc]; exact fig_per (by omega)
  have t2 : ∀ n, fig H A (H'.length + (n + A'.length)) = fig H A (H'.length + n) := fun n => by
    rw [hf, hf, ← Nat.add_assoc]; exact fig_per (by omega)
  have tg := per_mod (t := fun n => fig H A (H'.length + n)) A.length A'.length t1 t2
  have g0 : 0 < Nat.gcd A.length A'.length := Nat.gcd_pos_of_pos_left _ p0
  have e2 : Nat.gcd A.length A'.length = A'.length := h'.prim _ g0 (Nat.gcd_dvd_right _ _) fun n => by
    rw [← fig_shift (h := H') (a := A'), ← fig_shift (h := H') (a := A'), ← hf, ← hf]
    exact tg n
  have e1 : Nat.gcd A.length A'.length = A.length := h.prim _ g0 (Nat.gcd_dvd_left _ _) fun n => by
    have st : ∀ j i, fig [] A (i + j * A.length) = fig [] A i := fun j => by
      induction j with
      | zero => intro i; simp
      | succ j ih => intro i; rw [Nat.succ_mul, ← Nat.add_assoc, fig_per (by simp), ih]
    have big : H'.length ≤ H'.length * A.length := Nat.le_mul_of_pos_right _ p0
    have q := tg (H.length + n + H'.length * A.length - H'.length)
    have a1 : fig [] A n = fig H A (H'.length + (H.length + n + H'.length * A.length - H'.length)) := by
      rw [show H'.length + (H.length + n + H'.length * A.length - H'.length) = H.length + (n + H'.length * A.length) from by omega, fig_shift, st]
    have a2 : fig [] A (n + Nat.gcd A.length A'.length) = fig H A (H'.length + ((H.length + n + H'.length * A.length - H'.length) + Nat.gcd A.length A'.length)) := by
      rw [show H'.length + ((H.length + n + H'.length * A.length - H'.length) + Nat.gcd A.length A'.length) = H.length + ((n + Nat.gcd A.length A'.length) + H'.length * A.length) from by omega, fig_shift, st]
    rw [a1, a2]
    exact q
  have ep : A.length = A'.length := by rw [← e1, e2]
  have eh : H.length = H'.length := by
    rcases Nat.lt_or_ge H.length H'.length with c | c
    · have k1 : fig H' A' (H'.length - 1) = fig H' A' (H'.length + (A'.length - 1)) := by
        rw [← hf, ← hf]
        have q := fig_per (h := H) (a := A) (n := H'.length - 1) (by omega)
        rw [← q]
        congr 1
        omega
      rw [fig_hi, fig_lo (by omega), Nat.mod_eq_of_lt (by omega)] at k1
      have n1 : H' ≠ [] := fun z => by rw [z] at c; simp at c
      have x1 : H'.getLast? = some (H'.getD (H'.length - 1) 0) := by
        rw [List.getLast?_eq_getElem?, gd, List.getElem?_eq_getElem (by omega)]; rfl
      have x2 : A'.getLast? = some (A'.getD (A'.length - 1) 0) := by
        rw [List.getLast?_eq_getElem?, gd, List.getElem?_eq_getElem (by omega)]; rfl
      rw [k1] at x1
      exact absurd x2 (h'.mn _ x1)
    · omega
  have e3 : H = H' := eq_of_getD eh fun i hi => by
    have q := hf i
    rwa [fig_lo hi, fig_lo (by omega)] at q
  have e4 : A = A' := eq_of_getD ep fun i hi => by
    have q := hf (H.length + i)
    rw [fig_hi, eh, fig_hi, ← ep, Nat.mod_eq_of_lt hi] at q
    exact q
  rw [e3, e4]
/-- two least forms of the same figures are the same -/
theorem least_uniq {e e' : List Int × List Int} (h : Least e) (h' : Least e') (hf : ∀ n, fig e.1 e.2 n = fig e'.1 e'.2 n) : e = e' := by
  rcases Nat.le_total e.1.length e'.1.length with c | c
  · exact least_uniq0 h h' hf c
  · exact (least_uniq0 h' h (fun n => (hf n).symm) c).symm
theorem least_eq {h a h' a' : List Int} (ha : a ≠ []) (ha' : a' ≠ []) (hf : ∀ n, fig h a n = fig h' a' n) : leastF h a = leastF h' a' :=
  least_uniq (least_least ha) (least_least ha') fun n => by rw [least_fig ha, least_fig ha', hf]
/-- rows that agree for long are the same -/
theorem agree_all {h a h' a' : List Int} (ha : a ≠ []) (ha' : a' ≠ []) (hf : ∀ n, n < max h.length h'.length + a.length + a'.length → fig h a n = fig h' a' n) : ∀ n, fig h a n = fig h' a' n := by
  have p0 : 0 < a.length := List.length_pos_iff.mpr ha
  have p0' : 0 < a'.length := List.length_pos_iff.mpr ha'
  intro n
  induction n using Nat.strongRecOn with
  | ind n ih =>
    rcases Nat.lt_or_ge n (max h.length h'.length + a.length + a'.length) with c | c
    · exact hf n c
    · have m1 : h.length ≤ max h.length h'.length := Nat.le_max_left _ _
      have m2 : h'.length ≤ max h.length h'.length := Nat.le_max_right _ _
      have a1 : fig h a n = fig h a (n - a.length) := by
        have q := fig_per (h := h) (a := a) (n := n - a.length) (by omega)
        rw [← q]; congr 1; omega
      have a2 : fig h' a' (n - a.length) = fig h' a' (n - a.length - a'.length) := by
        have q := fig_per (h := h') (a := a') (n := n - a.length - a'.length) (by omega)
        rw [← q]; congr 1; omega
      have a3 : fig h a (n - a'.length) = fig h a (n - a.length - a'.length) := by
        have q := fig_per (h := h) (a := a) (n := n - a.length - a'.length) (by omega)
        rw [← q]; congr 1; omega
      have a4 : fig h' a' n = fig h' a' (n - a'.length) := by
        have q := fig_per (h := h') (a := a') (n := n - a'.length) (by omega)
        rw [← q]; congr 1; omega
      rw [a1, ih (n - a.length) (by omega), a2, ← ih (n - a.length - a'.length) (by omega), ← a3, ih (n - a'.length) (by omega), a4]
end K14
end
section
set_option Elab.async false
set_option linter.all false
set_option maxRecDepth 100000
set_option maxHeartbeats 4000000
/-! PN2: how the combinators are evaluated. -/
namespace DI
open PySem L2
section
variable {g g' : Ga} {s s' : Sd} {i : Nat} {d : D} {xs ys : List D} {f fa fb : Ga → Sd → Out Rs} {ta tb : Ga → Sd → Out Bool} {u v : Ga → Sd → Out DI.Flow}
@[simp] theorem bind_ok {α β : Type} (a : α) (k : α → Ga → Sd → Out β) : (Out.ok a g s).bind k = k a g s := Eq.trans rfl rfl
@[simp] theorem bind_ex {α β : Type} (c : Nat) (k : α → Ga → Sd → Out β) : (Out.ex c d g s).bind k = .ex c d g s := Eq.trans rfl rfl
@[simp] theorem settle_fz (d : D) : (Out.ok (Rs.fz d) g s).settle = .ok (.fz d) g s := Eq.trans rfl rfl
@[simp] theorem settle_nw (xs : List D) : (Out.ok (Rs.nw xs) g s).settle = .ok (.fz (.lst xs)) g s := Eq.trans rfl rfl
@[simp] theorem settle_sl (i : Nat) : (Out.ok (Rs.sl i) g s).settle = .ok (.sl i) g s := Eq.trans rfl rfl
@[simp] theorem settle_ex (c : Nat) : (Out.ex c d g s : Out Rs).settle = .ex c d g s := Eq.trans rfl rfl
@[simp] theorem keep_fz (d : D) : (Out.ok (Rs.fz d) g s).keep = .ok d g s := Eq.trans rfl rfl
@[simp] theorem keep_nw (xs : List D) : (Out.ok (Rs.nw xs) g s).keep = .ok (.lst xs) g s := Eq.trans rfl rfl
@[simp] theorem keep_sl (i : Nat) : (Out.ok (Rs.sl i) g s).keep = kept s (keepS g i g[i]?) := Eq.trans rfl rfl
@[simp] theorem keep_ex (c : Nat) : (Out.ex c d g s : Out Rs).keep = .ex c d g s := Eq.trans rfl rfl
@[simp] theorem peek_fz (d : D) : peek g (.fz d) = some d := Eq.trans rfl rfl
@[simp] theorem peek_nw (xs : List D) : peek g (.nw xs) = some (.lst xs) := Eq.trans rfl rfl
@[simp] theorem peek_sl (i : Nat) : peek g (.sl i) = peekS g[i]? := Eq.trans rfl rfl
@[simp] theorem peekS_fz (d : D) : peekS (some (.fz d)) = some d := Eq.trans rfl rfl
@[simp] theorem peekS_ow (xs : List D) : peekS (some (.ow xs)) = some (.lst xs) := Eq.trans rfl rfl
@[simp] theorem peeks_nil : peeks g [] = some [] := Eq.trans rfl rfl
theorem peeks_cons {r : Rs} {rs : List Rs} {ds : List D} (h : peek g r = some d) (h2 : peeks g rs = some ds) : peeks g (r :: rs) = some (d :: ds) := by
  show (match peek g r, peeks g rs with | some d, some ds => some (d :: ds) | _, _ => none) = _
  rw [h, h2]
@[simp] theorem keepS_ow (xs : List D) : keepS g i (some (.ow xs)) = some (.lst xs, g.set i (.fz (.lst xs))) := Eq.trans rfl rfl
@[simp] theorem keepS_fz (d : D) : keepS g i (some (.fz d)) = some (d, g) := Eq.trans rfl rfl
@[simp] theorem kept_some : kept s (some (d, g)) = .ok d g s := Eq.trans rfl rfl
@[simp] theorem e_var : sVar i g s = sVarS i g s g[i]? := Eq.trans rfl rfl
@[simp] theorem e_varfz : sVarS i g s (some (.fz d)) = .ok (.fz d) g s := Eq.trans rfl rfl
@[simp] theorem e_varow : sVarS i g s (some (.ow xs)) = .ok (.sl i) g s := Eq.trans rfl rfl
@[simp] theorem e_con : sCon d g s = .ok (.fz d) g s := Eq.trans rfl rfl
@[simp] theorem e_two (fn : D → D → Option Rs) : sTwo fn fa fb g s = (fa g s).settle.bind fun r g1 s1 => (fb g1 s1).settle.bind fun r' g2 s2 => two fn g2 s2 (peek g2 r) (peek g2 r') := Eq.trans rfl rfl
@[simp] theorem e_two2 (fn : D → D → Option Rs) (x y : D) : two fn g s (some x) (some y) = optR (fn x y) g s := Eq.trans rfl rfl
@[simp] theorem e_one (fn : D → Option Rs) : sOne fn fa g s = (fa g s).settle.bind fun r g1 s1 => one fn g1 s1 (peek g1 r) := Eq.trans rfl rfl
@[simp] theorem e_one2 {α : Type} (fn : α → Option Rs) (x : α) : one fn g s (some x) = optR (fn x) g s := Eq.trans rfl rfl
@[simp] theorem optR_some (r : Rs) : optR (some r) g s = .ok r g s := Eq.trans rfl rfl
@[simp] theorem optD_some {α : Type} (r : α) : optD (some r) g s = .ok r g s := Eq.trans rfl rfl
@[simp] theorem e_and : sAnd fa fb g s = (fa g s).bind fun r g1 s1 => match r with | .fz (.bl true) => fb g1 s1 | .fz (.bl false) => .ok (.fz (.bl false)) g1 s1 | _ => .bad := Eq.trans rfl rfl
@[simp] theorem e_or : sOr fa fb g s = (fa g s).bind fun r g1 s1 => match r with | .fz (.bl true) => .ok (.fz (.bl true)) g1 s1 | .fz (.bl false) => fb g1 s1 | _ => .bad := Eq.trans rfl rfl
@[simp] theorem e_tand : tAndF ta tb g s = (ta g s).bind fun k g1 s1 => match k with | true => tb g1 s1 | false => .ok false g1 s1 := Eq.trans rfl rfl
@[simp] theorem e_tor : tOrF ta tb g s = (ta g s).bind fun k g1 s1 => match k with | true => .ok true g1 s1 | false => tb g1 s1 := Eq.trans rfl rfl
@[simp] theorem e_tnot : tNotF ta g s = (ta g s).bind fun k g1 s1 => .ok (!k) g1 s1 := Eq.trans rfl rfl
@[simp] theorem e_tof : tOf f g s = (f g s).bind fun r g1 s1 => match r with | .fz (.bl k) => .ok k g1 s1 | _ => .bad := Eq.trans rfl rfl
@[simp] theorem e_pof : pOf f g s = (f g s).bind fun r g1 s1 => match r with | .fz (.int i) => .ok (some i) g1 s1 | _ => .bad := Eq.trans rfl rfl
@[simp] theorem e_ite : sIte ta fa fb g s = (ta g s).bind fun k g1 s1 => match k with | true => fa g1 s1 | false => fb g1 s1 := Eq.trans rfl rfl
@[simp] theorem e_call (h : List D → Ga → Sd → Out Rs) (as : Ga → Sd → Out (List D)) : sCall h as g s = (as g s).bind h := Eq.trans rfl rfl
@[simp] theorem e_bi (h : List D → Option Rs) (as : Ga → Sd → Out (List Rs)) : sBi h as g s = (as g s).bind fun rs g1 s1 => one h g1 s1 (peeks g1 rs) := Eq.trans rfl rfl
@[simp] theorem e_slc (lo hi : Ga → Sd → Out (Option Int)) : sSlc fa lo hi g s = (fa g s).settle.bind fun r g1 s1 => (lo g1 s1).bind fun l g2 s2 => (hi g2 s2).bind fun h g3 s3 => one (fun x => slcF x l h) g3 s3 (peek g3 r) := Eq.trans rfl rfl
@[simp] theorem e_lst (as : Ga → Sd → Out (List D)) : sLst as g s = (as g s).bind fun ds g1 s1 => if lineOk ds.length then .ok (.nw ds) g1 s1 else .bad := Eq.trans rfl rfl
@[simp] theorem e_tup (as : Ga → Sd → Out (List D)) : sTup as g s = (as g s).bind fun ds g1 s1 => if lineOk ds.length then .ok (.fz (.tup ds)) g1 s1 else .bad := Eq.trans rfl rfl
@[simp] theorem e_acons (as : Ga → Sd → Out (List D)) : aCons f as g s = (f g s).keep.bind fun d g1 s1 => (as g1 s1).bind fun ds g2 s2 => .ok (d :: ds) g2 s2 := Eq.trans rfl rfl
@[simp] theorem e_anil : aNil g s = .ok [] g s := Eq.trans rfl rfl
@[simp] theorem e_lcons (as : Ga → Sd → Out (List Rs)) : lCons f as g s = (f g s).settle.bind fun r g1 s1 => (as g1 s1).bind fun rs g2 s2 => .ok (r :: rs) g2 s2 := Eq.trans rfl rfl
@[simp] theorem e_lnil : lNil g s = .ok [] g s := Eq.trans rfl rfl
@[simp] theorem e_onone : oNone g s = .ok none g s := Eq.trans rfl rfl
@[simp] theorem e_ret : sRet f g s = (f g s).bind fun r g1 s1 => .ok (.ret r) g1 s1 := Eq.trans rfl rfl
@[simp] theorem e_exp : sExp f g s = (f g s).settle.bind fun _ g1 s1 => .ok .nx g1 s1 := Eq.trans rfl rfl
@[simp] theorem e_iff : sIff ta u v g s = (ta g s).bind fun k g1 s1 => match k with | true => u g1 s1 | false => v g1 s1 := Eq.trans rfl rfl
@[simp] theorem e_seq : sSeq u v g s = (u g s).bind fun f g1 s1 => match f with | .nx => v g1 s1 | f => .ok f g1 s1 := Eq.trans rfl rfl
@[simp] theorem e_asg (t : Tg) : sAsg t f g s = (f g s).bind fun r g1 s1 => asgTo t r g1 s1 := Eq.trans rfl rfl
@[simp] theorem asg_fz (d : D) : asgTo (.nm i) (.fz d) g s = if i < g.length then .ok .nx (g.set i (.fz d)) s else .bad := by
  show (match (if i < g.length then some (g.set i (.fz d)) else none) with | some g2 => (Out.ok DI.Flow.nx g2 s) | none => .bad) = _
  by_cases h : i < g.length
  · rw [if_pos h, if_pos h]
  · rw [if_neg h, if_neg h]
@[simp] theorem asg_nw (xs : List D) : asgTo (.nm i) (.nw xs) g s = if i < g.length then .ok .nx (g.set i (.ow xs)) s else .bad := Eq.trans rfl rfl
@[simp] theorem e_for (t : Tg) (it : Ga → Sd → Out (List D)) : sFor t it u g s = (it g s).bind fun xs g1 s1 => forL (forTurn t u) xs g1 s1 := Eq.trans rfl rfl
@[simp] theorem e_iseq : iSeqF f g s = (f g s).keep.bind fun d g1 s1 => optD (itemsOf d) g1 s1 := Eq.trans rfl rfl
@[simp] theorem e_irng (fn : List D → Option (List D)) (as : Ga → Sd → Out (List D)) : iRngF fn as g s = (as g s).bind fun ds g1 s1 => optD (fn ds) g1 s1 := Eq.trans rfl rfl
@[simp] theorem e_ienum : iEnumF f g s = (f g s).keep.bind fun d g1 s1 => optD (d.seq.map (enumD 0)) g1 s1 := Eq.trans rfl rfl
@[simp] theorem e_izip (as : Ga → Sd → Out (List D)) : iZipF as g s = (as g s).bind fun ds g1 s1 => optD (zipF ds) g1 s1 := Eq.trans rfl rfl
@[simp] theorem items_lst (xs : List D) : itemsOf (.lst xs) = some xs := Eq.trans rfl rfl
@[simp] theorem items_tup (xs : List D) : itemsOf (.tup xs) = some xs := Eq.trans rfl rfl
@[simp] theorem seq_lst (xs : List D) : D.seq (.lst xs) = some xs := Eq.trans rfl rfl
@[simp] theorem seq_tup (xs : List D) : D.seq (.tup xs) = some xs := Eq.trans rfl rfl
@[simp] theorem zipF_lst (xs ys : List D) : zipF [.lst xs, .lst ys] = some (zipD xs ys) := Eq.trans rfl rfl
@[simp] theorem e_lc (own : List Nat) (it : Ga → Sd → Out (List D)) (t : Tg) (c : Ga → Sd → Out Bool) : sLc own it t c f g s = (it g s).bind fun xs g1 s1 => (lcL (lcTurn own t c f) xs [] (wipeG g1 own) s1).bind fun ds g2 s2 => .ok (.nw ds) g2 s2 := Eq.trans rfl rfl
@[simp] theorem fin_ret (r : Rs) : finish (.ok (.ret r) g s) = finS g s r := Eq.trans rfl rfl
@[simp] theorem fin_fz (d : D) : finS g s (.fz d) = .ok d false s := Eq.trans rfl rfl
@[simp] theorem fin_nw (xs : List D) : finS g s (.nw xs) = .ok (.lst xs) true s := Eq.trans rfl rfl
@[simp] theorem fin_ex (c : Nat) : finish (.ex c d g s) = .ex c d s := Eq.trans rfl rfl
@[simp] theorem callG_ok {ψ : List D → Sd → FOut} {ds : List D} (h : ψ ds s = .ok d false s') : callG ψ ds g s = .ok (.fz d) g s' := by
  unfold callG; rw [h]; cases d <;> rfl
theorem callG_lst {ψ : List D → Sd → FOut} {ds : List D} (h : ψ ds s = .ok (.lst xs) true s') : callG ψ ds g s = .ok (.nw xs) g s' := by
  unfold callG; rw [h]
theorem callG_ex {ψ : List D → Sd → FOut} {ds : List D} {c : Nat} (h : ψ ds s = .ex c d s') : callG ψ ds g s = .ex c d g s' := by
  unfold callG; rw [h]
theorem fn1 {m : Nat} {b : Ga → Sd → Out DI.Flow} {x : D} : fnOf 1 m b [x] s = finish (b (startG m [x]) s) := rfl
theorem fn2 {m : Nat} {b : Ga → Sd → Out DI.Flow} {x y : D} : fnOf 2 m b [x, y] s = finish (b (startG m [x, y]) s) := rfl
theorem fn3 {m : Nat} {b : Ga → Sd → Out DI.Flow} {x y z : D} : fnOf 3 m b [x, y, z] s = finish (b (startG m [x, y, z]) s) := rfl
theorem fn4 {m : Nat} {b : Ga → Sd → Out DI.Flow} {x y z w : D} : fnOf 4 m b [x, y, z, w] s = finish (b (startG m [x, y, z, w]) s) := rfl
theorem fn_eq {n m : Nat} {b : Ga → Sd → Out DI.Flow} {ds : List D} (h : ds.length = n) : fnOf n m b ds s = finish (b (startG m ds) s) := by
  unfold fnOf; rw [if_pos h]
theorem e_mth {m : Mt} {as : Ga → Sd → Out (List D)} {xs0 ds : List D} {g1 : Ga} {s1 : Sd} (h0 : g[i]? = some (.ow xs0)) (h1 : as g s = .ok ds g1 s1) (h2 : g1[i]? = some (.ow xs)) (h3 : mtF m xs ds = some (d, ys)) : sMth m i as g s = .ok (.fz d) (g1.set i (.ow ys)) s1 := by
  unfold sMth
  rw [h0]
  show (as g s).bind _ = _
  rw [h1]
  show (match g1[i]? with | some (.ow xs) => (match mtF m xs ds with | some (d, ys) => (Out.ok (Rs.fz d) (g1.set i (.ow ys)) s1 : Out Rs) | none => .bad) | _ => .bad) = _
  rw [h2]
  show (match mtF m xs ds with | some (d, ys) => (Out.ok (Rs.fz d) (g1.set i (.ow ys)) s1 : Out Rs) | none => .bad) = _
  rw [h3]
theorem lc_map {F : D → Ga → Sd → Out (Option D)} {h : D → D} {g : Ga} {s : Sd} : ∀ (xs acc : List D), (∀ x ∈ xs, F x g s = .ok (some (h x)) g s) → acc.length + xs.length ≤ sizeLine → lcL F xs acc g s = .ok (acc ++ xs.map h) g s
  | [], acc, _, _ => by simp [lcL]
  | x :: xs, acc, hx, hl => by
    have e := hx x List.mem_cons_self
    have hl' : acc.length < sizeLine := by simp at hl; omega
    unfold lcL
    rw [e]
    show (if acc.length < sizeLine then lcL F xs (acc ++ [h x]) g s else .bad) = _
    rw [if_pos hl', lc_map xs (acc ++ [h x]) (fun y hy => hx y (List.mem_cons_of_mem _ hy)) (by simp at hl ⊢; omega)]
    simp
theorem bools_map (p : D → Bool) : ∀ xs : List D, bools (xs.map fun x => .bl (p x)) = some (xs.map p)
  | [] => rfl
  | x :: xs => by
    show (bools (xs.map fun x => .bl (p x))).map (p x :: ·) = _
    rw [bools_map p xs]; rfl
theorem all_map (p : D → Bool) (xs : List D) : biF .all [.lst (xs.map fun x => .bl (p x))] = some (.fz (.bl (xs.all p))) := by
  show (bools (xs.map fun x => .bl (p x))).map (fun bs => Rs.fz (.bl (bs.all id))) = _
  rw [bools_map]
  show some (Rs.fz (.bl ((xs.map p).all id))) = _
  rw [List.all_map]; rfl
theorem any_map (p : D → Bool) (xs : List D) : biF .any [.lst (xs.map fun x => .bl (p x))] = some (.fz (.bl (xs.any p))) := by
  show (bools (xs.map fun x => .bl (p x))).map (fun bs => Rs.fz (.bl (bs.any id))) = _
  rw [bools_map]
  show some (Rs.fz (.bl ((xs.map p).any id))) = _
  rw [List.any_map]; rfl
@[simp] theorem settle_nt (o : O) : (Out.ok (Rs.nt o) g s).settle = .ok (.fz o.d) g s := Eq.trans rfl rfl
@[simp] theorem keep_nt (o : O) : (Out.ok (Rs.nt o) g s).keep = .ok o.d g s := Eq.trans rfl rfl
@[simp] theorem e_varot (o : O) : sVarS i g s (some (.ot o)) = .ok (.fz o.d) (g.set i (.fz o.d)) s := Eq.trans rfl rfl
@[simp] theorem e_mv : sMv i g s = sMvS i g s g[i]? := Eq.trans rfl rfl
@[simp] theorem e_mvow (xs : List D) : sMvS i g s (some (.ow xs)) = .ok (.nw xs) (g.set i .un) s := Eq.trans rfl rfl
@[simp] theorem e_mvfz (d : D) : sMvS i g s (some (.fz d)) = .ok (.fz d) g s := Eq.trans rfl rfl
@[simp] theorem e_half : sHalf f g s = (f g s).bind fun r g1 s1 => halved s1 (half g1 r) := Eq.trans rfl rfl
@[simp] theorem half_nw (xs : List D) : half g (.nw xs) = some (.nw xs, g) := Eq.trans rfl rfl
@[simp] theorem half_nt (o : O) : half g (.nt o) = some (.nt o, g) := Eq.trans rfl rfl
@[simp] theorem half_fz (d : D) : half g (.fz d) = some (.fz d, g) := Eq.trans rfl rfl
@[simp] theorem halved_some (r : Rs) : halved s (some (r, g)) = .ok r g s := Eq.trans rfl rfl
@[simp] theorem e_pcons (as : Ga → Sd → Out (List Rs)) : pCons f as g s = (sHalf f g s).bind fun r g1 s1 => (as g1 s1).bind fun rs g2 s2 => .ok (r :: rs) g2 s2 := Eq.trans rfl rfl
@[simp] theorem e_par (is : List Nat) (as : Ga → Sd → Out (List Rs)) : sPar is as g s = (as g s).bind fun rs g1 s1 => match putAll is rs g1 with | some g2 => .ok .nx g2 s1 | none => .bad := Eq.trans rfl rfl
@[simp] theorem e_tupT (as : Ga → Sd → Out (List Rs)) : sTupT as g s = (as g s).bind fun rs g1 s1 => if lineOk rs.length then (match rsO rs with | some os => .ok (.nt (.tup os)) g1 s1 | none => .bad) else .bad := Eq.trans rfl rfl
@[simp] theorem fin_nt (o : O) : finS g s (.nt o) = .okT o s := Eq.trans rfl rfl
theorem callG_T {ψ : List D → Sd → FOut} {ds : List D} {o : O} (h : ψ ds s = .okT o s') : callG ψ ds g s = .ok (.nt o) g s' := by
  unfold callG; rw [h]
theorem callG_fz {ψ : List D → Sd → FOut} {ds : List D} (h : ψ ds s = .ok d false s') : callG ψ ds g s = .ok (.fz d) g s' := callG_ok h
end
end DI
end
section
set_option Elab.async false
set_option linter.all false
set_option maxRecDepth 100000
set_option maxHeartbeats 4000000
/-! PN3: rows of ints as data. -/
namespace K14
open PySem L2 DI
/-- a row of ints -/
abbrev im (xs : List Int) : List D := xs.map D.int
abbrev rD (xs : List Int) : D := .lst (im xs)
theorem line_le {n : Nat} (h : n ≤ 5000) : lineOk n = true := by
  unfold lineOk
  rw [decide_eq_true_eq]
  exact Nat.le_trans h (by decide)
theorem pdAll_ints : ∀ xs : List Int, D.pdAll (im xs) = some (xs.map PyData.int)
  | [] => by simp [D.pdAll]
  | x :: xs => by
    have := pdAll_ints xs
    simp only [im] at this ⊢
    simp [D.pdAll, D.pd, this]
theorem eqvAll_ints : ∀ xs ys : List Int, PyData.eqvAll (xs.map PyData.int) (ys.map PyData.int) = (xs == ys)
  | [], [] => by simp [PyData.eqvAll]
  | [], _ :: _ => by simp [PyData.eqvAll]
  | _ :: _, [] => by simp [PyData.eqvAll]
  | x :: xs, y :: ys => by
    rw [List.map_cons, List.map_cons]
    unfold PyData.eqvAll
    rw [eqvAll_ints xs ys]
    simp [PyData.eqv]
theorem eqv_ints (xs ys : List Int) : PyData.eqv (.list (xs.map PyData.int)) (.list (ys.map PyData.int)) = (xs == ys) := by
  unfold PyData.eqv
  exact eqvAll_ints xs ys
theorem pd_row (xs : List Int) : D.pd (rD xs) = some (.list (xs.map PyData.int)) := by
  show (match D.pdAll (im xs) with | some ds => some (PyData.list ds) | none => none) = _
  rw [pdAll_ints]
theorem eq_rows (xs ys : List Int) : eqF (rD xs) (rD ys) = some (xs == ys) := by
  unfold eqF eqP
  rw [pd_row, pd_row]
  show (if (SeqAt.shaped _ && SeqAt.shaped _) = true then some (PyData.eqv _ _) else none) = _
  rw [shaped_ints, shaped_ints, eqv_ints]; rfl
theorem c_eq (xs ys : List Int) : cmpF .eq (rD xs) (rD ys) = some (xs == ys) := eq_rows xs ys
theorem c_ne (xs ys : List Int) : cmpF .ne (rD xs) (rD ys) = some (xs != ys) := by
  show (eqF (rD xs) (rD ys)).map (!·) = _
  rw [eq_rows]; rfl
theorem c_eqi (i j : Int) : cmpF .eq (.int i) (.int j) = some (i == j) := by
  simp [cmpF, eqF, eqP, D.pd, SeqAt.shaped, PyData.canLay0, PyData.depth, PyData.eqv]
theorem c_nei (i j : Int) : cmpF .ne (.int i) (.int j) = some (i != j) := by
  simp [cmpF, eqF, eqP, D.pd, SeqAt.shaped, PyData.canLay0, PyData.depth, PyData.eqv, bne]
/-! slices -/
theorem cut_to (xs : List D) (n : Nat) : cutL xs none (some (n : Int)) = xs.take n := by
  unfold cutL
  rw [HT.sIx_none, HT.sIx_nat, List.drop_zero, Nat.sub_zero]
  by_cases h : n ≤ xs.length
  · rw [Nat.min_eq_left h]
  · rw [Nat.min_eq_right (by omega), List.take_length, List.take_of_length_le (by omega)]
theorem cut_from (xs : List D) (n : Nat) : cutL xs (some (n : Int)) none = xs.drop n := by
  unfold cutL
  rw [HT.sIx_none, HT.sIx_nat]
  by_cases h : n ≤ xs.length
  · rw [Nat.min_eq_left h, List.take_of_length_le (by rw [List.length_drop]; omega)]
  · rw [Nat.min_eq_right (by omega), List.drop_eq_nil_of_le (by omega), List.drop_eq_nil_of_le (by omega)]; simp
theorem cut_last (xs : List D) : cutL xs none (some (-1)) = xs.dropLast := by
  unfold cutL
  rw [HT.sIx_none, List.drop_zero, Nat.sub_zero, List.dropLast_eq_take]
  have e : HT.sIx xs.length xs.length (some (-1)) = xs.length - 1 := by
    unfold HT.sIx
    simp only
    rw [if_pos (by decide)]; omega
  rw [e]
theorem cut_end (xs : List D) : cutL xs (some (-1)) none = xs.drop (xs.length - 1) := by
  unfold cutL
  rw [HT.sIx_none]
  have e : HT.sIx xs.length 0 (some (-1)) = xs.length - 1 := by
    unfold HT.sIx
    simp only
    rw [if_pos (by decide)]; omega
  rw [e, List.take_of_length_le (by rw [List.length_drop]; omega)]
theorem at_last {xs : List Int} (h : xs ≠ []) : atI (im xs) (-1) = some (.int (xs.getD (xs.length - 1) 0)) := by
  have h0 : 0 < xs.length := List.length_pos_iff.mpr h
  unfold L2.atI
  have e : ixN (im xs).length (-1) = some (xs.length - 1) := by
    simp [ixN, im]
    omega
  rw [e]
  show (im xs)[xs.length - 1]? = _
  rw [List.getElem?_map, gd, List.getElem?_eq_getElem (by omega)]; rfl
theorem rep_map (n : Nat) (xs : List Int) : (List.replicate n (im xs)).flatten = im (rep n xs) := by
  induction n with
  | zero => rfl
  | succ n ih => rw [List.replicate_succ, List.flatten_cons, ih, rep_succ, im, im, im, List.map_append]
end K14
end
section
set_option Elab.async false
set_option linter.all false
set_option maxRecDepth 100000
set_option maxHeartbeats 4000000
/-! PN4: least. -/
namespace K14
open PySem L2 DI
abbrev gA (H A : List Int) (x : Sl) : Ga := [.ow (im H), .ow (im A), x]
theorem seq_list {d : D} {xs : List D} (h : d.seq = some xs) : biF .list [d] = some (.nw xs) := by
  cases d <;> first | (cases h; rfl) | cases h
theorem small_nat {n : Nat} (h : n ≤ 5000) : small (n : Int) = true := by
  unfold small
  rw [Bool.and_eq_true, decide_eq_true_eq, decide_eq_true_eq]
  constructor <;> omega
theorem forL_nx {F : D → Ga → Sd → Out DI.Flow} {x : D} {xs : List D} {g g' : Ga} {s s' : Sd} (h : F x g s = .ok .nx g' s') : forL F (x :: xs) g s = forL F xs g' s' := by
  show (match F x g s with | .ok .nx g' s' => forL F xs g' s' | .ok .cnt g' s' => forL F xs g' s' | .ok .brk g' s' => .ok .nx g' s' | .ok (.ret r) g' s' => .ok (.ret r) g' s' | .ex c d g' s' => .ex c d g' s' | .bad => .bad) = _
  rw [h]
theorem forL_brk {F : D → Ga → Sd → Out DI.Flow} {x : D} {xs : List D} {g g' : Ga} {s s' : Sd} (h : F x g s = .ok .brk g' s') : forL F (x :: xs) g s = .ok .nx g' s' := by
  show (match F x g s with | .ok .nx g' s' => forL F xs g' s' | .ok .cnt g' s' => forL F xs g' s' | .ok .brk g' s' => .ok .nx g' s' | .ok (.ret r) g' s' => .ok (.ret r) g' s' | .ex c d g' s' => .ex c d g' s' | .bad => .bad) = _
  rw [h]
theorem forL_ret {F : D → Ga → Sd → Out DI.Flow} {x : D} {xs : List D} {g g' : Ga} {s s' : Sd} {r : Rs} (h : F x g s = .ok (.ret r) g' s') : forL F (x :: xs) g s = .ok (.ret r) g' s' := by
  show (match F x g s with | .ok .nx g' s' => forL F xs g' s' | .ok .cnt g' s' => forL F xs g' s' | .ok .brk g' s' => .ok .nx g' s' | .ok (.ret r) g' s' => .ok (.ret r) g' s' | .ex c d g' s' => .ex c d g' s' | .bad => .bad) = _
  rw [h]
abbrev perT : Ga → Sd → Out Bool := tAndF (tOf (sCmp .eq (sTwo (binF .mod) (sBi (biF .len) (lCons (sVar 1) lNil)) (sVar 2)) (sCon (.int 0)))) (tOf (sCmp .eq (sVar 1) (sTwo (binF .mul) (sSlc (sVar 1) oNone (pOf (sVar 2))) (sTwo (binF .fdiv) (sBi (biF .len) (lCons (sVar 1) lNil)) (sVar 2)))))
abbrev perS : Ga → Sd → Out DI.Flow := sIff perT (sSeq (sAsg (.nm 1) (sSlc (sVar 1) oNone (pOf (sVar 2)))) (fun g s => .ok .brk g s)) (fun g s => .ok .nx g s)
theorem rep_ok {A : List Int} {m : Nat} (hd : A.length % m = 0) (h0 : 0 < m) : (A.take m).length * (A.length / m) = A.length ∨ A.length = 0 := by
  by_cases z : A.length = 0
  · exact .inr z
  · refine .inl ?_
    obtain ⟨k, hk⟩ := Nat.dvd_of_mod_eq_zero hd
    have : m ≤ A.length := by rw [hk]; exact Nat.le_mul_of_pos_right m (Nat.pos_of_ne_zero fun q => z (by rw [hk, q, Nat.mul_zero]))
    rw [List.length_take, Nat.min_eq_left this, Nat.mul_comm]
    exact Nat.div_mul_cancel ⟨k, hk⟩
theorem e_mod {n m : Nat} (h0 : 0 < m) : binF .mod (.int (n : Int)) (.int (m : Int)) = some (.fz (.int ((n % m : Nat) : Int))) := by
  show (if decide ((0 : Int) < (m : Int)) then some (Rs.fz (.int ((n : Int) % (m : Int)))) else none) = _
  rw [if_pos (decide_eq_true (by omega))]
  rfl
theorem e_fdiv {n m : Nat} (h0 : 0 < m) (h1 : m ≤ 5000) : binF .fdiv (.int (n : Int)) (.int (m : Int)) = some (.fz (.int ((n / m : Nat) : Int))) := by
  show (if decide ((0 : Int) < (m : Int)) && decide ((m : Int) < 1073741824) then some (Rs.fz (.int ((n : Int) / (m : Int)))) else none) = _
  rw [if_pos (by rw [Bool.and_eq_true, decide_eq_true_eq, decide_eq_true_eq]; omega)]
  rfl
theorem e_to (A : List Int) (m : Nat) : slcF (rD A) none (some (m : Int)) = some (.nw (im (A.take m))) := by
  show some (Rs.nw (cutL (im A) none (some (m : Int)))) = _
  rw [cut_to, im, im, List.map_take]
theorem e_len (A : List Int) : biF .len [rD A] = some (.fz (.int (A.length : Int))) := by
  show some (Rs.fz (.int ((im A).length : Int))) = _
  rw [im, List.length_map]
theorem e_mul {A : List Int} {n : Nat} (h : n ≤ 5000) (hl : A.length * n ≤ 5000) : binF .mul (rD A) (.int (n : Int)) = some (.nw (im (rep n A))) := by
  show (if small (n : Int) && lineOk ((im A).length * (n : Int).toNat) then some (Rs.nw (List.replicate (n : Int).toNat (im A)).flatten) else none) = _
  rw [small_nat h, Int.toNat_natCast, line_le (by rw [im, List.length_map]; exact hl), rep_map]
  rfl
theorem per_q1 {H A : List Int} {m : Nat} {s : Sd} (h0 : 0 < m) : tOf (sCmp .eq (sTwo (binF .mod) (sBi (biF .len) (lCons (sVar 1) lNil)) (sVar 2)) (sCon (.int 0))) (gA H A (.fz (.int (m : Int)))) s = .ok (A.length % m == 0) (gA H A (.fz (.int (m : Int)))) s := by
    simp only [sCmp, e_tof, e_two, e_bi, e_lcons, e_var, e_lnil, List.getElem?_cons_succ, List.getElem?_cons_zero, e_varow, e_varfz, settle_sl, settle_fz, bind_ok, peeks, peek_sl, peekS_ow, e_one2, e_len, optR_some, peek_fz, e_two2, e_mod h0, e_con, c_eqi, Option.map_some]
    congr 1
    by_cases z : A.length % m = 0
    · rw [z]; rfl
    · rw [beq_eq_false_iff_ne.mpr z, beq_eq_false_iff_ne.mpr (by omega)]
theorem per_q2 {H A : List Int} {m : Nat} {s : Sd} (h0 : 0 < m) (hm : m ≤ A.length) (hl : A.length ≤ 2000) (hd : A.length % m = 0) : tOf (sCmp .eq (sVar 1) (sTwo (binF .mul) (sSlc (sVar 1) oNone (pOf (sVar 2))) (sTwo (binF .fdiv) (sBi (biF .len) (lCons (sVar 1) lNil)) (sVar 2)))) (gA H A (.fz (.int (m : Int)))) s = .ok (A == rep (A.length / m) (A.take m)) (gA H A (.fz (.int (m : Int)))) s := by
  have dl : A.length / m ≤ 2000 := Nat.le_trans (Nat.div_le_self _ _) hl
  have e4 := e_mul (A := A.take m) (n := A.length / m) (by omega) (by
    rcases rep_ok hd h0 with q | q
    · rw [q]; omega
    · rw [q]; simp)
  simp only [sCmp, e_tof, e_two, e_bi, e_lcons, e_var, e_lnil, e_slc, e_onone, e_pof, List.getElem?_cons_succ, List.getElem?_cons_zero, e_varow, e_varfz, settle_sl, settle_fz, settle_nw, bind_ok, peeks, peek_sl, peekS_ow, e_one2, e_len, optR_some, peek_fz, peek_nw, e_two2, e_fdiv h0 (by omega : m ≤ 5000), e_to, e4, e_con, c_eq, Option.map_some]
theorem per_t {H A : List Int} {m : Nat} {s : Sd} (h0 : 0 < m) (hm : m ≤ A.length) (hl : A.length ≤ 2000) : perT (gA H A (.fz (.int (m : Int)))) s = .ok (perB A m) (gA H A (.fz (.int (m : Int)))) s := by
  unfold perT
  rw [e_tand, per_q1 h0]
  simp only [bind_ok]
  unfold perB
  by_cases z : A.length % m = 0
  · rw [z]
    exact per_q2 h0 hm hl z
  · rw [beq_eq_false_iff_ne.mpr z]; rfl
end K14
end
section
set_option Elab.async false
set_option linter.all false
set_option maxRecDepth 100000
set_option maxHeartbeats 4000000
/-! PN5: least, whole. -/
namespace K14
open PySem L2 DI
theorem im_app (xs ys : List Int) : im xs ++ im ys = im (xs ++ ys) := by rw [im, im, im, List.map_append]
theorem per_turn {H A : List Int} {m : Nat} {x : Sl} {s : Sd} (h0 : 0 < m) (hm : m ≤ A.length) (hl : A.length ≤ 2000) : forTurn (.nm 2) perS (.int (m : Int)) (gA H A x) s =
    if perB A m then .ok .brk (gA H (A.take m) (.fz (.int (m : Int)))) s else .ok .nx (gA H A (.fz (.int (m : Int)))) s := by
  have e : forTurn (.nm 2) perS (.int (m : Int)) (gA H A x) s = perS (gA H A (.fz (.int (m : Int)))) s := rfl
  rw [e]
  unfold perS
  rw [e_iff, per_t h0 hm hl]
  simp only [bind_ok]
  cases perB A m with
  | false => rfl
  | true =>
    have e2 : sSlc (sVar 1) oNone (pOf (sVar 2)) (gA H A (.fz (.int (m : Int)))) s = .ok (.nw (im (A.take m))) (gA H A (.fz (.int (m : Int)))) s := by
      simp only [e_var, e_slc, e_onone, e_pof, List.getElem?_cons_succ, List.getElem?_cons_zero, e_varow, e_varfz, settle_sl, bind_ok, peek_sl, peekS_ow, e_one2, e_to, optR_some]
    rw [if_pos rfl]
    show sSeq _ _ _ _ = _
    rw [e_seq, e_asg, e2]
    rfl
theorem per_loop {H A : List Int} {s : Sd} (hl : A.length ≤ 2000) : ∀ (k m : Nat) (x : Sl), 0 < m → m + k = A.length → perB A (m + k) = true → forL (forTurn (.nm 2) perS) ((List.range' m (k + 1)).map fun (j : Nat) => D.int (j : Int)) (gA H A x) s = .ok .nx (gA H (A.take (ff (perB A) k m)) (.fz (.int ((ff (perB A) k m : Nat) : Int)))) s
  | 0, m, x, h0, hk, hp => by
    have hm : m = A.length := by omega
    rw [show List.range' m (0 + 1) = [m] from rfl, List.map_cons, forL_brk (by rw [per_turn h0 (by omega) hl, if_pos (by exact hp)])]
    rfl
  | k + 1, m, x, h0, hk, hp => by
    rw [show List.range' m (k + 1 + 1) = m :: List.range' (m + 1) (k + 1) from by rw [List.range'_succ], List.map_cons]
    have t := per_turn (H := H) (x := x) (s := s) h0 (by omega : m ≤ A.length) hl
    by_cases c : perB A m = true
    · rw [if_pos c] at t
      rw [forL_brk t]
      unfold ff
      rw [if_pos c]
    · rw [if_neg c] at t
      rw [forL_nx t, per_loop hl k (m + 1) _ (by omega) (by omega) (by rw [show m + 1 + k = m + (k + 1) from by omega]; exact hp)]
      conv => rhs; unfold ff
      rw [if_neg c]
abbrev rolT : Ga → Sd → Out Bool := tAndF (tOf (sCmp .ne (sVar 0) (sLst aNil))) (tOf (sCmp .eq (sTwo (fun x y => (subF x y).map .fz) (sVar 0) (sOne negF (sCon (.int 1)))) (sTwo (fun x y => (subF x y).map .fz) (sVar 1) (sOne negF (sCon (.int 1))))))
abbrev rolS : Ga → Sd → Out DI.Flow := sSeq (sExp (sMth0 .pop 0)) (sAsg (.nm 1) (sTwo (binF .add) (sLst (aCons (sTwo (fun x y => (subF x y).map .fz) (sVar 1) (sOne negF (sCon (.int 1)))) aNil)) (sSlc (sVar 1) oNone (pOf (sOne negF (sCon (.int 1)))))))
theorem e_neg : negF (.int 1) = some (.fz (.int (-1))) := rfl
theorem e_last {xs : List Int} (h : xs ≠ []) : subF (rD xs) (.int (-1)) = some (.int (xs.getD (xs.length - 1) 0)) := at_last h
theorem neg_e {g : Ga} {s : Sd} : sOne negF (sCon (.int 1)) g s = .ok (.fz (.int (-1))) g s := rfl
theorem gd_snoc (xs : List Int) (x : Int) : (xs ++ [x]).getD ((xs ++ [x]).length - 1) 0 = x := by
  rw [gd_right (by simp)]; simp
theorem last_iff {A : List Int} (h : A ≠ []) (x : Int) : A.getLast? = some x ↔ A.getD (A.length - 1) 0 = x := by
  have h0 : 0 < A.length := List.length_pos_iff.mpr h
  rw [List.getLast?_eq_getElem?, List.getElem?_eq_getElem (by omega), gd_at (by omega)]
  constructor
  · intro e; exact Option.some.inj e
  · intro e; rw [e]
theorem rol_t {r A : List Int} {x : Sl} {s : Sd} (hA : A ≠ []) : rolT (gA r.reverse A x) s = .ok (match r with | [] => false | y :: _ => decide (A.getLast? = some y)) (gA r.reverse A x) s := by
  have e0 : sLst aNil (gA r.reverse A x) s = .ok (.nw []) (gA r.reverse A x) s := rfl
  have t1 : tOf (sCmp .ne (sVar 0) (sLst aNil)) (gA r.reverse A x) s = .ok (r.reverse != []) (gA r.reverse A x) s := by
    have q : cmpF .ne (D.lst (im r.reverse)) (D.lst []) = some (r.reverse != []) := c_ne r.reverse []
    simp only [sCmp, e_tof, e_two, e_var, List.getElem?_cons_zero, e_varow, settle_sl, bind_ok, e0, settle_nw, peek_sl, peekS_ow, peek_fz, e_two2, q, Option.map_some, optR_some]
  unfold rolT
  rw [e_tand, t1]
  simp only [bind_ok]
  cases r with
  | nil => rfl
  | cons y r =>
    have n1 : (y :: r).reverse ≠ [] := by simp
    rw [show ((y :: r).reverse != []) = true from by simp [bne]]
    show tOf _ _ _ = _
    have l1 := e_last n1
    have l2 := e_last hA
    simp only [sCmp, e_tof, e_two, e_var, List.getElem?_cons_zero, List.getElem?_cons_succ, e_varow, settle_sl, settle_fz, bind_ok, neg_e, peek_sl, peekS_ow, peek_fz, e_two2, l1, l2, Option.map_some, optR_some, c_eqi]
    congr 1
    rw [List.reverse_cons, gd_snoc]
    by_cases c : A.getLast? = some y
    · rw [decide_eq_true c, (last_iff hA y).mp c]
      exact beq_self_eq_true y
    · rw [decide_eq_false c]
      exact beq_eq_false_iff_ne.mpr fun z => c ((last_iff hA y).mpr z.symm)
theorem rol_s {r A : List Int} {x : Sl} {y : Int} {s : Sd} (hl : A.length ≤ 2000) (c : A.getLast? = some y) : rolS (gA (r.reverse ++ [y]) A x) s = .ok .nx (gA r.reverse (y :: A.dropLast) x) s := by
  have hA := (last_gd c).1
  have e1 : sExp (sMth0 .pop 0) (gA (r.reverse ++ [y]) A x) s = .ok .nx (gA r.reverse A x) s := by
    have p : mtF .pop (im (r.reverse ++ [y])) [] = some (.int y, im r.reverse) := by
      show ((im (r.reverse ++ [y]))[(im (r.reverse ++ [y])).length - 1]?).map (fun z => (z, (im (r.reverse ++ [y])).dropLast)) = _
      rw [show im (r.reverse ++ [y]) = im r.reverse ++ [.int y] from by rw [im, im, List.map_append]; rfl]
      simp
    unfold sMth0
    rw [e_exp, e_mth (as := aNil) (xs0 := im (r.reverse ++ [y])) (xs := im (r.reverse ++ [y])) (d := .int y) (ys := im r.reverse) (ds := []) (g1 := gA (r.reverse ++ [y]) A x) (s1 := s) rfl rfl rfl p]
    rfl
  unfold rolS
  rw [e_seq, e1]
  simp only [bind_ok]
  have l2 := e_last hA
  have e2 : sLst (aCons (sTwo (fun x y => (subF x y).map .fz) (sVar 1) (sOne negF (sCon (.int 1)))) aNil) (gA r.reverse A x) s = .ok (.nw [.int y]) (gA r.reverse A x) s := by
    simp only [e_lst, e_acons, e_anil, e_two, e_var, List.getElem?_cons_zero, List.getElem?_cons_succ, e_varow, settle_sl, settle_fz, bind_ok, neg_e, peek_sl, peekS_ow, peek_fz, e_two2, l2, Option.map_some, optR_some, keep_fz]
    rw [(last_iff hA y).mp c]
    rfl
  have e3 : sSlc (sVar 1) oNone (pOf (sOne negF (sCon (.int 1)))) (gA r.reverse A x) s = .ok (.nw (im A.dropLast)) (gA r.reverse A x) s := by
    have q : slcF (rD A) none (some (-1)) = some (.nw (im A.dropLast)) := by
      show some (Rs.nw (cutL (im A) none (some (-1)))) = _
      rw [cut_last, im, im, List.map_dropLast]
    simp only [e_var, e_slc, e_onone, e_pof, neg_e, List.getElem?_cons_succ, List.getElem?_cons_zero, e_varow, settle_sl, bind_ok, peek_sl, peekS_ow, e_one2, q, optR_some]
  have e4 : binF .add (.lst [.int y]) (rD A.dropLast) = some (.nw (im (y :: A.dropLast))) := by
    show (if lineOk ([D.int y].length + (im A.dropLast).length) then some (Rs.nw ([D.int y] ++ im A.dropLast)) else none) = _
    rw [line_le (by rw [im, List.length_map, List.length_dropLast]; simp; omega)]
    rfl
  rw [e_asg, e_two, e2]
  simp only [settle_nw, bind_ok]
  rw [e3]
  simp only [settle_nw, bind_ok, peek_fz, e_two2, e4, optR_some]
  rfl
theorem whl_t {c : Ga → Sd → Out Bool} {b : Ga → Sd → Out DI.Flow} {n : Nat} {g g' : Ga} {s s' : Sd} (h1 : c g s = .ok true g s) (h2 : b g s = .ok .nx g' s') : whlL c b (n + 1) g s = whlL c b n g' s' := by
  rw [whlL, h1]
  show (match b g s with | .ok .nx g' s' => whlL c b n g' s' | .ok .cnt g' s' => whlL c b n g' s' | .ok .brk g' s' => .ok .nx g' s' | .ok (.ret r) g' s' => .ok (.ret r) g' s' | .ex c d g' s' => .ex c d g' s' | .bad => .bad) = _
  rw [h2]
theorem whl_f {c : Ga → Sd → Out Bool} {b : Ga → Sd → Out DI.Flow} {n : Nat} {g : Ga} {s : Sd} (h1 : c g s = .ok false g s) : whlL c b (n + 1) g s = .ok .nx g s := by
  rw [whlL, h1]
theorem rol_loop {x : Sl} {s : Sd} : ∀ (r A : List Int) (n : Nat), A ≠ [] → A.length ≤ 2000 → r.length < n → whlL rolT rolS n (gA r.reverse A x) s = .ok .nx (gA (rollR r A).1 (rollR r A).2 x) s
  | _, _, 0, _, _, h => absurd h (Nat.not_lt_zero _)
  | [], A, n + 1, hA, hl, h => by
    rw [whl_f (by rw [rol_t hA])]
    rfl
  | y :: r, A, n + 1, hA, hl, h => by
    have t := rol_t (r := y :: r) (x := x) (s := s) hA
    unfold rollR
    by_cases c : A.getLast? = some y
    · rw [if_pos c]
      have t : rolT (gA (y :: r).reverse A x) s = .ok true (gA (y :: r).reverse A x) s := by rw [t]; simp only [decide_eq_true c]
      rw [List.reverse_cons] at t ⊢
      rw [whl_t t (rol_s hl c)]
      exact rol_loop r _ n (by simp) (by rw [turn_len y hA]; exact hl) (by simp at h; omega)
    · rw [if_neg c]
      have t : rolT (gA (y :: r).reverse A x) s = .ok false (gA (y :: r).reverse A x) s := by rw [t]; simp only [decide_eq_false c]
      rw [whl_f t]
def oR (xs : List Int) : O := .lst ((im xs).map .fz)
theorem s_least {d1 d2 : D} {h a : List Int} {s : Sd} (e1 : d1.seq = some (im h)) (e2 : d2.seq = some (im a)) (ha : a ≠ []) (hl : a.length ≤ 900) (hh : h.length ≤ 900) : ψ_least [d1, d2] s = .okT (.tup [oR (leastF h a).1, oR (leastF h a).2]) s := by
  unfold ψ_least
  rw [fn2]
  have h0 : 0 < a.length := List.length_pos_iff.mpr ha
  have p1 : sPar [0, 1] (pCons (sBi (biF .list) (lCons (sVar 0) lNil)) (pCons (sBi (biF .list) (lCons (sVar 1) lNil)) lNil)) (startG 3 [d1, d2]) s = .ok .nx (gA h a .un) s := by
    have l1 := seq_list e1
    have l2 := seq_list e2
    have es : startG 3 [d1, d2] = [.fz d1, .fz d2, .un] := rfl
    rw [es]
    simp only [e_par, e_pcons, e_half, e_bi, e_lcons, e_lnil, e_var, List.getElem?_cons_zero, List.getElem?_cons_succ, e_varfz, settle_fz, bind_ok, peeks, peek_fz, e_one2, l1, l2, optR_some, half_nw, halved_some]
    rfl
  have it : iRngF rngF2 (aCons (sCon (.int 1)) (aCons (sTwo (binF .add) (sBi (biF .len) (lCons (sVar 1) lNil)) (sCon (.int 1))) aNil)) (gA h a .un) s = .ok ((List.range' 1 (a.length - 1 + 1)).map fun (j : Nat) => D.int (j : Int)) (gA h a .un) s := by
    have q1 : binF .add (.int (a.length : Int)) (.int 1) = some (.fz (.int ((a.length + 1 : Nat) : Int))) := rfl
    have q2 : rngF2 [.int 1, .int ((a.length + 1 : Nat) : Int)] = some ((List.range' 1 (a.length - 1 + 1)).map fun (j : Nat) => D.int (j : Int)) := by
      show (if small 1 && small ((a.length + 1 : Nat) : Int) then some ((List.range (((a.length + 1 : Nat) : Int) - 1).toNat).map fun (k : Nat) => D.int (1 + (k : Int))) else none) = _
      rw [small_nat (by omega), show small 1 = true from by decide]
      show some _ = some _
      congr 1
      rw [show (((a.length + 1 : Nat) : Int) - 1).toNat = a.length from by omega, show a.length - 1 + 1 = a.length from by omega, List.range'_eq_map_range, List.map_map]
      refine List.map_congr_left fun k _ => ?_
      show D.int (1 + (k : Int)) = D.int ((1 + k : Nat) : Int)
      congr 1
    simp only [e_irng, e_acons, e_anil, e_con, e_two, e_bi, e_lcons, e_lnil, e_var, List.getElem?_cons_succ, List.getElem?_cons_zero, e_varow, settle_sl, settle_fz, bind_ok, peeks, peek_sl, peekS_ow, e_one2, e_len, optR_some, peek_fz, e_two2, q1, keep_fz, q2, optD_some]
  have fo : sFor (.nm 2) (iRngF rngF2 (aCons (sCon (.int 1)) (aCons (sTwo (binF .add) (sBi (biF .len) (lCons (sVar 1) lNil)) (sCon (.int 1))) aNil))) perS (gA h a .un) s = .ok .nx (gA h (root a) (.fz (.int ((per a : Nat) : Int)))) s := by
    rw [e_for, it]
    simp only [bind_ok]
    exact per_loop (by omega) _ 1 _ (by omega) (by omega) (by rw [show 1 + (a.length - 1) = a.length from by omega]; exact perB_self ha)
  have wh : whlL rolT rolS 1000 (gA h (root a) (.fz (.int ((per a : Nat) : Int)))) s = .ok .nx (gA (leastF h a).1 (leastF h a).2 (.fz (.int ((per a : Nat) : Int)))) s := by
    have q := rol_loop (x := .fz (.int ((per a : Nat) : Int))) (s := s) h.reverse (root a) 1000 (root_ne ha) (by rw [root_len ha]; have := (per_spec ha).2.2.1; omega) (by rw [List.length_reverse]; omega)
    rw [List.reverse_reverse] at q
    exact q
  show finish (sSeq _ (sSeq _ (sSeq _ _)) _ _) = _
  rw [e_seq, p1]
  simp only [bind_ok]
  rw [e_seq, fo]
  simp only [bind_ok]
  rw [e_seq, wh]
  rfl
end K14
end
section
set_option Elab.async false
set_option linter.all false
set_option maxRecDepth 100000
set_option maxHeartbeats 4000000
/-! PN6: rows of bits, forms of endless rows, the checks. -/
namespace K14
open PySem L2 DI
def Bits (xs : List Int) : Prop := ∀ i ∈ xs, i = 0 ∨ i = 1
abbrev eD (h a : List Int) : D := .tup [rD h, rD a]
abbrev eO (h a : List Int) : O := .tup [oR h, oR a]
theorem eO_d (h a : List Int) : (eO h a).d = eD h a := by
  show D.tup [D.lst (O.ds ((im h).map O.fz)), D.lst (O.ds ((im a).map O.fz))] = _
  rw [ds_map, ds_map]
/-- data that is a row of bits -/
def Row (d : D) (xs : List Int) : Prop := d.seq = some (im xs) ∧ Bits xs ∧ xs.length ≤ 900
/-- data that tells h and then a over and over -/
def Tell (d : D) (h a : List Int) : Prop := ∃ x y, d.seq = some [x, y] ∧ Row x h ∧ Row y a ∧ a ≠ []
theorem seq_cases {d : D} {xs : List D} (h : d.seq = some xs) : d = .lst xs ∨ d = .tup xs := by
  cases d with
  | lst ys => cases h; exact .inl rfl
  | tup ys => cases h; exact .inr rfl
  | _ => cases h
theorem seq_isi {d : D} {xs : List D} (h : d.seq = some xs) : isiF [.list, .tuple] d = some (.fz (.bl true)) := by
  rcases seq_cases h with rfl | rfl <;> rfl
theorem seq_items {d : D} {xs : List D} (h : d.seq = some xs) : itemsOf d = some xs := by
  rcases seq_cases h with rfl | rfl <;> rfl
theorem seq_len {d : D} {xs : List D} (h : d.seq = some xs) : biF .len [d] = some (.fz (.int (xs.length : Int))) := by
  rcases seq_cases h with rfl | rfl <;> rfl
theorem seq_sub {d : D} {xs : List D} (h : d.seq = some xs) (i : Int) : subF d (.int i) = atI xs i := by
  rcases seq_cases h with rfl | rfl <;> rfl
theorem is_int {i : Int} {s : Sd} : ψ_is_integer [.int i] s = .ok (.bl true) false s := rfl
abbrev bitE : Ga → Sd → Out Rs := sAnd (sCall (callG ψ_is_integer) (aCons (sVar 1) aNil)) (sCmp .isIn (sVar 1) (sTup (aCons (sCon (.int 0)) (aCons (sCon (.int 1)) aNil))))
theorem turn_bit {i : Int} {d0 : D} {s : Sd} (h : i = 0 ∨ i = 1) : lcTurn [1] (.nm 1) (fun g s => .ok true g s) bitE (.int i) [.fz d0, .un] s = .ok (some (.bl true)) [.fz d0, .un] s := by
  rcases h with rfl | rfl <;> kernel_rfl
theorem lc_same {F : D → Ga → Sd → Out (Option D)} {d : D} {g : Ga} {s : Sd} : ∀ (xs acc : List D), (∀ x ∈ xs, F x g s = .ok (some d) g s) → acc.length + xs.length ≤ sizeLine → lcL F xs acc g s = .ok (acc ++ xs.map fun _ => d) g s := fun xs acc h hl => lc_map (h := fun _ => d) xs acc h hl
theorem s_is_row {d : D} {xs : List Int} {s : Sd} (h : Row d xs) : ψ_is_row [d] s = .ok (.bl true) false s := by
  obtain ⟨e, hb, hl⟩ := h
  unfold ψ_is_row
  rw [fn1]
  have lc := lc_map (F := lcTurn [1] (.nm 1) (fun g s => .ok true g s) bitE) (h := fun _ => .bl true) (g := [.fz d, .un]) (s := s) (im xs) [] (fun x hx => by
    obtain ⟨i, hi, rfl⟩ := List.mem_map.mp hx
    exact turn_bit (hb i hi)) (by rw [im, List.length_map]; exact Nat.le_trans (by simp; omega) (by decide : 1000 ≤ sizeLine))
  have q : biF .all [.lst ((im xs).map fun _ => D.bl true)] = some (.fz (.bl true)) := by
    rw [all_map (fun _ => true)]
    simp
  have e1 := seq_isi e
  have e2 := seq_items e
  have l1 : sLc [1] (iSeqF (sVar 0)) (.nm 1) (fun g s => .ok true g s) bitE [.fz d, .un] s = .ok (.nw ((im xs).map fun _ => D.bl true)) [.fz d, .un] s := by
    rw [e_lc]
    simp only [e_iseq, e_var, List.getElem?_cons_zero, e_varfz, keep_fz, bind_ok, e2, optD_some]
    rw [show wipeG [.fz d, .un] [1] = [.fz d, .un] from rfl, lc]
    rfl
  have l2 : sOne (isiF [.list, .tuple]) (sVar 0) [.fz d, .un] s = .ok (.fz (.bl true)) [.fz d, .un] s := by
    simp only [e_one, e_var, List.getElem?_cons_zero, e_varfz, settle_fz, bind_ok, peek_fz, e_one2, e1, optR_some]
  show finish (sRet (sAnd _ (sBi (biF .all) (lCons (sLc [1] (iSeqF (sVar 0)) (.nm 1) (fun g s => .ok true g s) bitE) lNil))) [.fz d, .un] s) = _
  rw [e_ret, e_and, l2]
  simp only [bind_ok]
  rw [e_bi, e_lcons, l1]
  simp only [bind_ok, settle_nw, e_lnil, peeks, peek_fz, e_one2, q, optR_some, fin_ret, fin_fz]
theorem atI0 (x y : D) : atI [x, y] 0 = some x := rfl
theorem atI1 (x y : D) : atI [x, y] 1 = some y := rfl
theorem s_is_endless {d : D} {h a : List Int} {s : Sd} (t : Tell d h a) : ψ_is_endless [d] s = .ok (.bl true) false s := by
  obtain ⟨x, y, e, hx, hy, ha⟩ := t
  unfold ψ_is_endless
  rw [fn1]
  have e1 := seq_isi e
  have e2 := seq_len e
  have e3 := seq_sub e 0
  have e4 := seq_sub e 1
  rw [atI0] at e3
  rw [atI1] at e4
  have e5 := seq_len hy.1
  have g1 : tOrF (tNotF (tOf (sOne (isiF [.list, .tuple]) (sVar 0)))) (tOf (sCmp .ne (sBi (biF .len) (lCons (sVar 0) lNil)) (sCon (.int 2)))) [.fz d] s = .ok false [.fz d] s := by
    have q : cmpF .ne (.int (([x, y] : List D).length : Int)) (.int 2) = some false := by rw [c_nei]; rfl
    simp only [sCmp, e_tor, e_tnot, e_tof, e_one, e_two, e_bi, e_lcons, e_lnil, e_var, List.getElem?_cons_zero, e_varfz, settle_fz, bind_ok, peeks, peek_fz, e_one2, e1, e2, optR_some, e_con, e_two2, q, Option.map_some, Bool.not_true]
  have c1 := callG_ok (g := [.fz d]) (s_is_row (s := s) hx)
  have c2 := callG_ok (g := [.fz d]) (s_is_row (s := s) hy)
  have q6 : cmpF .gt (.int ((im a).length : Int)) (.int 0) = some true := by
    have h0 : 0 < a.length := List.length_pos_iff.mpr ha
    show some (decide ((0 : Int) < ((im a).length : Int))) = _
    rw [decide_eq_true (by rw [im, List.length_map]; omega)]
  show finish (sSeq _ _ [.fz d] s) = _
  rw [e_seq, e_iff, g1]
  simp only [bind_ok, sCmp, e_ret, e_and, e_call, e_acons, e_anil, e_two, e_bi, e_lcons, e_lnil, e_con, e_var, List.getElem?_cons_zero, e_varfz, settle_fz, keep_fz, peeks, peek_fz, e_one2, e_two2, e3, e4, e5, optR_some, Option.map_some, c1, c2, q6, fin_ret, fin_fz]
theorem s_form {d : D} {h a : List Int} {s : Sd} (t : Tell d h a) : ψ_checked_endless_form [d] s = .ok (eD h a) false s := by
  have ok := s_is_endless (s := s) t
  obtain ⟨x, y, e, hx, hy, ha⟩ := t
  have e3 := seq_sub e 0
  have e4 := seq_sub e 1
  rw [atI0] at e3
  rw [atI1] at e4
  have l1 := seq_list hx.1
  have l2 := seq_list hy.1
  unfold ψ_checked_endless_form
  rw [fn1]
  have c1 := callG_ok (g := [.fz d]) ok
  show finish (sSeq _ _ [.fz d] s) = _
  simp only [e_seq, e_iff, e_tnot, e_tof, e_call, e_acons, e_anil, e_var, List.getElem?_cons_zero, e_varfz, keep_fz, bind_ok, c1, Bool.not_true, e_ret, e_tup, e_bi, e_lcons, e_lnil, e_two, settle_fz, e_con, peek_fz, e_two2, e3, e4, Option.map_some, optR_some, peeks, e_one2, l1, l2, keep_nw]
  rfl
theorem s_checked {d : D} {h a : List Int} {s : Sd} (t : Tell d h a) : ψ_checked_endless [d] s = .okT (eO (leastF h a).1 (leastF h a).2) s := by
  have f := s_form (s := s) t
  obtain ⟨x, y, e, hx, hy, ha⟩ := t
  unfold ψ_checked_endless
  rw [fn1]
  have c1 := callG_ok (g := [.fz d, .un, .un]) f
  have c2 := callG_T (g := [.fz d, .fz (rD h), .fz (rD a)]) (s_least (s := s) (d1 := rD h) (d2 := rD a) rfl rfl ha hy.2.2 hx.2.2)
  have p1 : sAsg (.cons (.nm 1) (.cons (.nm 2) .nil)) (sCall (callG ψ_checked_endless_form) (aCons (sVar 0) aNil)) [.fz d, .un, .un] s = .ok .nx [.fz d, .fz (rD h), .fz (rD a)] s := by
    simp only [e_asg, e_call, e_acons, e_anil, e_var, List.getElem?_cons_zero, e_varfz, keep_fz, bind_ok, c1]
    rfl
  show finish (sSeq _ _ [.fz d, .un, .un] s) = _
  rw [e_seq, p1]
  simp only [bind_ok, e_ret, e_call, e_acons, e_anil, e_var, List.getElem?_cons_zero, List.getElem?_cons_succ, e_varfz, keep_fz, c2, fin_ret, fin_nt]
end K14
end
section
set_option Elab.async false
set_option linter.all false
set_option maxRecDepth 100000
set_option maxHeartbeats 4000000
/-! PN7: the first figures, the row beneath. -/
namespace K14
open PySem L2 DI
/-- the first n figures -/
def figs (h a : List Int) (n : Nat) : List Int := (List.range n).map (fig h a)
theorem figs_len (h a : List Int) (n : Nat) : (figs h a n).length = n := by unfold figs; rw [List.length_map, List.length_range]
theorem figs_gd {h a : List Int} {n i : Nat} (c : i < n) : (figs h a n).getD i 0 = fig h a i := by
  unfold figs
  rw [gd, List.getElem?_map, List.getElem?_range c]; rfl
theorem figs_of {h a xs : List Int} {n : Nat} (hl : xs.length = n) (hg : ∀ i, i < n → xs.getD i 0 = fig h a i) : xs = figs h a n := by
  refine eq_of_getD (by rw [hl, figs_len]) fun i hi => ?_
  rw [hg i (by omega), figs_gd (by omega)]
theorem figs_take {h a : List Int} {n k : Nat} (ha : a ≠ []) (hn : n ≤ (h ++ rep k a).length) : (h ++ rep k a).take n = figs h a n := by
  have hl : ((h ++ rep k a).take n).length = n := by rw [List.length_take, Nat.min_eq_left hn]
  refine figs_of hl fun i hi => ?_
  rw [take_getD hi]
  by_cases c : i < h.length
  · rw [gd_left c, fig_lo c]
  · obtain ⟨j, rfl⟩ := Nat.exists_eq_add_of_le (Nat.le_of_not_lt c)
    rw [gd_right (by omega), Nat.add_sub_cancel_left, fig_hi, rep_getD _ _ _ (by
      rw [List.length_append, rep_len] at hn
      omega)]
theorem figs_head {h a : List Int} {n : Nat} (hn : n ≤ h.length) : h.take n = figs h a n := by
  refine figs_of (by rw [List.length_take, Nat.min_eq_left hn]) fun i hi => ?_
  rw [take_getD hi, fig_lo (by omega)]
theorem rep_snoc (k : Nat) (a : List Int) : rep k a ++ a = rep (k + 1) a := by
  unfold rep
  rw [List.replicate_succ', List.flatten_append]
  simp
abbrev gF (d : D) (n : Nat) (H A F : List Int) : Ga := [.fz d, .fz (.int (n : Int)), .fz (rD H), .fz (rD A), .ow (im F)]
abbrev ffT : Ga → Sd → Out Bool := tOf (sCmp .lt (sBi (biF .len) (lCons (sVar 4) lNil)) (sVar 1))
abbrev ffS : Ga → Sd → Out DI.Flow := sAsg (.nm 4) (sTwo (binF .add) (sVar 4) (sVar 3))
theorem ff_t {d : D} {n : Nat} {H A F : List Int} {s : Sd} : ffT (gF d n H A F) s = .ok (decide (F.length < n)) (gF d n H A F) s := by
  have q : cmpF .lt (.int (F.length : Int)) (.int (n : Int)) = some (decide (F.length < n)) := by
    show some (decide ((F.length : Int) < (n : Int))) = _
    congr 1
    by_cases c : F.length < n
    · rw [decide_eq_true c, decide_eq_true (by omega)]
    · rw [decide_eq_false c, decide_eq_false (by omega)]
  unfold ffT
  simp only [sCmp, e_tof, e_two, e_bi, e_lcons, e_lnil, e_var, List.getElem?_cons_zero, List.getElem?_cons_succ, e_varfz, e_varow, settle_fz, settle_sl, bind_ok, peeks, peek_sl, peekS_ow, peek_fz, e_one2, e_len, optR_some, e_two2, q, Option.map_some]
theorem e_addR {xs ys : List Int} (h : xs.length + ys.length ≤ 5000) : binF .add (rD xs) (rD ys) = some (.nw (im (xs ++ ys))) := by
  show (if lineOk ((im xs).length + (im ys).length) then some (Rs.nw (im xs ++ im ys)) else none) = _
  rw [line_le (by rw [im, im, List.length_map, List.length_map]; exact h), im_app]
  rfl
theorem ff_s {d : D} {n : Nat} {H A F : List Int} {s : Sd} (h : F.length + A.length ≤ 5000) : ffS (gF d n H A F) s = .ok .nx (gF d n H A (F ++ A)) s := by
  unfold ffS
  simp only [e_asg, e_two, e_var, List.getElem?_cons_zero, List.getElem?_cons_succ, e_varfz, e_varow, settle_fz, settle_sl, bind_ok, peek_sl, peekS_ow, peek_fz, e_two2, e_addR h, optR_some]
  rfl
theorem ff_loop {d : D} {n : Nat} {H A : List Int} {s : Sd} (hA : A ≠ []) (hl : A.length ≤ 900) (hn : n ≤ 900) : ∀ (m : Nat) (F : List Int), n + 1 ≤ m + F.length → 1 ≤ m → F.length ≤ 2000 → ∃ k, whlL ffT ffS m (gF d n H A F) s = .ok .nx (gF d n H A (F ++ rep k A)) s ∧ n ≤ (F ++ rep k A).length ∧ (n ≤ F.length → k = 0)
  | 0, F, _, h, _ => absurd h (by decide)
  | m + 1, F, h, _, hF => by
    by_cases c : F.length < n
    · have t : ffT (gF d n H A F) s = .ok true (gF d n H A F) s := by rw [ff_t, decide_eq_true c]
      have h0 : 0 < A.length := List.length_pos_iff.mpr hA
      obtain ⟨k, k1, k2, _⟩ := ff_loop (H := H) (s := s) hA hl hn m (F ++ A) (by rw [List.length_append]; omega) (by omega) (by rw [List.length_append]; omega)
      rw [List.append_assoc, ← rep_succ] at k1 k2
      exact ⟨k + 1, by rw [whl_t t (ff_s (by omega)), k1], k2, fun z => by omega⟩
    · exact ⟨0, by rw [whl_f (by rw [ff_t, decide_eq_false c])]; simp [rep], by simp [rep]; omega, fun _ => rfl⟩
theorem tell_eD {h a : List Int} (hb : Bits h) (ab : Bits a) (hl : h.length ≤ 900) (al : a.length ≤ 900) (ha : a ≠ []) : Tell (eD h a) h a := ⟨rD h, rD a, rfl, ⟨rfl, hb, hl⟩, ⟨rfl, ab, al⟩, ha⟩
theorem s_first {H A : List Int} {n : Nat} {s : Sd} (hA : A ≠ []) (hH : H.length ≤ 900) (hl : A.length ≤ 900) (hn : n ≤ 900) : ψ_first_figures [eD H A, .int (n : Int)] s = .ok (rD (figs H A n)) true s := by
  unfold ψ_first_figures
  rw [fn2]
  have p1 : sAsg (.cons (.nm 2) (.cons (.nm 3) .nil)) (sVar 0) [.fz (eD H A), .fz (.int (n : Int)), .un, .un, .un] s = .ok .nx [.fz (eD H A), .fz (.int (n : Int)), .fz (rD H), .fz (rD A), .un] s := rfl
  have p2 : sAsg (.nm 4) (sSlc (sVar 2) oNone (pOf (sVar 1))) [.fz (eD H A), .fz (.int (n : Int)), .fz (rD H), .fz (rD A), .un] s = .ok .nx (gF (eD H A) n H A (H.take n)) s := by
    simp only [e_asg, e_slc, e_onone, e_pof, e_var, List.getElem?_cons_zero, List.getElem?_cons_succ, e_varfz, settle_fz, bind_ok, peek_fz, e_one2, e_to, optR_some]
    rfl
  obtain ⟨k, k1, k2, k3⟩ := ff_loop (d := eD H A) (H := H) (s := s) hA hl hn 1000 (H.take n) (by omega) (by omega) (by rw [List.length_take]; omega)
  have p3 : sSlc (sVar 4) oNone (pOf (sVar 1)) (gF (eD H A) n H A (H.take n ++ rep k A)) s = .ok (.nw (im (figs H A n))) (gF (eD H A) n H A (H.take n ++ rep k A)) s := by
    have e : (H.take n ++ rep k A).take n = figs H A n := by
      by_cases c : n ≤ H.length
      · have z := k3 (by rw [List.length_take]; omega)
        subst z
        rw [show rep 0 A = [] from rfl, List.append_nil, List.take_take, Nat.min_self]
        exact figs_head c
      · rw [List.take_of_length_le (by omega : H.length ≤ n)] at k2 ⊢
        exact figs_take hA k2
    simp only [e_slc, e_onone, e_pof, e_var, List.getElem?_cons_zero, List.getElem?_cons_succ, e_varfz, e_varow, settle_sl, bind_ok, peek_sl, peekS_ow, e_one2, e_to, optR_some, e]
  show finish (sSeq _ (sSeq _ (sSeq _ _)) [.fz (eD H A), .fz (.int (n : Int)), .un, .un, .un] s) = _
  rw [e_seq, p1]
  simp only [bind_ok]
  rw [e_seq, p2]
  simp only [bind_ok]
  rw [e_seq, k1]
  simp only [bind_ok]
  rw [e_ret, p3]
  rfl
theorem s_many {n : Nat} {s : Sd} : ψ_checked_many [.int (n : Int)] s = .ok (.int (n : Int)) false s := by
  have q : ψ_is_number [.int (n : Int)] s = .ok (.bl true) false s := by
    have q1 : cmpF .ge (.int (n : Int)) (.int 0) = some true := by
      show some (decide ((0 : Int) ≤ (n : Int))) = _
      rw [decide_eq_true (by omega)]
    have c1 := callG_ok (g := [.fz (.int (n : Int))]) (is_int (i := (n : Int)) (s := s))
    unfold ψ_is_number
    rw [fn1]
    show finish (sRet _ [.fz (.int (n : Int))] s) = _
    simp only [sCmp, e_ret, e_and, e_call, e_acons, e_anil, e_var, List.getElem?_cons_zero, e_varfz, keep_fz, bind_ok, c1, e_two, settle_fz, e_con, peek_fz, e_two2, q1, Option.map_some, optR_some, fin_ret, fin_fz]
  have c := callG_ok (g := [.fz (.int (n : Int))]) q
  unfold ψ_checked_many
  rw [fn1]
  show finish (sSeq _ _ [.fz (.int (n : Int))] s) = _
  simp only [e_seq, e_iff, e_tnot, e_tof, e_call, e_acons, e_anil, e_var, List.getElem?_cons_zero, e_varfz, keep_fz, bind_ok, c, Bool.not_true, e_ret, fin_ret, fin_fz]
theorem least_bits {h a : List Int} (hb : Bits h) (ab : Bits a) (ha : a ≠ []) : Bits (leastF h a).1 ∧ Bits (leastF h a).2 := by
  have go : ∀ (r A : List Int), Bits r → Bits A → Bits (rollR r A).1 ∧ Bits (rollR r A).2 := by
    intro r
    induction r with
    | nil => intro A _ h; exact ⟨fun i hi => (by cases hi), h⟩
    | cons x r ih =>
      intro A h1 h2
      unfold rollR
      by_cases c : A.getLast? = some x
      · rw [if_pos c]
        refine ih _ (fun i hi => h1 i (List.mem_cons_of_mem _ hi)) fun i hi => ?_
        rcases List.mem_cons.mp hi with rfl | hi
        · exact h1 _ List.mem_cons_self
        · exact h2 i ((List.dropLast_sublist _).subset hi)
      · rw [if_neg c]
        exact ⟨fun i hi => h1 i (List.mem_reverse.mp hi), h2⟩
  exact go _ _ (fun i hi => hb i (List.mem_reverse.mp hi)) fun i hi => ab i (List.mem_of_mem_take hi)
theorem s_tops {d : D} {h a : List Int} {n : Nat} {s : Sd} (t : Tell d h a) (hn : n ≤ 900) : ψ_tops [d, .int (n : Int)] s = .ok (rD (figs h a n)) true s := by
  have c1 := callG_T (g := [.fz d, .fz (.int (n : Int)), .un]) (s_checked (s := s) t)
  obtain ⟨x, y, e, hx, hy, ha⟩ := t
  have hle := least_le (h := h) ha
  have c2 := callG_ok (g := [.fz d, .fz (.int (n : Int)), .fz (eD (leastF h a).1 (leastF h a).2)]) (s_many (n := n) (s := s))
  have hx2 := hx.2.2
  have hy2 := hy.2.2
  have c3 := callG_lst (g := [.fz d, .fz (.int (n : Int)), .fz (eD (leastF h a).1 (leastF h a).2)]) (s_first (H := (leastF h a).1) (A := (leastF h a).2) (s := s) (n := n) (least_least ha (h := h)).ne (by omega) (by omega) hn)
  have ef : figs (leastF h a).1 (leastF h a).2 n = figs h a n := by
    unfold figs
    exact List.map_congr_left fun i _ => least_fig ha i
  rw [ef] at c3
  unfold ψ_tops
  rw [fn2]
  have p1 : sAsg (.nm 2) (sCall (callG ψ_checked_endless) (aCons (sVar 0) aNil)) [.fz d, .fz (.int (n : Int)), .un] s = .ok .nx [.fz d, .fz (.int (n : Int)), .ot (eO (leastF h a).1 (leastF h a).2)] s := by
    simp only [e_asg, e_call, e_acons, e_anil, e_var, List.getElem?_cons_zero, e_varfz, keep_fz, bind_ok, c1]
    rfl
  show finish (sSeq _ _ [.fz d, .fz (.int (n : Int)), .un] s) = _
  rw [e_seq, p1]
  simp only [bind_ok, e_ret, e_call, e_acons, e_anil, e_var, List.getElem?_cons_zero, List.getElem?_cons_succ, e_varfz, e_varot, keep_fz, eO_d, List.set_cons_succ, List.set_cons_zero, c2, c3, fin_ret, fin_nw]
end K14
end
section
set_option Elab.async false
set_option linter.all false
set_option maxRecDepth 100000
set_option maxHeartbeats 4000000
/-! PN8: the row beneath; figures put on top. -/
namespace K14
open PySem L2 DI
/-- the row that is left when n figures are gone, not yet in its least form -/
def lowP (h a : List Int) (n : Nat) : List Int × List Int := if n ≤ h.length then (h.drop n, a) else ([], a.drop ((n - h.length) % a.length) ++ a.take ((n - h.length) % a.length))
def lowF (h a : List Int) (n : Nat) : List Int × List Int := leastF (lowP h a n).1 (lowP h a n).2
theorem rot_len {a : List Int} {k : Nat} (h : k < a.length) : (a.drop k ++ a.take k).length = a.length := by
  rw [List.length_append, List.length_drop, List.length_take]; omega
theorem rot_gd {a : List Int} {k : Nat} (h : k < a.length) (n : Nat) : (a.drop k ++ a.take k).getD (n % a.length) 0 = a.getD ((k + n) % a.length) 0 := by
  have h0 : 0 < a.length := by omega
  have lt : n % a.length < a.length := Nat.mod_lt _ h0
  by_cases c : n % a.length < a.length - k
  · rw [gd_left (by rw [List.length_drop]; exact c), gd, List.getElem?_drop, ← gd]
    have e : (k + n) % a.length = (k + n % a.length) % a.length := (Nat.add_mod_mod k n a.length).symm
    have lt2 : k + n % a.length < a.length := by omega
    rw [e, Nat.mod_eq_of_lt lt2]
  · rw [gd_right (by rw [List.length_drop]; omega), List.length_drop, take_getD (by omega)]
    have e : (k + n) % a.length = (k + n % a.length) % a.length := (Nat.add_mod_mod k n a.length).symm
    have ge2 : a.length ≤ k + n % a.length := by omega
    have lt2 : k + n % a.length - a.length < a.length := by omega
    rw [e, Nat.mod_eq_sub_mod ge2, Nat.mod_eq_of_lt lt2]
    congr 1
    omega
theorem low_ne {h a : List Int} (n : Nat) (ha : a ≠ []) : (lowP h a n).2 ≠ [] := by
  have h0 : 0 < a.length := List.length_pos_iff.mpr ha
  unfold lowP
  by_cases c : n ≤ h.length
  · rw [if_pos c]; exact ha
  · rw [if_neg c]
    intro z
    have := rot_len (a := a) (Nat.mod_lt (n - h.length) h0)
    rw [show a.drop ((n - h.length) % a.length) ++ a.take ((n - h.length) % a.length) = [] from z] at this
    simp at this; omega
theorem low_fig {h a : List Int} (n : Nat) (ha : a ≠ []) (i : Nat) : fig (lowP h a n).1 (lowP h a n).2 i = fig h a (n + i) := by
  have h0 : 0 < a.length := List.length_pos_iff.mpr ha
  unfold lowP
  by_cases c : n ≤ h.length
  · rw [if_pos c]
    show fig (h.drop n) a i = _
    by_cases c2 : n + i < h.length
    · rw [fig_lo c2, fig_lo (by rw [List.length_drop]; omega), gd, List.getElem?_drop, ← gd]
    · obtain ⟨k, hk⟩ := Nat.exists_eq_add_of_le (Nat.le_of_not_lt c2)
      rw [hk, fig_hi, show i = (h.drop n).length + k from by rw [List.length_drop]; omega, fig_hi]
  · rw [if_neg c]
    show fig [] _ i = _
    rw [fig_nil, rot_len (Nat.mod_lt _ h0), rot_gd (Nat.mod_lt _ h0)]
    obtain ⟨k, rfl⟩ := Nat.exists_eq_add_of_le (show h.length ≤ n from by omega)
    rw [Nat.add_sub_cancel_left, Nat.add_assoc, fig_hi, Nat.mod_add_mod]
theorem low_bits {h a : List Int} (n : Nat) (hb : Bits h) (ab : Bits a) : Bits (lowP h a n).1 ∧ Bits (lowP h a n).2 := by
  unfold lowP
  by_cases c : n ≤ h.length
  · rw [if_pos c]; exact ⟨fun i hi => hb i (List.mem_of_mem_drop hi), ab⟩
  · rw [if_neg c]
    refine ⟨fun i hi => (by cases hi), fun i hi => ?_⟩
    rcases List.mem_append.mp hi with q | q
    · exact ab i (List.mem_of_mem_drop q)
    · exact ab i (List.mem_of_mem_take q)
theorem low_len {h a : List Int} (n : Nat) (ha : a ≠ []) : (lowP h a n).1.length ≤ h.length ∧ (lowP h a n).2.length = a.length := by
  have h0 : 0 < a.length := List.length_pos_iff.mpr ha
  unfold lowP
  by_cases c : n ≤ h.length
  · rw [if_pos c]; exact ⟨by rw [List.length_drop]; omega, rfl⟩
  · rw [if_neg c]; exact ⟨Nat.zero_le _, rot_len (Nat.mod_lt _ h0)⟩
/-- beneath a least form or beneath the row itself: the same -/
theorem low_least {h a : List Int} (n : Nat) (ha : a ≠ []) : lowF (leastF h a).1 (leastF h a).2 n = lowF h a n :=
  least_eq (low_ne n (least_least ha).ne) (low_ne n ha) fun i => by rw [low_fig n (least_least ha).ne, low_fig n ha, least_fig ha]
theorem e_from (A : List Int) (m : Nat) : slcF (rD A) (some (m : Int)) none = some (.nw (im (A.drop m))) := by
  show some (Rs.nw (cutL (im A) (some (m : Int)) none)) = _
  rw [cut_from, im, im, List.map_drop]
theorem e_le (n m : Nat) : cmpF .le (.int (n : Int)) (.int (m : Int)) = some (decide (n ≤ m)) := by
  show some (decide ((n : Int) ≤ (m : Int))) = _
  congr 1
  by_cases c : n ≤ m
  · rw [decide_eq_true c, decide_eq_true (by omega)]
  · rw [decide_eq_false c, decide_eq_false (by omega)]
theorem e_sub {n m : Nat} (h : m ≤ n) : binF .sub (.int (n : Int)) (.int (m : Int)) = some (.fz (.int ((n - m : Nat) : Int))) := by
  show some (Rs.fz (.int ((n : Int) - (m : Int)))) = _
  rw [show (n : Int) - (m : Int) = ((n - m : Nat) : Int) from by omega]
abbrev gB (e : D) (n : Nat) (H A : List Int) (x : Sl) : Ga := [.fz e, .fz (.int (n : Int)), .fz (rD H), .fz (rD A), x]
theorem s_beneath {H A : List Int} {n : Nat} {s : Sd} (hA : A ≠ []) (hH : H.length ≤ 900) (hl : A.length ≤ 900) : ψ_row_beneath [eD H A, .int (n : Int)] s = .okT (eO (lowF H A n).1 (lowF H A n).2) s := by
  have h0 : 0 < A.length := List.length_pos_iff.mpr hA
  unfold ψ_row_beneath
  rw [fn2]
  have p1 : sAsg (.cons (.nm 2) (.cons (.nm 3) .nil)) (sVar 0) [.fz (eD H A), .fz (.int (n : Int)), .un, .un, .un] s = .ok .nx (gB (eD H A) n H A .un) s := rfl
  have p2 : tOf (sCmp .le (sVar 1) (sBi (biF .len) (lCons (sVar 2) lNil))) (gB (eD H A) n H A .un) s = .ok (decide (n ≤ H.length)) (gB (eD H A) n H A .un) s := by
    simp only [sCmp, e_tof, e_two, e_bi, e_lcons, e_lnil, e_var, List.getElem?_cons_zero, List.getElem?_cons_succ, e_varfz, settle_fz, bind_ok, peeks, peek_fz, e_one2, e_len, optR_some, e_two2, e_le, Option.map_some]
  show finish (sSeq _ (sSeq (sIff _ _ _) (sSeq _ _)) [.fz (eD H A), .fz (.int (n : Int)), .un, .un, .un] s) = _
  rw [e_seq, p1]
  simp only [bind_ok]
  rw [e_seq, e_iff, p2]
  simp only [bind_ok]
  by_cases c : n ≤ H.length
  · rw [decide_eq_true c]
    have ef : lowF H A n = leastF (H.drop n) A := by unfold lowF lowP; rw [if_pos c]
    have c2 := callG_T (g := gB (eD H A) n H A .un) (s_least (s := s) (d1 := rD (H.drop n)) (d2 := rD A) rfl rfl hA hl (by rw [List.length_drop]; omega))
    simp only [e_ret, e_call, e_acons, e_anil, e_slc, e_onone, e_pof, e_var, List.getElem?_cons_zero, List.getElem?_cons_succ, e_varfz, settle_fz, keep_fz, keep_nw, bind_ok, peek_fz, e_one2, e_from, optR_some, c2, fin_ret, fin_nt, ef]
  · rw [decide_eq_false c]
    have ef : lowF H A n = leastF [] (A.drop ((n - H.length) % A.length) ++ A.take ((n - H.length) % A.length)) := by unfold lowF lowP; rw [if_neg c]
    have p3 : sAsg (.nm 4) (sTwo (binF .mod) (sTwo (binF .sub) (sVar 1) (sBi (biF .len) (lCons (sVar 2) lNil))) (sBi (biF .len) (lCons (sVar 3) lNil))) (gB (eD H A) n H A .un) s = .ok .nx (gB (eD H A) n H A (.fz (.int (((n - H.length) % A.length : Nat) : Int)))) s := by
      simp only [e_asg, e_two, e_bi, e_lcons, e_lnil, e_var, List.getElem?_cons_zero, List.getElem?_cons_succ, e_varfz, settle_fz, bind_ok, peeks, peek_fz, e_one2, e_len, optR_some, e_two2, e_sub (show H.length ≤ n from by omega), e_mod h0]
      rfl
    have rl := rot_len (a := A) (Nat.mod_lt (n - H.length) h0)
    have c2 := callG_T (g := gB (eD H A) n H A (.fz (.int (((n - H.length) % A.length : Nat) : Int)))) (s_least (s := s) (d1 := .lst []) (d2 := rD (A.drop ((n - H.length) % A.length) ++ A.take ((n - H.length) % A.length))) (h := []) rfl rfl (fun z => by rw [z] at rl; simp at rl; omega) (by omega) (by simp))
    have e5 : sLst aNil (gB (eD H A) n H A (.fz (.int (((n - H.length) % A.length : Nat) : Int)))) s = .ok (.nw []) (gB (eD H A) n H A (.fz (.int (((n - H.length) % A.length : Nat) : Int)))) s := rfl
    simp only [bind_ok]
    rw [e_seq, p3]
    simp only [bind_ok, e_ret, e_call, e_acons, e_anil, e5, keep_nw, e_two, e_slc, e_onone, e_pof, e_var, List.getElem?_cons_zero, List.getElem?_cons_succ, e_varfz, settle_fz, settle_nw, peek_fz, e_one2, e_from, e_to, optR_some, e_two2, e_addR (show (A.drop ((n - H.length) % A.length)).length + (A.take ((n - H.length) % A.length)).length ≤ 5000 from by rw [← List.length_append, rl]; omega), c2, fin_ret, fin_nt, ef]
theorem s_drop {d : D} {h a : List Int} {n : Nat} {s : Sd} (t : Tell d h a) : ψ_drop_tops [d, .int (n : Int)] s = .okT (eO (lowF h a n).1 (lowF h a n).2) s := by
  have c1 := callG_T (g := [.fz d, .fz (.int (n : Int)), .un]) (s_checked (s := s) t)
  obtain ⟨x, y, e, hx, hy, ha⟩ := t
  have hle := least_le (h := h) ha
  have c2 := callG_ok (g := [.fz d, .fz (.int (n : Int)), .fz (eD (leastF h a).1 (leastF h a).2)]) (s_many (n := n) (s := s))
  have hx2 := hx.2.2
  have hy2 := hy.2.2
  have c3 := callG_T (g := [.fz d, .fz (.int (n : Int)), .fz (eD (leastF h a).1 (leastF h a).2)]) (s_beneath (H := (leastF h a).1) (A := (leastF h a).2) (n := n) (s := s) (least_least ha (h := h)).ne (by omega) (by omega))
  rw [low_least n ha] at c3
  unfold ψ_drop_tops
  rw [fn2]
  have p1 : sAsg (.nm 2) (sCall (callG ψ_checked_endless) (aCons (sVar 0) aNil)) [.fz d, .fz (.int (n : Int)), .un] s = .ok .nx [.fz d, .fz (.int (n : Int)), .ot (eO (leastF h a).1 (leastF h a).2)] s := by
    simp only [e_asg, e_call, e_acons, e_anil, e_var, List.getElem?_cons_zero, e_varfz, keep_fz, bind_ok, c1]
    rfl
  show finish (sSeq _ _ [.fz d, .fz (.int (n : Int)), .un] s) = _
  rw [e_seq, p1]
  simp only [bind_ok, e_ret, e_call, e_acons, e_anil, e_var, List.getElem?_cons_zero, List.getElem?_cons_succ, e_varfz, e_varot, keep_fz, eO_d, List.set_cons_succ, List.set_cons_zero, c2, c3, fin_ret, fin_nt]
@[simp] theorem e_astar {f : Ga → Sd → Out Rs} {as : Ga → Sd → Out (List D)} {g : Ga} {s : Sd} : aStar f as g s = (f g s).keep.bind fun d g1 s1 => match seqA d with | some xs => (as g1 s1).bind fun ds g2 s2 => .ok (xs ++ ds) g2 s2 | none => .bad := Eq.trans rfl rfl
theorem seqA_seq {d : D} {xs : List D} (h : d.seq = some xs) : seqA d = some xs := by
  rcases seq_cases h with rfl | rfl <;> rfl
theorem asg_nt {t u : Tg} {o : O} {g : Ga} {s : Sd} : asgTo (.cons t u) (.nt o) g s = asgTo (.cons t u) (.fz o.d) g s := rfl
theorem put_fig {h a h' a' f : List Int} (hf : ∀ i, fig h a i = fig h' a' i) (i : Nat) : fig (f ++ h) a i = fig (f ++ h') a' i := by
  have one : ∀ (h a : List Int), fig (f ++ h) a i = if i < f.length then f.getD i 0 else fig h a (i - f.length) := fun h a => by
    by_cases c : i < f.length
    · rw [if_pos c, fig_lo (by rw [List.length_append]; omega), gd_left c]
    · rw [if_neg c]
      by_cases c2 : i - f.length < h.length
      · rw [fig_lo c2, fig_lo (by rw [List.length_append]; omega), gd_right (by omega)]
      · obtain ⟨k, hk⟩ := Nat.exists_eq_add_of_le (Nat.le_of_not_lt c2)
        rw [hk, fig_hi, show i = (f ++ h).length + k from by rw [List.length_append]; omega, fig_hi]
  rw [one, one, hf]
theorem s_put {df d : D} {f h a : List Int} {s : Sd} (hf : Row df f) (t : Tell d h a) (hl : f.length + h.length ≤ 900) : ψ_put_all [df, d] s = .okT (eO (leastF (f ++ h) a).1 (leastF (f ++ h) a).2) s := by
  have c0 := callG_ok (g := [.fz df, .fz d, .un, .un]) (s_is_row (s := s) hf)
  have c1 := callG_T (g := [.fz df, .fz d, .un, .un]) (s_checked (s := s) t)
  obtain ⟨x, y, e, hx, hy, ha⟩ := t
  have hle := least_le (h := h) ha
  have hy2 := hy.2.2
  have sA := seqA_seq hf.1
  have sB : seqA (rD (leastF h a).1) = some (im (leastF h a).1) := rfl
  have c2 := callG_T (g := [.fz df, .fz d, .fz (rD (leastF h a).1), .fz (rD (leastF h a).2)]) (s_least (s := s) (d1 := rD (f ++ (leastF h a).1)) (d2 := rD (leastF h a).2) rfl rfl (least_least ha (h := h)).ne (by omega) (by rw [List.length_append]; omega))
  rw [show leastF (f ++ (leastF h a).1) (leastF h a).2 = leastF (f ++ h) a from least_eq (least_least ha).ne ha fun i => put_fig (fun j => least_fig ha j) i] at c2
  unfold ψ_put_all
  rw [fn2]
  have p1 : sAsg (.cons (.nm 2) (.cons (.nm 3) .nil)) (sCall (callG ψ_checked_endless) (aCons (sVar 1) aNil)) [.fz df, .fz d, .un, .un] s = .ok .nx [.fz df, .fz d, .fz (rD (leastF h a).1), .fz (rD (leastF h a).2)] s := by
    simp only [e_asg, e_call, e_acons, e_anil, e_var, List.getElem?_cons_zero, List.getElem?_cons_succ, e_varfz, keep_fz, bind_ok, c1]
    rw [asg_nt, eO_d]
    rfl
  have l1 : lineOk (im (f ++ (leastF h a).1)).length = true := line_le (by rw [im, List.length_map, List.length_append]; omega)
  show finish (sSeq (sIff _ _ _) (sSeq _ _) [.fz df, .fz d, .un, .un] s) = _
  rw [e_seq, e_iff]
  simp only [e_tnot, e_tof, e_call, e_acons, e_anil, e_var, List.getElem?_cons_zero, e_varfz, keep_fz, bind_ok, c0, Bool.not_true]
  rw [e_seq, p1]
  simp only [bind_ok, e_ret, e_call, e_acons, e_astar, e_anil, e_lst, e_var, List.getElem?_cons_zero, List.getElem?_cons_succ, e_varfz, keep_fz, sA, sB, l1, if_true, keep_nw, List.append_nil, im_app, c2, fin_ret, fin_nt]
end K14
end
section
set_option Elab.async false
set_option linter.all false
set_option maxRecDepth 100000
set_option maxHeartbeats 4000000
/-! PN9: the first place where two rows part. -/
namespace K14
open PySem L2 DI
@[simp] theorem e_ienz {as : Ga → Sd → Out (List D)} {g : Ga} {s : Sd} : iEnZF as g s = (as g s).bind fun ds g1 s1 => optD ((zipF ds).map (enumD 0)) g1 s1 := Eq.trans rfl rfl
abbrev gU (d e : D) (one two : D) (n : Int) (x y z : Sl) : Ga := [.fz d, .fz e, .fz one, .fz two, .fz (.int n), x, y, z]
abbrev unT : Tg := .cons (.nm 5) (.cons (.cons (.nm 6) (.cons (.nm 7) .nil)) .nil)
abbrev unS : Ga → Sd → Out DI.Flow := sIff (tOf (sCmp .ne (sVar 6) (sVar 7))) (sRet (sVar 5)) (fun g s => .ok .nx g s)
theorem un_turn {d e one two : D} {n : Int} {x y z : Sl} {k : Nat} {i j : Int} {s : Sd} : forTurn unT unS (.tup [.int (k : Int), .tup [.int i, .int j]]) (gU d e one two n x y z) s =
    if i = j then .ok .nx (gU d e one two n (.fz (.int (k : Int))) (.fz (.int i)) (.fz (.int j))) s else .ok (.ret (.fz (.int (k : Int)))) (gU d e one two n (.fz (.int (k : Int))) (.fz (.int i)) (.fz (.int j))) s := by
  have e0 : forTurn unT unS (.tup [.int (k : Int), .tup [.int i, .int j]]) (gU d e one two n x y z) s = unS (gU d e one two n (.fz (.int (k : Int))) (.fz (.int i)) (.fz (.int j))) s := rfl
  rw [e0]
  unfold unS
  have t : tOf (sCmp .ne (sVar 6) (sVar 7)) (gU d e one two n (.fz (.int (k : Int))) (.fz (.int i)) (.fz (.int j))) s = .ok (i != j) (gU d e one two n (.fz (.int (k : Int))) (.fz (.int i)) (.fz (.int j))) s := by
    simp only [sCmp, e_tof, e_two, e_var, List.getElem?_cons_zero, List.getElem?_cons_succ, e_varfz, settle_fz, bind_ok, peek_fz, e_two2, c_nei, Option.map_some, optR_some]
  rw [e_iff, t]
  simp only [bind_ok]
  by_cases c : i = j
  · rw [if_pos c, c]
    rw [show (j != j) = false from by simp [bne]]
  · rw [if_neg c]
    rw [show (i != j) = true from by simp [bne, c]]
    simp only [e_ret, e_var, List.getElem?_cons_zero, List.getElem?_cons_succ, e_varfz, bind_ok]
theorem zip_im : ∀ (xs ys : List Int), zipD (im xs) (im ys) = (List.zip xs ys).map fun p => .tup [.int p.1, .int p.2]
  | [], _ => rfl
  | _ :: _, [] => rfl
  | x :: xs, y :: ys => by
    show D.tup [.int x, .int y] :: zipD (im xs) (im ys) = _
    rw [zip_im xs ys]; rfl
theorem un_same {d e one two : D} {n : Int} {s : Sd} : ∀ (xs : List Int) (k : Nat) (x y z : Sl), ∃ x' y' z', forL (forTurn unT unS) (enumD k (zipD (im xs) (im xs))) (gU d e one two n x y z) s = .ok .nx (gU d e one two n x' y' z') s
  | [], k, x, y, z => ⟨x, y, z, rfl⟩
  | v :: xs, k, x, y, z => by
    obtain ⟨x', y', z', h⟩ := un_same (d := d) (e := e) (one := one) (two := two) (n := n) (s := s) xs (k + 1) (.fz (.int (k : Int))) (.fz (.int v)) (.fz (.int v))
    refine ⟨x', y', z', ?_⟩
    show forL _ (.tup [.int (k : Int), .tup [.int v, .int v]] :: enumD (k + 1) (zipD (im xs) (im xs))) _ _ = _
    rw [forL_nx (by rw [un_turn, if_pos rfl]), h]
theorem un_at {d e one two : D} {n : Int} {s : Sd} : ∀ (xs ys : List Int) (k p : Nat) (x y z : Sl), p < xs.length → p < ys.length → (∀ i, i < p → xs.getD i 0 = ys.getD i 0) → xs.getD p 0 ≠ ys.getD p 0 →
    ∃ g', forL (forTurn unT unS) (enumD k (zipD (im xs) (im ys))) (gU d e one two n x y z) s = .ok (.ret (.fz (.int ((k + p : Nat) : Int)))) g' s
  | [], _, _, _, _, _, _, h, _, _, _ => absurd h (Nat.not_lt_zero _)
  | _ :: _, [], _, _, _, _, _, _, h, _, _ => absurd h (Nat.not_lt_zero _)
  | v :: xs, w :: ys, k, 0, x, y, z, _, _, _, hd => by
    refine ⟨gU d e one two n (.fz (.int (k : Int))) (.fz (.int v)) (.fz (.int w)), ?_⟩
    show forL _ (.tup [.int (k : Int), .tup [.int v, .int w]] :: enumD (k + 1) (zipD (im xs) (im ys))) _ _ = _
    have hd : v ≠ w := hd
    rw [forL_ret (by rw [un_turn, if_neg hd])]
    rfl
  | v :: xs, w :: ys, k, p + 1, x, y, z, h1, h2, ha, hd => by
    have hv : v = w := ha 0 (by omega)
    obtain ⟨g', h⟩ := un_at (d := d) (e := e) (one := one) (two := two) (n := n) (s := s) xs ys (k + 1) p (.fz (.int (k : Int))) (.fz (.int v)) (.fz (.int w)) (by simpa using h1) (by simpa using h2) (fun i hi => by
      have := ha (i + 1) (by omega)
      rw [gd, gd] at this ⊢
      simpa using this) (by
      rw [gd, gd] at hd ⊢
      simpa using hd)
    refine ⟨g', ?_⟩
    show forL _ (.tup [.int (k : Int), .tup [.int v, .int w]] :: enumD (k + 1) (zipD (im xs) (im ys))) _ _ = _
    rw [forL_nx (by rw [un_turn, if_pos hv]), h]
    congr 5
    omega
/-- how long first_unlike looks -/
def lookN (e e' : List Int × List Int) : Nat := max e.1.length e'.1.length + e.2.length + e'.2.length
theorem e_max (n m : Nat) : biF .max2 [.int (n : Int), .int (m : Int)] = some (.fz (.int ((max n m : Nat) : Int))) := by
  show some (Rs.fz (.int (if (m : Int) > (n : Int) then (m : Int) else (n : Int)))) = _
  congr 3
  by_cases c : n < m
  · rw [if_pos (by omega)]; omega
  · rw [if_neg (by omega)]; omega
theorem e_addN (n m : Nat) : binF .add (.int (n : Int)) (.int (m : Int)) = some (.fz (.int ((n + m : Nat) : Int))) := rfl
theorem sub0 (h a : List Int) : subF (eD h a) (.int 0) = some (rD h) := rfl
theorem sub1 (h a : List Int) : subF (eD h a) (.int 1) = some (rD a) := rfl
theorem unlike_eq {d d' : D} {h a h' a' : List Int} {s : Sd} (t : Tell d h a) (t' : Tell d' h' a') : ψ_first_unlike [d, d'] s =
    finish ((forL (forTurn unT unS) (enumD 0 (zipD (im (figs h a (lookN (leastF h a) (leastF h' a')))) (im (figs h' a' (lookN (leastF h a) (leastF h' a')))))) (gU d d' (eD (leastF h a).1 (leastF h a).2) (eD (leastF h' a').1 (leastF h' a').2) (lookN (leastF h a) (leastF h' a') : Nat) .un .un .un) s).bind fun f g1 s1 => match f with | .nx => sRet (sCon .non) g1 s1 | f => .ok f g1 s1) ∨ lookN (leastF h a) (leastF h' a') > 900 := by
  have c1 := callG_T (g := [.fz d, .fz d', .un, .un, .un, .un, .un, .un]) (s_checked (s := s) t)
  have c0 := callG_ok (g := [.fz d, .fz d', .ot (eO (leastF h a).1 (leastF h a).2), .un, .un, .un, .un, .un]) (s_is_endless (s := s) t')
  obtain ⟨x, y, e, hx, hy, ha⟩ := t
  obtain ⟨x', y', e', hx', hy', ha'⟩ := t'
  by_cases big : lookN (leastF h a) (leastF h' a') > 900
  · exact .inr big
  refine .inl ?_
  have s0 := seq_sub e' 0
  have s1 := seq_sub e' 1
  rw [atI0] at s0
  rw [atI1] at s1
  have hle := least_le (h := h) ha
  have hle' := least_le (h := h') ha'
  have hx2 := hx.2.2
  have hy2 := hy.2.2
  have hx2' := hx'.2.2
  have hy2' := hy'.2.2
  have c2 := callG_T (g := [.fz d, .fz d', .ot (eO (leastF h a).1 (leastF h a).2), .un, .un, .un, .un, .un]) (s_least (s := s) hx'.1 hy'.1 ha' hy2' hx2')
  have p1 : sAsg (.nm 2) (sCall (callG ψ_checked_endless) (aCons (sVar 0) aNil)) [.fz d, .fz d', .un, .un, .un, .un, .un, .un] s = .ok .nx [.fz d, .fz d', .ot (eO (leastF h a).1 (leastF h a).2), .un, .un, .un, .un, .un] s := by
    simp only [e_asg, e_call, e_acons, e_anil, e_var, List.getElem?_cons_zero, e_varfz, keep_fz, bind_ok, c1]
    rfl
  have p3 : sAsg (.nm 3) (sCall (callG ψ_least) (aCons (sTwo (fun x y => (subF x y).map .fz) (sVar 1) (sCon (.int 0))) (aCons (sTwo (fun x y => (subF x y).map .fz) (sVar 1) (sCon (.int 1))) aNil))) [.fz d, .fz d', .ot (eO (leastF h a).1 (leastF h a).2), .un, .un, .un, .un, .un] s = .ok .nx [.fz d, .fz d', .ot (eO (leastF h a).1 (leastF h a).2), .ot (eO (leastF h' a').1 (leastF h' a').2), .un, .un, .un, .un] s := by
    simp only [e_asg, e_call, e_acons, e_anil, e_two, e_con, e_var, List.getElem?_cons_zero, List.getElem?_cons_succ, e_varfz, settle_fz, peek_fz, e_two2, s0, s1, Option.map_some, optR_some, keep_fz, bind_ok, c2]
    rfl
  have p4 : sAsg (.nm 4) (sTwo (binF .add) (sTwo (binF .add) (sBi (biF .max2) (lCons (sBi (biF .len) (lCons (sTwo (fun x y => (subF x y).map .fz) (sVar 2) (sCon (.int 0))) lNil)) (lCons (sBi (biF .len) (lCons (sTwo (fun x y => (subF x y).map .fz) (sVar 3) (sCon (.int 0))) lNil)) lNil))) (sBi (biF .len) (lCons (sTwo (fun x y => (subF x y).map .fz) (sVar 2) (sCon (.int 1))) lNil))) (sBi (biF .len) (lCons (sTwo (fun x y => (subF x y).map .fz) (sVar 3) (sCon (.int 1))) lNil))) [.fz d, .fz d', .ot (eO (leastF h a).1 (leastF h a).2), .ot (eO (leastF h' a').1 (leastF h' a').2), .un, .un, .un, .un] s = .ok .nx (gU d d' (eD (leastF h a).1 (leastF h a).2) (eD (leastF h' a').1 (leastF h' a').2) (lookN (leastF h a) (leastF h' a') : Nat) .un .un .un) s := by
    simp only [e_asg, e_two, e_bi, e_lcons, e_lnil, e_con, e_var, List.getElem?_cons_zero, List.getElem?_cons_succ, e_varot, e_varfz, eO_d, List.set_cons_succ, List.set_cons_zero, settle_fz, peek_fz, peeks, e_one2, e_two2, sub0, sub1, Option.map_some, optR_some, bind_ok, e_len, e_max, e_addN]
    rfl
  have f1 := callG_lst (g := gU d d' (eD (leastF h a).1 (leastF h a).2) (eD (leastF h' a').1 (leastF h' a').2) (lookN (leastF h a) (leastF h' a') : Nat) .un .un .un) (s_first (H := (leastF h a).1) (A := (leastF h a).2) (n := lookN (leastF h a) (leastF h' a')) (s := s) (least_least ha (h := h)).ne (by omega) (by omega) (by omega))
  have f2 := callG_lst (g := gU d d' (eD (leastF h a).1 (leastF h a).2) (eD (leastF h' a').1 (leastF h' a').2) (lookN (leastF h a) (leastF h' a') : Nat) .un .un .un) (s_first (H := (leastF h' a').1) (A := (leastF h' a').2) (n := lookN (leastF h a) (leastF h' a')) (s := s) (least_least ha' (h := h')).ne (by omega) (by omega) (by omega))
  have ef : ∀ n, figs (leastF h a).1 (leastF h a).2 n = figs h a n := fun n => List.map_congr_left fun i _ => least_fig ha i
  have ef' : ∀ n, figs (leastF h' a').1 (leastF h' a').2 n = figs h' a' n := fun n => List.map_congr_left fun i _ => least_fig ha' i
  rw [ef] at f1
  rw [ef'] at f2
  have it : iEnZF (aCons (sCall (callG ψ_first_figures) (aCons (sVar 2) (aCons (sVar 4) aNil))) (aCons (sCall (callG ψ_first_figures) (aCons (sVar 3) (aCons (sVar 4) aNil))) aNil)) (gU d d' (eD (leastF h a).1 (leastF h a).2) (eD (leastF h' a').1 (leastF h' a').2) (lookN (leastF h a) (leastF h' a') : Nat) .un .un .un) s = .ok (enumD 0 (zipD (im (figs h a (lookN (leastF h a) (leastF h' a')))) (im (figs h' a' (lookN (leastF h a) (leastF h' a')))))) (gU d d' (eD (leastF h a).1 (leastF h a).2) (eD (leastF h' a').1 (leastF h' a').2) (lookN (leastF h a) (leastF h' a') : Nat) .un .un .un) s := by
    simp only [e_ienz, e_call, e_acons, e_anil, e_var, List.getElem?_cons_zero, List.getElem?_cons_succ, e_varfz, keep_fz, keep_nw, bind_ok, f1, f2, zipF_lst, Option.map_some, optD_some]
  unfold ψ_first_unlike
  rw [fn2]
  show finish (sSeq _ (sSeq (sIff _ _ _) (sSeq _ (sSeq _ (sSeq (sFor unT _ unS) _)))) [.fz d, .fz d', .un, .un, .un, .un, .un, .un] s) = _
  rw [e_seq, p1]
  simp only [bind_ok]
  rw [e_seq, e_iff]
  simp only [e_tnot, e_tof, e_call, e_acons, e_anil, e_var, List.getElem?_cons_zero, List.getElem?_cons_succ, e_varfz, keep_fz, bind_ok, c0, Bool.not_true]
  rw [e_seq, p3]
  simp only [bind_ok]
  rw [e_seq, p4]
  simp only [bind_ok]
  rw [e_seq, e_for, it]
  simp only [bind_ok]
  try rfl
theorem s_unlike_none {d d' : D} {h a h' a' : List Int} {s : Sd} (t : Tell d h a) (t' : Tell d' h' a') (hl : lookN (leastF h a) (leastF h' a') ≤ 900) (hf : ∀ i, fig h a i = fig h' a' i) : ψ_first_unlike [d, d'] s = .ok .non false s := by
  rcases unlike_eq (s := s) t t' with q | q
  · rw [q]
    have e : figs h' a' (lookN (leastF h a) (leastF h' a')) = figs h a (lookN (leastF h a) (leastF h' a')) := List.map_congr_left fun i _ => (hf i).symm
    rw [e]
    obtain ⟨x, y, z, e2⟩ := un_same (d := d) (e := d') (one := eD (leastF h a).1 (leastF h a).2) (two := eD (leastF h' a').1 (leastF h' a').2) (n := ((lookN (leastF h a) (leastF h' a') : Nat) : Int)) (s := s) (figs h a (lookN (leastF h a) (leastF h' a'))) 0 .un .un .un
    rw [e2]
    rfl
  · omega
theorem s_unlike_at {d d' : D} {h a h' a' : List Int} {p : Nat} {s : Sd} (t : Tell d h a) (t' : Tell d' h' a') (hl : lookN (leastF h a) (leastF h' a') ≤ 900) (hf : ∀ i, i < p → fig h a i = fig h' a' i) (hp : fig h a p ≠ fig h' a' p) : ψ_first_unlike [d, d'] s = .ok (.int (p : Int)) false s := by
  have ha : a ≠ [] := by obtain ⟨_, _, _, _, _, h⟩ := t; exact h
  have ha' : a' ≠ [] := by obtain ⟨_, _, _, _, _, h⟩ := t'; exact h
  have hlt : p < lookN (leastF h a) (leastF h' a') := by
    rcases Nat.lt_or_ge p (lookN (leastF h a) (leastF h' a')) with c | c
    · exact c
    · have all := agree_all (least_least ha (h := h)).ne (least_least ha' (h := h')).ne (h := (leastF h a).1) (h' := (leastF h' a').1) (fun n hn => by
        rw [least_fig ha, least_fig ha']
        exact hf n (by unfold lookN at c; omega)) p
      rw [least_fig ha, least_fig ha'] at all
      exact absurd all hp
  rcases unlike_eq (s := s) t t' with q | q
  · rw [q]
    obtain ⟨g', e2⟩ := un_at (d := d) (e := d') (one := eD (leastF h a).1 (leastF h a).2) (two := eD (leastF h' a').1 (leastF h' a').2) (n := ((lookN (leastF h a) (leastF h' a') : Nat) : Int)) (s := s) (figs h a (lookN (leastF h a) (leastF h' a'))) (figs h' a' (lookN (leastF h a) (leastF h' a'))) 0 p .un .un .un (by rw [figs_len]; exact hlt) (by rw [figs_len]; exact hlt) (fun i hi => by rw [figs_gd (by omega), figs_gd (by omega), hf i hi]) (by rw [figs_gd hlt, figs_gd hlt]; exact hp)
    rw [e2, Nat.zero_add]
    rfl
  · omega
end K14
end
section
set_option Elab.async false
set_option linter.all false
set_option maxRecDepth 100000
set_option maxHeartbeats 4000000
/-! PN10: the law's own least form. -/
namespace K14
open PySem L2 DI
abbrev gL (H A : List Int) (x y : Sl) : Ga := [.ow (im H), .ow (im A), x, y, .un]
theorem lc_filter {F : D → Ga → Sd → Out (Option D)} {p : Nat → Bool} {g : Ga} {s : Sd} : ∀ (ns : List Nat) (acc : List D), (∀ n ∈ ns, F (.int (n : Int)) g s = .ok (if p n then some (.int (n : Int)) else none) g s) → acc.length + ns.length ≤ sizeLine →
    lcL F (ns.map fun (n : Nat) => D.int (n : Int)) acc g s = .ok (acc ++ (ns.filter p).map fun (n : Nat) => D.int (n : Int)) g s
  | [], acc, _, _ => by simp [lcL]
  | n :: ns, acc, h, hl => by
    have e := h n List.mem_cons_self
    rw [List.map_cons]
    unfold lcL
    rw [e]
    by_cases c : p n = true
    · rw [if_pos c]
      have hl' : acc.length < sizeLine := by simp at hl; omega
      show (if acc.length < sizeLine then lcL F _ (acc ++ [D.int (n : Int)]) g s else .bad) = _
      rw [if_pos hl', lc_filter ns _ (fun m hm => h m (List.mem_cons_of_mem _ hm)) (by simp at hl ⊢; omega), List.filter_cons_of_pos c]
      simp
    · rw [if_neg c]
      show lcL F _ acc g s = _
      rw [lc_filter ns _ (fun m hm => h m (List.mem_cons_of_mem _ hm)) (by simp at hl ⊢; omega), List.filter_cons_of_neg c]
theorem filter_ff {p : Nat → Bool} : ∀ (k m : Nat), p (m + k) = true → ((List.range' m (k + 1)).filter p)[0]? = some (ff p k m)
  | 0, m, h => by
    rw [show List.range' m (0 + 1) = [m] from rfl, List.filter_cons_of_pos (by exact h)]; rfl
  | k + 1, m, h => by
    rw [List.range'_succ]
    unfold ff
    by_cases c : p m = true
    · rw [if_pos c, List.filter_cons_of_pos c]; rfl
    · rw [if_neg c, List.filter_cons_of_neg c]
      exact filter_ff k (m + 1) (by rw [show m + 1 + k = m + (k + 1) from by omega]; exact h)
abbrev fpE : Ga → Sd → Out Bool := tOf (sCmp .eq (sTwo (binF .mul) (sSlc (sVar 1) oNone (pOf (sVar 4))) (sTwo (binF .fdiv) (sBi (biF .len) (lCons (sVar 1) lNil)) (sVar 4))) (sVar 1))
theorem fp_t {H A : List Int} {m : Nat} {x y : Sl} {s : Sd} (h0 : 0 < m) (hm : m ≤ A.length) (hl : A.length ≤ 2000) : fpE [.ow (im H), .ow (im A), x, y, .fz (.int (m : Int))] s = .ok (perB A m) [.ow (im H), .ow (im A), x, y, .fz (.int (m : Int))] s := by
  have tl : (A.take m).length = m := by rw [List.length_take]; omega
  have dm := Nat.div_mul_le_self A.length m
  have e4 := e_mul (A := A.take m) (n := A.length / m) (by have := Nat.div_le_self A.length m; omega) (by rw [tl, Nat.mul_comm]; omega)
  have fin : (rep (A.length / m) (A.take m) == A) = perB A m := by
    unfold perB
    by_cases c : rep (A.length / m) (A.take m) = A
    · have hz : A.length % m = 0 := by
        have q := congrArg List.length c
        rw [rep_len, tl] at q
        have := Nat.div_add_mod A.length m
        rw [Nat.mul_comm] at this
        omega
      rw [hz, c]
      simp
    · rw [show (rep (A.length / m) (A.take m) == A) = false from beq_eq_false_iff_ne.mpr c, show (A == rep (A.length / m) (A.take m)) = false from beq_eq_false_iff_ne.mpr (Ne.symm c), Bool.and_false]
  unfold fpE
  simp only [sCmp, e_tof, e_two, e_bi, e_lcons, e_var, e_lnil, e_slc, e_onone, e_pof, List.getElem?_cons_succ, List.getElem?_cons_zero, e_varow, e_varfz, settle_sl, settle_fz, settle_nw, bind_ok, peeks, peek_sl, peekS_ow, e_one2, e_len, optR_some, peek_fz, peek_nw, e_two2, e_fdiv h0 (by omega : m ≤ 5000), e_to, e4, e_con, c_eq, Option.map_some]
  rw [fin]
abbrev fpL : Ga → Sd → Out Rs := sLc [4] (iRngF rngF2 (aCons (sCon (.int 1)) (aCons (sTwo (binF .add) (sBi (biF .len) (lCons (sVar 1) lNil)) (sCon (.int 1))) aNil))) (.nm 4) fpE (sVar 4)
theorem it_len {H A : List Int} {x y : Sl} {s : Sd} (h0 : 0 < A.length) (hl : A.length ≤ 2000) : iRngF rngF2 (aCons (sCon (.int 1)) (aCons (sTwo (binF .add) (sBi (biF .len) (lCons (sVar 1) lNil)) (sCon (.int 1))) aNil)) (gL H A x y) s = .ok ((List.range' 1 (A.length - 1 + 1)).map fun (j : Nat) => D.int (j : Int)) (gL H A x y) s := by
  have q1 : binF .add (.int (A.length : Int)) (.int 1) = some (.fz (.int ((A.length + 1 : Nat) : Int))) := rfl
  have q2 : rngF2 [.int 1, .int ((A.length + 1 : Nat) : Int)] = some ((List.range' 1 (A.length - 1 + 1)).map fun (j : Nat) => D.int (j : Int)) := by
    show (if small 1 && small ((A.length + 1 : Nat) : Int) then some ((List.range (((A.length + 1 : Nat) : Int) - 1).toNat).map fun (k : Nat) => D.int (1 + (k : Int))) else none) = _
    rw [small_nat (by omega), show small 1 = true from by decide]
    show some _ = some _
    congr 1
    rw [show (((A.length + 1 : Nat) : Int) - 1).toNat = A.length from by omega, show A.length - 1 + 1 = A.length from by omega, List.range'_eq_map_range, List.map_map]
    refine List.map_congr_left fun k _ => ?_
    show D.int (1 + (k : Int)) = D.int ((1 + k : Nat) : Int)
    congr 1
  simp only [e_irng, e_acons, e_anil, e_con, e_two, e_bi, e_lcons, e_lnil, e_var, List.getElem?_cons_succ, List.getElem?_cons_zero, e_varow, settle_sl, settle_fz, bind_ok, peeks, peek_sl, peekS_ow, e_one2, e_len, optR_some, peek_fz, e_two2, q1, keep_fz, q2, optD_some]
theorem fp_l {H A : List Int} {x y : Sl} {s : Sd} (hA : A ≠ []) (hl : A.length ≤ 2000) : fpL (gL H A x y) s = .ok (.nw (((List.range' 1 (A.length - 1 + 1)).filter (perB A)).map fun (n : Nat) => D.int (n : Int))) (gL H A x y) s := by
  have h0 : 0 < A.length := List.length_pos_iff.mpr hA
  unfold fpL
  rw [e_lc, it_len h0 hl]
  simp only [bind_ok]
  rw [show wipeG (gL H A x y) [4] = gL H A x y from rfl, lc_filter (p := perB A) _ [] (fun n hn => ?_) (by simp; exact Nat.le_trans (by omega) (by decide : 3000 ≤ sizeLine))]
  · rfl
  · have hn' := List.mem_range'_1.mp hn
    unfold lcTurn
    rw [show bindT (.nm 4) (.int (n : Int)) (gL H A x y) = some [.ow (im H), .ow (im A), x, y, .fz (.int (n : Int))] from rfl]
    simp only
    rw [fp_t (by omega) (by omega) hl]
    cases perB A n with
    | true => rfl
    | false => rfl
abbrev fgT : Ga → Sd → Out Bool := tOf (sCmp .ne (sTwo (fun x y => (subF x y).map .fz) (sVar 0) (sOne negF (sCon (.int 1)))) (sTwo (fun x y => (subF x y).map .fz) (sVar 1) (sOne negF (sCon (.int 1)))))
abbrev fgS : Ga → Sd → Out DI.Flow := sSeq (sIff fgT (fun g s => .ok .brk g s) (fun g s => .ok .nx g s)) (sSeq (sAsg (.nm 1) (sTwo (binF .add) (sSlc (sVar 1) (pOf (sOne negF (sCon (.int 1)))) oNone) (sSlc (sVar 1) oNone (pOf (sOne negF (sCon (.int 1))))))) (sExp (sMth0 .pop 0)))
theorem last_drop {A : List Int} {y : Int} (c : A.getLast? = some y) : A.drop (A.length - 1) = [y] := by
  obtain ⟨hn, hx⟩ := last_gd c
  have h0 : 0 < A.length := List.length_pos_iff.mpr hn
  refine eq_of_getD (by rw [List.length_drop]; simp; omega) fun i hi => ?_
  rw [List.length_drop] at hi
  have : i = 0 := by omega
  subst this
  rw [gd, List.getElem?_drop, ← gd, Nat.add_zero, hx]; rfl
theorem fg_turn {r A : List Int} {x y : Sl} {v : Int} {j : D} {s : Sd} (hA : A ≠ []) (hl : A.length ≤ 2000) : forTurn (.nm 3) fgS j (gL (r.reverse ++ [v]) A x y) s =
    if A.getLast? = some v then .ok .nx (gL r.reverse (v :: A.dropLast) x (.fz j)) s else .ok .brk (gL (r.reverse ++ [v]) A x (.fz j)) s := by
  have e : forTurn (.nm 3) fgS j (gL (r.reverse ++ [v]) A x y) s = fgS (gL (r.reverse ++ [v]) A x (.fz j)) s := rfl
  rw [e]
  unfold fgS
  have n1 : r.reverse ++ [v] ≠ [] := by simp
  have l1 := e_last n1
  have l2 := e_last hA
  rw [gd_snoc] at l1
  have t : fgT (gL (r.reverse ++ [v]) A x (.fz j)) s = .ok (v != A.getD (A.length - 1) 0) (gL (r.reverse ++ [v]) A x (.fz j)) s := by
    unfold fgT
    simp only [sCmp, e_tof, e_two, e_var, List.getElem?_cons_zero, List.getElem?_cons_succ, e_varow, settle_sl, settle_fz, bind_ok, neg_e, peek_sl, peekS_ow, peek_fz, e_two2, l1, l2, Option.map_some, optR_some, c_nei]
  rw [e_seq, e_iff, t]
  simp only [bind_ok]
  by_cases c : A.getLast? = some v
  · rw [if_pos c, (last_iff hA v).mp c, show (v != v) = false from by simp [bne]]
    simp only [bind_ok]
    have q1 : slcF (rD A) (some (-1)) none = some (.nw (im [v])) := by
      show some (Rs.nw (cutL (im A) (some (-1)) none)) = _
      rw [cut_end, im, List.length_map, ← List.map_drop, last_drop c]
    have q2 : slcF (rD A) none (some (-1)) = some (.nw (im A.dropLast)) := by
      show some (Rs.nw (cutL (im A) none (some (-1)))) = _
      rw [cut_last, im, im, List.map_dropLast]
    have p1 : sAsg (.nm 1) (sTwo (binF .add) (sSlc (sVar 1) (pOf (sOne negF (sCon (.int 1)))) oNone) (sSlc (sVar 1) oNone (pOf (sOne negF (sCon (.int 1)))))) (gL (r.reverse ++ [v]) A x (.fz j)) s = .ok .nx (gL (r.reverse ++ [v]) (v :: A.dropLast) x (.fz j)) s := by
      have ea : binF .add (rD [v]) (rD A.dropLast) = some (.nw (im (v :: A.dropLast))) := e_addR (by rw [List.length_dropLast]; simp; omega)
      simp only [e_asg, e_two, e_slc, e_onone, e_pof, neg_e, e_var, List.getElem?_cons_zero, List.getElem?_cons_succ, e_varow, settle_sl, settle_nw, bind_ok, peek_sl, peekS_ow, peek_fz, e_one2, q1, q2, optR_some, e_two2, ea]
      rfl
    have p2 : sExp (sMth0 .pop 0) (gL (r.reverse ++ [v]) (v :: A.dropLast) x (.fz j)) s = .ok .nx (gL r.reverse (v :: A.dropLast) x (.fz j)) s := by
      have p : mtF .pop (im (r.reverse ++ [v])) [] = some (.int v, im r.reverse) := by
        show ((im (r.reverse ++ [v]))[(im (r.reverse ++ [v])).length - 1]?).map (fun z => (z, (im (r.reverse ++ [v])).dropLast)) = _
        rw [show im (r.reverse ++ [v]) = im r.reverse ++ [.int v] from by rw [im, im, List.map_append]; rfl]
        simp
      unfold sMth0
      rw [e_exp, e_mth (as := aNil) (xs0 := im (r.reverse ++ [v])) (xs := im (r.reverse ++ [v])) (d := .int v) (ys := im r.reverse) (ds := []) (g1 := gL (r.reverse ++ [v]) (v :: A.dropLast) x (.fz j)) (s1 := s) rfl rfl rfl p]
      rfl
    rw [e_seq, p1]
    simp only [bind_ok]
    rw [p2]
  · rw [if_neg c, show (v != A.getD (A.length - 1) 0) = true from by
      rw [bne_iff_ne]
      exact fun z => c ((last_iff hA v).mpr z.symm)]
    simp only [bind_ok]
theorem fg_loop {x : Sl} {s : Sd} : ∀ (js : List D) (r A : List Int) (y : Sl), A ≠ [] → A.length ≤ 2000 → js.length = r.length → ∃ y', forL (forTurn (.nm 3) fgS) js (gL r.reverse A x y) s = .ok .nx (gL (rollR r A).1 (rollR r A).2 x y') s
  | [], [], A, y, _, _, _ => ⟨y, rfl⟩
  | [], _ :: _, _, _, _, _, h => by simp at h
  | _ :: _, [], _, _, _, _, h => by simp at h
  | j :: js, v :: r, A, y, hA, hl, h => by
    have t := fg_turn (r := r) (x := x) (y := y) (v := v) (j := j) (s := s) hA hl
    rw [List.reverse_cons]
    unfold rollR
    by_cases c : A.getLast? = some v
    · rw [if_pos c] at t
      obtain ⟨y', q⟩ := fg_loop (x := x) (s := s) js r (v :: A.dropLast) (.fz j) (by simp) (by rw [turn_len v hA]; exact hl) (by simpa using h)
      exact ⟨y', by rw [if_pos c, forL_nx t, q]⟩
    · rw [if_neg c] at t
      exact ⟨.fz j, by rw [if_neg c, forL_brk t, List.reverse_cons]⟩
theorem rng_len {n : Nat} (h : n ≤ 2000) : rngF1 [.int (n : Int)] = some ((List.range n).map fun (k : Nat) => .int (0 + (k : Int))) := by
  show (if small (n : Int) then some ((List.range (n : Int).toNat).map fun (k : Nat) => D.int (0 + (k : Int))) else none) = _
  rw [small_nat (by omega), if_pos rfl, Int.toNat_natCast]
theorem s_lf_least {d1 d2 : D} {h a : List Int} {s : Sd} (e1 : d1.seq = some (im h)) (e2 : d2.seq = some (im a)) (ha : a ≠ []) (hl : a.length ≤ 900) (hh : h.length ≤ 900) : ψ__law_f_least [d1, d2] s = .ok (eD (leastF h a).1 (leastF h a).2) false s := by
  unfold ψ__law_f_least
  rw [fn2]
  have h0 : 0 < a.length := List.length_pos_iff.mpr ha
  have p1 : sPar [0, 1] (pCons (sBi (biF .list) (lCons (sVar 0) lNil)) (pCons (sBi (biF .list) (lCons (sVar 1) lNil)) lNil)) (startG 5 [d1, d2]) s = .ok .nx (gL h a .un .un) s := by
    have l1 := seq_list e1
    have l2 := seq_list e2
    have es : startG 5 [d1, d2] = [.fz d1, .fz d2, .un, .un, .un] := rfl
    rw [es]
    simp only [e_par, e_pcons, e_half, e_bi, e_lcons, e_lnil, e_var, List.getElem?_cons_zero, List.getElem?_cons_succ, e_varfz, settle_fz, bind_ok, peeks, peek_fz, e_one2, l1, l2, optR_some, half_nw, halved_some]
    rfl
  have p2 : sAsg (.nm 2) (sTwo (fun x y => (subF x y).map .fz) fpL (sCon (.int 0))) (gL h a .un .un) s = .ok .nx (gL h a (.fz (.int (per a : Nat))) .un) s := by
    have q : subF (.lst (((List.range' 1 (a.length - 1 + 1)).filter (perB a)).map fun (n : Nat) => D.int (n : Int))) (.int 0) = some (.int (per a : Nat)) := by
      have f := filter_ff (p := perB a) (a.length - 1) 1 (by rw [show 1 + (a.length - 1) = a.length from by omega]; exact perB_self ha)
      have hlen : 0 < ((List.range' 1 (a.length - 1 + 1)).filter (perB a)).length := (List.getElem?_eq_some_iff.mp f).1
      show L2.atI _ 0 = _
      unfold L2.atI
      rw [show ixN (((List.range' 1 (a.length - 1 + 1)).filter (perB a)).map fun (n : Nat) => D.int (n : Int)).length 0 = some 0 from by
        unfold ixN
        rw [if_pos (by decide), if_pos (by rw [List.length_map]; omega)]; rfl]
      show (List.map _ _)[0]? = _
      rw [List.getElem?_map, f]; rfl
    rw [e_asg, e_two, fp_l ha (by omega)]
    simp only [settle_nw, bind_ok, e_con, settle_fz, peek_fz, e_two2, q, Option.map_some, optR_some]
    rfl
  have p3 : sAsg (.nm 1) (sSlc (sVar 1) oNone (pOf (sVar 2))) (gL h a (.fz (.int (per a : Nat))) .un) s = .ok .nx (gL h (root a) (.fz (.int (per a : Nat))) .un) s := by
    simp only [e_asg, e_slc, e_onone, e_pof, e_var, List.getElem?_cons_zero, List.getElem?_cons_succ, e_varfz, e_varow, settle_sl, bind_ok, peek_sl, peekS_ow, e_one2, e_to, optR_some]
    rfl
  have it : iRngF rngF1 (aCons (sBi (biF .len) (lCons (sVar 0) lNil)) aNil) (gL h (root a) (.fz (.int (per a : Nat))) .un) s = .ok ((List.range h.length).map fun (k : Nat) => D.int (0 + (k : Int))) (gL h (root a) (.fz (.int (per a : Nat))) .un) s := by
    simp only [e_irng, e_acons, e_anil, e_bi, e_lcons, e_lnil, e_var, List.getElem?_cons_zero, e_varow, settle_sl, bind_ok, peeks, peek_sl, peekS_ow, e_one2, e_len, optR_some, keep_fz, rng_len (show h.length ≤ 2000 from by omega), optD_some]
  obtain ⟨y', lp⟩ := fg_loop (x := .fz (.int (per a : Nat))) (s := s) ((List.range h.length).map fun (k : Nat) => D.int (0 + (k : Int))) h.reverse (root a) .un (root_ne ha) (by rw [root_len ha]; have := (per_spec ha).2.2.1; omega) (by simp)
  rw [List.reverse_reverse] at lp
  show finish (sSeq _ (sSeq (sAsg (.nm 2) (sTwo (fun x y => (subF x y).map .fz) fpL (sCon (.int 0)))) (sSeq _ (sSeq (sFor (.nm 3) _ fgS) _))) _ _) = _
  rw [e_seq, p1]
  simp only [bind_ok]
  rw [e_seq, p2]
  simp only [bind_ok]
  rw [e_seq, p3]
  simp only [bind_ok]
  rw [e_seq, e_for, it]
  simp only [bind_ok]
  rw [lp]
  rfl
end K14
end
section
set_option Elab.async false
set_option linter.all false
set_option maxRecDepth 100000
set_option maxHeartbeats 4000000
/-! PN11: the law's own figures and what is beneath. -/
namespace K14
open PySem L2 DI
theorem s_lf_tops {h a : List Int} {n : Nat} {s : Sd} (ha : a ≠ []) (hh : h.length ≤ 900) (hn : n ≤ 900) (hl : a.length * n ≤ 4000) : ψ__law_f_tops [eD h a, .int (n : Int)] s = .ok (rD (figs h a n)) true s := by
  have h0 : 0 < a.length := List.length_pos_iff.mpr ha
  unfold ψ__law_f_tops
  rw [fn2]
  have p1 : sAsg (.cons (.nm 2) (.cons (.nm 3) .nil)) (sVar 0) [.fz (eD h a), .fz (.int (n : Int)), .un, .un] s = .ok .nx [.fz (eD h a), .fz (.int (n : Int)), .fz (rD h), .fz (rD a)] s := rfl
  have l1 := seq_list (d := rD h) rfl
  have l2 := seq_list (d := rD a) rfl
  have m1 := e_mul (A := a) (n := n) (by omega) (by omega)
  have a1 := e_addR (xs := h) (ys := rep n a) (by rw [rep_len, Nat.mul_comm]; omega)
  have ef : (h ++ rep n a).take n = figs h a n := figs_take ha (by rw [List.length_append, rep_len]; have := Nat.le_mul_of_pos_right n h0; omega)
  show finish (sSeq _ _ [.fz (eD h a), .fz (.int (n : Int)), .un, .un] s) = _
  rw [e_seq, p1]
  simp only [bind_ok, e_ret, e_slc, e_onone, e_pof, e_two, e_bi, e_lcons, e_lnil, e_var, List.getElem?_cons_zero, List.getElem?_cons_succ, e_varfz, settle_fz, settle_nw, peeks, peek_fz, e_one2, l1, l2, optR_some, e_two2, m1, a1, e_to, ef, fin_ret, fin_nw]
theorem s_lf_beneath {h a : List Int} {n : Nat} {s : Sd} (ha : a ≠ []) (hl : a.length ≤ 900) (c : ¬ n ≤ h.length) : ψ__law_f_beneath [eD h a, .int (n : Int)] s = .ok (eD (lowP h a n).1 (lowP h a n).2) false s := by
  have h0 : 0 < a.length := List.length_pos_iff.mpr ha
  unfold ψ__law_f_beneath
  rw [fn2]
  have p1 : sAsg (.cons (.nm 2) (.cons (.nm 3) .nil)) (sVar 0) [.fz (eD h a), .fz (.int (n : Int)), .un, .un, .un] s = .ok .nx (gB (eD h a) n h a .un) s := rfl
  have i1 : ∀ k : Nat, biF .int [.int (k : Int)] = some (.fz (.int (k : Int))) := fun _ => rfl
  have p3 : sAsg (.nm 4) (sTwo (binF .mod) (sBi (biF .int) (lCons (sTwo (binF .sub) (sVar 1) (sBi (biF .len) (lCons (sVar 2) lNil))) lNil)) (sBi (biF .len) (lCons (sVar 3) lNil))) (gB (eD h a) n h a .un) s = .ok .nx (gB (eD h a) n h a (.fz (.int (((n - h.length) % a.length : Nat) : Int)))) s := by
    simp only [e_asg, e_two, e_bi, e_lcons, e_lnil, e_var, List.getElem?_cons_zero, List.getElem?_cons_succ, e_varfz, settle_fz, bind_ok, peeks, peek_fz, e_one2, e_len, optR_some, e_two2, e_sub (show h.length ≤ n from by omega), i1, e_mod h0]
    rfl
  have rl := rot_len (a := a) (Nat.mod_lt (n - h.length) h0)
  have l2 := seq_list (d := rD a) rfl
  have e5 : sLst aNil (gB (eD h a) n h a (.fz (.int (((n - h.length) % a.length : Nat) : Int)))) s = .ok (.nw []) (gB (eD h a) n h a (.fz (.int (((n - h.length) % a.length : Nat) : Int)))) s := rfl
  have ef : lowP h a n = ([], a.drop ((n - h.length) % a.length) ++ a.take ((n - h.length) % a.length)) := by unfold lowP; rw [if_neg c]
  rw [ef]
  show finish (sSeq _ (sSeq _ _) [.fz (eD h a), .fz (.int (n : Int)), .un, .un, .un] s) = _
  rw [e_seq, p1]
  simp only [bind_ok]
  rw [e_seq, p3]
  simp only [bind_ok, e_ret, e_tup, e_acons, e_anil, e5, keep_nw, e_two, e_slc, e_onone, e_pof, e_bi, e_lcons, e_lnil, e_var, List.getElem?_cons_zero, List.getElem?_cons_succ, e_varfz, settle_fz, settle_nw, peeks, peek_fz, e_one2, l2, e_from, e_to, optR_some, e_two2, e_addR (show (a.drop ((n - h.length) % a.length)).length + (a.take ((n - h.length) % a.length)).length ≤ 5000 from by rw [← List.length_append, rl]; omega)]
  rfl
theorem s_lf_below {h a : List Int} {n : Nat} {s : Sd} (ha : a ≠ []) (hh : h.length ≤ 900) (hl : a.length ≤ 900) : ψ__law_below [eD h a, .int (n : Int)] s = .ok (eD (lowF h a n).1 (lowF h a n).2) false s := by
  unfold ψ__law_below
  rw [fn2]
  have t1 : tOf (sCmp .le (sVar 1) (sBi (biF .len) (lCons (sTwo (fun x y => (subF x y).map .fz) (sVar 0) (sCon (.int 0))) lNil))) [.fz (eD h a), .fz (.int (n : Int)), .un] s = .ok (decide (n ≤ h.length)) [.fz (eD h a), .fz (.int (n : Int)), .un] s := by
    simp only [sCmp, e_tof, e_two, e_bi, e_lcons, e_lnil, e_con, e_var, List.getElem?_cons_zero, List.getElem?_cons_succ, e_varfz, settle_fz, bind_ok, peeks, peek_fz, e_one2, e_two2, sub0, Option.map_some, optR_some, e_len, e_le]
  show finish (sSeq (sIff _ _ _) (sSeq _ _) [.fz (eD h a), .fz (.int (n : Int)), .un] s) = _
  rw [e_seq, e_iff, t1]
  simp only [bind_ok]
  by_cases c : n ≤ h.length
  · rw [decide_eq_true c]
    have ef : lowF h a n = leastF (h.drop n) a := by unfold lowF lowP; rw [if_pos c]
    have c2 := callG_ok (g := [.fz (eD h a), .fz (.int (n : Int)), .un]) (s_lf_least (s := s) (d1 := rD (h.drop n)) (d2 := rD a) rfl rfl ha hl (by rw [List.length_drop]; omega))
    simp only [e_ret, e_call, e_acons, e_anil, e_two, e_con, e_slc, e_onone, e_pof, e_var, List.getElem?_cons_zero, List.getElem?_cons_succ, e_varfz, settle_fz, keep_fz, keep_nw, bind_ok, peek_fz, e_one2, e_two2, sub0, sub1, Option.map_some, e_from, optR_some, c2, fin_ret, fin_fz, ef]
  · rw [decide_eq_false c]
    have c1 := callG_ok (g := [.fz (eD h a), .fz (.int (n : Int)), .un]) (s_lf_beneath (n := n) (s := s) ha hl c)
    have ln := low_len (h := h) n ha
    have c2 := callG_ok (g := [.fz (eD h a), .fz (.int (n : Int)), .fz (eD (lowP h a n).1 (lowP h a n).2)]) (s_lf_least (s := s) (d1 := rD (lowP h a n).1) (d2 := rD (lowP h a n).2) rfl rfl (low_ne n ha) (by omega) (by omega))
    have p2 : sAsg (.nm 2) (sCall (callG ψ__law_f_beneath) (aCons (sVar 0) (aCons (sVar 1) aNil))) [.fz (eD h a), .fz (.int (n : Int)), .un] s = .ok .nx [.fz (eD h a), .fz (.int (n : Int)), .fz (eD (lowP h a n).1 (lowP h a n).2)] s := by
      simp only [e_asg, e_call, e_acons, e_anil, e_var, List.getElem?_cons_zero, List.getElem?_cons_succ, e_varfz, keep_fz, bind_ok, c1]
      rfl
    simp only [bind_ok]
    rw [e_seq, p2]
    simp only [bind_ok, e_ret, e_call, e_acons, e_anil, e_two, e_con, e_var, List.getElem?_cons_zero, List.getElem?_cons_succ, e_varfz, settle_fz, peek_fz, e_two2, sub0, sub1, Option.map_some, optR_some, keep_fz, c2, fin_ret, fin_fz]
    rfl
/-! draws -/
/-- k draws are left -/
def Bud (s : Sd) (k : Nat) : Prop := s.Ok ∧ s.cnt + k ≤ 1099511627776
theorem Bud.le {s : Sd} {k j : Nat} (h : Bud s k) (q : j ≤ k) : Bud s j := ⟨h.1, by have := h.2; omega⟩
theorem draw_of {s : Sd} {k : Nat} {many : Int} (h : Bud s (k + 1)) (h0 : 0 < many) (h1 : many < 1073741824) : ∃ (v : Nat) (s' : Sd), (v : Int) < many ∧ Bud s' k ∧ ψDraw [.strm, .int many] s = .ok (.int (v : Int)) false s' := by
  have ok : drawOk s many := ⟨h.1, h0, h1, by have := h.2; omega⟩
  obtain ⟨a, b, c, d⟩ := drawF_ok ok
  refine ⟨(drawF s many).1.toNat, (drawF s many).2, by omega, ⟨c, by rw [d]; have := h.2; omega⟩, ?_⟩
  rw [show (((drawF s many).1.toNat : Nat) : Int) = (drawF s many).1 from by omega]
  exact if_pos ok
theorem bits_app {xs ys : List Int} (h1 : Bits xs) (h2 : Bits ys) : Bits (xs ++ ys) := fun i hi => (List.mem_append.mp hi).elim (h1 i) (h2 i)
abbrev rowE : Ga → Sd → Out Rs := sCall (callG ψDraw) (aCons (sVar 0) (aCons (sCon (.int 2)) aNil))
theorem lc_row {m : Int} : ∀ (js : List D) (acc : List Int) (s : Sd) (k : Nat), Bud s (k + js.length) → acc.length + js.length ≤ 900 → Bits acc →
    ∃ xs s', lcL (lcTurn [2] (.nm 2) (fun g s => .ok true g s) rowE) js (im acc) [.fz .strm, .fz (.int m), .un] s = .ok (im xs) [.fz .strm, .fz (.int m), .un] s' ∧ xs.length = acc.length + js.length ∧ Bits xs ∧ Bud s' k
  | [], acc, s, k, hb, _, ab => ⟨acc, s, rfl, rfl, ab, hb⟩
  | j :: js, acc, s, k, hb, hl, ab => by
    obtain ⟨v, s1, v1, b1, dr⟩ := draw_of (s := s) (k := k + js.length) (many := 2) hb (by decide) (by decide)
    have c1 := callG_ok (g := [.fz .strm, .fz (.int m), .fz j]) dr
    have e : lcTurn [2] (.nm 2) (fun g s => .ok true g s) rowE j [.fz .strm, .fz (.int m), .un] s = .ok (some (.int (v : Int))) [.fz .strm, .fz (.int m), .un] s1 := by
      unfold lcTurn
      rw [show bindT (.nm 2) j [.fz .strm, .fz (.int m), .un] = some [.fz .strm, .fz (.int m), .fz j] from rfl]
      simp only
      unfold rowE
      simp only [e_call, e_acons, e_anil, e_con, e_var, List.getElem?_cons_zero, e_varfz, keep_fz, bind_ok, c1]
      rfl
    have vb : Bits [(v : Int)] := fun i hi => by
      rw [List.mem_singleton.mp hi]; omega
    obtain ⟨xs, s', q1, q2, q3, q4⟩ := lc_row (m := m) js (acc ++ [(v : Int)]) s1 k b1 (by simp at hl ⊢; omega) (bits_app ab vb)
    refine ⟨xs, s', ?_, by rw [q2]; simp; omega, q3, q4⟩
    unfold lcL
    rw [e]
    show (if (im acc).length < sizeLine then lcL _ js (im acc ++ [D.int (v : Int)]) _ s1 else .bad) = _
    rw [if_pos (Nat.lt_of_lt_of_le (by rw [im, List.length_map]; simp at hl; omega : (im acc).length < 1000) (by decide))]
    rw [show im acc ++ [D.int (v : Int)] = im (acc ++ [(v : Int)]) from by rw [im, im, List.map_append]; rfl]
    exact q1
theorem s_f_row {m k : Nat} {s : Sd} (hm : m ≤ 100) (hb : Bud s (k + m + 1)) : ∃ xs s', ψ__law_f_row [.strm, .int (m : Int)] s = .ok (rD xs) true s' ∧ xs.length ≤ m ∧ Bits xs ∧ Bud s' k := by
  unfold ψ__law_f_row
  rw [fn2]
  obtain ⟨v, s1, v1, b1, dr⟩ := draw_of (s := s) (k := k + m) (many := ((m + 1 : Nat) : Int)) hb (by omega) (by omega)
  have c1 := callG_ok (g := [.fz .strm, .fz (.int (m : Int)), .un]) dr
  obtain ⟨xs, s2, q1, q2, q3, q4⟩ := lc_row (m := (m : Int)) ((List.range v).map fun (k : Nat) => D.int (0 + (k : Int))) [] s1 k (b1.le (by simp; omega)) (by simp; omega) (fun i hi => by cases hi)
  refine ⟨xs, s2, ?_, by simp at q2; omega, q3, q4⟩
  have q1' : binF .add (.int (m : Int)) (.int 1) = some (.fz (.int ((m + 1 : Nat) : Int))) := rfl
  have it : iRngF rngF1 (aCons (sCall (callG ψDraw) (aCons (sVar 0) (aCons (sTwo (binF .add) (sVar 1) (sCon (.int 1))) aNil))) aNil) [.fz .strm, .fz (.int (m : Int)), .un] s = .ok ((List.range v).map fun (k : Nat) => D.int (0 + (k : Int))) [.fz .strm, .fz (.int (m : Int)), .un] s1 := by
    simp only [e_irng, e_call, e_acons, e_anil, e_two, e_con, e_var, List.getElem?_cons_zero, List.getElem?_cons_succ, e_varfz, settle_fz, keep_fz, bind_ok, peek_fz, e_two2, q1', optR_some, c1, rng_len (show v ≤ 2000 from by omega), optD_some]
  show finish (sRet (sLc [2] _ (.nm 2) (fun g s => .ok true g s) rowE) [.fz .strm, .fz (.int (m : Int)), .un] s) = _
  rw [e_ret, e_lc, it]
  simp only [bind_ok]
  rw [show wipeG [.fz .strm, .fz (.int (m : Int)), .un] [2] = [.fz .strm, .fz (.int (m : Int)), .un] from rfl, show ([] : List D) = im [] from rfl, q1]
  rfl
theorem s_f_endless {k : Nat} {s : Sd} (hb : Bud s (k + 10)) : ∃ h a s', ψ__law_f_endless [.strm] s = .ok (eD h a) false s' ∧ h.length ≤ 4 ∧ a ≠ [] ∧ a.length ≤ 4 ∧ Bits h ∧ Bits a ∧ Bud s' k := by
  unfold ψ__law_f_endless
  rw [fn1]
  obtain ⟨h, s1, q1, q2, q3, q4⟩ := s_f_row (m := 4) (k := k + 5) (s := s) (by omega) (hb.le (by omega))
  obtain ⟨v, s2, v1, b1, dr⟩ := draw_of (s := s1) (k := k + 4) (many := 2) q4 (by decide) (by decide)
  obtain ⟨a, s3, r1, r2, r3, r4⟩ := s_f_row (m := 3) (k := k) (s := s2) (by omega) (b1.le (by omega))
  have vb : Bits [(v : Int)] := fun i hi => by
    rw [List.mem_singleton.mp hi]; omega
  refine ⟨h, (v : Int) :: a, s3, ?_, q2, by simp, by simp; omega, q3, bits_app vb r3, r4⟩
  have c1 := callG_lst (g := [.fz .strm]) q1
  have c2 := callG_ok (g := [.fz .strm]) dr
  have c3 := callG_lst (g := [.fz .strm]) r1
  have a1 : binF .add (.lst [.int (v : Int)]) (rD a) = some (.nw (im ((v : Int) :: a))) := e_addR (xs := [(v : Int)]) (by simp; omega)
  have c1 : callG ψ__law_f_row [.strm, .int 4] [.fz .strm] s = .ok (.nw (im h)) [.fz .strm] s1 := c1
  have c3 : callG ψ__law_f_row [.strm, .int 3] [.fz .strm] s2 = .ok (.nw (im a)) [.fz .strm] s3 := c3
  show finish (sRet _ [.fz .strm] s) = _
  simp only [e_ret, e_tup, e_acons, e_anil, e_call, e_two, e_lst, e_con, e_var, List.getElem?_cons_zero, e_varfz, keep_fz, keep_nw, settle_nw, bind_ok, c1, c2, show lineOk [D.int (v : Int)].length = true from line_le (n := 1) (by omega), if_true, c3, peek_fz, e_two2, a1, optR_some]
  rfl
end K14
end
section
set_option Elab.async false
set_option linter.all false
set_option maxRecDepth 100000
set_option maxHeartbeats 4000000
/-! PN12: loosening; a row as it is told. -/
namespace K14
open PySem L2 DI
theorem callG_any {ψ : List D → Sd → FOut} {ds : List D} {d : D} {fr : Bool} {g : Ga} {s s' : Sd} (h : ψ ds s = .ok d fr s') : (callG ψ ds g s).keep = .ok d g s' := by
  unfold callG
  rw [h]
  cases fr <;> cases d <;> rfl
abbrev gO (d : D) (x2 : Sl) : Ga := [.fz .strm, .fz d, x2, .un, .un]
abbrev cLoose (r : List D → Sd → FOut) : Ga → Sd → Out Rs := sLc [4] (iSeqF (sVar 1)) (.nm 4) (fun g s => .ok true g s) (sCall (callG r) (aCons (sVar 0) (aCons (sVar 4) aNil)))
inductive All2 (R : D → D → Prop) : List D → List D → Prop
  | nil : All2 R [] []
  | cons {x y : D} {xs ys : List D} : R x y → All2 R xs ys → All2 R (x :: xs) (y :: ys)
theorem loose_eq {n : Nat} {d : D} {s : Sd} : ψ__law_loose (n + 1) [.strm, d] s = DI.finish ((sSeq (sIff (tOf (sOne (isiF [.dict]) (sVar 1))) (sRet (sBiK dictF (aCons (sLc [3] (iSeqF (sCall (callG ψ__law_mixed) (aCons (sVar 0) (aCons (sBi (biF .list) (lCons (sVar 1) lNil)) aNil)))) (.nm 3) (fun g s => .ok true g s) (sTup (aCons (sVar 3) (aCons (sCall (callG (ψ__law_loose n)) (aCons (sVar 0) (aCons (sTwo (fun x y => (subF x y).map .fz) (sVar 1) (sVar 3)) aNil))) aNil)))) aNil))) (fun g s => .ok .nx g s))
    (sSeq (sIff (tNotF (tOf (sOne (isiF [.list, .tuple]) (sVar 1)))) (sRet (sVar 1)) (fun g s => .ok .nx g s))
    (sSeq (sAsg (.nm 2) (cLoose (ψ__law_loose n)))
    (sRet (sIte (tOf (sCmp .eq (sCall (callG ψDraw) (aCons (sVar 0) (aCons (sCon (.int 3)) aNil))) (sCon (.int 0)))) (sVar 2) (sBi (biF .tuple) (lCons (sVar 2) lNil))))))) (gO d .un) s) := rfl
theorem lc_loose {r : List D → Sd → FOut} {R : D → D → Prop} {c : Nat} {d : D} : ∀ (xs acc : List D) (s : Sd) (k : Nat), (∀ x ∈ xs, ∀ s k, Bud s (k + c) → ∃ y fr s', r [.strm, x] s = .ok y fr s' ∧ R x y ∧ Bud s' k) → Bud s (k + c * xs.length) → acc.length + xs.length ≤ sizeLine →
    ∃ ys s', lcL (lcTurn [4] (.nm 4) (fun g s => .ok true g s) (sCall (callG r) (aCons (sVar 0) (aCons (sVar 4) aNil)))) xs acc (gO d .un) s = .ok (acc ++ ys) (gO d .un) s' ∧ All2 R xs ys ∧ Bud s' k
  | [], acc, s, k, _, hb, _ => ⟨[], s, by rw [List.append_nil]; rfl, .nil, by simpa using hb⟩
  | x :: xs, acc, s, k, hx, hb, hl => by
    have e1 : k + c * (x :: xs).length = (k + c * xs.length) + c := by rw [List.length_cons, Nat.mul_succ]; omega
    rw [e1] at hb
    obtain ⟨y, fr, s1, h1, h2, h3⟩ := hx x List.mem_cons_self s _ hb
    have e2 : lcTurn [4] (.nm 4) (fun g s => .ok true g s) (sCall (callG r) (aCons (sVar 0) (aCons (sVar 4) aNil))) x (gO d .un) s = .ok (some y) (gO d .un) s1 := by
      unfold lcTurn
      have q := callG_any (g := [.fz .strm, .fz d, .un, .un, .fz x]) h1
      rw [show bindT (.nm 4) x (gO d .un) = some [.fz .strm, .fz d, .un, .un, .fz x] from rfl]
      simp only
      rw [show sCall (callG r) (aCons (sVar 0) (aCons (sVar 4) aNil)) [.fz .strm, .fz d, .un, .un, .fz x] s = callG r [.strm, x] [.fz .strm, .fz d, .un, .un, .fz x] s from rfl, q]
      rfl
    have hl' : acc.length < sizeLine := by simp at hl; omega
    obtain ⟨ys, s', i1, i2, i3⟩ := lc_loose xs (acc ++ [y]) s1 k (fun z hz => hx z (List.mem_cons_of_mem _ hz)) h3 (by simp at hl ⊢; omega)
    refine ⟨y :: ys, s', ?_, .cons h2 i2, i3⟩
    unfold lcL
    rw [e2]
    show (if acc.length < sizeLine then lcL _ xs (acc ++ [y]) (gO d .un) s1 else .bad) = _
    rw [if_pos hl', i1, List.append_assoc]
    rfl
theorem seq_nodict {d : D} {xs : List D} (h : d.seq = some xs) : isiF [.dict] d = some (.fz (.bl false)) := by
  rcases seq_cases h with rfl | rfl <;> rfl
theorem loose_step {n c : Nat} {d : D} {xs : List D} {R : D → D → Prop} {s : Sd} {k : Nat} (e : d.seq = some xs) (hR : ∀ x ∈ xs, ∀ s k, Bud s (k + c) → ∃ y fr s', ψ__law_loose n [.strm, x] s = .ok y fr s' ∧ R x y ∧ Bud s' k) (hl : xs.length ≤ 2000) (hb : Bud s (k + 1 + c * xs.length)) :
    ∃ z fr s' ys, ψ__law_loose (n + 1) [.strm, d] s = .ok z fr s' ∧ z.seq = some ys ∧ All2 R xs ys ∧ Bud s' k := by
  rw [loose_eq]
  obtain ⟨ys, s1, i1, i2, i3⟩ := lc_loose (d := d) xs [] s (k + 1) hR hb (by simp; exact Nat.le_trans hl (by decide))
  simp only [List.nil_append] at i1
  obtain ⟨v, s2, v1, b2, dr⟩ := draw_of i3 (many := 3) (by decide) (by decide)
  have e2 := seq_nodict e
  have e3 := seq_isi e
  have e4 := seq_items e
  have c1 : cLoose (ψ__law_loose n) (gO d .un) s = .ok (.nw ys) (gO d .un) s1 := by
    unfold cLoose
    rw [e_lc, show iSeqF (sVar 1) (gO d .un) s = .ok xs (gO d .un) s from by
      simp only [e_iseq, e_var, List.getElem?_cons_zero, List.getElem?_cons_succ, e_varfz, keep_fz, bind_ok, e4, optD_some], bind_ok]
    rw [show wipeG (gO d .un) [4] = gO d .un from rfl, i1]
    rfl
  have t1 : tOf (sOne (isiF [.dict]) (sVar 1)) (gO d .un) s = .ok false (gO d .un) s := by
    simp only [e_tof, e_one, e_var, List.getElem?_cons_zero, List.getElem?_cons_succ, e_varfz, settle_fz, bind_ok, peek_fz, e_one2, e2, optR_some]
  have t2 : tNotF (tOf (sOne (isiF [.list, .tuple]) (sVar 1))) (gO d .un) s = .ok false (gO d .un) s := by
    simp only [e_tnot, e_tof, e_one, e_var, List.getElem?_cons_zero, List.getElem?_cons_succ, e_varfz, settle_fz, bind_ok, peek_fz, e_one2, e3, optR_some, Bool.not_true]
  have t3 : tOf (sCmp .eq (sCall (callG ψDraw) (aCons (sVar 0) (aCons (sCon (.int 3)) aNil))) (sCon (.int 0))) (gO d (.ow ys)) s1 = .ok ((v : Int) == 0) (gO d (.ow ys)) s2 := by
    unfold sCmp
    rw [e_tof, e_two, show sCall (callG ψDraw) (aCons (sVar 0) (aCons (sCon (.int 3)) aNil)) (gO d (.ow ys)) s1 = .ok (.fz (.int (v : Int))) (gO d (.ow ys)) s2 from callG_ok dr]
    simp only [settle_fz, bind_ok, e_con, peek_fz, e_two2, c_eqi, Option.map_some, optR_some]
  rw [e_seq, e_iff, t1]
  simp only [bind_ok]
  rw [e_seq, e_iff, t2]
  simp only [bind_ok]
  rw [e_seq, e_asg, c1]
  simp only [bind_ok]
  rw [show asgTo (.nm 2) (.nw ys) (gO d .un) s1 = .ok .nx (gO d (.ow ys)) s1 from rfl]
  simp only [bind_ok]
  rw [e_ret, e_ite, t3]
  simp only [bind_ok]
  cases (v : Int) == 0 with
  | true => exact ⟨.lst ys, true, s2, ys, rfl, rfl, i2, b2⟩
  | false => exact ⟨.tup ys, false, s2, ys, rfl, rfl, i2, b2⟩
theorem loose_int {n : Nat} {i : Int} {s : Sd} : ψ__law_loose (n + 1) [.strm, .int i] s = .ok (.int i) false s := rfl
theorem all2_eq : ∀ {xs ys : List D}, All2 (fun x y => y = x) xs ys → ys = xs
  | _, _, .nil => rfl
  | _, _, .cons h t => by rw [h, all2_eq t]
/-- a row of ints comes back as a row of the same ints -/
theorem loose_row {n : Nat} {d : D} {xs : List Int} {s : Sd} {k : Nat} (e : d.seq = some (im xs)) (hl : xs.length ≤ 2000) (hb : Bud s (k + 1)) : ∃ z fr s', ψ__law_loose (n + 2) [.strm, d] s = .ok z fr s' ∧ z.seq = some (im xs) ∧ Bud s' k := by
  obtain ⟨z, fr, s', ys, h1, h2, h3, h4⟩ := loose_step (n := n + 1) (c := 0) (R := fun x y => y = x) (k := k) e (fun x hx s k hb => by
    obtain ⟨i, _, rfl⟩ := List.mem_map.mp hx
    exact ⟨.int i, false, s, loose_int, rfl, hb⟩) (by rw [im, List.length_map]; exact hl) (by simpa using hb)
  exact ⟨z, fr, s', h1, by rw [h2, all2_eq h3], h4⟩
theorem loose_pair {n : Nat} {h a : List Int} {s : Sd} {k : Nat} (hh : h.length ≤ 2000) (hl : a.length ≤ 2000) (hb : Bud s (k + 3)) : ∃ z fr s' x y, ψ__law_loose (n + 3) [.strm, eD h a] s = .ok z fr s' ∧ z.seq = some [x, y] ∧ x.seq = some (im h) ∧ y.seq = some (im a) ∧ Bud s' k := by
  obtain ⟨z, fr, s', ys, h1, h2, h3, h4⟩ := loose_step (n := n + 2) (c := 1) (R := fun x y => ∀ xs : List Int, x = rD xs → y.seq = some (im xs)) (k := k) (d := eD h a) (xs := [rD h, rD a]) rfl (fun x hx s k hb => by
    have hx' : x = rD h ∨ x = rD a := by simpa using hx
    rcases hx' with rfl | rfl
    · obtain ⟨z, fr, s', q1, q2, q3⟩ := loose_row (n := n) (d := rD h) (xs := h) rfl hh hb
      exact ⟨z, fr, s', q1, fun xs e => by rw [q2]; injection e with e; rw [e], q3⟩
    · obtain ⟨z, fr, s', q1, q2, q3⟩ := loose_row (n := n) (d := rD a) (xs := a) rfl hl hb
      exact ⟨z, fr, s', q1, fun xs e => by rw [q2]; injection e with e; rw [e], q3⟩) (by show 2 ≤ 2000; decide) (by simpa using hb)
  cases h3 with
  | cons r1 t =>
    cases t with
    | cons r2 t =>
      cases t
      exact ⟨z, fr, s', _, _, h1, h2, r1 h rfl, r2 a rfl, h4⟩
end K14
end
section
set_option Elab.async false
set_option linter.all false
set_option maxRecDepth 100000
set_option maxHeartbeats 4000000
/-! PN13: a row told in another form. -/
namespace K14
open PySem L2 DI
theorem fig_rot {h a : List Int} (ha : a ≠ []) (n : Nat) : fig (h ++ a.take 1) (a.drop 1 ++ a.take 1) n = fig h a n := by
  cases a with
  | nil => exact absurd rfl ha
  | cons x a =>
    have q := fig_turn (r := h) (a := a ++ [x]) (x := x) (by simp) n
    rw [List.dropLast_concat] at q
    exact q
theorem fig_rep {h a : List Int} {k : Nat} (hk : 0 < k) (ha : a ≠ []) (n : Nat) : fig h (rep k a) n = fig h a n := by
  have h0 : 0 < a.length := List.length_pos_iff.mpr ha
  by_cases c : n < h.length
  · rw [fig_lo c, fig_lo c]
  · obtain ⟨j, rfl⟩ := Nat.exists_eq_add_of_le (Nat.le_of_not_lt c)
    have kp : 0 < k * a.length := Nat.mul_pos hk h0
    rw [fig_hi, fig_hi, rep_len, rep_getD _ _ _ (Nat.mod_lt _ kp)]
    congr 1
    rw [Nat.mul_comm]
    exact Nat.mod_mul_right_mod j a.length k
theorem rep_bits {k : Nat} {a : List Int} (h : Bits a) : Bits (rep k a) := by
  induction k with
  | zero => exact fun i hi => by cases hi
  | succ k ih => rw [rep_succ]; exact bits_app h ih
theorem rep_ne {k : Nat} {a : List Int} (hk : 0 < k) (ha : a ≠ []) : rep k a ≠ [] := fun z => by
  have h0 : 0 < a.length := List.length_pos_iff.mpr ha
  have := rep_len k a
  rw [z] at this
  have := Nat.mul_pos hk h0
  simp at *
  omega
abbrev gT (row : D) (H A : List Int) (y : Sl) : Ga := [.fz .strm, .fz row, .ow (im H), .ow (im A), y]
abbrev rotS : Ga → Sd → Out DI.Flow := sPar [2, 3] (pCons (sTwo (binF .add) (sVar 2) (sSlc (sVar 3) oNone (pOf (sCon (.int 1))))) (pCons (sTwo (binF .add) (sSlc (sVar 3) (pOf (sCon (.int 1))) oNone) (sSlc (sVar 3) oNone (pOf (sCon (.int 1))))) lNil))
theorem e_to1 (A : List Int) : slcF (rD A) none (some 1) = some (.nw (im (A.take 1))) := e_to A 1
theorem e_from1 (A : List Int) : slcF (rD A) (some 1) none = some (.nw (im (A.drop 1))) := e_from A 1
theorem rot_turn {row : D} {H A : List Int} {y : Sl} {j : D} {s : Sd} (hl : H.length + A.length ≤ 2000) : forTurn (.nm 4) rotS j (gT row H A y) s = .ok .nx (gT row (H ++ A.take 1) (A.drop 1 ++ A.take 1) (.fz j)) s := by
  have e : forTurn (.nm 4) rotS j (gT row H A y) s = rotS (gT row H A (.fz j)) s := rfl
  have a1 := e_addR (xs := H) (ys := A.take 1) (by rw [List.length_take]; omega)
  have a2 := e_addR (xs := A.drop 1) (ys := A.take 1) (by rw [List.length_take, List.length_drop]; omega)
  rw [e]
  unfold rotS
  simp only [e_par, e_pcons, e_half, e_two, e_slc, e_onone, e_pof, e_con, e_var, List.getElem?_cons_zero, List.getElem?_cons_succ, e_varow, settle_sl, settle_nw, bind_ok, peek_sl, peekS_ow, peek_fz, e_one2, e_to1, e_from1, optR_some, e_two2, a1, a2, half_nw, halved_some, e_lnil]
  rfl
theorem rot_loop {row : D} {s : Sd} : ∀ (js : List D) (H A : List Int) (y : Sl), A ≠ [] → Bits H → Bits A → H.length + A.length + js.length ≤ 1000 → ∃ H' A' y', forL (forTurn (.nm 4) rotS) js (gT row H A y) s = .ok .nx (gT row H' A' y') s ∧ A' ≠ [] ∧ Bits H' ∧ Bits A' ∧ A'.length = A.length ∧ H'.length ≤ H.length + js.length ∧ ∀ n, fig H' A' n = fig H A n
  | [], H, A, y, hA, b1, b2, _ => ⟨H, A, y, rfl, hA, b1, b2, rfl, by simp, fun _ => rfl⟩
  | j :: js, H, A, y, hA, b1, b2, hl => by
    have h0 : 0 < A.length := List.length_pos_iff.mpr hA
    have la : (A.drop 1 ++ A.take 1).length = A.length := by rw [List.length_append, List.length_drop, List.length_take]; omega
    have lh : (H ++ A.take 1).length = H.length + 1 := by rw [List.length_append, List.length_take]; omega
    have bt : Bits (A.take 1) := fun i hi => b2 i (List.mem_of_mem_take hi)
    have bd : Bits (A.drop 1) := fun i hi => b2 i (List.mem_of_mem_drop hi)
    obtain ⟨H', A', y', q1, q2, q3, q4, q5, q6, q7⟩ := rot_loop (row := row) (s := s) js (H ++ A.take 1) (A.drop 1 ++ A.take 1) (.fz j) (fun z => by rw [z] at la; simp at la; omega) (bits_app b1 bt) (bits_app bd bt) (by rw [la, lh]; simp at hl; omega)
    refine ⟨H', A', y', ?_, q2, q3, q4, by rw [q5, la], by rw [lh] at q6; simp; omega, fun n => by rw [q7, fig_rot hA]⟩
    rw [forL_nx (rot_turn (by omega)), q1]
theorem s_as_told {h a : List Int} {s : Sd} {k : Nat} (hh : h.length ≤ 4) (hb : Bits h) (ha : a ≠ []) (ab : Bits a) (hl : a.length ≤ 4) (hbud : Bud s (k + 5)) :
    ∃ z fr s' h' a', ψ__law_f_as_told [.strm, eD h a] s = .ok z fr s' ∧ Tell z h' a' ∧ (∀ n, fig h' a' n = fig h a n) ∧ h'.length ≤ 6 ∧ a'.length ≤ 8 ∧ Bud s' k := by
  unfold ψ__law_f_as_told
  rw [fn2]
  have l1 := seq_list (d := rD h) rfl
  have l2 := seq_list (d := rD a) rfl
  have p1 : sPar [2, 3] (pCons (sBi (biF .list) (lCons (sTwo (fun x y => (subF x y).map .fz) (sVar 1) (sCon (.int 0))) lNil)) (pCons (sBi (biF .list) (lCons (sTwo (fun x y => (subF x y).map .fz) (sVar 1) (sCon (.int 1))) lNil)) lNil)) [.fz .strm, .fz (eD h a), .un, .un, .un] s = .ok .nx (gT (eD h a) h a .un) s := by
    simp only [e_par, e_pcons, e_half, e_bi, e_lcons, e_lnil, e_two, e_con, e_var, List.getElem?_cons_zero, List.getElem?_cons_succ, e_varfz, settle_fz, bind_ok, peek_fz, e_two2, sub0, sub1, Option.map_some, optR_some, peeks, e_one2, l1, l2, half_nw, halved_some]
    rfl
  obtain ⟨v, s1, v1, b1, d1⟩ := draw_of (s := s) (k := k + 4) (many := 3) hbud (by decide) (by decide)
  have c1 := callG_ok (g := gT (eD h a) h a .un) d1
  have it : iRngF rngF1 (aCons (sCall (callG ψDraw) (aCons (sVar 0) (aCons (sCon (.int 3)) aNil))) aNil) (gT (eD h a) h a .un) s = .ok ((List.range v).map fun (k : Nat) => D.int (0 + (k : Int))) (gT (eD h a) h a .un) s1 := by
    simp only [e_irng, e_call, e_acons, e_anil, e_con, e_var, List.getElem?_cons_zero, e_varfz, keep_fz, bind_ok, c1, rng_len (show v ≤ 2000 from by omega), optD_some]
  obtain ⟨H, A, y, q1, q2, q3, q4, q5, q6, q7⟩ := rot_loop (row := eD h a) (s := s1) ((List.range v).map fun (k : Nat) => D.int (0 + (k : Int))) h a .un ha hb ab (by simp; omega)
  have q6' : H.length ≤ 6 := by simp at q6; omega
  obtain ⟨v2, s2, v3, b2, d2⟩ := draw_of (s := s1) (k := k + 3) (many := 2) b1 (by decide) (by decide)
  have c2 := callG_ok (g := [.fz .strm, .fz (eD h a), .fz (rD H), .ow (im A), y]) d2
  have rl : (rep (1 + v2) A).length ≤ 8 := by
    rw [rep_len, q5]
    have : (1 + v2) * a.length ≤ 2 * 4 := Nat.mul_le_mul (by omega) hl
    omega
  obtain ⟨z, fr, s3, x, w, r1, r2, r3, r4, r5⟩ := loose_pair (n := 5) (h := H) (a := rep (1 + v2) A) (s := s2) (k := k) (by omega) (by omega) b2
  suffices key : ∃ fr', DI.finish (b__law_f_as_told (startG 5 [.strm, eD h a]) s) = .ok z fr' s3 from by
    obtain ⟨fr', key⟩ := key
    exact ⟨z, fr', s3, H, rep (1 + v2) A, key, ⟨x, w, r2, ⟨r3, q3, by omega⟩, ⟨r4, rep_bits q4, by omega⟩, rep_ne (by omega) q2⟩, fun n => by rw [fig_rep (by omega) q2, q7], q6', rl, r5⟩
  have a1 : binF .add (.int 1) (.int (v2 : Int)) = some (.fz (.int ((1 + v2 : Nat) : Int))) := rfl
  have m1 := e_mul (A := A) (n := 1 + v2) (by omega) (by rw [q5]; have : a.length * (1 + v2) ≤ 4 * 2 := Nat.mul_le_mul hl (by omega); omega)
  have et : aCons (sVar 0) (aCons (sTup (aCons (sVar 2) (aCons (sTwo (binF .mul) (sVar 3) (sTwo (binF .add) (sCon (.int 1)) (sCall (callG ψDraw) (aCons (sVar 0) (aCons (sCon (.int 2)) aNil))))) aNil))) aNil) (gT (eD h a) H A y) s1 = .ok [.strm, eD H (rep (1 + v2) A)] [.fz .strm, .fz (eD h a), .fz (rD H), .ow (im A), y] s2 := by
    simp only [e_acons, e_anil, e_tup, e_two, e_call, e_con, e_var, List.getElem?_cons_zero, List.getElem?_cons_succ, e_varfz, e_varow, keep_fz, keep_sl, keepS_ow, kept_some, List.set_cons_succ, List.set_cons_zero, settle_sl, settle_fz, bind_ok, c2, peek_sl, peekS_ow, peek_fz, e_two2, a1, optR_some, m1, keep_nw]
    rfl
  have fin := callG_any (g := [.fz .strm, .fz (eD h a), .fz (rD H), .ow (im A), y]) r1
  show ∃ fr', finish (sSeq _ (sSeq (sFor (.nm 4) _ rotS) (sRet (sCall _ _))) [.fz .strm, .fz (eD h a), .un, .un, .un] s) = .ok z fr' s3
  rw [e_seq, p1]
  simp only [bind_ok]
  rw [e_seq, e_for, it]
  simp only [bind_ok]
  rw [q1]
  simp only [bind_ok]
  rw [e_ret, e_call, et]
  simp only [bind_ok]
  unfold callG
  rw [show ψ__law_loose (5 + 3) = ψ__law_loose 8 from rfl] at r1
  rw [r1]
  rcases seq_cases r2 with rfl | rfl <;> cases fr <;> exact ⟨_, rfl⟩
end K14
end
section
set_option Elab.async false
set_option linter.all false
set_option maxRecDepth 100000
set_option maxHeartbeats 4000000
/-! PN14: the same is the same. -/
namespace K14
open PySem L2 DI
/-- data without texts and dicts, not deeper than n -/
inductive Pl : Nat → D → Prop
  | int {n : Nat} (i : Int) : Pl n (.int i)
  | non {n : Nat} : Pl n .non
  | seq {n : Nat} {d : D} {xs : List D} : d.seq = some xs → xs.length ≤ 2000 → (∀ x ∈ xs, Pl n x) → Pl (n + 1) d
@[simp] theorem e_iza {as : Ga → Sd → Out (List D)} {g : Ga} {s : Sd} : iZipAF as g s = (as g s).bind fun ds g1 s1 => optD (zipAF ds) g1 s1 := Eq.trans rfl rfl
theorem same_eq {n : Nat} {d e : D} {s : Sd} : ψ__law_same (n + 1) [d, e] s = finish (b__law_same (ψ__law_same n) [.fz d, .fz e, .un, .un] s) := rfl
theorem zip_self {d : D} {xs : List D} (h : d.seq = some xs) : zipAF [d, d] = some (zipD xs xs) := by
  rcases seq_cases h with rfl | rfl <;> rfl
theorem zipD_self : ∀ xs : List D, zipD xs xs = xs.map fun x => .tup [x, x]
  | [] => rfl
  | x :: xs => by
    show D.tup [x, x] :: zipD xs xs = _
    rw [zipD_self xs]; rfl
abbrev sameE (r : List D → Sd → FOut) : Ga → Sd → Out Rs := sCall (callG r) (aCons (sVar 2) (aCons (sVar 3) aNil))
theorem lc_mapT {α : Type} {F : D → Ga → Sd → Out (Option D)} {e : α → D} {d : D} {g : Ga} {s : Sd} : ∀ (xs : List α) (acc : List D), (∀ x ∈ xs, F (e x) g s = .ok (some d) g s) → acc.length + xs.length ≤ sizeLine → lcL F (xs.map e) acc g s = .ok (acc ++ xs.map fun _ => d) g s
  | [], acc, _, _ => by simp [lcL]
  | x :: xs, acc, h, hl => by
    have e1 := h x List.mem_cons_self
    have hl' : acc.length < sizeLine := by simp at hl; omega
    rw [List.map_cons]
    unfold lcL
    rw [e1]
    show (if acc.length < sizeLine then lcL F _ (acc ++ [d]) g s else .bad) = _
    rw [if_pos hl', lc_mapT xs _ (fun y hy => h y (List.mem_cons_of_mem _ hy)) (by simp at hl ⊢; omega)]
    simp
theorem all_true (xs : List D) : biF .all [.lst (xs.map fun _ => D.bl true)] = some (.fz (.bl true)) := by
  rw [all_map (fun _ => true)]; simp
theorem isi_flag {d : D} {xs : List D} (h : d.seq = some xs) (t : Ty) (ht : t = .list ∨ t = .tuple) : ∃ b, isiF [t] d = some (.fz (.bl b)) := by
  rcases seq_cases h with rfl | rfl <;> rcases ht with rfl | rfl <;> exact ⟨_, rfl⟩
theorem ne_self (b : Bool) : cmpF .ne (.bl b) (.bl b) = some false := by cases b <;> kernel_rfl
theorem eq_self (i : Int) : cmpF .eq (.int i) (.int i) = some true := by rw [c_eqi]; simp
theorem s_same : ∀ (m n : Nat) (d : D) (s : Sd), Pl n d → n < m → ψ__law_same m [d, d] s = .ok (.bl true) false s
  | 0, n, d, s, _, h => absurd h (Nat.not_lt_zero _)
  | m + 1, n, d, s, p, h => by
    rw [same_eq]
    cases p with
    | int i =>
      have q := eq_self i
      have f1 : cmpF .eq (.bl false) (.bl false) = some true := by kernel_rfl
      have t1 : tOf (sOne (isiF [.list, .tuple]) (sVar 1)) [.fz (.int i), .fz (.int i), .un, .un] s = .ok false [.fz (.int i), .fz (.int i), .un, .un] s := rfl
      have t2 : tOf (sOne (isiF [.dict]) (sVar 1)) [.fz (.int i), .fz (.int i), .un, .un] s = .ok false [.fz (.int i), .fz (.int i), .un, .un] s := rfl
      have t3 : tOf (sOne (isiF [.int]) (sVar 1)) [.fz (.int i), .fz (.int i), .un, .un] s = .ok true [.fz (.int i), .fz (.int i), .un, .un] s := rfl
      have i1 : isiF [.int] (.int i) = some (.fz (.bl true)) := rfl
      have i2 : isiF [.bool] (.int i) = some (.fz (.bl false)) := rfl
      unfold b__law_same
      rw [e_seq, e_iff, t1]
      simp only [bind_ok]
      rw [e_seq, e_iff, t2]
      simp only [bind_ok]
      rw [e_seq, e_iff, t3]
      simp only [bind_ok, sCmp, e_ret, e_and, e_one, e_two, e_var, List.getElem?_cons_zero, List.getElem?_cons_succ, e_varfz, settle_fz, peek_fz, e_one2, i1, i2, optR_some, e_two2, f1, q, Option.map_some, fin_ret, fin_fz]
    | non => kernel_rfl
    | @seq n _ xs e hl hx =>
      have e1 := seq_isi e
      obtain ⟨b1, f1⟩ := isi_flag e .list (.inl rfl)
      obtain ⟨b2, f2⟩ := isi_flag e .tuple (.inr rfl)
      have z := zip_self e
      have ln := seq_len e
      have q := eq_self (xs.length : Int)
      have lc := lc_mapT (F := lcTurn [2, 3] (.cons (.nm 2) (.cons (.nm 3) .nil)) (fun g s => .ok true g s) (sameE (ψ__law_same m))) (e := fun x => D.tup [x, x]) (d := .bl true) (g := [.fz d, .fz d, .un, .un]) (s := s) xs [] (fun x hxm => by
        have c := callG_ok (g := [.fz d, .fz d, .fz x, .fz x]) (s_same m n x s (hx x hxm) (by omega))
        unfold lcTurn
        rw [show bindT (.cons (.nm 2) (.cons (.nm 3) .nil)) (.tup [x, x]) [.fz d, .fz d, .un, .un] = some [.fz d, .fz d, .fz x, .fz x] from rfl]
        simp only
        unfold sameE
        simp only [e_call, e_acons, e_anil, e_var, List.getElem?_cons_zero, List.getElem?_cons_succ, e_varfz, keep_fz, bind_ok, c]
        rfl) (by simp; exact Nat.le_trans hl (by decide))
      have t1 : tOf (sOne (isiF [.list, .tuple]) (sVar 1)) [.fz d, .fz d, .un, .un] s = .ok true [.fz d, .fz d, .un, .un] s := by
        simp only [e_tof, e_one, e_var, List.getElem?_cons_zero, List.getElem?_cons_succ, e_varfz, settle_fz, bind_ok, peek_fz, e_one2, e1, optR_some]
      have t2 : tOrF (tOf (sCmp .ne (sOne (isiF [.list]) (sVar 0)) (sOne (isiF [.list]) (sVar 1)))) (tOf (sCmp .ne (sOne (isiF [.tuple]) (sVar 0)) (sOne (isiF [.tuple]) (sVar 1)))) [.fz d, .fz d, .un, .un] s = .ok false [.fz d, .fz d, .un, .un] s := by
        simp only [sCmp, e_tor, e_tof, e_one, e_two, e_var, List.getElem?_cons_zero, List.getElem?_cons_succ, e_varfz, settle_fz, bind_ok, peek_fz, e_one2, e_two2, f1, f2, optR_some, ne_self, Option.map_some]
      have l1 : sLc [2, 3] (iZipAF (aCons (sVar 0) (aCons (sVar 1) aNil))) (.cons (.nm 2) (.cons (.nm 3) .nil)) (fun g s => .ok true g s) (sameE (ψ__law_same m)) [.fz d, .fz d, .un, .un] s = .ok (.nw (xs.map fun _ => D.bl true)) [.fz d, .fz d, .un, .un] s := by
        rw [e_lc]
        simp only [e_iza, e_acons, e_anil, e_var, List.getElem?_cons_zero, List.getElem?_cons_succ, e_varfz, keep_fz, bind_ok, z, optD_some]
        rw [show wipeG [.fz d, .fz d, .un, .un] [2, 3] = [.fz d, .fz d, .un, .un] from rfl, zipD_self, lc]
        rfl
      unfold b__law_same
      rw [e_seq, e_iff, t1]
      simp only [bind_ok]
      rw [e_seq, e_iff, t2]
      simp only [bind_ok]
      have a := all_true xs
      have g1 : sCmp .eq (sBi (biF .len) (lCons (sVar 0) lNil)) (sBi (biF .len) (lCons (sVar 1) lNil)) [.fz d, .fz d, .un, .un] s = .ok (.fz (.bl true)) [.fz d, .fz d, .un, .un] s := by
        simp only [sCmp, e_two, e_bi, e_lcons, e_lnil, e_var, List.getElem?_cons_zero, List.getElem?_cons_succ, e_varfz, settle_fz, bind_ok, peeks, peek_fz, e_one2, ln, optR_some, e_two2, q, Option.map_some]
      have g2 : sBi (biF .all) (lCons (sLc [2, 3] (iZipAF (aCons (sVar 0) (aCons (sVar 1) aNil))) (.cons (.nm 2) (.cons (.nm 3) .nil)) (fun g s => .ok true g s) (sameE (ψ__law_same m))) lNil) [.fz d, .fz d, .un, .un] s = .ok (.fz (.bl true)) [.fz d, .fz d, .un, .un] s := by
        rw [e_bi, e_lcons, l1]
        simp only [bind_ok, settle_nw, e_lnil, peeks, peek_fz, e_one2, a, optR_some]
      rw [e_ret, e_and, g1]
      simp only [bind_ok]
      unfold sameE at g2
      rw [g2]
      simp only [bind_ok, fin_ret, fin_fz]
theorem pl_row (n : Nat) {xs : List Int} (h : xs.length ≤ 2000) : Pl (n + 1) (rD xs) := .seq rfl (by rw [im, List.length_map]; exact h) fun x hx => by
  obtain ⟨i, _, rfl⟩ := List.mem_map.mp hx
  exact .int i
theorem pl_e (n : Nat) {h a : List Int} (hh : h.length ≤ 2000) (hl : a.length ≤ 2000) : Pl (n + 2) (eD h a) := .seq (xs := [rD h, rD a]) rfl (by show 2 ≤ 2000; decide) fun x hx => by
  have hx' : x = rD h ∨ x = rD a := by simpa using hx
  rcases hx' with rfl | rfl
  · exact pl_row n hh
  · exact pl_row n hl
theorem pl_lst (n : Nat) {xs : List D} (hl : xs.length ≤ 2000) (h : ∀ x ∈ xs, Pl n x) : Pl (n + 1) (.lst xs) := .seq rfl hl h
end K14
end
section
set_option Elab.async false
set_option linter.all false
set_option maxRecDepth 100000
set_option maxHeartbeats 4000000
/-! PN15: where two rows part, as the law asks. -/
namespace K14
open PySem L2 DI
theorem sub_nat {xs : List Int} {k : Nat} (h : k < xs.length) : subF (rD xs) (.int (k : Int)) = some (.int (xs.getD k 0)) := by
  show L2.atI (im xs) (k : Int) = _
  unfold L2.atI
  rw [show ixN (im xs).length (k : Int) = some k from by
    unfold ixN
    rw [if_pos (by omega), if_pos (by rw [im, List.length_map]; omega), Int.toNat_natCast]]
  show (im xs)[k]? = _
  rw [im, List.getElem?_map, gd, List.getElem?_eq_getElem h]; rfl
theorem sub_figs {h a : List Int} {n k : Nat} (c : k < n) : subF (rD (figs h a n)) (.int (k : Int)) = some (.int (fig h a k)) := by
  rw [sub_nat (by rw [figs_len]; exact c), figs_gd c]
theorem rng_map (n : Nat) : ((List.range n).map fun (k : Nat) => D.int (0 + (k : Int))) = (List.range n).map fun (k : Nat) => D.int (k : Int) := List.map_congr_left fun k _ => by rw [Int.zero_add]
/-- the first of the figures that part, if they do -/
def dueN (ns : List Nat) : D := match ns with
  | [] => .non
  | n :: _ => .int (n : Int)
theorem fig_bit {h a : List Int} (hb : Bits h) (ab : Bits a) (ha : a ≠ []) (n : Nat) : fig h a n = 0 ∨ fig h a n = 1 := by
  have h0 : 0 < a.length := List.length_pos_iff.mpr ha
  by_cases c : n < h.length
  · rw [fig_lo c, gd_at c]
    exact hb _ (List.getElem_mem c)
  · obtain ⟨k, rfl⟩ := Nat.exists_eq_add_of_le (Nat.le_of_not_lt c)
    have lt := Nat.mod_lt k h0
    rw [fig_hi, gd_at lt]
    exact ab _ (List.getElem_mem lt)
/-- a small row -/
structure Sm (h a : List Int) : Prop where
  hb : Bits h
  ab : Bits a
  ne : a ≠ []
  hh : h.length ≤ 4
  hl : a.length ≤ 4
theorem Sm.tell {h a : List Int} (m : Sm h a) : Tell (eD h a) h a := tell_eD m.hb m.ab (by have := m.hh; omega) (by have := m.hl; omega) m.ne
def parts (h a h' a' : List Int) : List Nat := (List.range 40).filter fun k => fig h a k != fig h' a' k
theorem parts_none {h a h' a' : List Int} (m : Sm h a) (m' : Sm h' a') (e : parts h a h' a' = []) : ∀ i, fig h a i = fig h' a' i := by
  have h1 := m.hh
  have h2 := m.hl
  have h3 := m'.hh
  have h4 := m'.hl
  refine agree_all m.ne m'.ne fun n hn => ?_
  have q := List.filter_eq_nil_iff.mp e n (List.mem_range.mpr (by omega))
  simpa [bne] using q
theorem filter_first {p : Nat → Bool} : ∀ (k m n : Nat) (r : List Nat), (List.range' m k).filter p = n :: r → m ≤ n ∧ n < m + k ∧ p n = true ∧ ∀ i, m ≤ i → i < n → p i = false
  | 0, m, n, r, h => by simp at h
  | k + 1, m, n, r, h => by
    rw [List.range'_succ] at h
    by_cases c : p m = true
    · rw [List.filter_cons_of_pos c] at h
      injection h with h1 h2
      subst h1
      exact ⟨Nat.le_refl _, by omega, c, fun i h1 h2 => absurd h2 (by omega)⟩
    · rw [List.filter_cons_of_neg c] at h
      obtain ⟨h1, h2, h3, h4⟩ := filter_first k (m + 1) n r h
      refine ⟨by omega, by omega, h3, fun i i1 i2 => ?_⟩
      by_cases e : i = m
      · rw [e]; simpa using c
      · exact h4 i (by omega) i2
theorem parts_some {h a h' a' : List Int} {n : Nat} {r : List Nat} (e : parts h a h' a' = n :: r) : (∀ i, i < n → fig h a i = fig h' a' i) ∧ fig h a n ≠ fig h' a' n := by
  unfold parts at e
  rw [List.range_eq_range'] at e
  obtain ⟨_, _, h3, h4⟩ := filter_first 40 0 n r e
  refine ⟨fun i hi => ?_, by simpa [bne] using h3⟩
  have := h4 i (Nat.zero_le _) hi
  simpa [bne] using this
/-- two small rows, told in any short form: first_unlike says where they part -/
theorem unlike_due {d d' : D} {h a h' a' H A H' A' : List Int} {s : Sd} (m : Sm h a) (m' : Sm h' a') (t : Tell d H A) (t' : Tell d' H' A') (hf : ∀ n, fig H A n = fig h a n) (hf' : ∀ n, fig H' A' n = fig h' a' n) (l1 : H.length ≤ 100) (l2 : A.length ≤ 100) (l3 : H'.length ≤ 100) (l4 : A'.length ≤ 100) :
    ψ_first_unlike [d, d'] s = .ok (dueN (parts h a h' a')) false s := by
  have hA : A ≠ [] := by obtain ⟨_, _, _, _, _, h⟩ := t; exact h
  have hA' : A' ≠ [] := by obtain ⟨_, _, _, _, _, h⟩ := t'; exact h
  have lk : lookN (leastF H A) (leastF H' A') ≤ 900 := by
    have b1 := least_le (h := H) hA
    have b2 := least_le (h := H') hA'
    unfold lookN
    omega
  cases e : parts h a h' a' with
  | nil => exact s_unlike_none t t' lk fun i => by rw [hf, hf']; exact parts_none m m' e i
  | cons n r =>
    obtain ⟨p1, p2⟩ := parts_some e
    exact s_unlike_at t t' lk (fun i hi => by rw [hf, hf']; exact p1 i hi) (by rw [hf, hf']; exact p2)
theorem parts_comm (h a h' a' : List Int) : parts h a h' a' = parts h' a' h a := by
  unfold parts
  congr 1
  funext k
  rw [Bool.eq_iff_iff]
  simp only [bne_iff_ne]
  exact ⟨Ne.symm, Ne.symm⟩
abbrev gW (r o : D) (x y : List Int) (p du fo at_ fi be bt : Sl) : Ga := [.fz .strm, .fz r, .fz o, .fz (.int 40), .ow (im x), .ow (im y), p, du, fo, at_, fi, be, bt]
abbrev neE : Ga → Sd → Out Bool := tOf (sCmp .ne (sTwo (fun x y => (subF x y).map .fz) (sVar 4) (sVar 9)) (sTwo (fun x y => (subF x y).map .fz) (sVar 5) (sVar 9)))
abbrev neL : Ga → Sd → Out Rs := sLc [9] (iRngF rngF1 (aCons (sVar 3) aNil)) (.nm 9) neE (sVar 9)
theorem ne_l {r o : D} {h a h' a' : List Int} {s : Sd} : neL (gW r o (figs h a 40) (figs h' a' 40) .un .un .un .un .un .un .un) s = .ok (.nw ((parts h a h' a').map fun (n : Nat) => D.int (n : Int))) (gW r o (figs h a 40) (figs h' a' 40) .un .un .un .un .un .un .un) s := by
  unfold neL
  rw [e_lc]
  have it : iRngF rngF1 (aCons (sVar 3) aNil) (gW r o (figs h a 40) (figs h' a' 40) .un .un .un .un .un .un .un) s = .ok ((List.range 40).map fun (k : Nat) => D.int (k : Int)) (gW r o (figs h a 40) (figs h' a' 40) .un .un .un .un .un .un .un) s := by
    have q : rngF1 [.int 40] = some ((List.range 40).map fun (k : Nat) => D.int (k : Int)) := by
      have := rng_len (n := 40) (by decide)
      rw [← rng_map]
      exact this
    simp only [e_irng, e_acons, e_anil, e_var, List.getElem?_cons_zero, List.getElem?_cons_succ, e_varfz, keep_fz, bind_ok, q, optD_some]
  rw [it]
  simp only [bind_ok]
  rw [show wipeG (gW r o (figs h a 40) (figs h' a' 40) .un .un .un .un .un .un .un) [9] = gW r o (figs h a 40) (figs h' a' 40) .un .un .un .un .un .un .un from rfl, lc_filter (p := fun k => fig h a k != fig h' a' k) _ [] (fun n hn => ?_) (by simp; decide)]
  · rfl
  · have hn' := List.mem_range.mp hn
    have s1 := sub_figs (h := h) (a := a) hn'
    have s2 := sub_figs (h := h') (a := a') hn'
    have t : neE (gW r o (figs h a 40) (figs h' a' 40) .un .un .un (.fz (.int (n : Int))) .un .un .un) s = .ok (fig h a n != fig h' a' n) (gW r o (figs h a 40) (figs h' a' 40) .un .un .un (.fz (.int (n : Int))) .un .un .un) s := by
      unfold neE
      simp only [sCmp, e_tof, e_two, e_var, List.getElem?_cons_zero, List.getElem?_cons_succ, e_varfz, e_varow, settle_sl, settle_fz, bind_ok, peek_sl, peekS_ow, peek_fz, e_two2, s1, s2, Option.map_some, optR_some, c_nei]
    unfold lcTurn
    rw [show bindT (.nm 9) (.int (n : Int)) (gW r o (figs h a 40) (figs h' a' 40) .un .un .un .un .un .un .un) = some (gW r o (figs h a 40) (figs h' a' 40) .un .un .un (.fz (.int (n : Int))) .un .un .un) from rfl]
    simp only
    rw [t]
    cases fig h a n != fig h' a' n with
    | true => rfl
    | false => rfl
end K14
end
section
set_option Elab.async false
set_option linter.all false
set_option maxRecDepth 100000
set_option maxHeartbeats 4000000
/-! PN16: _law_unlike_right. -/
namespace K14
open PySem L2 DI
theorem pl_due (ns : List Nat) : Pl 0 (dueN ns) := by
  cases ns with
  | nil => exact .non
  | cons n r => exact .int _
theorem pl_all {n : Nat} {xs : List D} (h : ∀ x ∈ xs, Pl n x) (hl : xs.length ≤ 2000) : Pl (n + 1) (.lst xs) := .seq rfl hl h
abbrev dueE : Ga → Sd → Out Rs := sIte (tOf (sCmp .ne (sVar 6) (sLst aNil))) (sTwo (fun x y => (subF x y).map .fz) (sVar 6) (sCon (.int 0))) (sCon .non)
theorem due_e {r o : D} {x y : List Int} {ns : List Nat} {s : Sd} : dueE (gW r o x y (.ow (ns.map fun (n : Nat) => D.int (n : Int))) .un .un .un .un .un .un) s = .ok (.fz (dueN ns)) (gW r o x y (.ow (ns.map fun (n : Nat) => D.int (n : Int))) .un .un .un .un .un .un) s := by
  have e : (ns.map fun (n : Nat) => D.int (n : Int)) = im (ns.map fun (n : Nat) => (n : Int)) := by rw [im, List.map_map]; rfl
  rw [e]
  have q : cmpF .ne (D.lst (im (ns.map fun (n : Nat) => (n : Int)))) (D.lst []) = some ((ns.map fun (n : Nat) => (n : Int)) != []) := c_ne _ []
  have e0 : ∀ g : Ga, sLst aNil g s = .ok (.nw []) g s := fun _ => rfl
  have t : tOf (sCmp .ne (sVar 6) (sLst aNil)) (gW r o x y (.ow (im (ns.map fun (n : Nat) => (n : Int)))) .un .un .un .un .un .un) s = .ok ((ns.map fun (n : Nat) => (n : Int)) != []) (gW r o x y (.ow (im (ns.map fun (n : Nat) => (n : Int)))) .un .un .un .un .un .un) s := by
    simp only [sCmp, e_tof, e_two, e_var, List.getElem?_cons_zero, List.getElem?_cons_succ, e_varow, settle_sl, bind_ok, e0, settle_nw, peek_sl, peekS_ow, peek_fz, e_two2, q, Option.map_some, optR_some]
  unfold dueE
  rw [e_ite, t]
  simp only [bind_ok]
  cases ns with
  | nil => rfl
  | cons n r =>
    have s0 := sub_nat (xs := (n :: r).map fun (n : Nat) => (n : Int)) (k := 0) (by simp)
    rw [show (((n :: r).map fun (n : Nat) => (n : Int)) != []) = true from rfl]
    simp only [e_two, e_con, e_var, List.getElem?_cons_zero, List.getElem?_cons_succ, e_varow, settle_sl, settle_fz, bind_ok, peek_sl, peekS_ow, peek_fz, e_two2]
    rw [show subF (D.lst (im ((n :: r).map fun (n : Nat) => (n : Int)))) (.int 0) = some (.int (n : Int)) from s0]
    rfl
theorem lo2 (x y : D) : lineOk [x, y].length = true := line_le (by show 2 ≤ 5000; decide)
theorem lo3 (x y z : D) : lineOk [x, y, z].length = true := line_le (by show 3 ≤ 5000; decide)
theorem lo1 (x : D) : lineOk [x].length = true := line_le (by show 1 ≤ 5000; decide)
theorem dbl (x : D) : binF .mul (.lst [x]) (.int 2) = some (.nw [x, x]) := rfl
theorem s_unlike_right {h a h' a' : List Int} {s : Sd} {k : Nat} (m : Sm h a) (m' : Sm h' a') (hb : Bud s (k + 11)) : ∃ s', ψ__law_unlike_right [.strm, eD h a, eD h' a'] s = .ok (.bl true) false s' ∧ Bud s' k := by
  have mh := m.hh
  have ml := m.hl
  have mh' := m'.hh
  have ml' := m'.hl
  unfold ψ__law_unlike_right
  rw [fn3]
  have es : startG 13 [.strm, eD h a, eD h' a'] = [.fz .strm, .fz (eD h a), .fz (eD h' a'), .un, .un, .un, .un, .un, .un, .un, .un, .un, .un] := rfl
  rw [es]
  -- many, one, two
  have p1 : sAsg (.nm 3) (sCon (.int 40)) [.fz .strm, .fz (eD h a), .fz (eD h' a'), .un, .un, .un, .un, .un, .un, .un, .un, .un, .un] s = .ok .nx [.fz .strm, .fz (eD h a), .fz (eD h' a'), .fz (.int 40), .un, .un, .un, .un, .un, .un, .un, .un, .un] s := rfl
  have c1 := callG_lst (g := [.fz .strm, .fz (eD h a), .fz (eD h' a'), .fz (.int 40), .un, .un, .un, .un, .un, .un, .un, .un, .un]) (s_lf_tops (h := h) (n := 40) (s := s) m.ne (by omega) (by omega) (by omega))
  have c2 := callG_lst (g := [.fz .strm, .fz (eD h a), .fz (eD h' a'), .fz (.int 40), .un, .un, .un, .un, .un, .un, .un, .un, .un]) (s_lf_tops (h := h') (n := 40) (s := s) m'.ne (by omega) (by omega) (by omega))
  have c1 : callG ψ__law_f_tops [eD h a, .int 40] _ s = _ := c1
  have c2 : callG ψ__law_f_tops [eD h' a', .int 40] _ s = _ := c2
  have p2 : sPar [4, 5] (pCons (sCall (callG ψ__law_f_tops) (aCons (sVar 1) (aCons (sVar 3) aNil))) (pCons (sCall (callG ψ__law_f_tops) (aCons (sVar 2) (aCons (sVar 3) aNil))) lNil)) [.fz .strm, .fz (eD h a), .fz (eD h' a'), .fz (.int 40), .un, .un, .un, .un, .un, .un, .un, .un, .un] s = .ok .nx (gW (eD h a) (eD h' a') (figs h a 40) (figs h' a' 40) .un .un .un .un .un .un .un) s := by
    simp only [e_par, e_pcons, e_half, e_call, e_acons, e_anil, e_lnil, e_var, List.getElem?_cons_zero, List.getElem?_cons_succ, e_varfz, keep_fz, bind_ok, c1, c2, half_nw, halved_some]
    rfl
  have p3 : sAsg (.nm 6) neL (gW (eD h a) (eD h' a') (figs h a 40) (figs h' a' 40) .un .un .un .un .un .un .un) s = .ok .nx (gW (eD h a) (eD h' a') (figs h a 40) (figs h' a' 40) (.ow ((parts h a h' a').map fun (n : Nat) => D.int (n : Int))) .un .un .un .un .un .un) s := by
    rw [e_asg, ne_l]
    rfl
  have p4 : sAsg (.nm 7) dueE (gW (eD h a) (eD h' a') (figs h a 40) (figs h' a' 40) (.ow ((parts h a h' a').map fun (n : Nat) => D.int (n : Int))) .un .un .un .un .un .un) s = .ok .nx (gW (eD h a) (eD h' a') (figs h a 40) (figs h' a' 40) (.ow ((parts h a h' a').map fun (n : Nat) => D.int (n : Int))) (.fz (dueN (parts h a h' a'))) .un .un .un .un .un) s := by
    rw [e_asg, due_e]
    rfl
  -- the first two answers
  obtain ⟨z, fr, s1, H, A, q1, q2, q3, q4, q5, b1⟩ := s_as_told (s := s) (k := k + 6) mh m.hb m.ne m.ab ml (hb.le (by omega))
  have u1 := unlike_due (s := s1) m m' q2 m'.tell q3 (fun _ => rfl) (by omega) (by omega) (by omega) (by omega)
  have u2 := unlike_due (s := s1) m' m m'.tell m.tell (fun _ => rfl) (fun _ => rfl) (by omega) (by omega) (by omega) (by omega)
  rw [parts_comm] at u2
  have c3 := callG_any (g := gW (eD h a) (eD h' a') (figs h a 40) (figs h' a' 40) (.ow ((parts h a h' a').map fun (n : Nat) => D.int (n : Int))) (.fz (dueN (parts h a h' a'))) .un .un .un .un .un) q1
  have c4 := callG_ok (g := gW (eD h a) (eD h' a') (figs h a 40) (figs h' a' 40) (.ow ((parts h a h' a').map fun (n : Nat) => D.int (n : Int))) (.fz (dueN (parts h a h' a'))) .un .un .un .un .un) u1
  have c5 := callG_ok (g := gW (eD h a) (eD h' a') (figs h a 40) (figs h' a' 40) (.ow ((parts h a h' a').map fun (n : Nat) => D.int (n : Int))) (.fz (dueN (parts h a h' a'))) .un .un .un .un .un) u2
  have pm : permL [1, 0] [eD h a, eD h' a'] = [eD h' a', eD h a] := rfl
  have p5 : sAsg (.nm 8) (sLst (aCons (sCall (callG ψ_first_unlike) (aCons (sCall (callG ψ__law_f_as_told) (aCons (sVar 0) (aCons (sVar 1) aNil))) (aCons (sVar 2) aNil))) (aCons (sCall (fun ds => callG ψ_first_unlike (permL [1, 0] ds)) (aCons (sVar 1) (aCons (sVar 2) aNil))) aNil))) (gW (eD h a) (eD h' a') (figs h a 40) (figs h' a' 40) (.ow ((parts h a h' a').map fun (n : Nat) => D.int (n : Int))) (.fz (dueN (parts h a h' a'))) .un .un .un .un .un) s = .ok .nx (gW (eD h a) (eD h' a') (figs h a 40) (figs h' a' 40) (.ow ((parts h a h' a').map fun (n : Nat) => D.int (n : Int))) (.fz (dueN (parts h a h' a'))) (.ow [dueN (parts h a h' a'), dueN (parts h a h' a')]) .un .un .un .un) s1 := by
    simp only [e_asg, e_lst, e_call, e_acons, e_anil, e_var, List.getElem?_cons_zero, List.getElem?_cons_succ, e_varfz, keep_fz, bind_ok, c3, c4, pm, c5, lo2, if_true]
    rfl
  have sm1 := callG_ok (g := gW (eD h a) (eD h' a') (figs h a 40) (figs h' a' 40) (.ow ((parts h a h' a').map fun (n : Nat) => D.int (n : Int))) (.fz (dueN (parts h a h' a'))) (.fz (.lst [dueN (parts h a h' a'), dueN (parts h a h' a')])) .un .un .un .un) (s_same 8 1 (.lst [dueN (parts h a h' a'), dueN (parts h a h' a')]) s1 (pl_all (fun x hx => by
    have hx' : x = dueN (parts h a h' a') ∨ x = dueN (parts h a h' a') := by simpa using hx
    rcases hx' with rfl | rfl <;> exact pl_due _) (by show 2 ≤ 2000; decide)) (by decide))
  have t6 : tNotF (tOf (sCall (callG (ψ__law_same 8)) (aCons (sVar 8) (aCons (sTwo (binF .mul) (sLst (aCons (sVar 7) aNil)) (sCon (.int 2))) aNil)))) (gW (eD h a) (eD h' a') (figs h a 40) (figs h' a' 40) (.ow ((parts h a h' a').map fun (n : Nat) => D.int (n : Int))) (.fz (dueN (parts h a h' a'))) (.ow [dueN (parts h a h' a'), dueN (parts h a h' a')]) .un .un .un .un) s1 = .ok false (gW (eD h a) (eD h' a') (figs h a 40) (figs h' a' 40) (.ow ((parts h a h' a').map fun (n : Nat) => D.int (n : Int))) (.fz (dueN (parts h a h' a'))) (.fz (.lst [dueN (parts h a h' a'), dueN (parts h a h' a')])) .un .un .un .un) s1 := by
    simp only [e_tnot, e_tof, e_call, e_acons, e_anil, e_two, e_lst, e_con, e_var, List.getElem?_cons_zero, List.getElem?_cons_succ, e_varfz, e_varow, keep_sl, keepS_ow, kept_some, List.set_cons_succ, List.set_cons_zero, keep_fz, bind_ok, lo1, if_true, settle_nw, settle_fz, peek_fz, e_two2, dbl, optR_some, keep_nw, sm1, Bool.not_true]
  -- a place, the row bent there
  obtain ⟨v, s2, v1, b2, dr⟩ := draw_of (s := s1) (k := k + 5) (many := 60) b1 (by decide) (by decide)
  let G6 : Sl → Sl → Sl → Sl → Sl → Ga := fun fo at_ fi be bt => gW (eD h a) (eD h' a') (figs h a 40) (figs h' a' 40) (.ow ((parts h a h' a').map fun (n : Nat) => D.int (n : Int))) (.fz (dueN (parts h a h' a'))) fo at_ fi be bt
  have c7 := callG_ok (g := G6 (.fz (.lst [dueN (parts h a h' a'), dueN (parts h a h' a')])) .un .un .un .un) dr
  have p7 : sAsg (.nm 9) (sCall (callG ψDraw) (aCons (sVar 0) (aCons (sCon (.int 60)) aNil))) (G6 (.fz (.lst [dueN (parts h a h' a'), dueN (parts h a h' a')])) .un .un .un .un) s1 = .ok .nx (G6 (.fz (.lst [dueN (parts h a h' a'), dueN (parts h a h' a')])) (.fz (.int (v : Int))) .un .un .un) s2 := by
    simp only [G6] at c7 ⊢
    simp only [e_asg, e_call, e_acons, e_anil, e_con, e_var, List.getElem?_cons_zero, e_varfz, keep_fz, bind_ok, c7]
    rfl
  have hal : a.length * (v + 1) ≤ 4000 := Nat.le_trans (Nat.mul_le_mul ml (show v + 1 ≤ 100 from by omega)) (by decide)
  have c8 := callG_lst (g := G6 (.fz (.lst [dueN (parts h a h' a'), dueN (parts h a h' a')])) (.fz (.int (v : Int))) .un .un .un) (s_lf_tops (h := h) (n := v + 1) (s := s2) m.ne (by omega) (by omega) hal)
  have c9 := callG_ok (g := G6 (.fz (.lst [dueN (parts h a h' a'), dueN (parts h a h' a')])) (.fz (.int (v : Int))) .un .un .un) (s_lf_below (h := h) (n := v + 1) (s := s2) m.ne (by omega) (by omega))
  have av : binF .add (.int (v : Int)) (.int 1) = some (.fz (.int ((v + 1 : Nat) : Int))) := rfl
  have p8 : sPar [10, 11] (pCons (sCall (callG ψ__law_f_tops) (aCons (sVar 1) (aCons (sTwo (binF .add) (sVar 9) (sCon (.int 1))) aNil))) (pCons (sCall (callG ψ__law_below) (aCons (sVar 1) (aCons (sTwo (binF .add) (sVar 9) (sCon (.int 1))) aNil))) lNil)) (G6 (.fz (.lst [dueN (parts h a h' a'), dueN (parts h a h' a')])) (.fz (.int (v : Int))) .un .un .un) s2 = .ok .nx (G6 (.fz (.lst [dueN (parts h a h' a'), dueN (parts h a h' a')])) (.fz (.int (v : Int))) (.ow (im (figs h a (v + 1)))) (.fz (eD (lowF h a (v + 1)).1 (lowF h a (v + 1)).2)) .un) s2 := by
    simp only [G6] at c8 c9 ⊢
    simp only [e_par, e_pcons, e_half, e_call, e_acons, e_anil, e_lnil, e_two, e_con, e_var, List.getElem?_cons_zero, List.getElem?_cons_succ, e_varfz, settle_fz, keep_fz, bind_ok, peek_fz, e_two2, av, optR_some, c8, c9, half_nw, half_fz, halved_some]
    rfl
  have hlow := low_len (h := h) (v + 1) m.ne
  have hll := least_le (h := (lowP h a (v + 1)).1) (low_ne (h := h) (v + 1) m.ne)
  have hlow1 : (lowF h a (v + 1)).1.length ≤ 4 := by unfold lowF; omega
  have hlow2 : (lowF h a (v + 1)).2.length ≤ 4 := by unfold lowF; omega
  have lne : (lowF h a (v + 1)).2 ≠ [] := (least_least (low_ne (v + 1) m.ne)).ne
  have lbits := least_bits (low_bits (h := h) (a := a) (v + 1) m.hb m.ab).1 (low_bits (h := h) (a := a) (v + 1) m.hb m.ab).2 (low_ne (v + 1) m.ne)
  have fb := fig_bit m.hb m.ab m.ne v
  have lft : (figs h a v).length = v := figs_len _ _ _
  have bl : ((figs h a v ++ [1 - fig h a v]) ++ (lowF h a (v + 1)).1).length ≤ 100 := by simp [lft] <;> omega
  have bbits : Bits ((figs h a v ++ [1 - fig h a v]) ++ (lowF h a (v + 1)).1) := by
    refine bits_app (bits_app (fun i hi => ?_) fun i hi => ?_) lbits.1
    · obtain ⟨j, _, rfl⟩ := List.mem_map.mp hi
      exact fig_bit m.hb m.ab m.ne j
    · rw [List.mem_singleton.mp hi]; omega
  have tb : Tell (eD ((figs h a v ++ [1 - fig h a v]) ++ (lowF h a (v + 1)).1) (lowF h a (v + 1)).2) ((figs h a v ++ [1 - fig h a v]) ++ (lowF h a (v + 1)).1) (lowF h a (v + 1)).2 := tell_eD bbits lbits.2 (by omega) (by omega) lne
  have at_lo : ∀ i, i < v → fig ((figs h a v ++ [1 - fig h a v]) ++ (lowF h a (v + 1)).1) (lowF h a (v + 1)).2 i = fig h a i := fun i hi => by
    rw [fig_lo (by simp [lft] <;> omega), gd_left (by simp [lft] <;> omega), gd_left (by rw [lft]; exact hi), figs_gd hi]
  have at_v : fig ((figs h a v ++ [1 - fig h a v]) ++ (lowF h a (v + 1)).1) (lowF h a (v + 1)).2 v = 1 - fig h a v := by
    rw [fig_lo (by simp [lft] <;> omega), gd_left (by simp [lft] <;> omega), gd_right (by rw [lft]; exact Nat.le_refl _), lft, Nat.sub_self]; rfl
  have s9 := sub_figs (h := h) (a := a) (n := v + 1) (k := v) (by omega)
  have tk : (figs h a (v + 1)).take v = figs h a v := by
    unfold figs
    rw [← List.map_take, List.take_range, Nat.min_eq_left (by omega)]
  have m1 : binF .sub (.int 1) (.int (fig h a v)) = some (.fz (.int (1 - fig h a v))) := rfl
  have ea := e_addR (xs := figs h a v) (ys := [1 - fig h a v]) (by simp [lft] <;> omega)
  have eb := e_addR (xs := figs h a v ++ [1 - fig h a v]) (ys := (lowF h a (v + 1)).1) (by simp [lft] <;> omega)
  have p9 : sAsg (.nm 12) (sTup (aCons (sTwo (binF .add) (sTwo (binF .add) (sSlc (sVar 10) oNone (pOf (sVar 9))) (sLst (aCons (sTwo (binF .sub) (sCon (.int 1)) (sTwo (fun x y => (subF x y).map .fz) (sVar 10) (sVar 9))) aNil))) (sTwo (fun x y => (subF x y).map .fz) (sVar 11) (sCon (.int 0)))) (aCons (sTwo (fun x y => (subF x y).map .fz) (sVar 11) (sCon (.int 1))) aNil))) (G6 (.fz (.lst [dueN (parts h a h' a'), dueN (parts h a h' a')])) (.fz (.int (v : Int))) (.ow (im (figs h a (v + 1)))) (.fz (eD (lowF h a (v + 1)).1 (lowF h a (v + 1)).2)) .un) s2 = .ok .nx (G6 (.fz (.lst [dueN (parts h a h' a'), dueN (parts h a h' a')])) (.fz (.int (v : Int))) (.ow (im (figs h a (v + 1)))) (.fz (eD (lowF h a (v + 1)).1 (lowF h a (v + 1)).2)) (.fz (eD ((figs h a v ++ [1 - fig h a v]) ++ (lowF h a (v + 1)).1) (lowF h a (v + 1)).2))) s2 := by
    simp only [G6]
    simp only [e_asg, e_tup, e_acons, e_anil, e_two, e_slc, e_onone, e_pof, e_lst, e_con, e_var, List.getElem?_cons_zero, List.getElem?_cons_succ, e_varfz, e_varow, settle_sl, settle_fz, settle_nw, bind_ok, peek_sl, peekS_ow, peek_fz, e_one2, e_to, tk, optR_some, e_two2, s9, Option.map_some, m1, keep_fz, lo1, if_true]
    rw [show (D.lst [D.int (1 - fig h a v)]) = rD [1 - fig h a v] from rfl, ea]
    simp only [optR_some, settle_nw, bind_ok, e_var, List.getElem?_cons_zero, List.getElem?_cons_succ, e_varfz, peek_fz, e_two2, sub0, sub1, Option.map_some, settle_fz, eb, keep_nw, keep_fz, lo2, if_true]
    rfl
  -- the last three answers
  obtain ⟨z', fr', s3, H', A', r1, r2, r3, r4, r5, b3⟩ := s_as_told (s := s2) (k := k) mh m.hb m.ne m.ab ml b2
  have lk1 : lookN (leastF h a) (leastF ((figs h a v ++ [1 - fig h a v]) ++ (lowF h a (v + 1)).1) (lowF h a (v + 1)).2) ≤ 900 := by
    have w1 := least_le (h := h) m.ne
    have w2 := least_le (h := (figs h a v ++ [1 - fig h a v]) ++ (lowF h a (v + 1)).1) lne
    unfold lookN
    omega
  have hA' : A' ≠ [] := by obtain ⟨_, _, _, _, _, h⟩ := r2; exact h
  have lk2 : lookN (leastF ((figs h a v ++ [1 - fig h a v]) ++ (lowF h a (v + 1)).1) (lowF h a (v + 1)).2) (leastF H' A') ≤ 900 := by
    have w1 := least_le (h := H') hA'
    have w2 := least_le (h := (figs h a v ++ [1 - fig h a v]) ++ (lowF h a (v + 1)).1) lne
    unfold lookN
    omega
  have lk3 : lookN (leastF ((figs h a v ++ [1 - fig h a v]) ++ (lowF h a (v + 1)).1) (lowF h a (v + 1)).2) (leastF ((figs h a v ++ [1 - fig h a v]) ++ (lowF h a (v + 1)).1) (lowF h a (v + 1)).2) ≤ 900 := by
    have w2 := least_le (h := (figs h a v ++ [1 - fig h a v]) ++ (lowF h a (v + 1)).1) lne
    unfold lookN
    omega
  have w1 := s_unlike_at (p := v) (s := s2) m.tell tb lk1 (fun i hi => (at_lo i hi).symm) (by rw [at_v]; omega)
  have w2 := s_unlike_at (p := v) (s := s3) tb r2 lk2 (fun i hi => by rw [at_lo i hi, r3]) (by rw [at_v, r3]; omega)
  have w3 := s_unlike_none (s := s3) tb tb lk3 fun _ => rfl
  have d1 := callG_ok (g := G6 (.fz (.lst [dueN (parts h a h' a'), dueN (parts h a h' a')])) (.fz (.int (v : Int))) (.ow (im (figs h a (v + 1)))) (.fz (eD (lowF h a (v + 1)).1 (lowF h a (v + 1)).2)) (.fz (eD ((figs h a v ++ [1 - fig h a v]) ++ (lowF h a (v + 1)).1) (lowF h a (v + 1)).2))) w1
  have d2 := callG_any (g := G6 (.fz (.lst [dueN (parts h a h' a'), dueN (parts h a h' a')])) (.fz (.int (v : Int))) (.ow (im (figs h a (v + 1)))) (.fz (eD (lowF h a (v + 1)).1 (lowF h a (v + 1)).2)) (.fz (eD ((figs h a v ++ [1 - fig h a v]) ++ (lowF h a (v + 1)).1) (lowF h a (v + 1)).2))) r1
  have d3 := callG_ok (g := G6 (.fz (.lst [dueN (parts h a h' a'), dueN (parts h a h' a')])) (.fz (.int (v : Int))) (.ow (im (figs h a (v + 1)))) (.fz (eD (lowF h a (v + 1)).1 (lowF h a (v + 1)).2)) (.fz (eD ((figs h a v ++ [1 - fig h a v]) ++ (lowF h a (v + 1)).1) (lowF h a (v + 1)).2))) w2
  have d4 := callG_ok (g := G6 (.fz (.lst [dueN (parts h a h' a'), dueN (parts h a h' a')])) (.fz (.int (v : Int))) (.ow (im (figs h a (v + 1)))) (.fz (eD (lowF h a (v + 1)).1 (lowF h a (v + 1)).2)) (.fz (eD ((figs h a v ++ [1 - fig h a v]) ++ (lowF h a (v + 1)).1) (lowF h a (v + 1)).2))) w3
  have p10 : sAsg (.nm 8) (sLst (aCons (sCall (callG ψ_first_unlike) (aCons (sVar 1) (aCons (sVar 12) aNil))) (aCons (sCall (callG ψ_first_unlike) (aCons (sVar 12) (aCons (sCall (callG ψ__law_f_as_told) (aCons (sVar 0) (aCons (sVar 1) aNil))) aNil))) (aCons (sCall (callG ψ_first_unlike) (aCons (sVar 12) (aCons (sVar 12) aNil))) aNil)))) (G6 (.fz (.lst [dueN (parts h a h' a'), dueN (parts h a h' a')])) (.fz (.int (v : Int))) (.ow (im (figs h a (v + 1)))) (.fz (eD (lowF h a (v + 1)).1 (lowF h a (v + 1)).2)) (.fz (eD ((figs h a v ++ [1 - fig h a v]) ++ (lowF h a (v + 1)).1) (lowF h a (v + 1)).2))) s2 = .ok .nx (G6 (.ow [.int (v : Int), .int (v : Int), .non]) (.fz (.int (v : Int))) (.ow (im (figs h a (v + 1)))) (.fz (eD (lowF h a (v + 1)).1 (lowF h a (v + 1)).2)) (.fz (eD ((figs h a v ++ [1 - fig h a v]) ++ (lowF h a (v + 1)).1) (lowF h a (v + 1)).2))) s3 := by
    simp only [G6] at d1 d2 d3 d4 ⊢
    simp only [e_asg, e_lst, e_call, e_acons, e_anil, e_var, List.getElem?_cons_zero, List.getElem?_cons_succ, e_varfz, keep_fz, bind_ok, d1, d2, d3, d4, lo3, if_true]
    rfl
  have sm2 := callG_ok (g := G6 (.fz (.lst [.int (v : Int), .int (v : Int), .non])) (.fz (.int (v : Int))) (.ow (im (figs h a (v + 1)))) (.fz (eD (lowF h a (v + 1)).1 (lowF h a (v + 1)).2)) (.fz (eD ((figs h a v ++ [1 - fig h a v]) ++ (lowF h a (v + 1)).1) (lowF h a (v + 1)).2))) (s_same 8 1 (.lst [.int (v : Int), .int (v : Int), .non]) s3 (pl_all (fun x hx => by
    have hx' : x = D.int (v : Int) ∨ x = D.int (v : Int) ∨ x = D.non := by simpa using hx
    rcases hx' with rfl | rfl | rfl
    · exact .int _
    · exact .int _
    · exact .non) (by show 3 ≤ 2000; decide)) (by decide))
  refine ⟨s3, ?_, b3⟩
  show finish (sSeq _ (sSeq _ (sSeq (sAsg (.nm 6) neL) (sSeq (sAsg (.nm 7) dueE) (sSeq _ (sSeq (sIff _ _ _) (sSeq _ (sSeq _ (sSeq _ (sSeq _ (sRet (sCall _ _))))))))))) _ s) = _
  rw [e_seq, p1]
  simp only [bind_ok]
  rw [e_seq, p2]
  simp only [bind_ok]
  rw [e_seq, p3]
  simp only [bind_ok]
  rw [e_seq, p4]
  simp only [bind_ok]
  rw [e_seq, p5]
  simp only [bind_ok]
  rw [e_seq, e_iff, t6]
  simp only [bind_ok]
  rw [e_seq, p7]
  simp only [bind_ok]
  rw [e_seq, p8]
  simp only [bind_ok]
  rw [e_seq, p9]
  simp only [bind_ok]
  rw [e_seq, p10]
  simp only [G6] at sm2 ⊢
  simp only [bind_ok, e_ret, e_call, e_acons, e_anil, e_lst, e_con, e_var, List.getElem?_cons_zero, List.getElem?_cons_succ, e_varfz, e_varow, keep_sl, keepS_ow, kept_some, List.set_cons_succ, List.set_cons_zero, keep_fz, keep_nw, lo3, if_true, sm2, fin_ret, fin_fz]
end K14
end
section
set_option Elab.async false
set_option linter.all false
set_option maxRecDepth 100000
set_option maxHeartbeats 4000000
/-! PN17: texts of rows. -/
namespace K14
open PySem L2 DI
theorem list_len (ts : List Str) : (listText ts).length ≤ 2 + piled ts := by
  cases ts with
  | nil => decide +kernel
  | cons t r =>
    have e : (listText (t :: r)).length = (textFrom 1 (("[" : Str) ++ (if 0 > 0 then ", " else "" : String) ++ t) r).length + 1 := by
      show (textFrom 1 (("[" : Str) ++ (if 0 > 0 then ", " else "" : String) ++ t) r ++ ("]" : Str)).length = _
      rw [strLen_append]; rfl
    rw [e, textFrom_length_pos _ _ _ (by decide), strLen_append, strLen_append]
    have q : (("[" : Str)).length = 1 := by decide +kernel
    have q2 : (((if 0 > 0 then ", " else "" : String) : Str)).length = 0 := by decide +kernel
    rw [q, q2]
    simp [piled]
    omega
theorem tup_len (ts : List Str) : (tupleText ts).length ≤ 3 + piled ts := by
  unfold tupleText
  rw [strLen_append, strLen_append]
  have q : (("(" : Str)).length = 1 := by decide +kernel
  have q2 : (((if ts.length == 1 then ",)" else ")" : String) : Str)).length ≤ 2 := by
    split <;> decide +kernel
  have q3 : (Str.join ", " ts).length ≤ piled ts := by
    cases ts with
    | nil => decide +kernel
    | cons t r => have := join_length_add (t :: r) (by simp); omega
  rw [q]
  omega
theorem sok_app {a b : Str} (h : PyData.strOk a = true) (q : PyData.strOk b = true) : PyData.strOk (a ++ b) = true := by
  show (a.cps ++ b.cps).all _ = true
  rw [Array.all_append, Bool.and_eq_true]
  exact ⟨h, q⟩
theorem sok_from : ∀ (ts : List Str) (n : Nat) (s : Str), PyData.strOk s = true → (∀ t ∈ ts, PyData.strOk t = true) → PyData.strOk (textFrom n s ts) = true
  | [], _, _, h, _ => h
  | t :: ts, n, s, h, q => by
    refine sok_from ts (n + 1) _ (sok_app (sok_app h ?_) (q t List.mem_cons_self)) fun x hx => q x (List.mem_cons_of_mem _ hx)
    split <;> decide +kernel
theorem sok_join : ∀ ts : List Str, (∀ t ∈ ts, PyData.strOk t = true) → PyData.strOk (Str.join ", " ts) = true
  | [], _ => by decide +kernel
  | [t], q => q t List.mem_cons_self
  | t :: u :: ts, q => sok_app (sok_app (q t List.mem_cons_self) (by decide +kernel)) (sok_join (u :: ts) fun x hx => q x (List.mem_cons_of_mem _ hx))
theorem sok_list {ts : List Str} (q : ∀ t ∈ ts, PyData.strOk t = true) : PyData.strOk (listText ts) = true :=
  sok_app (sok_from ts 0 _ (by decide +kernel) q) (by decide +kernel)
theorem sok_tup {ts : List Str} (q : ∀ t ∈ ts, PyData.strOk t = true) : PyData.strOk (tupleText ts) = true :=
  sok_app (sok_app (by decide +kernel) (sok_join ts q)) (by split <;> decide +kernel)
/-- data with a text of at most n letters, at most k deep -/
def Rd (n k : Nat) (d : D) : Prop := ∃ p, D.rd d = some p ∧ p.showable = true ∧ p.shown.length ≤ n ∧ p.depth ≤ k ∧ PyData.strOk p.shown = true
theorem rdAll_u {n k : Nat} : ∀ xs : List D, (∀ x ∈ xs, Rd n k x) → ∃ ps, D.rdAll xs = some ps ∧ PyData.showableAll ps = true ∧ piled (PyData.shownAll ps) ≤ (n + 2) * xs.length ∧ PyData.depthAll ps ≤ k ∧ ∀ t ∈ PyData.shownAll ps, PyData.strOk t = true
  | [], _ => ⟨[], rfl, by simp [PyData.showableAll], by simp [PyData.shownAll, piled], by simp [PyData.depthAll], by simp [PyData.shownAll]⟩
  | x :: xs, h => by
    obtain ⟨p, e1, a1, a2, a3, a4⟩ := h x List.mem_cons_self
    obtain ⟨ps, e2, b1, b2, b3, b4⟩ := rdAll_u xs fun y hy => h y (List.mem_cons_of_mem _ hy)
    refine ⟨p :: ps, ?_, ?_, ?_, ?_, by simp only [PyData.shownAll, List.forall_mem_cons]; exact ⟨a4, b4⟩⟩
    · unfold D.rdAll
      rw [e1, e2]
    · simp [PyData.showableAll, a1, b1]
    · simp only [PyData.shownAll]
      rw [piled_cons, List.length_cons, Nat.mul_succ]
      omega
    · simp only [PyData.depthAll]
      omega
theorem rd_seq {n k : Nat} {d : D} {xs : List D} (e : d.seq = some xs) (h : ∀ x ∈ xs, Rd n k x) : Rd (3 + (n + 2) * xs.length) (k + 1) d := by
  obtain ⟨ps, e2, h1, h2, h3, h4⟩ := rdAll_u xs h
  rcases seq_cases e with rfl | rfl
  · refine ⟨.list ps, ?_, ?_, ?_, ?_, by simp only [PyData.shown]; exact sok_list h4⟩
    · show (match D.rdAll xs with | some ds => some (PyData.list ds) | none => none) = _
      rw [e2]
    · simpa [PyData.showable] using h1
    · simp only [PyData.shown]
      have := list_len (PyData.shownAll ps)
      omega
    · simp only [PyData.depth]
      omega
  · refine ⟨.tuple ps, ?_, ?_, ?_, ?_, by simp only [PyData.shown]; exact sok_tup h4⟩
    · show (match D.rdAll xs with | some ds => some (PyData.tuple ds) | none => none) = _
      rw [e2]
    · simpa [PyData.showable] using h1
    · simp only [PyData.shown]
      have := tup_len (PyData.shownAll ps)
      omega
    · simp only [PyData.depth]
      omega
theorem rd_bit {i : Int} (h : i = 0 ∨ i = 1) : Rd 1 1 (.int i) := by
  rcases h with rfl | rfl
  · exact ⟨.int 0, rfl, by simp [PyData.showable], by simp only [PyData.shown]; decide +kernel, by simp [PyData.depth], by simp only [PyData.shown]; decide +kernel⟩
  · exact ⟨.int 1, rfl, by simp only [PyData.showable]; decide +kernel, by simp only [PyData.shown]; decide +kernel, by simp [PyData.depth], by simp only [PyData.shown]; decide +kernel⟩
theorem Rd.mono {n n' k k' : Nat} {d : D} (h : Rd n k d) (hn : n ≤ n') (hk : k ≤ k') : Rd n' k' d := by
  obtain ⟨p, a, b, c, e, f⟩ := h
  exact ⟨p, a, b, Nat.le_trans c hn, Nat.le_trans e hk, f⟩
theorem rd_row {d : D} {xs : List Int} (h : Row d xs) (hl : xs.length ≤ 100) : Rd 303 2 d := by
  refine (rd_seq h.1 fun x hx => ?_).mono (n := 3 + (1 + 2) * (im xs).length) (k := 2) (by rw [im, List.length_map]; omega) (Nat.le_refl _)
  obtain ⟨i, hi, rfl⟩ := List.mem_map.mp hx
  exact rd_bit (h.2.1 i hi)
theorem rd_tell {d : D} {h a : List Int} (t : Tell d h a) (h1 : h.length ≤ 100) (h2 : a.length ≤ 100) : Rd 613 3 d := by
  obtain ⟨x, y, e, hx, hy, _⟩ := t
  refine (rd_seq (n := 303) (k := 2) e fun z hz => ?_).mono (by show 3 + (303 + 2) * 2 ≤ 613; decide) (Nat.le_refl _)
  have hz' : z = x ∨ z = y := by simpa using hz
  rcases hz' with rfl | rfl
  · exact rd_row hx h1
  · exact rd_row hy h2
theorem repr_tell {d : D} {h a : List Int} (t : Tell d h a) (h1 : h.length ≤ 100) (h2 : a.length ≤ 100) : ∃ w, reprF [d] = some (.fz (.str w)) ∧ PyData.strOk w = true := by
  obtain ⟨p, e, s1, s2, s3, s4⟩ := rd_tell t h1 h2
  refine ⟨p.shown, ?_, s4⟩
  have cond : (p.showable && decide (p.shown.length ≤ sizeLine) && decide (p.depth ≤ 60)) = true := by
    rw [s1, decide_eq_true (Nat.le_trans s2 (by decide)), decide_eq_true (by omega)]; rfl
  obtain ⟨x, y, e2, _⟩ := t
  rcases seq_cases e2 with rfl | rfl
  · show (match D.rd (.lst [x, y]) with | some p => if p.showable && decide (p.shown.length ≤ sizeLine) && decide (p.depth ≤ 60) then some (Rs.fz (.str p.shown)) else none | none => none) = _
    rw [e]
    simp only
    rw [if_pos cond]
  · show (match D.rd (.tup [x, y]) with | some p => if p.showable && decide (p.shown.length ≤ sizeLine) && decide (p.depth ≤ 60) then some (Rs.fz (.str p.shown)) else none | none => none) = _
    rw [e]
    simp only
    rw [if_pos cond]
theorem ne_strs {w : Str} (h : PyData.strOk w = true) : cmpF .ne (.str w) (.str w) = some false := by
  simp [cmpF, eqF, eqP, D.pd, SeqAt.shaped, PyData.canLay0, PyData.depth, PyData.eqv, h]
end K14
end
section
set_option Elab.async false
set_option linter.all false
set_option maxRecDepth 100000
set_option maxHeartbeats 4000000
/-! PN18: one turn of _law_row_right. -/
namespace K14
open PySem L2 DI
@[simp] theorem e_bik {fn : List D → Option Rs} {as : Ga → Sd → Out (List D)} {g : Ga} {s : Sd} : sBiK fn as g s = (as g s).bind fun ds g1 s1 => optR (fn ds) g1 s1 := Eq.trans rfl rfl
abbrev gR (r many pa ke fo fi du : Sl) : Ga := [.fz .strm, r, many, pa, ke, fo, fi, du]
abbrev st3 : Ga → Sd → Out DI.Flow := sAsg (.nm 3) (sCall (callG ψ__law_f_as_told) (aCons (sVar 0) (aCons (sVar 1) aNil)))
abbrev st4 : Ga → Sd → Out DI.Flow := sAsg (.nm 4) (sBiK reprF (aCons (sVar 3) aNil))
abbrev st5 : Ga → Sd → Out DI.Flow := sAsg (.nm 5) (sLst (aCons (sCall (callG ψ_tops) (aCons (sVar 3) (aCons (sVar 2) aNil))) (aCons (sCall (fun ds => callG ψ_tops (permL [1, 0] ds)) (aCons (sVar 2) (aCons (sVar 1) aNil))) (aCons (sCall (callG ψ_drop_tops) (aCons (sVar 3) (aCons (sVar 2) aNil))) aNil))))
abbrev st6 : Ga → Sd → Out Bool := tOrF (tNotF (tOf (sCall (callG (ψ__law_same 8)) (aCons (sVar 5) (aCons (sTwo (binF .add) (sTwo (binF .mul) (sLst (aCons (sCall (callG ψ__law_f_tops) (aCons (sVar 1) (aCons (sVar 2) aNil))) aNil)) (sCon (.int 2))) (sLst (aCons (sCall (callG ψ__law_below) (aCons (sVar 1) (aCons (sVar 2) aNil))) aNil))) aNil))))) (tOf (sCmp .ne (sBiK reprF (aCons (sVar 3) aNil)) (sVar 4)))
abbrev st7 : Ga → Sd → Out DI.Flow := sAsg (.nm 6) (sCall (callG ψ__law_f_row) (aCons (sVar 0) (aCons (sCon (.int 5)) aNil)))
abbrev st8 : Ga → Sd → Out DI.Flow := sAsg (.nm 7) (sCall (callG ψ__law_f_least) (aCons (sTwo (binF .add) (sVar 6) (sTwo (fun x y => (subF x y).map .fz) (sVar 1) (sCon (.int 0)))) (aCons (sTwo (fun x y => (subF x y).map .fz) (sVar 1) (sCon (.int 1))) aNil)))
abbrev st9 : Ga → Sd → Out DI.Flow := sAsg (.nm 5) (sLst (aCons (sCall (callG ψ_put_all) (aCons (sCall (callG (ψ__law_loose 8)) (aCons (sVar 0) (aCons (sVar 6) aNil))) (aCons (sVar 3) aNil))) (aCons (sCall (fun ds => callG ψ_put_all (permL [1, 0] ds)) (aCons (sVar 1) (aCons (sVar 6) aNil))) aNil)))
abbrev st10 : Ga → Sd → Out Bool := tNotF (tOf (sCall (callG (ψ__law_same 8)) (aCons (sVar 5) (aCons (sTwo (binF .mul) (sLst (aCons (sVar 7) aNil)) (sCon (.int 2))) aNil))))
abbrev st11 : Ga → Sd → Out Bool := tNotF (tOf (sCall (callG (ψ__law_same 8)) (aCons (sCall (callG ψ_put_all) (aCons (sCall (callG ψ__law_f_tops) (aCons (sVar 1) (aCons (sVar 2) aNil))) (aCons (sCall (callG ψ__law_below) (aCons (sVar 1) (aCons (sVar 2) aNil))) aNil))) (aCons (sCall (callG ψ__law_f_least) (aCons (sTwo (fun x y => (subF x y).map .fz) (sVar 1) (sCon (.int 0))) (aCons (sTwo (fun x y => (subF x y).map .fz) (sVar 1) (sCon (.int 1))) aNil))) aNil))))
abbrev no : Ga → Sd → Out DI.Flow := fun g s => .ok .nx g s
abbrev rF : Ga → Sd → Out DI.Flow := sRet (sCon (.bl false))
abbrev rrS : Ga → Sd → Out DI.Flow := sSeq st3 (sSeq st4 (sSeq st5 (sSeq (sIff st6 rF no) (sSeq st7 (sSeq st8 (sSeq st9 (sSeq (sIff st10 rF no) (sIff st11 rF no))))))))
theorem permL2 (x y : D) : permL [1, 0] [x, y] = [y, x] := rfl
theorem callG_any' {ψ : List D → Sd → FOut} {ds : List D} {o : O} {g : Ga} {s s' : Sd} (h : ψ ds s = .okT o s') : (callG ψ ds g s).keep = .ok o.d g s' := by rw [callG_T h]; rfl
theorem rr_turn {h a : List Int} {n : Nat} {x3 x4 x5 x6 x7 : Sl} {s : Sd} {k : Nat} (m : Sm h a) (hn : n ≤ 200) (hb : Bud s (k + 12)) :
    ∃ y2 y3 y4 y5 y6 y7 s', rrS (gR (.fz (eD h a)) (.fz (.int (n : Int))) x3 x4 x5 x6 x7) s = .ok .nx (gR (.fz (eD h a)) y2 y3 y4 y5 y6 y7) s' ∧ Bud s' k := by
  have mh := m.hh
  have ml := m.hl
  have hal : a.length * n ≤ 4000 := Nat.le_trans (Nat.mul_le_mul ml hn) (by decide)
  obtain ⟨z, fr, s1, H, A, q1, q2, q3, q4, q5, b1⟩ := s_as_told (s := s) (k := k + 7) mh m.hb m.ne m.ab ml (hb.le (by omega))
  have hA : A ≠ [] := by obtain ⟨_, _, _, _, _, h⟩ := q2; exact h
  obtain ⟨w, rw1, wok⟩ := repr_tell q2 (by omega) (by omega)
  obtain ⟨g3, p3, p4⟩ : ∃ g3, st3 (gR (.fz (eD h a)) (.fz (.int (n : Int))) x3 x4 x5 x6 x7) s = .ok .nx g3 s1 ∧ st4 g3 s1 = .ok .nx (gR (.fz (eD h a)) (.fz (.int (n : Int))) (.fz z) (.fz (.str w)) x5 x6 x7) s1 := by
    unfold st3 st4
    rw [e_asg, e_call]
    simp only [e_acons, e_anil, e_var, List.getElem?_cons_zero, List.getElem?_cons_succ, e_varfz, keep_fz, bind_ok]
    unfold callG
    rw [q1]
    obtain ⟨x, y, e, _⟩ := id q2
    rcases seq_cases e with rfl | rfl
    · cases fr with
      | true =>
        refine ⟨gR (.fz (eD h a)) (.fz (.int (n : Int))) (.ow [x, y]) x4 x5 x6 x7, rfl, ?_⟩
        simp only [e_asg, e_bik, e_acons, e_anil, e_var, List.getElem?_cons_zero, List.getElem?_cons_succ, e_varow, keep_sl, keepS_ow, kept_some, List.set_cons_succ, List.set_cons_zero, bind_ok, rw1, optR_some]
        rfl
      | false =>
        refine ⟨gR (.fz (eD h a)) (.fz (.int (n : Int))) (.fz (.lst [x, y])) x4 x5 x6 x7, rfl, ?_⟩
        simp only [e_asg, e_bik, e_acons, e_anil, e_var, List.getElem?_cons_zero, List.getElem?_cons_succ, e_varfz, keep_fz, bind_ok, rw1, optR_some]
        rfl
    · refine ⟨gR (.fz (eD h a)) (.fz (.int (n : Int))) (.fz (.tup [x, y])) x4 x5 x6 x7, by cases fr <;> rfl, ?_⟩
      simp only [e_asg, e_bik, e_acons, e_anil, e_var, List.getElem?_cons_zero, List.getElem?_cons_succ, e_varfz, keep_fz, bind_ok, rw1, optR_some]
      rfl
  -- what is asked, what is due
  have ft : figs H A n = figs h a n := List.map_congr_left fun i _ => q3 i
  have fl : lowF H A n = lowF h a n := least_eq (low_ne n hA) (low_ne n m.ne) fun i => by rw [low_fig n hA, low_fig n m.ne, q3]
  have t1 := s_tops (n := n) (s := s1) q2 (by omega)
  have t2 := s_tops (n := n) (s := s1) m.tell (by omega)
  have t3 := s_drop (n := n) (s := s1) q2
  rw [ft] at t1
  rw [fl] at t3
  let g4 : Ga := gR (.fz (eD h a)) (.fz (.int (n : Int))) (.fz z) (.fz (.str w)) x5 x6 x7
  have c1 := callG_lst (g := gR (.fz (eD h a)) (.fz (.int (n : Int))) (.fz z) (.fz (.str w)) x5 x6 x7) t1
  have c2 := callG_lst (g := gR (.fz (eD h a)) (.fz (.int (n : Int))) (.fz z) (.fz (.str w)) x5 x6 x7) t2
  have c3 := callG_T (g := gR (.fz (eD h a)) (.fz (.int (n : Int))) (.fz z) (.fz (.str w)) x5 x6 x7) t3
  have p5 : st5 (gR (.fz (eD h a)) (.fz (.int (n : Int))) (.fz z) (.fz (.str w)) x5 x6 x7) s1 = .ok .nx (gR (.fz (eD h a)) (.fz (.int (n : Int))) (.fz z) (.fz (.str w)) (.ow [rD (figs h a n), rD (figs h a n), eD (lowF h a n).1 (lowF h a n).2]) x6 x7) s1 := by
    unfold st5
    simp only [e_asg, e_lst, e_call, e_acons, e_anil, e_var, List.getElem?_cons_zero, List.getElem?_cons_succ, e_varfz, keep_fz, keep_nw, keep_nt, eO_d, permL2, bind_ok, c1, c2, c3, lo3, if_true]
    rfl
  have d1 := callG_lst (g := gR (.fz (eD h a)) (.fz (.int (n : Int))) (.fz z) (.fz (.str w)) (.fz (.lst [rD (figs h a n), rD (figs h a n), eD (lowF h a n).1 (lowF h a n).2])) x6 x7) (s_lf_tops (h := h) (n := n) (s := s1) m.ne (by omega) (by omega) hal)
  have d2 := callG_ok (g := gR (.fz (eD h a)) (.fz (.int (n : Int))) (.fz z) (.fz (.str w)) (.fz (.lst [rD (figs h a n), rD (figs h a n), eD (lowF h a n).1 (lowF h a n).2])) x6 x7) (s_lf_below (h := h) (n := n) (s := s1) m.ne (by omega) (by omega))
  have hlow := low_len (h := h) n m.ne
  have hll := least_le (h := (lowP h a n).1) (low_ne (h := h) n m.ne)
  have hlow1 : (lowF h a n).1.length ≤ 4 := by unfold lowF; omega
  have hlow2 : (lowF h a n).2.length ≤ 4 := by unfold lowF; omega
  have sm1 := callG_ok (g := gR (.fz (eD h a)) (.fz (.int (n : Int))) (.fz z) (.fz (.str w)) (.fz (.lst [rD (figs h a n), rD (figs h a n), eD (lowF h a n).1 (lowF h a n).2])) x6 x7) (s_same 8 3 (.lst [rD (figs h a n), rD (figs h a n), eD (lowF h a n).1 (lowF h a n).2]) s1 (pl_all (fun x hx => by
    have hx' : x = rD (figs h a n) ∨ x = rD (figs h a n) ∨ x = eD (lowF h a n).1 (lowF h a n).2 := by simpa using hx
    rcases hx' with rfl | rfl | rfl
    · exact pl_row 1 (by rw [figs_len]; omega)
    · exact pl_row 1 (by rw [figs_len]; omega)
    · exact pl_e 0 (by omega) (by omega)) (by show 3 ≤ 2000; decide)) (by decide))
  have ad : binF .add (.lst [rD (figs h a n), rD (figs h a n)]) (.lst [eD (lowF h a n).1 (lowF h a n).2]) = some (.nw [rD (figs h a n), rD (figs h a n), eD (lowF h a n).1 (lowF h a n).2]) := rfl
  have p6 : st6 (gR (.fz (eD h a)) (.fz (.int (n : Int))) (.fz z) (.fz (.str w)) (.ow [rD (figs h a n), rD (figs h a n), eD (lowF h a n).1 (lowF h a n).2]) x6 x7) s1 = .ok false (gR (.fz (eD h a)) (.fz (.int (n : Int))) (.fz z) (.fz (.str w)) (.fz (.lst [rD (figs h a n), rD (figs h a n), eD (lowF h a n).1 (lowF h a n).2])) x6 x7) s1 := by
    unfold st6
    simp only [sCmp, e_tor, e_tnot, e_tof, e_call, e_acons, e_anil, e_two, e_lst, e_con, e_bik, e_var, List.getElem?_cons_zero, List.getElem?_cons_succ, e_varfz, e_varow, keep_sl, keepS_ow, kept_some, List.set_cons_succ, List.set_cons_zero, keep_fz, keep_nw, settle_nw, settle_fz, bind_ok, d1, d2, lo1, if_true, peek_fz, e_two2, dbl, optR_some, ad, sm1, Bool.not_true, rw1, ne_strs wok, Option.map_some]
  -- figures on top
  obtain ⟨fs, s2, f1, f2, f3, b2⟩ := s_f_row (m := 5) (k := k + 1) (s := s1) (by decide) (b1.le (by omega))
  have c7 := callG_lst (g := gR (.fz (eD h a)) (.fz (.int (n : Int))) (.fz z) (.fz (.str w)) (.fz (.lst [rD (figs h a n), rD (figs h a n), eD (lowF h a n).1 (lowF h a n).2])) x6 x7) f1
  have c7 : callG ψ__law_f_row [.strm, .int 5] (gR (.fz (eD h a)) (.fz (.int (n : Int))) (.fz z) (.fz (.str w)) (.fz (.lst [rD (figs h a n), rD (figs h a n), eD (lowF h a n).1 (lowF h a n).2])) x6 x7) s1 = _ := c7
  have p7 : st7 (gR (.fz (eD h a)) (.fz (.int (n : Int))) (.fz z) (.fz (.str w)) (.fz (.lst [rD (figs h a n), rD (figs h a n), eD (lowF h a n).1 (lowF h a n).2])) x6 x7) s1 = .ok .nx (gR (.fz (eD h a)) (.fz (.int (n : Int))) (.fz z) (.fz (.str w)) (.fz (.lst [rD (figs h a n), rD (figs h a n), eD (lowF h a n).1 (lowF h a n).2])) (.ow (im fs)) x7) s2 := by
    unfold st7
    simp only [e_asg, e_call, e_acons, e_anil, e_con, e_var, List.getElem?_cons_zero, e_varfz, keep_fz, bind_ok, c7]
    rfl
  have a8 := e_addR (xs := fs) (ys := h) (by omega)
  have c8 := callG_ok (g := gR (.fz (eD h a)) (.fz (.int (n : Int))) (.fz z) (.fz (.str w)) (.fz (.lst [rD (figs h a n), rD (figs h a n), eD (lowF h a n).1 (lowF h a n).2])) (.ow (im fs)) x7) (s_lf_least (d1 := rD (fs ++ h)) (d2 := rD a) (s := s2) rfl rfl m.ne (by omega) (by rw [List.length_append]; omega))
  have p8 : st8 (gR (.fz (eD h a)) (.fz (.int (n : Int))) (.fz z) (.fz (.str w)) (.fz (.lst [rD (figs h a n), rD (figs h a n), eD (lowF h a n).1 (lowF h a n).2])) (.ow (im fs)) x7) s2 = .ok .nx (gR (.fz (eD h a)) (.fz (.int (n : Int))) (.fz z) (.fz (.str w)) (.fz (.lst [rD (figs h a n), rD (figs h a n), eD (lowF h a n).1 (lowF h a n).2])) (.ow (im fs)) (.fz (eD (leastF (fs ++ h) a).1 (leastF (fs ++ h) a).2))) s2 := by
    unfold st8
    simp only [e_asg, e_call, e_acons, e_anil, e_two, e_con, e_var, List.getElem?_cons_zero, List.getElem?_cons_succ, e_varfz, e_varow, settle_sl, settle_fz, bind_ok, peek_sl, peekS_ow, peek_fz, e_two2, sub0, sub1, Option.map_some, optR_some, a8, keep_nw, keep_fz, c8]
    rfl
  obtain ⟨fz, fr2, s3, l1, l2, b3⟩ := loose_row (n := 6) (d := rD fs) (xs := fs) (s := s2) (k := k) rfl (by omega) b2
  have rowz : Row fz fs := ⟨l2, f3, by omega⟩
  have pa1 := s_put (s := s3) rowz q2 (by omega)
  have pa2 := s_put (df := rD fs) (s := s3) ⟨rfl, f3, by omega⟩ m.tell (by omega)
  rw [show leastF (fs ++ H) A = leastF (fs ++ h) a from least_eq hA m.ne fun i => put_fig q3 i] at pa1
  have e1 := callG_any (g := gR (.fz (eD h a)) (.fz (.int (n : Int))) (.fz z) (.fz (.str w)) (.fz (.lst [rD (figs h a n), rD (figs h a n), eD (lowF h a n).1 (lowF h a n).2])) (.fz (rD fs)) (.fz (eD (leastF (fs ++ h) a).1 (leastF (fs ++ h) a).2))) l1
  have e1 : (callG (ψ__law_loose 8) [.strm, rD fs] _ s2).keep = _ := e1
  have e2 := callG_T (g := gR (.fz (eD h a)) (.fz (.int (n : Int))) (.fz z) (.fz (.str w)) (.fz (.lst [rD (figs h a n), rD (figs h a n), eD (lowF h a n).1 (lowF h a n).2])) (.fz (rD fs)) (.fz (eD (leastF (fs ++ h) a).1 (leastF (fs ++ h) a).2))) pa1
  have e3 := callG_T (g := gR (.fz (eD h a)) (.fz (.int (n : Int))) (.fz z) (.fz (.str w)) (.fz (.lst [rD (figs h a n), rD (figs h a n), eD (lowF h a n).1 (lowF h a n).2])) (.fz (rD fs)) (.fz (eD (leastF (fs ++ h) a).1 (leastF (fs ++ h) a).2))) pa2
  have p9 : st9 (gR (.fz (eD h a)) (.fz (.int (n : Int))) (.fz z) (.fz (.str w)) (.fz (.lst [rD (figs h a n), rD (figs h a n), eD (lowF h a n).1 (lowF h a n).2])) (.ow (im fs)) (.fz (eD (leastF (fs ++ h) a).1 (leastF (fs ++ h) a).2))) s2 = .ok .nx (gR (.fz (eD h a)) (.fz (.int (n : Int))) (.fz z) (.fz (.str w)) (.ow [eD (leastF (fs ++ h) a).1 (leastF (fs ++ h) a).2, eD (leastF (fs ++ h) a).1 (leastF (fs ++ h) a).2]) (.fz (rD fs)) (.fz (eD (leastF (fs ++ h) a).1 (leastF (fs ++ h) a).2))) s3 := by
    unfold st9
    simp only [e_asg, e_lst, e_call, e_acons, e_anil, e_var, List.getElem?_cons_zero, List.getElem?_cons_succ, e_varfz, e_varow, keep_sl, keepS_ow, kept_some, List.set_cons_succ, List.set_cons_zero, keep_fz, keep_nt, eO_d, permL2, bind_ok, e1, e2, e3, lo2, if_true]
    rfl
  have lf := least_le (h := fs ++ h) m.ne
  rw [List.length_append] at lf
  have pe : Pl 2 (eD (leastF (fs ++ h) a).1 (leastF (fs ++ h) a).2) := pl_e 0 (by omega) (by omega)
  have sm2 := callG_ok (g := gR (.fz (eD h a)) (.fz (.int (n : Int))) (.fz z) (.fz (.str w)) (.fz (.lst [eD (leastF (fs ++ h) a).1 (leastF (fs ++ h) a).2, eD (leastF (fs ++ h) a).1 (leastF (fs ++ h) a).2])) (.fz (rD fs)) (.fz (eD (leastF (fs ++ h) a).1 (leastF (fs ++ h) a).2))) (s_same 8 3 (.lst [eD (leastF (fs ++ h) a).1 (leastF (fs ++ h) a).2, eD (leastF (fs ++ h) a).1 (leastF (fs ++ h) a).2]) s3 (pl_all (fun x hx => by
    have hx' : x = eD (leastF (fs ++ h) a).1 (leastF (fs ++ h) a).2 ∨ x = eD (leastF (fs ++ h) a).1 (leastF (fs ++ h) a).2 := by simpa using hx
    rcases hx' with rfl | rfl <;> exact pe) (by show 2 ≤ 2000; decide)) (by decide))
  have p10 : st10 (gR (.fz (eD h a)) (.fz (.int (n : Int))) (.fz z) (.fz (.str w)) (.ow [eD (leastF (fs ++ h) a).1 (leastF (fs ++ h) a).2, eD (leastF (fs ++ h) a).1 (leastF (fs ++ h) a).2]) (.fz (rD fs)) (.fz (eD (leastF (fs ++ h) a).1 (leastF (fs ++ h) a).2))) s3 = .ok false (gR (.fz (eD h a)) (.fz (.int (n : Int))) (.fz z) (.fz (.str w)) (.fz (.lst [eD (leastF (fs ++ h) a).1 (leastF (fs ++ h) a).2, eD (leastF (fs ++ h) a).1 (leastF (fs ++ h) a).2])) (.fz (rD fs)) (.fz (eD (leastF (fs ++ h) a).1 (leastF (fs ++ h) a).2))) s3 := by
    unfold st10
    simp only [e_tnot, e_tof, e_call, e_acons, e_anil, e_two, e_lst, e_con, e_var, List.getElem?_cons_zero, List.getElem?_cons_succ, e_varfz, e_varow, keep_sl, keepS_ow, kept_some, List.set_cons_succ, List.set_cons_zero, keep_fz, keep_nw, settle_nw, settle_fz, bind_ok, lo1, if_true, peek_fz, e_two2, dbl, optR_some, sm2, Bool.not_true]
  -- put back
  have k1 := callG_lst (g := gR (.fz (eD h a)) (.fz (.int (n : Int))) (.fz z) (.fz (.str w)) (.fz (.lst [eD (leastF (fs ++ h) a).1 (leastF (fs ++ h) a).2, eD (leastF (fs ++ h) a).1 (leastF (fs ++ h) a).2])) (.fz (rD fs)) (.fz (eD (leastF (fs ++ h) a).1 (leastF (fs ++ h) a).2))) (s_lf_tops (h := h) (n := n) (s := s3) m.ne (by omega) (by omega) hal)
  have k2 := callG_ok (g := gR (.fz (eD h a)) (.fz (.int (n : Int))) (.fz z) (.fz (.str w)) (.fz (.lst [eD (leastF (fs ++ h) a).1 (leastF (fs ++ h) a).2, eD (leastF (fs ++ h) a).1 (leastF (fs ++ h) a).2])) (.fz (rD fs)) (.fz (eD (leastF (fs ++ h) a).1 (leastF (fs ++ h) a).2))) (s_lf_below (h := h) (n := n) (s := s3) m.ne (by omega) (by omega))
  have lbits := least_bits (low_bits (h := h) (a := a) n m.hb m.ab).1 (low_bits (h := h) (a := a) n m.hb m.ab).2 (low_ne n m.ne)
  have lne : (lowF h a n).2 ≠ [] := (least_least (low_ne n m.ne)).ne
  have fbits : Bits (figs h a n) := fun i hi => by
    obtain ⟨j, _, rfl⟩ := List.mem_map.mp hi
    exact fig_bit m.hb m.ab m.ne j
  have tl : Tell (eD (lowF h a n).1 (lowF h a n).2) (lowF h a n).1 (lowF h a n).2 := tell_eD lbits.1 lbits.2 (by omega) (by omega) lne
  have pa3 := s_put (df := rD (figs h a n)) (s := s3) ⟨rfl, fbits, by rw [figs_len]; omega⟩ tl (by rw [figs_len]; omega)
  have eqb : leastF (figs h a n ++ (lowF h a n).1) (lowF h a n).2 = leastF h a := least_eq lne m.ne fun i => by
    by_cases c : i < n
    · rw [fig_lo (by rw [List.length_append, figs_len]; omega), gd_left (by rw [figs_len]; exact c), figs_gd c]
    · obtain ⟨j, rfl⟩ := Nat.exists_eq_add_of_le (Nat.le_of_not_lt c)
      have lf : fig (lowF h a n).1 (lowF h a n).2 j = fig h a (n + j) := by
        unfold lowF
        rw [least_fig (low_ne n m.ne), low_fig n m.ne]
      rw [← lf]
      by_cases c2 : j < (lowF h a n).1.length
      · rw [fig_lo c2, fig_lo (by rw [List.length_append, figs_len]; omega), gd_right (by rw [figs_len]; omega), figs_len, Nat.add_sub_cancel_left]
      · obtain ⟨i, hi⟩ := Nat.exists_eq_add_of_le (Nat.le_of_not_lt c2)
        rw [hi, fig_hi, show n + ((lowF h a n).1.length + i) = (figs h a n ++ (lowF h a n).1).length + i from by rw [List.length_append, figs_len]; omega, fig_hi]
  rw [eqb] at pa3
  have k3 := callG_T (g := gR (.fz (eD h a)) (.fz (.int (n : Int))) (.fz z) (.fz (.str w)) (.fz (.lst [eD (leastF (fs ++ h) a).1 (leastF (fs ++ h) a).2, eD (leastF (fs ++ h) a).1 (leastF (fs ++ h) a).2])) (.fz (rD fs)) (.fz (eD (leastF (fs ++ h) a).1 (leastF (fs ++ h) a).2))) pa3
  have k4 := callG_ok (g := gR (.fz (eD h a)) (.fz (.int (n : Int))) (.fz z) (.fz (.str w)) (.fz (.lst [eD (leastF (fs ++ h) a).1 (leastF (fs ++ h) a).2, eD (leastF (fs ++ h) a).1 (leastF (fs ++ h) a).2])) (.fz (rD fs)) (.fz (eD (leastF (fs ++ h) a).1 (leastF (fs ++ h) a).2))) (s_lf_least (d1 := rD h) (d2 := rD a) (s := s3) rfl rfl m.ne (by omega) (by omega))
  have lh := least_le (h := h) m.ne
  have sm3 := callG_ok (g := gR (.fz (eD h a)) (.fz (.int (n : Int))) (.fz z) (.fz (.str w)) (.fz (.lst [eD (leastF (fs ++ h) a).1 (leastF (fs ++ h) a).2, eD (leastF (fs ++ h) a).1 (leastF (fs ++ h) a).2])) (.fz (rD fs)) (.fz (eD (leastF (fs ++ h) a).1 (leastF (fs ++ h) a).2))) (s_same 8 2 (eD (leastF h a).1 (leastF h a).2) s3 (pl_e 0 (by omega) (by omega)) (by decide))
  have p11 : st11 (gR (.fz (eD h a)) (.fz (.int (n : Int))) (.fz z) (.fz (.str w)) (.fz (.lst [eD (leastF (fs ++ h) a).1 (leastF (fs ++ h) a).2, eD (leastF (fs ++ h) a).1 (leastF (fs ++ h) a).2])) (.fz (rD fs)) (.fz (eD (leastF (fs ++ h) a).1 (leastF (fs ++ h) a).2))) s3 = .ok false (gR (.fz (eD h a)) (.fz (.int (n : Int))) (.fz z) (.fz (.str w)) (.fz (.lst [eD (leastF (fs ++ h) a).1 (leastF (fs ++ h) a).2, eD (leastF (fs ++ h) a).1 (leastF (fs ++ h) a).2])) (.fz (rD fs)) (.fz (eD (leastF (fs ++ h) a).1 (leastF (fs ++ h) a).2))) s3 := by
    unfold st11
    simp only [e_tnot, e_tof, e_call, e_acons, e_anil, e_two, e_con, e_var, List.getElem?_cons_zero, List.getElem?_cons_succ, e_varfz, keep_fz, keep_nw, keep_nt, eO_d, settle_fz, bind_ok, k1, k2, k3, peek_fz, e_two2, sub0, sub1, Option.map_some, optR_some, k4, sm3, Bool.not_true]
  refine ⟨.fz (.int (n : Int)), .fz z, .fz (.str w), .fz (.lst [eD (leastF (fs ++ h) a).1 (leastF (fs ++ h) a).2, eD (leastF (fs ++ h) a).1 (leastF (fs ++ h) a).2]), .fz (rD fs), .fz (eD (leastF (fs ++ h) a).1 (leastF (fs ++ h) a).2), s3, ?_, b3⟩
  unfold rrS
  rw [e_seq, p3]
  simp only [bind_ok]
  rw [e_seq, p4]
  simp only [bind_ok]
  rw [e_seq, p5]
  simp only [bind_ok]
  rw [e_seq, e_iff, p6]
  simp only [bind_ok]
  rw [e_seq, p7]
  simp only [bind_ok]
  rw [e_seq, p8]
  simp only [bind_ok]
  rw [e_seq, p9]
  simp only [bind_ok]
  rw [e_seq, e_iff, p10]
  simp only [bind_ok]
  rw [e_iff, p11]
  rfl
end K14
end
section
set_option Elab.async false
set_option linter.all false
set_option maxRecDepth 100000
set_option maxHeartbeats 4000000
/-! PN19: _law_row_right. -/
namespace K14
open PySem L2 DI
theorem rr_loop {h a : List Int} (m : Sm h a) : ∀ (ns : List Nat) (x2 x3 x4 x5 x6 x7 : Sl) (s : Sd) (k : Nat), (∀ n ∈ ns, n ≤ 200) → Bud s (k + 12 * ns.length) →
    ∃ y2 y3 y4 y5 y6 y7 s', forL (forTurn (.nm 2) rrS) (ns.map fun (n : Nat) => D.int (n : Int)) (gR (.fz (eD h a)) x2 x3 x4 x5 x6 x7) s = .ok .nx (gR (.fz (eD h a)) y2 y3 y4 y5 y6 y7) s' ∧ Bud s' k
  | [], x2, x3, x4, x5, x6, x7, s, k, _, hb => ⟨x2, x3, x4, x5, x6, x7, s, rfl, by simpa using hb⟩
  | n :: ns, x2, x3, x4, x5, x6, x7, s, k, hn, hb => by
    have e1 : k + 12 * (n :: ns).length = (k + 12 * ns.length) + 12 := by rw [List.length_cons, Nat.mul_succ]; omega
    rw [e1] at hb
    obtain ⟨y2, y3, y4, y5, y6, y7, s1, t, b⟩ := rr_turn (x3 := x3) (x4 := x4) (x5 := x5) (x6 := x6) (x7 := x7) m (hn n List.mem_cons_self) hb
    obtain ⟨z2, z3, z4, z5, z6, z7, s2, t2, b2⟩ := rr_loop m ns y2 y3 y4 y5 y6 y7 s1 k (fun n h => hn n (List.mem_cons_of_mem _ h)) b
    refine ⟨z2, z3, z4, z5, z6, z7, s2, ?_, b2⟩
    rw [List.map_cons, forL_nx (show forTurn (.nm 2) rrS (.int (n : Int)) (gR (.fz (eD h a)) x2 x3 x4 x5 x6 x7) s = _ from t), t2]
theorem s_row_right {h a : List Int} {s : Sd} {k : Nat} (m : Sm h a) (hb : Bud s (k + 63)) : ∃ s', ψ__law_row_right [.strm, eD h a] s = .ok (.bl true) false s' ∧ Bud s' k := by
  have mh := m.hh
  have ml := m.hl
  unfold ψ__law_row_right
  rw [fn2]
  have es : startG 8 [.strm, eD h a] = gR (.fz (eD h a)) .un .un .un .un .un .un := rfl
  rw [es]
  obtain ⟨v1, s1, w1, b1, d1⟩ := draw_of (s := s) (k := k + 62) (many := 12) hb (by decide) (by decide)
  obtain ⟨v2, s2, w2, b2, d2⟩ := draw_of (s := s1) (k := k + 61) (many := 200) b1 (by decide) (by decide)
  have c1 := callG_ok (g := gR (.fz (eD h a)) .un .un .un .un .un .un) d1
  have c2 := callG_ok (g := gR (.fz (eD h a)) .un .un .un .un .un .un) d2
  have l5 : lineOk [D.int 0, D.int 1, D.int (v1 : Int), D.int (v2 : Int), D.int (h.length : Int)].length = true := line_le (by show 5 ≤ 5000; decide)
  have it : iSeqF (sTup (aCons (sCon (.int 0)) (aCons (sCon (.int 1)) (aCons (sCall (callG ψDraw) (aCons (sVar 0) (aCons (sCon (.int 12)) aNil))) (aCons (sCall (callG ψDraw) (aCons (sVar 0) (aCons (sCon (.int 200)) aNil))) (aCons (sBi (biF .len) (lCons (sTwo (fun x y => (subF x y).map .fz) (sVar 1) (sCon (.int 0))) lNil)) aNil)))))) (gR (.fz (eD h a)) .un .un .un .un .un .un) s = .ok (([0, 1, v1, v2, h.length] : List Nat).map fun (n : Nat) => D.int (n : Int)) (gR (.fz (eD h a)) .un .un .un .un .un .un) s2 := by
    simp only [e_iseq, e_tup, e_acons, e_anil, e_call, e_bi, e_lcons, e_lnil, e_two, e_con, e_var, List.getElem?_cons_zero, List.getElem?_cons_succ, e_varfz, keep_fz, settle_fz, bind_ok, c1, c2, peeks, peek_fz, e_two2, sub0, Option.map_some, optR_some, e_one2, e_len, l5, if_true, items_tup, optD_some]
    rfl
  obtain ⟨y2, y3, y4, y5, y6, y7, s3, lp, b3⟩ := rr_loop m [0, 1, v1, v2, h.length] .un .un .un .un .un .un s2 (k + 1) (fun n hn => by
    have hn' : n = 0 ∨ n = 1 ∨ n = v1 ∨ n = v2 ∨ n = h.length := by simpa using hn
    omega) (b2.le (by show k + 1 + 12 * 5 ≤ k + 61; omega))
  obtain ⟨v, s4, w4, b4, d4⟩ := draw_of (s := s3) (k := k) (many := 999999000) b3 (by decide) (by decide)
  have c4 := callG_ok (g := gR (.fz (eD h a)) y2 y3 y4 y5 y6 y7) d4
  have av : binF .add (.int 200) (.int (v : Int)) = some (.fz (.int ((200 + v : Nat) : Int))) := rfl
  have p2 : sAsg (.nm 2) (sTwo (binF .add) (sCon (.int 200)) (sCall (callG ψDraw) (aCons (sVar 0) (aCons (sCon (.int 999999000)) aNil)))) (gR (.fz (eD h a)) y2 y3 y4 y5 y6 y7) s3 = .ok .nx (gR (.fz (eD h a)) (.fz (.int ((200 + v : Nat) : Int))) y3 y4 y5 y6 y7) s4 := by
    simp only [e_asg, e_two, e_call, e_acons, e_anil, e_con, e_var, List.getElem?_cons_zero, e_varfz, keep_fz, settle_fz, bind_ok, c4, peek_fz, e_two2, av, optR_some]
    rfl
  have k1 := callG_T (g := gR (.fz (eD h a)) (.fz (.int ((200 + v : Nat) : Int))) y3 y4 y5 y6 y7) (s_drop (n := 200 + v) (s := s4) m.tell)
  have k2 := callG_ok (g := gR (.fz (eD h a)) (.fz (.int ((200 + v : Nat) : Int))) y3 y4 y5 y6 y7) (s_lf_below (h := h) (n := 200 + v) (s := s4) m.ne (by omega) (by omega))
  have hlow := low_len (h := h) (200 + v) m.ne
  have hll := least_le (h := (lowP h a (200 + v)).1) (low_ne (h := h) (200 + v) m.ne)
  have hlow1 : (lowF h a (200 + v)).1.length ≤ 4 := by unfold lowF; omega
  have hlow2 : (lowF h a (200 + v)).2.length ≤ 4 := by unfold lowF; omega
  have sm := callG_ok (g := gR (.fz (eD h a)) (.fz (.int ((200 + v : Nat) : Int))) y3 y4 y5 y6 y7) (s_same 8 2 (eD (lowF h a (200 + v)).1 (lowF h a (200 + v)).2) s4 (pl_e 0 (by omega) (by omega)) (by decide))
  refine ⟨s4, ?_, b4⟩
  show finish (sSeq (sFor (.nm 2) _ rrS) (sSeq _ (sRet (sCall _ _))) _ s) = _
  rw [e_seq, e_for, it]
  simp only [bind_ok]
  rw [lp]
  simp only [bind_ok]
  rw [e_seq, p2]
  simp only [bind_ok, e_ret, e_call, e_acons, e_anil, e_var, List.getElem?_cons_zero, List.getElem?_cons_succ, e_varfz, keep_fz, keep_nt, eO_d, permL2, k1, k2, sm, fin_ret, fin_fz]
end K14
end
section
set_option Elab.async false
set_option linter.all false
set_option maxRecDepth 100000
set_option maxHeartbeats 4000000
/-! PN20: what is refused: the closed answers. -/
namespace K14
open PySem L2 DI
def odds : List D := [.non, .int 5, .str "0(1)", .lst [], .tup [], .lst [.lst [], .lst []], .tup [.lst [.int 0, .int 1]], .tup [.lst [.int 0], .lst [.int 1], .lst [.int 0]], .tup [.lst [.int 2], .lst [.int 0]], .tup [.lst [.int 0], .lst [.bl true]], .tup [.lst [.bl false], .lst [.int 1]],
  .tup [.lst [.int 0], .str "1"], .tup [.int 0, .lst [.int 1]], .tup [.lst [], .lst [.lst [.int 1]]], .tup [.lst [.non], .lst [.int 1]], .dic [(.inl 0, .lst [.int 1])]]
theorem s_odds {s : Sd} : ψ__law_f_odd_rows [] s = .ok (.lst odds) true s := by kernel_rfl
abbrev tg (n : Str) (o : D) : D := .tup [.str n, o]
structure Odd1 (o : D) : Prop where
  a : ∀ s, ψ_tops [o, .non] s = .ex 1 o s
  b : ∀ s, ψ_drop_tops [o, .int (-1)] s = .ex 1 o s
  c : ∀ s, ψ_put_all [.lst [], o] s = .ex 1 o s
  d : ∀ s, ψ_first_unlike [o, .non] s = .ex 1 o s
  e : ∀ s, ψ_is_endless [o] s = .ok (.bl false) false s
  f : ∀ s, ψ__law_same 8 [.lst [tg "endless" o, tg "endless" o, tg "endless" o, tg "endless" o], .lst [tg "endless" o, tg "endless" o, tg "endless" o, tg "endless" o]] s = .ok (.bl true) false s
  g : ∀ s, ψ__law_same 8 [tg "other" o, tg "other" o] s = .ok (.bl true) false s
theorem odd1_all : ∀ o ∈ odds, Odd1 o := by
  intro o ho
  simp only [odds, List.mem_cons, List.not_mem_nil, or_false] at ho
  rcases ho with rfl | rfl | rfl | rfl | rfl | rfl | rfl | rfl | rfl | rfl | rfl | rfl | rfl | rfl | rfl | rfl
  all_goals exact ⟨fun s => by kernel_rfl, fun s => by kernel_rfl, fun s => by kernel_rfl, fun s => by kernel_rfl, fun s => by kernel_rfl, fun s => by kernel_rfl, fun s => by kernel_rfl⟩
def odds2 : List D := [.non, .int (-1), .bl true, .bl false, .str "3", .lst [.int 2]]
structure Odd2 (o : D) : Prop where
  a : ∀ s, ψ_checked_many [o] s = .ex 3 o s
  f : ∀ s, ψ__law_same 8 [.lst [tg "many" o, tg "many" o], .lst [tg "many" o, tg "many" o]] s = .ok (.bl true) false s
theorem odd2_all : ∀ o ∈ odds2, Odd2 o := by
  intro o ho
  simp only [odds2, List.mem_cons, List.not_mem_nil, or_false] at ho
  rcases ho with rfl | rfl | rfl | rfl | rfl | rfl
  all_goals exact ⟨fun s => by kernel_rfl, fun s => by kernel_rfl⟩
def odds3 : List D := [.non, .int 0, .str "01", .dic [], .lst [.int 2], .lst [.int 0, .bl true], .lst [.lst [.int 0]], .lst [.int 0, .non], .tup [.int (-1)]]
structure Odd3 (o : D) : Prop where
  a : ∀ r s, ψ_put_all [o, r] s = .ex 2 o s
  f : ∀ s, ψ__law_same 8 [.lst [tg "figures" o, tg "figures" o], .lst [tg "figures" o, tg "figures" o]] s = .ok (.bl true) false s
theorem odd3_all : ∀ o ∈ odds3, Odd3 o := by
  intro o ho
  simp only [odds3, List.mem_cons, List.not_mem_nil, or_false] at ho
  rcases ho with rfl | rfl | rfl | rfl | rfl | rfl | rfl | rfl | rfl
  all_goals exact ⟨fun r s => by kernel_rfl, fun s => by kernel_rfl⟩
theorem tail_ok {r od fd : D} {s : Sd} : sTail [.fz .strm, .fz r, .fz od, .fz fd, .un] s = .ok (.ret (.fz (.bl true))) [.fz .strm, .fz r, .fz od, .fz (.tup [.str "figures", L3]), .fz L3] s := by kernel_rfl
end K14
end
section
set_option Elab.async false
set_option linter.all false
set_option maxRecDepth 100000
set_option maxHeartbeats 4000000
/-! PN21: _law_refused_right. -/
namespace K14
open PySem L2 DI
@[simp] theorem e_lam {t : Str} {tg : Nat → Option Str} {f : Ga → Sd → Out Rs} {g : Ga} {s : Sd} : sLam t tg f g s = lamOut t tg (f g s).keep := Eq.trans rfl rfl
theorem lam1 {o : D} {g : Ga} {s : Sd} : lamOut told tags (.ex 1 o g s) = .ok (.fz (tg "endless" o)) g s := rfl
theorem lam2 {o : D} {g : Ga} {s : Sd} : lamOut told tags (.ex 2 o g s) = .ok (.fz (tg "figures" o)) g s := rfl
theorem lam3 {o : D} {g : Ga} {s : Sd} : lamOut told tags (.ex 3 o g s) = .ok (.fz (tg "many" o)) g s := rfl
theorem lam4 {o : D} {g : Ga} {s : Sd} : lamOut told tags (.ex 4 o g s) = .ok (.fz (tg "other" o)) g s := rfl
abbrev gX (r o : D) (x : Sl) : Ga := [.fz .strm, .fz r, .fz o, x, .un]
theorem app_x {r o d : D} {xs : List D} {as : Ga → Sd → Out (List D)} {s : Sd} (h : as (gX r o (.ow xs)) s = .ok [d] (gX r o (.ow xs)) s) (hl : xs.length < 10) : sExp (sMth .append 3 as) (gX r o (.ow xs)) s = .ok .nx (gX r o (.ow (xs ++ [d]))) s := by
  have p : mtF .append xs [d] = some (.non, xs ++ [d]) := by
    show (if xs.length < sizeLine then some (D.non, xs ++ [d]) else none) = _
    rw [if_pos (Nat.lt_of_lt_of_le hl (by decide))]
  rw [e_exp, e_mth (as := as) (xs0 := xs) (xs := xs) (d := .non) (ys := xs ++ [d]) (ds := [d]) (g1 := gX r o (.ow xs)) (s1 := s) rfl h rfl p]
  rfl
theorem unlike_bad {d o : D} {h a : List Int} {s : Sd} (t : Tell d h a) (e : ψ_is_endless [o] s = .ok (.bl false) false s) : ψ_first_unlike [d, o] s = .ex 4 o s := by
  have c1 := callG_T (g := [.fz d, .fz o, .un, .un, .un, .un, .un, .un]) (s_checked (s := s) t)
  have c0 := callG_ok (g := [.fz d, .fz o, .ot (eO (leastF h a).1 (leastF h a).2), .un, .un, .un, .un, .un]) e
  have p1 : sAsg (.nm 2) (sCall (callG ψ_checked_endless) (aCons (sVar 0) aNil)) [.fz d, .fz o, .un, .un, .un, .un, .un, .un] s = .ok .nx [.fz d, .fz o, .ot (eO (leastF h a).1 (leastF h a).2), .un, .un, .un, .un, .un] s := by
    simp only [e_asg, e_call, e_acons, e_anil, e_var, List.getElem?_cons_zero, e_varfz, keep_fz, bind_ok, c1]
    rfl
  unfold ψ_first_unlike
  rw [fn2]
  show finish (sSeq _ (sSeq (sIff _ _ _) _) [.fz d, .fz o, .un, .un, .un, .un, .un, .un] s) = _
  rw [e_seq, p1]
  simp only [bind_ok]
  rw [e_seq, e_iff]
  simp only [e_tnot, e_tof, e_call, e_acons, e_anil, e_var, List.getElem?_cons_zero, List.getElem?_cons_succ, e_varfz, keep_fz, bind_ok, c0, Bool.not_false]
  rfl
theorem tops_bad {d o : D} {h a : List Int} {s : Sd} (t : Tell d h a) (e : ψ_checked_many [o] s = .ex 3 o s) : ψ_tops [d, o] s = .ex 3 o s := by
  have c1 := callG_T (g := [.fz d, .fz o, .un]) (s_checked (s := s) t)
  have c2 := callG_ex (g := [.fz d, .fz o, .fz (eD (leastF h a).1 (leastF h a).2)]) e
  have p1 : sAsg (.nm 2) (sCall (callG ψ_checked_endless) (aCons (sVar 0) aNil)) [.fz d, .fz o, .un] s = .ok .nx [.fz d, .fz o, .ot (eO (leastF h a).1 (leastF h a).2)] s := by
    simp only [e_asg, e_call, e_acons, e_anil, e_var, List.getElem?_cons_zero, e_varfz, keep_fz, bind_ok, c1]
    rfl
  unfold ψ_tops
  rw [fn2]
  show finish (sSeq _ _ [.fz d, .fz o, .un] s) = _
  rw [e_seq, p1]
  simp only [bind_ok, e_ret, e_call, e_acons, e_anil, e_var, List.getElem?_cons_zero, List.getElem?_cons_succ, e_varfz, e_varot, keep_fz, eO_d, List.set_cons_succ, List.set_cons_zero, c2, keep_ex, bind_ex, fin_ex]
theorem drop_bad {d o : D} {h a : List Int} {s : Sd} (t : Tell d h a) (e : ψ_checked_many [o] s = .ex 3 o s) : ψ_drop_tops [d, o] s = .ex 3 o s := by
  have c1 := callG_T (g := [.fz d, .fz o, .un]) (s_checked (s := s) t)
  have c2 := callG_ex (g := [.fz d, .fz o, .fz (eD (leastF h a).1 (leastF h a).2)]) e
  have p1 : sAsg (.nm 2) (sCall (callG ψ_checked_endless) (aCons (sVar 0) aNil)) [.fz d, .fz o, .un] s = .ok .nx [.fz d, .fz o, .ot (eO (leastF h a).1 (leastF h a).2)] s := by
    simp only [e_asg, e_call, e_acons, e_anil, e_var, List.getElem?_cons_zero, e_varfz, keep_fz, bind_ok, c1]
    rfl
  unfold ψ_drop_tops
  rw [fn2]
  show finish (sSeq _ _ [.fz d, .fz o, .un] s) = _
  rw [e_seq, p1]
  simp only [bind_ok, e_ret, e_call, e_acons, e_anil, e_var, List.getElem?_cons_zero, List.getElem?_cons_succ, e_varfz, e_varot, keep_fz, eO_d, List.set_cons_succ, List.set_cons_zero, c2, keep_ex, bind_ex, fin_ex]
abbrev f1 : Ga → Sd → Out DI.Flow := sAsg (.nm 3) (sLst (aCons (sLam told tags (sCall (callG ψ_tops) (aCons (sVar 2) (aCons (sCon .non) aNil)))) aNil))
abbrev f2 : Ga → Sd → Out (List D) := aCons (sLam told tags (sCall (callG ψ_drop_tops) (aCons (sVar 2) (aCons (sOne negF (sCon (.int 1))) aNil)))) aNil
abbrev f3 : Ga → Sd → Out (List D) := aCons (sLam told tags (sCall (callG ψ_put_all) (aCons (sLst aNil) (aCons (sVar 2) aNil)))) aNil
abbrev f4 : Ga → Sd → Out (List D) := aCons (sLam told tags (sCall (callG ψ_first_unlike) (aCons (sVar 2) (aCons (sCon .non) aNil)))) aNil
abbrev f5 : Ga → Sd → Out Bool := tNotF (tOf (sCall (callG (ψ__law_same 8)) (aCons (sVar 3) (aCons (sTwo (binF .mul) (sLst (aCons (sTup (aCons (sCon (.str "endless")) (aCons (sVar 2) aNil))) aNil)) (sCon (.int 4))) aNil))))
abbrev f6 : Ga → Sd → Out Bool := tNotF (tOf (sCall (callG (ψ__law_same 8)) (aCons (sLam told tags (sCall (callG ψ_first_unlike) (aCons (sVar 1) (aCons (sVar 2) aNil)))) (aCons (sTup (aCons (sCon (.str "other")) (aCons (sVar 2) aNil))) aNil))))
abbrev body1 : Ga → Sd → Out DI.Flow := sSeq f1 (sSeq (sExp (sMth .append 3 f2)) (sSeq (sExp (sMth .append 3 f3)) (sSeq (sExp (sMth .append 3 f4)) (sSeq (sIff f5 rF no) (sIff f6 rF no)))))
theorem quad (x : D) : binF .mul (.lst [x]) (.int 4) = some (.nw [x, x, x, x]) := rfl
theorem turn1 {h a : List Int} {o : D} {x : Sl} {s : Sd} (m : Sm h a) (q : Odd1 o) : ∃ fd, body1 (gX (eD h a) o x) s = .ok .nx (gX (eD h a) o (.fz fd)) s := by
  have c1 := callG_ex (g := gX (eD h a) o x) (q.a s)
  have p1 : f1 (gX (eD h a) o x) s = .ok .nx (gX (eD h a) o (.ow [tg "endless" o])) s := by
    unfold f1
    simp only [e_asg, e_lst, e_acons, e_anil, e_lam, e_call, e_con, e_var, List.getElem?_cons_zero, List.getElem?_cons_succ, e_varfz, keep_fz, bind_ok, c1, keep_ex, lam1, lo1, if_true]
    rfl
  have c2 := callG_ex (g := gX (eD h a) o (.ow [tg "endless" o])) (q.b s)
  have p2 : f2 (gX (eD h a) o (.ow [tg "endless" o])) s = .ok [tg "endless" o] (gX (eD h a) o (.ow [tg "endless" o])) s := by
    unfold f2
    simp only [e_acons, e_anil, e_lam, e_call, neg_e, e_var, List.getElem?_cons_zero, List.getElem?_cons_succ, e_varfz, keep_fz, bind_ok, c2, keep_ex, lam1]
  have c3 := callG_ex (g := gX (eD h a) o (.ow [tg "endless" o, tg "endless" o])) (q.c s)
  have e0 : ∀ g : Ga, sLst aNil g s = .ok (.nw []) g s := fun _ => rfl
  have p3 : f3 (gX (eD h a) o (.ow [tg "endless" o, tg "endless" o])) s = .ok [tg "endless" o] (gX (eD h a) o (.ow [tg "endless" o, tg "endless" o])) s := by
    unfold f3
    simp only [e_acons, e_anil, e_lam, e_call, e0, e_var, List.getElem?_cons_zero, List.getElem?_cons_succ, e_varfz, keep_fz, keep_nw, bind_ok, c3, keep_ex, lam1]
  have c4 := callG_ex (g := gX (eD h a) o (.ow [tg "endless" o, tg "endless" o, tg "endless" o])) (q.d s)
  have p4 : f4 (gX (eD h a) o (.ow [tg "endless" o, tg "endless" o, tg "endless" o])) s = .ok [tg "endless" o] (gX (eD h a) o (.ow [tg "endless" o, tg "endless" o, tg "endless" o])) s := by
    unfold f4
    simp only [e_acons, e_anil, e_lam, e_call, e_con, e_var, List.getElem?_cons_zero, List.getElem?_cons_succ, e_varfz, keep_fz, bind_ok, c4, keep_ex, lam1]
  have c5 := callG_ok (g := gX (eD h a) o (.fz (.lst [tg "endless" o, tg "endless" o, tg "endless" o, tg "endless" o]))) (q.f s)
  have p5 : f5 (gX (eD h a) o (.ow [tg "endless" o, tg "endless" o, tg "endless" o, tg "endless" o])) s = .ok false (gX (eD h a) o (.fz (.lst [tg "endless" o, tg "endless" o, tg "endless" o, tg "endless" o]))) s := by
    unfold f5
    simp only [e_tnot, e_tof, e_call, e_acons, e_anil, e_two, e_lst, e_tup, e_con, e_var, List.getElem?_cons_zero, List.getElem?_cons_succ, e_varfz, e_varow, keep_sl, keepS_ow, kept_some, List.set_cons_succ, List.set_cons_zero, keep_fz, keep_nw, settle_nw, settle_fz, bind_ok, lo1, lo2, if_true, peek_fz, e_two2, quad, optR_some, c5, Bool.not_true]
  have c6 := callG_ex (g := gX (eD h a) o (.fz (.lst [tg "endless" o, tg "endless" o, tg "endless" o, tg "endless" o]))) (unlike_bad m.tell (q.e s))
  have c7 := callG_ok (g := gX (eD h a) o (.fz (.lst [tg "endless" o, tg "endless" o, tg "endless" o, tg "endless" o]))) (q.g s)
  have p6 : f6 (gX (eD h a) o (.fz (.lst [tg "endless" o, tg "endless" o, tg "endless" o, tg "endless" o]))) s = .ok false (gX (eD h a) o (.fz (.lst [tg "endless" o, tg "endless" o, tg "endless" o, tg "endless" o]))) s := by
    unfold f6
    simp only [e_tnot, e_tof, e_call, e_acons, e_anil, e_lam, e_tup, e_con, e_var, List.getElem?_cons_zero, List.getElem?_cons_succ, e_varfz, keep_fz, bind_ok, c6, keep_ex, lam4, lo2, if_true, c7, Bool.not_true]
  refine ⟨.lst [tg "endless" o, tg "endless" o, tg "endless" o, tg "endless" o], ?_⟩
  unfold body1
  rw [e_seq, p1]
  simp only [bind_ok]
  rw [e_seq, app_x p2 (by simp)]
  simp only [bind_ok, List.cons_append, List.nil_append]
  rw [e_seq, app_x p3 (by simp)]
  simp only [bind_ok, List.cons_append, List.nil_append]
  rw [e_seq, app_x p4 (by simp)]
  simp only [bind_ok, List.cons_append, List.nil_append]
  rw [e_seq, e_iff, p5]
  simp only [bind_ok]
  rw [e_iff, p6]
  rfl
abbrev h1 : Ga → Sd → Out DI.Flow := sAsg (.nm 3) (sLst (aCons (sLam told tags (sCall (callG ψ_tops) (aCons (sVar 1) (aCons (sVar 2) aNil)))) aNil))
abbrev h2 : Ga → Sd → Out (List D) := aCons (sLam told tags (sCall (callG ψ_drop_tops) (aCons (sVar 1) (aCons (sVar 2) aNil)))) aNil
abbrev h3 : Ga → Sd → Out Bool := tNotF (tOf (sCall (callG (ψ__law_same 8)) (aCons (sVar 3) (aCons (sTwo (binF .mul) (sLst (aCons (sTup (aCons (sCon (.str "many")) (aCons (sVar 2) aNil))) aNil)) (sCon (.int 2))) aNil))))
abbrev body2 : Ga → Sd → Out DI.Flow := sSeq h1 (sSeq (sExp (sMth .append 3 h2)) (sIff h3 rF no))
theorem turn2 {h a : List Int} {o : D} {x : Sl} {s : Sd} (m : Sm h a) (q : Odd2 o) : ∃ fd, body2 (gX (eD h a) o x) s = .ok .nx (gX (eD h a) o (.fz fd)) s := by
  have c1 := callG_ex (g := gX (eD h a) o x) (tops_bad m.tell (q.a s))
  have p1 : h1 (gX (eD h a) o x) s = .ok .nx (gX (eD h a) o (.ow [tg "many" o])) s := by
    unfold h1
    simp only [e_asg, e_lst, e_acons, e_anil, e_lam, e_call, e_var, List.getElem?_cons_zero, List.getElem?_cons_succ, e_varfz, keep_fz, bind_ok, c1, keep_ex, lam3, lo1, if_true]
    rfl
  have c2 := callG_ex (g := gX (eD h a) o (.ow [tg "many" o])) (drop_bad m.tell (q.a s))
  have p2 : h2 (gX (eD h a) o (.ow [tg "many" o])) s = .ok [tg "many" o] (gX (eD h a) o (.ow [tg "many" o])) s := by
    unfold h2
    simp only [e_acons, e_anil, e_lam, e_call, e_var, List.getElem?_cons_zero, List.getElem?_cons_succ, e_varfz, keep_fz, bind_ok, c2, keep_ex, lam3]
  have c5 := callG_ok (g := gX (eD h a) o (.fz (.lst [tg "many" o, tg "many" o]))) (q.f s)
  have p5 : h3 (gX (eD h a) o (.ow [tg "many" o, tg "many" o])) s = .ok false (gX (eD h a) o (.fz (.lst [tg "many" o, tg "many" o]))) s := by
    unfold h3
    simp only [e_tnot, e_tof, e_call, e_acons, e_anil, e_two, e_lst, e_tup, e_con, e_var, List.getElem?_cons_zero, List.getElem?_cons_succ, e_varfz, e_varow, keep_sl, keepS_ow, kept_some, List.set_cons_succ, List.set_cons_zero, keep_fz, keep_nw, settle_nw, settle_fz, bind_ok, lo1, lo2, if_true, peek_fz, e_two2, dbl, optR_some, c5, Bool.not_true]
  refine ⟨.lst [tg "many" o, tg "many" o], ?_⟩
  unfold body2
  rw [e_seq, p1]
  simp only [bind_ok]
  rw [e_seq, app_x p2 (by simp)]
  simp only [bind_ok, List.cons_append, List.nil_append]
  rw [e_iff, p5]
  rfl
abbrev i1 : Ga → Sd → Out DI.Flow := sAsg (.nm 3) (sLst (aCons (sLam told tags (sCall (callG ψ_put_all) (aCons (sVar 2) (aCons (sVar 1) aNil)))) aNil))
abbrev i2 : Ga → Sd → Out (List D) := aCons (sLam told tags (sCall (callG ψ_put_all) (aCons (sVar 2) (aCons (sCon .non) aNil)))) aNil
abbrev i3 : Ga → Sd → Out Bool := tNotF (tOf (sCall (callG (ψ__law_same 8)) (aCons (sVar 3) (aCons (sTwo (binF .mul) (sLst (aCons (sTup (aCons (sCon (.str "figures")) (aCons (sVar 2) aNil))) aNil)) (sCon (.int 2))) aNil))))
abbrev body3 : Ga → Sd → Out DI.Flow := sSeq i1 (sSeq (sExp (sMth .append 3 i2)) (sIff i3 rF no))
theorem turn3 {h a : List Int} {o : D} {x : Sl} {s : Sd} (q : Odd3 o) : ∃ fd, body3 (gX (eD h a) o x) s = .ok .nx (gX (eD h a) o (.fz fd)) s := by
  have c1 := callG_ex (g := gX (eD h a) o x) (q.a (eD h a) s)
  have p1 : i1 (gX (eD h a) o x) s = .ok .nx (gX (eD h a) o (.ow [tg "figures" o])) s := by
    unfold i1
    simp only [e_asg, e_lst, e_acons, e_anil, e_lam, e_call, e_var, List.getElem?_cons_zero, List.getElem?_cons_succ, e_varfz, keep_fz, bind_ok, c1, keep_ex, lam2, lo1, if_true]
    rfl
  have c2 := callG_ex (g := gX (eD h a) o (.ow [tg "figures" o])) (q.a .non s)
  have p2 : i2 (gX (eD h a) o (.ow [tg "figures" o])) s = .ok [tg "figures" o] (gX (eD h a) o (.ow [tg "figures" o])) s := by
    unfold i2
    simp only [e_acons, e_anil, e_lam, e_call, e_con, e_var, List.getElem?_cons_zero, List.getElem?_cons_succ, e_varfz, keep_fz, bind_ok, c2, keep_ex, lam2]
  have c5 := callG_ok (g := gX (eD h a) o (.fz (.lst [tg "figures" o, tg "figures" o]))) (q.f s)
  have p5 : i3 (gX (eD h a) o (.ow [tg "figures" o, tg "figures" o])) s = .ok false (gX (eD h a) o (.fz (.lst [tg "figures" o, tg "figures" o]))) s := by
    unfold i3
    simp only [e_tnot, e_tof, e_call, e_acons, e_anil, e_two, e_lst, e_tup, e_con, e_var, List.getElem?_cons_zero, List.getElem?_cons_succ, e_varfz, e_varow, keep_sl, keepS_ow, kept_some, List.set_cons_succ, List.set_cons_zero, keep_fz, keep_nw, settle_nw, settle_fz, bind_ok, lo1, lo2, if_true, peek_fz, e_two2, dbl, optR_some, c5, Bool.not_true]
  refine ⟨.lst [tg "figures" o, tg "figures" o], ?_⟩
  unfold body3
  rw [e_seq, p1]
  simp only [bind_ok]
  rw [e_seq, app_x p2 (by simp)]
  simp only [bind_ok, List.cons_append, List.nil_append]
  rw [e_iff, p5]
  rfl
theorem loopX {b : Ga → Sd → Out DI.Flow} {r : D} {s : Sd} : ∀ (os : List D) (p x : Sl), os ≠ [] → (∀ o ∈ os, ∀ x : Sl, ∃ fd, b (gX r o x) s = .ok .nx (gX r o (.fz fd)) s) →
    ∃ o fd, forL (forTurn (.nm 2) b) os [.fz .strm, .fz r, p, x, .un] s = .ok .nx (gX r o (.fz fd)) s
  | [], _, _, h, _ => absurd rfl h
  | o :: os, p, x, _, hb => by
    obtain ⟨fd, t⟩ := hb o List.mem_cons_self x
    have t : forTurn (.nm 2) b o [.fz .strm, .fz r, p, x, .un] s = .ok .nx (gX r o (.fz fd)) s := t
    rw [forL_nx t]
    cases os with
    | nil => exact ⟨o, fd, rfl⟩
    | cons o' os => exact loopX (o' :: os) (.fz o) (.fz fd) (by simp) fun z hz => hb z (List.mem_cons_of_mem _ hz)
theorem s_refused {h a : List Int} {s : Sd} (m : Sm h a) : ψ__law_refused_right [.strm, eD h a] s = .ok (.bl true) false s := by
  unfold ψ__law_refused_right
  rw [fn2]
  have es : startG 5 [.strm, eD h a] = [.fz .strm, .fz (eD h a), .un, .un, .un] := rfl
  rw [es]
  have c0 := callG_lst (g := [.fz .strm, .fz (eD h a), .un, .un, .un]) (s_odds (s := s))
  obtain ⟨o1, d1, l1⟩ := loopX (b := body1) (r := eD h a) (s := s) odds .un .un (by simp [odds]) fun o ho x => turn1 m (odd1_all o ho)
  obtain ⟨o2, d2, l2⟩ := loopX (b := body2) (r := eD h a) (s := s) odds2 (.fz o1) (.fz d1) (by simp [odds2]) fun o ho x => turn2 m (odd2_all o ho)
  obtain ⟨o3, d3, l3⟩ := loopX (b := body3) (r := eD h a) (s := s) odds3 (.fz o2) (.fz d2) (by simp [odds3]) fun o ho x => turn3 (odd3_all o ho)
  have p1 : sFor (.nm 2) (iSeqF (sCall (callG ψ__law_f_odd_rows) aNil)) body1 [.fz .strm, .fz (eD h a), .un, .un, .un] s = .ok .nx (gX (eD h a) o1 (.fz d1)) s := by
    rw [e_for]
    simp only [e_iseq, e_call, e_anil, bind_ok, c0, keep_nw, items_lst, optD_some]
    exact l1
  have p2 : sFor (.nm 2) (iSeqF (sTup (aCons (sCon .non) (aCons (sOne negF (sCon (.int 1))) (aCons (sCon (.bl true)) (aCons (sCon (.bl false)) (aCons (sCon (.str "3")) (aCons (sLst (aCons (sCon (.int 2)) aNil)) aNil)))))))) body2 (gX (eD h a) o1 (.fz d1)) s = .ok .nx (gX (eD h a) o2 (.fz d2)) s := by
    have it : iSeqF (sTup (aCons (sCon .non) (aCons (sOne negF (sCon (.int 1))) (aCons (sCon (.bl true)) (aCons (sCon (.bl false)) (aCons (sCon (.str "3")) (aCons (sLst (aCons (sCon (.int 2)) aNil)) aNil))))))) (gX (eD h a) o1 (.fz d1)) s = .ok odds2 (gX (eD h a) o1 (.fz d1)) s := by kernel_rfl
    rw [e_for, it]
    exact l2
  have p3 : sFor (.nm 2) (iSeqF (sTup (aCons (sCon .non) (aCons (sCon (.int 0)) (aCons (sCon (.str "01")) (aCons (sCon (.dic [])) (aCons (sLst (aCons (sCon (.int 2)) aNil)) (aCons (sLst (aCons (sCon (.int 0)) (aCons (sCon (.bl true)) aNil))) (aCons (sLst (aCons (sLst (aCons (sCon (.int 0)) aNil)) aNil)) (aCons (sLst (aCons (sCon (.int 0)) (aCons (sCon .non) aNil))) (aCons (sTup (aCons (sOne negF (sCon (.int 1))) aNil)) aNil))))))))))) body3 (gX (eD h a) o2 (.fz d2)) s = .ok .nx (gX (eD h a) o3 (.fz d3)) s := by
    have it : iSeqF (sTup (aCons (sCon .non) (aCons (sCon (.int 0)) (aCons (sCon (.str "01")) (aCons (sCon (.dic [])) (aCons (sLst (aCons (sCon (.int 2)) aNil)) (aCons (sLst (aCons (sCon (.int 0)) (aCons (sCon (.bl true)) aNil))) (aCons (sLst (aCons (sLst (aCons (sCon (.int 0)) aNil)) aNil)) (aCons (sLst (aCons (sCon (.int 0)) (aCons (sCon .non) aNil))) (aCons (sTup (aCons (sOne negF (sCon (.int 1))) aNil)) aNil)))))))))) (gX (eD h a) o2 (.fz d2)) s = .ok odds3 (gX (eD h a) o2 (.fz d2)) s := by kernel_rfl
    rw [e_for, it]
    exact l3
  show finish (sSeq (sFor (.nm 2) _ body1) (sSeq (sFor (.nm 2) _ body2) (sSeq (sFor (.nm 2) _ body3) sTail)) _ s) = _
  rw [e_seq, p1]
  simp only [bind_ok]
  rw [e_seq, p2]
  simp only [bind_ok]
  rw [e_seq, p3]
  simp only [bind_ok]
  rw [show sTail (gX (eD h a) o3 (.fz d3)) s = _ from tail_ok]
  rfl
end K14
end
section
set_option Elab.async false
set_option linter.all false
set_option maxRecDepth 100000
set_option maxHeartbeats 4000000
/-! PN22: the law itself. -/
namespace K14
open PySem L2 DI
abbrev gZ (x2 x3 x4 x5 x6 : Sl) : Ga := [.un, .fz .strm, x2, x3, x4, x5, x6]
abbrev w1 : Ga → Sd → Out DI.Flow := sPar [3, 4] (pCons (sCall (callG ψ__law_f_endless) (aCons (sVar 1) aNil)) (pCons (sCall (callG ψ__law_f_endless) (aCons (sVar 1) aNil)) lNil))
abbrev w2 : Ga → Sd → Out Bool := tOrF (tNotF (tOf (sCall (callG ψ__law_row_right) (aCons (sVar 1) (aCons (sVar 3) aNil))))) (tNotF (tOf (sCall (callG ψ__law_unlike_right) (aCons (sVar 1) (aCons (sVar 3) (aCons (sVar 4) aNil))))))
abbrev w3 : Ga → Sd → Out Bool := tOrF (tNotF (tOf (sCall (callG ψ__law_unlike_right) (aCons (sVar 1) (aCons (sVar 3) (aCons (sVar 3) aNil)))))) (tNotF (tOf (sCall (callG ψ__law_refused_right) (aCons (sVar 1) (aCons (sVar 3) aNil)))))
abbrev w4 : Ga → Sd → Out DI.Flow := sPar [5, 6] (pCons (sCall (callG ψ_tops) (aCons (sVar 3) (aCons (sCon (.int 9)) aNil))) (pCons (sCall (callG ψ_drop_tops) (aCons (sVar 3) (aCons (sCon (.int 2)) aNil))) lNil))
abbrev w5 : Ga → Sd → Out (List D) := aCons (sCon (.str "late")) aNil
abbrev w7 : Ga → Sd → Out Bool := tNotF (tOf (sCall (callG (ψ__law_same 8)) (aCons (sLst (aCons (sCall (callG ψ_tops) (aCons (sVar 3) (aCons (sCon (.int 9)) aNil))) (aCons (sCall (callG ψ_drop_tops) (aCons (sVar 3) (aCons (sCon (.int 2)) aNil))) aNil))) (aCons (sLst (aCons (sCall (callG ψ__law_f_tops) (aCons (sVar 3) (aCons (sCon (.int 9)) aNil))) (aCons (sCall (callG ψ__law_below) (aCons (sVar 3) (aCons (sCon (.int 2)) aNil))) aNil))) aNil))))
abbrev turnB : Ga → Sd → Out DI.Flow := sSeq w1 (sSeq (sIff w2 rF no) (sSeq (sIff w3 rF no) (sSeq w4 (sSeq (sExp (sMth .append 5 w5)) (sSeq (sExp (sPApp 6 1)) (sIff w7 rF no))))))
theorem law_turn {x2 x3 x4 x5 x6 : Sl} {s : Sd} {k : Nat} (hb : Bud s (k + 120)) : ∃ y3 y4 y5 y6 s', turnB (gZ x2 x3 x4 x5 x6) s = .ok .nx (gZ x2 y3 y4 y5 y6) s' ∧ Bud s' k := by
  obtain ⟨h, a, s1, e1, l1, n1, l2, b1, b2, d1⟩ := s_f_endless (s := s) (k := k + 110) hb
  obtain ⟨h', a', s2, e2, l1', n1', l2', b1', b2', d2⟩ := s_f_endless (s := s1) (k := k + 100) d1
  have m : Sm h a := ⟨b1, b2, n1, l1, l2⟩
  have m' : Sm h' a' := ⟨b1', b2', n1', l1', l2'⟩
  obtain ⟨s3, e3, d3⟩ := s_row_right (s := s2) (k := k + 37) m d2
  obtain ⟨s4, e4, d4⟩ := s_unlike_right (s := s3) (k := k + 26) m m' d3
  obtain ⟨s5, e5, d5⟩ := s_unlike_right (s := s4) (k := k + 15) m m d4
  have e6 := s_refused (s := s5) m
  have c1 := callG_ok (g := gZ x2 x3 x4 x5 x6) e1
  have c2 := callG_ok (g := gZ x2 x3 x4 x5 x6) e2
  have p1 : w1 (gZ x2 x3 x4 x5 x6) s = .ok .nx (gZ x2 (.fz (eD h a)) (.fz (eD h' a')) x5 x6) s2 := by
    unfold w1
    simp only [e_par, e_pcons, e_half, e_call, e_acons, e_anil, e_lnil, e_var, List.getElem?_cons_zero, List.getElem?_cons_succ, e_varfz, keep_fz, bind_ok, c1, c2, half_fz, halved_some]
    rfl
  have c3 := callG_ok (g := gZ x2 (.fz (eD h a)) (.fz (eD h' a')) x5 x6) e3
  have c4 := callG_ok (g := gZ x2 (.fz (eD h a)) (.fz (eD h' a')) x5 x6) e4
  have c5 := callG_ok (g := gZ x2 (.fz (eD h a)) (.fz (eD h' a')) x5 x6) e5
  have c6 := callG_ok (g := gZ x2 (.fz (eD h a)) (.fz (eD h' a')) x5 x6) e6
  have p2 : w2 (gZ x2 (.fz (eD h a)) (.fz (eD h' a')) x5 x6) s2 = .ok false (gZ x2 (.fz (eD h a)) (.fz (eD h' a')) x5 x6) s4 := by
    unfold w2
    simp only [e_tor, e_tnot, e_tof, e_call, e_acons, e_anil, e_var, List.getElem?_cons_zero, List.getElem?_cons_succ, e_varfz, keep_fz, bind_ok, c3, c4, Bool.not_true]
  have p3 : w3 (gZ x2 (.fz (eD h a)) (.fz (eD h' a')) x5 x6) s4 = .ok false (gZ x2 (.fz (eD h a)) (.fz (eD h' a')) x5 x6) s5 := by
    unfold w3
    simp only [e_tor, e_tnot, e_tof, e_call, e_acons, e_anil, e_var, List.getElem?_cons_zero, List.getElem?_cons_succ, e_varfz, keep_fz, bind_ok, c5, c6, Bool.not_true]
  have t1 := s_tops (n := 9) (s := s5) m.tell (by decide)
  have t2 := s_drop (n := 2) (s := s5) m.tell
  have k1 := callG_lst (g := gZ x2 (.fz (eD h a)) (.fz (eD h' a')) x5 x6) t1
  have k2 := callG_T (g := gZ x2 (.fz (eD h a)) (.fz (eD h' a')) x5 x6) t2
  have k1 : callG ψ_tops [eD h a, .int 9] (gZ x2 (.fz (eD h a)) (.fz (eD h' a')) x5 x6) s5 = _ := k1
  have k2 : callG ψ_drop_tops [eD h a, .int 2] (gZ x2 (.fz (eD h a)) (.fz (eD h' a')) x5 x6) s5 = _ := k2
  have p4 : w4 (gZ x2 (.fz (eD h a)) (.fz (eD h' a')) x5 x6) s5 = .ok .nx (gZ x2 (.fz (eD h a)) (.fz (eD h' a')) (.ow (im (figs h a 9))) (.ot (eO (lowF h a 2).1 (lowF h a 2).2))) s5 := by
    unfold w4
    simp only [e_par, e_pcons, e_half, e_call, e_acons, e_anil, e_lnil, e_con, e_var, List.getElem?_cons_zero, List.getElem?_cons_succ, e_varfz, keep_fz, bind_ok, k1, k2, half_nw, half_nt, halved_some]
    rfl
  have p5 : sExp (sMth .append 5 w5) (gZ x2 (.fz (eD h a)) (.fz (eD h' a')) (.ow (im (figs h a 9))) (.ot (eO (lowF h a 2).1 (lowF h a 2).2))) s5 = .ok .nx (gZ x2 (.fz (eD h a)) (.fz (eD h' a')) (.ow (im (figs h a 9) ++ [.str "late"])) (.ot (eO (lowF h a 2).1 (lowF h a 2).2))) s5 := by
    have p : mtF .append (im (figs h a 9)) [.str "late"] = some (.non, im (figs h a 9) ++ [.str "late"]) := by
      show (if (im (figs h a 9)).length < sizeLine then some (D.non, im (figs h a 9) ++ [.str "late"]) else none) = _
      rw [if_pos (by rw [im, List.length_map, figs_len]; decide)]
    rw [e_exp, e_mth (as := w5) (xs0 := im (figs h a 9)) (xs := im (figs h a 9)) (d := .non) (ys := im (figs h a 9) ++ [.str "late"]) (ds := [.str "late"]) (g1 := gZ x2 (.fz (eD h a)) (.fz (eD h' a')) (.ow (im (figs h a 9))) (.ot (eO (lowF h a 2).1 (lowF h a 2).2))) (s1 := s5) rfl rfl rfl p]
    rfl
  have hlow := low_len (h := h) 2 n1
  have hll := least_le (h := (lowP h a 2).1) (low_ne (h := h) 2 n1)
  have hlow1 : (lowF h a 2).1.length ≤ 4 := by unfold lowF; omega
  have hlow2 : (lowF h a 2).2.length ≤ 4 := by unfold lowF; omega
  have p6 : sExp (sPApp 6 1) (gZ x2 (.fz (eD h a)) (.fz (eD h' a')) (.ow (im (figs h a 9) ++ [.str "late"])) (.ot (eO (lowF h a 2).1 (lowF h a 2).2))) s5 = .ok .nx (gZ x2 (.fz (eD h a)) (.fz (eD h' a')) (.ow (im (figs h a 9) ++ [.str "late"])) .un) s5 := by
    rw [e_exp]
    have q : sPApp 6 1 (gZ x2 (.fz (eD h a)) (.fz (eD h' a')) (.ow (im (figs h a 9) ++ [.str "late"])) (.ot (eO (lowF h a 2).1 (lowF h a 2).2))) s5 = .ok (.fz .non) (gZ x2 (.fz (eD h a)) (.fz (eD h' a')) (.ow (im (figs h a 9) ++ [.str "late"])) .un) s5 := by
      show (if ((im (lowF h a 2).2).map O.fz).length < sizeLine then (Out.ok (Rs.fz D.non) ((gZ x2 (.fz (eD h a)) (.fz (eD h' a')) (.ow (im (figs h a 9) ++ [.str "late"])) (.ot (eO (lowF h a 2).1 (lowF h a 2).2))).set 6 .un) s5 : Out Rs) else .bad) = _
      rw [if_pos (Nat.lt_of_le_of_lt (by rw [List.length_map, im, List.length_map]; exact hlow2) (by decide : 4 < sizeLine))]
      rfl
    rw [q]
    rfl
  have g1 := callG_lst (g := gZ x2 (.fz (eD h a)) (.fz (eD h' a')) (.ow (im (figs h a 9) ++ [.str "late"])) .un) t1
  have g2 := callG_T (g := gZ x2 (.fz (eD h a)) (.fz (eD h' a')) (.ow (im (figs h a 9) ++ [.str "late"])) .un) t2
  have g3 := callG_lst (g := gZ x2 (.fz (eD h a)) (.fz (eD h' a')) (.ow (im (figs h a 9) ++ [.str "late"])) .un) (s_lf_tops (h := h) (n := 9) (s := s5) n1 (by omega) (by decide) (by omega))
  have g4 := callG_ok (g := gZ x2 (.fz (eD h a)) (.fz (eD h' a')) (.ow (im (figs h a 9) ++ [.str "late"])) .un) (s_lf_below (h := h) (n := 2) (s := s5) n1 (by omega) (by omega))
  have g1 : callG ψ_tops [eD h a, .int 9] (gZ x2 (.fz (eD h a)) (.fz (eD h' a')) (.ow (im (figs h a 9) ++ [.str "late"])) .un) s5 = _ := g1
  have g2 : callG ψ_drop_tops [eD h a, .int 2] (gZ x2 (.fz (eD h a)) (.fz (eD h' a')) (.ow (im (figs h a 9) ++ [.str "late"])) .un) s5 = _ := g2
  have g3 : callG ψ__law_f_tops [eD h a, .int 9] (gZ x2 (.fz (eD h a)) (.fz (eD h' a')) (.ow (im (figs h a 9) ++ [.str "late"])) .un) s5 = _ := g3
  have g4 : callG ψ__law_below [eD h a, .int 2] (gZ x2 (.fz (eD h a)) (.fz (eD h' a')) (.ow (im (figs h a 9) ++ [.str "late"])) .un) s5 = _ := g4
  have sm := callG_ok (g := gZ x2 (.fz (eD h a)) (.fz (eD h' a')) (.ow (im (figs h a 9) ++ [.str "late"])) .un) (s_same 8 3 (.lst [rD (figs h a 9), eD (lowF h a 2).1 (lowF h a 2).2]) s5 (pl_all (fun x hx => by
    have hx' : x = rD (figs h a 9) ∨ x = eD (lowF h a 2).1 (lowF h a 2).2 := by simpa using hx
    rcases hx' with rfl | rfl
    · exact pl_row 1 (by rw [figs_len]; decide)
    · exact pl_e 0 (by omega) (by omega)) (by show 2 ≤ 2000; decide)) (by decide))
  have p7 : w7 (gZ x2 (.fz (eD h a)) (.fz (eD h' a')) (.ow (im (figs h a 9) ++ [.str "late"])) .un) s5 = .ok false (gZ x2 (.fz (eD h a)) (.fz (eD h' a')) (.ow (im (figs h a 9) ++ [.str "late"])) .un) s5 := by
    unfold w7
    simp only [e_tnot, e_tof, e_call, e_acons, e_anil, e_lst, e_con, e_var, List.getElem?_cons_zero, List.getElem?_cons_succ, e_varfz, keep_fz, keep_nw, keep_nt, eO_d, bind_ok, g1, g2, g3, g4, lo2, if_true, sm, Bool.not_true]
  refine ⟨.fz (eD h a), .fz (eD h' a'), .ow (im (figs h a 9) ++ [.str "late"]), .un, s5, ?_, d5.le (by omega)⟩
  unfold turnB
  rw [e_seq, p1]
  simp only [bind_ok]
  rw [e_seq, e_iff, p2]
  simp only [bind_ok]
  rw [e_seq, e_iff, p3]
  simp only [bind_ok]
  rw [e_seq, p4]
  simp only [bind_ok]
  rw [e_seq, p5]
  simp only [bind_ok]
  rw [e_seq, p6]
  simp only [bind_ok]
  rw [e_iff, p7]
  rfl
theorem law_loop : ∀ (js : List D) (x2 x3 x4 x5 x6 : Sl) (s : Sd) (k : Nat), Bud s (k + 120 * js.length) → ∃ y2 y3 y4 y5 y6 s', forL (forTurn (.nm 2) turnB) js (gZ x2 x3 x4 x5 x6) s = .ok .nx (gZ y2 y3 y4 y5 y6) s' ∧ Bud s' k
  | [], x2, x3, x4, x5, x6, s, k, hb => ⟨x2, x3, x4, x5, x6, s, rfl, by simpa using hb⟩
  | j :: js, x2, x3, x4, x5, x6, s, k, hb => by
    have e1 : k + 120 * (j :: js).length = (k + 120 * js.length) + 120 := by rw [List.length_cons, Nat.mul_succ]; omega
    rw [e1] at hb
    obtain ⟨y3, y4, y5, y6, s1, t, b⟩ := law_turn (x2 := .fz j) (x3 := x3) (x4 := x4) (x5 := x5) (x6 := x6) hb
    obtain ⟨z2, z3, z4, z5, z6, s2, t2, b2⟩ := law_loop js (.fz j) y3 y4 y5 y6 s1 k b
    refine ⟨z2, z3, z4, z5, z6, s2, ?_, b2⟩
    rw [forL_nx (show forTurn (.nm 2) turnB j (gZ x2 x3 x4 x5 x6) s = _ from t), t2]
theorem plain : ∀ ns : List Int, ns.length ≤ 63 → ∃ g' s', b_law g0 ⟨ns, 0, 0, 19⟩ = .ok (.ret (.fz (.bl true))) g' s' := by
  intro ns _
  have b0 : Bud ⟨ns, 0, 0, 19⟩ (0 + 120 * ((List.range 4).map fun (k : Nat) => D.int (0 + (k : Int))).length) := ⟨⟨by show (0:Int) ≤ 0; omega, by show (0:Int) ≤ 19; omega, by show (19:Int) < 2147483647; omega, by show (0:Int) ≤ 0; omega⟩, by
    show (0 : Int) + _ ≤ _
    simp⟩
  obtain ⟨y2, y3, y4, y5, y6, s', t, _⟩ := law_loop _ .un .un .un .un .un _ 0 b0
  have it : iRngF rngF1 (aCons (sCon (.int 4)) aNil) g0 ⟨ns, 0, 0, 19⟩ = .ok ((List.range 4).map fun (k : Nat) => D.int (0 + (k : Int))) g0 ⟨ns, 0, 0, 19⟩ := by
    have q : rngF1 [.int 4] = some ((List.range 4).map fun (k : Nat) => D.int (0 + (k : Int))) := rng_len (n := 4) (by decide)
    simp only [e_irng, e_acons, e_anil, e_con, keep_fz, bind_ok, q, optD_some]
  refine ⟨gZ y2 y3 y4 y5 y6, s', ?_⟩
  show sSeq (sFor (.nm 2) _ turnB) (sRet _) g0 _ = _
  rw [e_seq, e_for, it]
  simp only [bind_ok]
  rw [show forL (forTurn (.nm 2) turnB) ((List.range 4).map fun (k : Nat) => D.int (0 + (k : Int))) g0 ⟨ns, 0, 0, 19⟩ = _ from t]
  rfl
end K14
end
set_option Elab.async false
set_option maxRecDepth 100000
set_option maxHeartbeats 4000000
namespace K14
open PySem L2 DI
open LamX (TabB GivesTo Tabs)
theorem kb_mk19 {K : PySem.W.Frag} {f : Addr} {fd : FuncData} (F : Fun K "drop_tops" "drop_tops" (top 19) f fd) : KBinds K fd ["endless", "many"] ["many", "endless"] (kG [1, 0]) (kG [1, 0]) := by
  obtain ⟨oc, od, kV, doc, pm, an, cdv, ct, osl, rfl, lk, hcd⟩ := F.ex
  refine ⟨fun s us ws hin hl => ?_, fun r rz => kG_rel r rz⟩
  match us, ws, hl with
    | [], [], h => simp [kG, permL] at h
    | [], [a0], h => simp [kG, permL] at h
    | [], a0 :: a1 :: r, _ => exact .of_eq rfl
    | a :: r, ws, h => simp [kG] at h
theorem kb_mk18 {K : PySem.W.Frag} {f : Addr} {fd : FuncData} (F : Fun K "tops" "tops" (top 18) f fd) : KBinds K fd ["endless", "many"] ["many", "endless"] (kG [1, 0]) (kG [1, 0]) := by
  obtain ⟨oc, od, kV, doc, pm, an, cdv, ct, osl, rfl, lk, hcd⟩ := F.ex
  refine ⟨fun s us ws hin hl => ?_, fun r rz => kG_rel r rz⟩
  match us, ws, hl with
    | [], [], h => simp [kG, permL] at h
    | [], [a0], h => simp [kG, permL] at h
    | [], a0 :: a1 :: r, _ => exact .of_eq rfl
    | a :: r, ws, h => simp [kG] at h
theorem kb_mk20 {K : PySem.W.Frag} {f : Addr} {fd : FuncData} (F : Fun K "put_all" "put_all" (top 20) f fd) : KBinds K fd ["figures", "endless"] ["endless", "figures"] (kG [1, 0]) (kG [1, 0]) := by
  obtain ⟨oc, od, kV, doc, pm, an, cdv, ct, osl, rfl, lk, hcd⟩ := F.ex
  refine ⟨fun s us ws hin hl => ?_, fun r rz => kG_rel r rz⟩
  match us, ws, hl with
    | [], [], h => simp [kG, permL] at h
    | [], [a0], h => simp [kG, permL] at h
    | [], a0 :: a1 :: r, _ => exact .of_eq rfl
    | a :: r, ws, h => simp [kG] at h
theorem kb_mk21 {K : PySem.W.Frag} {f : Addr} {fd : FuncData} (F : Fun K "first_unlike" "first_unlike" (top 21) f fd) : KBinds K fd ["endless", "other"] ["other", "endless"] (kG [1, 0]) (kG [1, 0]) := by
  obtain ⟨oc, od, kV, doc, pm, an, cdv, ct, osl, rfl, lk, hcd⟩ := F.ex
  refine ⟨fun s us ws hin hl => ?_, fun r rz => kG_rel r rz⟩
  match us, ws, hl with
    | [], [], h => simp [kG, permL] at h
    | [], [a0], h => simp [kG, permL] at h
    | [], a0 :: a1 :: r, _ => exact .of_eq rfl
    | a :: r, ws, h => simp [kG] at h
def all_mk {K : PySem.W.Frag} {h : Heap} {mg : Str → Option Value} (X : K.In h) (G : h.Ns mainGlobals mg)
    {a7 : Addr} {od7 an7 : Option Addr} {sl7 : Array (Option Value)} {oc7 kV7 dc7 pm7 cd7 ct7 : Value}
    {a8 : Addr} {od8 an8 : Option Addr} {sl8 : Array (Option Value)} {oc8 kV8 dc8 pm8 cd8 ct8 : Value}
    {a9 : Addr} {od9 an9 : Option Addr} {sl9 : Array (Option Value)} {oc9 kV9 dc9 pm9 cd9 ct9 : Value}
    {a10 : Addr} {od10 an10 : Option Addr} {sl10 : Array (Option Value)} {oc10 kV10 dc10 pm10 cd10 ct10 : Value}
    {a11 : Addr} {od11 an11 : Option Addr} {sl11 : Array (Option Value)} {oc11 kV11 dc11 pm11 cd11 ct11 : Value}
    {a12 : Addr} {od12 an12 : Option Addr} {sl12 : Array (Option Value)} {oc12 kV12 dc12 pm12 cd12 ct12 : Value}
    {a13 : Addr} {od13 an13 : Option Addr} {sl13 : Array (Option Value)} {oc13 kV13 dc13 pm13 cd13 ct13 : Value}
    {a15 : Addr} {od15 an15 : Option Addr} {sl15 : Array (Option Value)} {oc15 kV15 dc15 pm15 cd15 ct15 : Value}
    {a16 : Addr} {od16 an16 : Option Addr} {sl16 : Array (Option Value)} {oc16 kV16 dc16 pm16 cd16 ct16 : Value}
    {a17 : Addr} {od17 an17 : Option Addr} {sl17 : Array (Option Value)} {oc17 kV17 dc17 pm17 cd17 ct17 : Value}
    {a18 : Addr} {od18 an18 : Option Addr} {sl18 : Array (Option Value)} {oc18 kV18 dc18 pm18 cd18 ct18 : Value}
    {a19 : Addr} {od19 an19 : Option Addr} {sl19 : Array (Option Value)} {oc19 kV19 dc19 pm19 cd19 ct19 : Value}
    {a20 : Addr} {od20 an20 : Option Addr} {sl20 : Array (Option Value)} {oc20 kV20 dc20 pm20 cd20 ct20 : Value}
    {a21 : Addr} {od21 an21 : Option Addr} {sl21 : Array (Option Value)} {oc21 kV21 dc21 pm21 cd21 ct21 : Value}
    {a23 : Addr} {od23 an23 : Option Addr} {sl23 : Array (Option Value)} {oc23 kV23 dc23 pm23 cd23 ct23 : Value}
    {a24 : Addr} {od24 an24 : Option Addr} {sl24 : Array (Option Value)} {oc24 kV24 dc24 pm24 cd24 ct24 : Value}
    {a25 : Addr} {od25 an25 : Option Addr} {sl25 : Array (Option Value)} {oc25 kV25 dc25 pm25 cd25 ct25 : Value}
    {a26 : Addr} {od26 an26 : Option Addr} {sl26 : Array (Option Value)} {oc26 kV26 dc26 pm26 cd26 ct26 : Value}
    {a27 : Addr} {od27 an27 : Option Addr} {sl27 : Array (Option Value)} {oc27 kV27 dc27 pm27 cd27 ct27 : Value}
    {a28 : Addr} {od28 an28 : Option Addr} {sl28 : Array (Option Value)} {oc28 kV28 dc28 pm28 cd28 ct28 : Value}
    {a29 : Addr} {od29 an29 : Option Addr} {sl29 : Array (Option Value)} {oc29 kV29 dc29 pm29 cd29 ct29 : Value}
    {a30 : Addr} {od30 an30 : Option Addr} {sl30 : Array (Option Value)} {oc30 kV30 dc30 pm30 cd30 ct30 : Value}
    {a31 : Addr} {od31 an31 : Option Addr} {sl31 : Array (Option Value)} {oc31 kV31 dc31 pm31 cd31 ct31 : Value}
    {a32 : Addr} {od32 an32 : Option Addr} {sl32 : Array (Option Value)} {oc32 kV32 dc32 pm32 cd32 ct32 : Value}
    {a33 : Addr} {od33 an33 : Option Addr} {sl33 : Array (Option Value)} {oc33 kV33 dc33 pm33 cd33 ct33 : Value}
    {a34 : Addr} {od34 an34 : Option Addr} {sl34 : Array (Option Value)} {oc34 kV34 dc34 pm34 cd34 ct34 : Value}
    {a35 : Addr} {od35 an35 : Option Addr} {sl35 : Array (Option Value)} {oc35 kV35 dc35 pm35 cd35 ct35 : Value}
    {a36 : Addr} {od36 an36 : Option Addr} {sl36 : Array (Option Value)} {oc36 kV36 dc36 pm36 cd36 ct36 : Value}
    {a37 : Addr} {od37 an37 : Option Addr} {sl37 : Array (Option Value)} {oc37 kV37 dc37 pm37 cd37 ct37 : Value}
    {a38 : Addr} {od38 an38 : Option Addr} {sl38 : Array (Option Value)} {oc38 kV38 dc38 pm38 cd38 ct38 : Value}
    {a39 : Addr} {od39 an39 : Option Addr} {sl39 : Array (Option Value)} {oc39 kV39 dc39 pm39 ct39 : Value}
    {lc39 lt39 : Addr} {occ39 : Value} {odc39 : Option Addr} {vsc39 : Array Value} {slc39 : Array (Option Value)}
    {a40 : Addr} {od40 an40 : Option Addr} {sl40 : Array (Option Value)} {oc40 kV40 dc40 pm40 cd40 ct40 : Value}
    {C_BadEndless i_BadEndless : Addr} {nm_BadEndless q_BadEndless : Str} {N_BadEndless : Addr} {bs_BadEndless bm_BadEndless : List Value} {sn_BadEndless : List Str} {sub_BadEndless : List Value} {ab_BadEndless : Bool} {col_BadEndless : Option Bool} {dd_BadEndless : Option Addr} {k0_BadEndless k1_BadEndless k2_BadEndless k3_BadEndless k5_BadEndless : Option Value} {od_BadEndless an_BadEndless : Option Addr} {sl_BadEndless : Array (Option Value)} {oc_BadEndless kV_BadEndless dc_BadEndless pm_BadEndless cd_BadEndless ct_BadEndless : Value}
    {C_BadFigures i_BadFigures : Addr} {nm_BadFigures q_BadFigures : Str} {N_BadFigures : Addr} {bs_BadFigures bm_BadFigures : List Value} {sn_BadFigures : List Str} {sub_BadFigures : List Value} {ab_BadFigures : Bool} {col_BadFigures : Option Bool} {dd_BadFigures : Option Addr} {k0_BadFigures k1_BadFigures k2_BadFigures k3_BadFigures k5_BadFigures : Option Value} {od_BadFigures an_BadFigures : Option Addr} {sl_BadFigures : Array (Option Value)} {oc_BadFigures kV_BadFigures dc_BadFigures pm_BadFigures cd_BadFigures ct_BadFigures : Value}
    {C_BadMany i_BadMany : Addr} {nm_BadMany q_BadMany : Str} {N_BadMany : Addr} {bs_BadMany bm_BadMany : List Value} {sn_BadMany : List Str} {sub_BadMany : List Value} {ab_BadMany : Bool} {col_BadMany : Option Bool} {dd_BadMany : Option Addr} {k0_BadMany k1_BadMany k2_BadMany k3_BadMany k5_BadMany : Option Value} {od_BadMany an_BadMany : Option Addr} {sl_BadMany : Array (Option Value)} {oc_BadMany kV_BadMany dc_BadMany pm_BadMany cd_BadMany ct_BadMany : Value}
    {C_BadOther i_BadOther : Addr} {nm_BadOther q_BadOther : Str} {N_BadOther : Addr} {bs_BadOther bm_BadOther : List Value} {sn_BadOther : List Str} {sub_BadOther : List Value} {ab_BadOther : Bool} {col_BadOther : Option Bool} {dd_BadOther : Option Addr} {k0_BadOther k1_BadOther k2_BadOther k3_BadOther k5_BadOther : Option Value} {od_BadOther an_BadOther : Option Addr} {sl_BadOther : Array (Option Value)} {oc_BadOther kV_BadOther dc_BadOther pm_BadOther cd_BadOther ct_BadOther : Value}
    (n7 : PySem.W.nsIn K mainGlobals "is_integer" = some (some (.ref a7)))
    (l7 : K.lookup a7 = some ⟨oc7, od7, .func (PySem.W.fnOf "is_integer" "is_integer" (defArgs (top 7)) (defBody (top 7)) (defScope (top 7)) .none kV7 dc7 pm7 an7 cd7 ct7), sl7⟩)
    (c7 : PySem.W.codeIn K cd7 "is_integer" = true)
    (k7 : PySem.W.keepIn K (.ref a7) = true)
    (n8 : PySem.W.nsIn K mainGlobals "is_number" = some (some (.ref a8)))
    (l8 : K.lookup a8 = some ⟨oc8, od8, .func (PySem.W.fnOf "is_number" "is_number" (defArgs (top 8)) (defBody (top 8)) (defScope (top 8)) .none kV8 dc8 pm8 an8 cd8 ct8), sl8⟩)
    (c8 : PySem.W.codeIn K cd8 "is_number" = true)
    (k8 : PySem.W.keepIn K (.ref a8) = true)
    (n9 : PySem.W.nsIn K mainGlobals "is_row" = some (some (.ref a9)))
    (l9 : K.lookup a9 = some ⟨oc9, od9, .func (PySem.W.fnOf "is_row" "is_row" (defArgs (top 9)) (defBody (top 9)) (defScope (top 9)) .none kV9 dc9 pm9 an9 cd9 ct9), sl9⟩)
    (c9 : PySem.W.codeIn K cd9 "is_row" = true)
    (k9 : PySem.W.keepIn K (.ref a9) = true)
    (n10 : PySem.W.nsIn K mainGlobals "is_endless" = some (some (.ref a10)))
    (l10 : K.lookup a10 = some ⟨oc10, od10, .func (PySem.W.fnOf "is_endless" "is_endless" (defArgs (top 10)) (defBody (top 10)) (defScope (top 10)) .none kV10 dc10 pm10 an10 cd10 ct10), sl10⟩)
    (c10 : PySem.W.codeIn K cd10 "is_endless" = true)
    (k10 : PySem.W.keepIn K (.ref a10) = true)
    (n11 : PySem.W.nsIn K mainGlobals "least" = some (some (.ref a11)))
    (l11 : K.lookup a11 = some ⟨oc11, od11, .func (PySem.W.fnOf "least" "least" (defArgs (top 11)) (defBody (top 11)) (defScope (top 11)) .none kV11 dc11 pm11 an11 cd11 ct11), sl11⟩)
    (c11 : PySem.W.codeIn K cd11 "least" = true)
    (k11 : PySem.W.keepIn K (.ref a11) = true)
    (n12 : PySem.W.nsIn K mainGlobals "checked_endless_form" = some (some (.ref a12)))
    (l12 : K.lookup a12 = some ⟨oc12, od12, .func (PySem.W.fnOf "checked_endless_form" "checked_endless_form" (defArgs (top 12)) (defBody (top 12)) (defScope (top 12)) .none kV12 dc12 pm12 an12 cd12 ct12), sl12⟩)
    (c12 : PySem.W.codeIn K cd12 "checked_endless_form" = true)
    (k12 : PySem.W.keepIn K (.ref a12) = true)
    (n13 : PySem.W.nsIn K mainGlobals "checked_endless" = some (some (.ref a13)))
    (l13 : K.lookup a13 = some ⟨oc13, od13, .func (PySem.W.fnOf "checked_endless" "checked_endless" (defArgs (top 13)) (defBody (top 13)) (defScope (top 13)) .none kV13 dc13 pm13 an13 cd13 ct13), sl13⟩)
    (c13 : PySem.W.codeIn K cd13 "checked_endless" = true)
    (k13 : PySem.W.keepIn K (.ref a13) = true)
    (n15 : PySem.W.nsIn K mainGlobals "first_figures" = some (some (.ref a15)))
    (l15 : K.lookup a15 = some ⟨oc15, od15, .func (PySem.W.fnOf "first_figures" "first_figures" (defArgs (top 15)) (defBody (top 15)) (defScope (top 15)) .none kV15 dc15 pm15 an15 cd15 ct15), sl15⟩)
    (c15 : PySem.W.codeIn K cd15 "first_figures" = true)
    (k15 : PySem.W.keepIn K (.ref a15) = true)
    (n16 : PySem.W.nsIn K mainGlobals "row_beneath" = some (some (.ref a16)))
    (l16 : K.lookup a16 = some ⟨oc16, od16, .func (PySem.W.fnOf "row_beneath" "row_beneath" (defArgs (top 16)) (defBody (top 16)) (defScope (top 16)) .none kV16 dc16 pm16 an16 cd16 ct16), sl16⟩)
    (c16 : PySem.W.codeIn K cd16 "row_beneath" = true)
    (k16 : PySem.W.keepIn K (.ref a16) = true)
    (n17 : PySem.W.nsIn K mainGlobals "checked_many" = some (some (.ref a17)))
    (l17 : K.lookup a17 = some ⟨oc17, od17, .func (PySem.W.fnOf "checked_many" "checked_many" (defArgs (top 17)) (defBody (top 17)) (defScope (top 17)) .none kV17 dc17 pm17 an17 cd17 ct17), sl17⟩)
    (c17 : PySem.W.codeIn K cd17 "checked_many" = true)
    (k17 : PySem.W.keepIn K (.ref a17) = true)
    (n18 : PySem.W.nsIn K mainGlobals "tops" = some (some (.ref a18)))
    (l18 : K.lookup a18 = some ⟨oc18, od18, .func (PySem.W.fnOf "tops" "tops" (defArgs (top 18)) (defBody (top 18)) (defScope (top 18)) .none kV18 dc18 pm18 an18 cd18 ct18), sl18⟩)
    (c18 : PySem.W.codeIn K cd18 "tops" = true)
    (k18 : PySem.W.keepIn K (.ref a18) = true)
    (n19 : PySem.W.nsIn K mainGlobals "drop_tops" = some (some (.ref a19)))
    (l19 : K.lookup a19 = some ⟨oc19, od19, .func (PySem.W.fnOf "drop_tops" "drop_tops" (defArgs (top 19)) (defBody (top 19)) (defScope (top 19)) .none kV19 dc19 pm19 an19 cd19 ct19), sl19⟩)
    (c19 : PySem.W.codeIn K cd19 "drop_tops" = true)
    (k19 : PySem.W.keepIn K (.ref a19) = true)
    (n20 : PySem.W.nsIn K mainGlobals "put_all" = some (some (.ref a20)))
    (l20 : K.lookup a20 = some ⟨oc20, od20, .func (PySem.W.fnOf "put_all" "put_all" (defArgs (top 20)) (defBody (top 20)) (defScope (top 20)) .none kV20 dc20 pm20 an20 cd20 ct20), sl20⟩)
    (c20 : PySem.W.codeIn K cd20 "put_all" = true)
    (k20 : PySem.W.keepIn K (.ref a20) = true)
    (n21 : PySem.W.nsIn K mainGlobals "first_unlike" = some (some (.ref a21)))
    (l21 : K.lookup a21 = some ⟨oc21, od21, .func (PySem.W.fnOf "first_unlike" "first_unlike" (defArgs (top 21)) (defBody (top 21)) (defScope (top 21)) .none kV21 dc21 pm21 an21 cd21 ct21), sl21⟩)
    (c21 : PySem.W.codeIn K cd21 "first_unlike" = true)
    (k21 : PySem.W.keepIn K (.ref a21) = true)
    (n23 : PySem.W.nsIn K mainGlobals "_law_f_least" = some (some (.ref a23)))
    (l23 : K.lookup a23 = some ⟨oc23, od23, .func (PySem.W.fnOf "_law_f_least" "_law_f_least" (defArgs (top 23)) (defBody (top 23)) (defScope (top 23)) .none kV23 dc23 pm23 an23 cd23 ct23), sl23⟩)
    (c23 : PySem.W.codeIn K cd23 "_law_f_least" = true)
    (k23 : PySem.W.keepIn K (.ref a23) = true)
    (n24 : PySem.W.nsIn K mainGlobals "_law_f_tops" = some (some (.ref a24)))
    (l24 : K.lookup a24 = some ⟨oc24, od24, .func (PySem.W.fnOf "_law_f_tops" "_law_f_tops" (defArgs (top 24)) (defBody (top 24)) (defScope (top 24)) .none kV24 dc24 pm24 an24 cd24 ct24), sl24⟩)
    (c24 : PySem.W.codeIn K cd24 "_law_f_tops" = true)
    (k24 : PySem.W.keepIn K (.ref a24) = true)
    (n25 : PySem.W.nsIn K mainGlobals "_law_f_beneath" = some (some (.ref a25)))
    (l25 : K.lookup a25 = some ⟨oc25, od25, .func (PySem.W.fnOf "_law_f_beneath" "_law_f_beneath" (defArgs (top 25)) (defBody (top 25)) (defScope (top 25)) .none kV25 dc25 pm25 an25 cd25 ct25), sl25⟩)
    (c25 : PySem.W.codeIn K cd25 "_law_f_beneath" = true)
    (k25 : PySem.W.keepIn K (.ref a25) = true)
    (n26 : PySem.W.nsIn K mainGlobals "_law_f_row" = some (some (.ref a26)))
    (l26 : K.lookup a26 = some ⟨oc26, od26, .func (PySem.W.fnOf "_law_f_row" "_law_f_row" (defArgs (top 26)) (defBody (top 26)) (defScope (top 26)) .none kV26 dc26 pm26 an26 cd26 ct26), sl26⟩)
    (c26 : PySem.W.codeIn K cd26 "_law_f_row" = true)
    (k26 : PySem.W.keepIn K (.ref a26) = true)
    (n27 : PySem.W.nsIn K mainGlobals "_law_f_endless" = some (some (.ref a27)))
    (l27 : K.lookup a27 = some ⟨oc27, od27, .func (PySem.W.fnOf "_law_f_endless" "_law_f_endless" (defArgs (top 27)) (defBody (top 27)) (defScope (top 27)) .none kV27 dc27 pm27 an27 cd27 ct27), sl27⟩)
    (c27 : PySem.W.codeIn K cd27 "_law_f_endless" = true)
    (k27 : PySem.W.keepIn K (.ref a27) = true)
    (n28 : PySem.W.nsIn K mainGlobals "_law_f_as_told" = some (some (.ref a28)))
    (l28 : K.lookup a28 = some ⟨oc28, od28, .func (PySem.W.fnOf "_law_f_as_told" "_law_f_as_told" (defArgs (top 28)) (defBody (top 28)) (defScope (top 28)) .none kV28 dc28 pm28 an28 cd28 ct28), sl28⟩)
    (c28 : PySem.W.codeIn K cd28 "_law_f_as_told" = true)
    (k28 : PySem.W.keepIn K (.ref a28) = true)
    (n29 : PySem.W.nsIn K mainGlobals "_law_f_odd_rows" = some (some (.ref a29)))
    (l29 : K.lookup a29 = some ⟨oc29, od29, .func (PySem.W.fnOf "_law_f_odd_rows" "_law_f_odd_rows" (defArgs (top 29)) (defBody (top 29)) (defScope (top 29)) .none kV29 dc29 pm29 an29 cd29 ct29), sl29⟩)
    (c29 : PySem.W.codeIn K cd29 "_law_f_odd_rows" = true)
    (k29 : PySem.W.keepIn K (.ref a29) = true)
    (n30 : PySem.W.nsIn K mainGlobals "_law_start" = some (some (.ref a30)))
    (l30 : K.lookup a30 = some ⟨oc30, od30, .func (PySem.W.fnOf "_law_start" "_law_start" (defArgs (top 30)) (defBody (top 30)) (defScope (top 30)) .none kV30 dc30 pm30 an30 cd30 ct30), sl30⟩)
    (c30 : PySem.W.codeIn K cd30 "_law_start" = true)
    (k30 : PySem.W.keepIn K (.ref a30) = true)
    (n31 : PySem.W.nsIn K mainGlobals "_law_draw" = some (some (.ref a31)))
    (l31 : K.lookup a31 = some ⟨oc31, od31, .func (PySem.W.fnOf "_law_draw" "_law_draw" (defArgs (top 31)) (defBody (top 31)) (defScope (top 31)) .none kV31 dc31 pm31 an31 cd31 ct31), sl31⟩)
    (c31 : PySem.W.codeIn K cd31 "_law_draw" = true)
    (k31 : PySem.W.keepIn K (.ref a31) = true)
    (n32 : PySem.W.nsIn K mainGlobals "_law_mixed" = some (some (.ref a32)))
    (l32 : K.lookup a32 = some ⟨oc32, od32, .func (PySem.W.fnOf "_law_mixed" "_law_mixed" (defArgs (top 32)) (defBody (top 32)) (defScope (top 32)) .none kV32 dc32 pm32 an32 cd32 ct32), sl32⟩)
    (c32 : PySem.W.codeIn K cd32 "_law_mixed" = true)
    (k32 : PySem.W.keepIn K (.ref a32) = true)
    (n33 : PySem.W.nsIn K mainGlobals "_law_same" = some (some (.ref a33)))
    (l33 : K.lookup a33 = some ⟨oc33, od33, .func (PySem.W.fnOf "_law_same" "_law_same" (defArgs (top 33)) (defBody (top 33)) (defScope (top 33)) .none kV33 dc33 pm33 an33 cd33 ct33), sl33⟩)
    (c33 : PySem.W.codeIn K cd33 "_law_same" = true)
    (k33 : PySem.W.keepIn K (.ref a33) = true)
    (n34 : PySem.W.nsIn K mainGlobals "_law_loose" = some (some (.ref a34)))
    (l34 : K.lookup a34 = some ⟨oc34, od34, .func (PySem.W.fnOf "_law_loose" "_law_loose" (defArgs (top 34)) (defBody (top 34)) (defScope (top 34)) .none kV34 dc34 pm34 an34 cd34 ct34), sl34⟩)
    (c34 : PySem.W.codeIn K cd34 "_law_loose" = true)
    (k34 : PySem.W.keepIn K (.ref a34) = true)
    (n35 : PySem.W.nsIn K mainGlobals "_law_row_or" = some (some (.ref a35)))
    (l35 : K.lookup a35 = some ⟨oc35, od35, .func (PySem.W.fnOf "_law_row_or" "_law_row_or" (defArgs (top 35)) (defBody (top 35)) (defScope (top 35)) .none kV35 dc35 pm35 an35 cd35 ct35), sl35⟩)
    (c35 : PySem.W.codeIn K cd35 "_law_row_or" = true)
    (k35 : PySem.W.keepIn K (.ref a35) = true)
    (n36 : PySem.W.nsIn K mainGlobals "_law_below" = some (some (.ref a36)))
    (l36 : K.lookup a36 = some ⟨oc36, od36, .func (PySem.W.fnOf "_law_below" "_law_below" (defArgs (top 36)) (defBody (top 36)) (defScope (top 36)) .none kV36 dc36 pm36 an36 cd36 ct36), sl36⟩)
    (c36 : PySem.W.codeIn K cd36 "_law_below" = true)
    (k36 : PySem.W.keepIn K (.ref a36) = true)
    (n37 : PySem.W.nsIn K mainGlobals "_law_row_right" = some (some (.ref a37)))
    (l37 : K.lookup a37 = some ⟨oc37, od37, .func (PySem.W.fnOf "_law_row_right" "_law_row_right" (defArgs (top 37)) (defBody (top 37)) (defScope (top 37)) .none kV37 dc37 pm37 an37 cd37 ct37), sl37⟩)
    (c37 : PySem.W.codeIn K cd37 "_law_row_right" = true)
    (k37 : PySem.W.keepIn K (.ref a37) = true)
    (n38 : PySem.W.nsIn K mainGlobals "_law_unlike_right" = some (some (.ref a38)))
    (l38 : K.lookup a38 = some ⟨oc38, od38, .func (PySem.W.fnOf "_law_unlike_right" "_law_unlike_right" (defArgs (top 38)) (defBody (top 38)) (defScope (top 38)) .none kV38 dc38 pm38 an38 cd38 ct38), sl38⟩)
    (c38 : PySem.W.codeIn K cd38 "_law_unlike_right" = true)
    (k38 : PySem.W.keepIn K (.ref a38) = true)
    (n39 : PySem.W.nsIn K mainGlobals "_law_refused_right" = some (some (.ref a39)))
    (l39 : K.lookup a39 = some ⟨oc39, od39, .func (PySem.W.fnOf "_law_refused_right" "_law_refused_right" (defArgs (top 39)) (defBody (top 39)) (defScope (top 39)) .none kV39 dc39 pm39 an39 (.ref lc39) ct39), sl39⟩)
    (c39 : PySem.W.codeIn K (.ref lc39) "_law_refused_right" = true)
    (k39 : PySem.W.keepIn K (.ref a39) = true)
    (lq39 : K.lookup lc39 = some ⟨occ39, odc39, .fields vsc39, slc39⟩)
    (lp39 : (vsc39[11]? : Option Value) = some (.ref lt39))
    (lh39 : PySem.W.codeHdIn K lc39 lt39 = true)
    (ln39 : K.lookup lt39 = none)
    (n40 : PySem.W.nsIn K mainGlobals "law" = some (some (.ref a40)))
    (l40 : K.lookup a40 = some ⟨oc40, od40, .func (PySem.W.fnOf "law" "law" (defArgs (top 40)) (defBody (top 40)) (defScope (top 40)) .none kV40 dc40 pm40 an40 cd40 ct40), sl40⟩)
    (c40 : PySem.W.codeIn K cd40 "law" = true)
    (k40 : PySem.W.keepIn K (.ref a40) = true)
    (n_BadEndless : PySem.W.nsIn K mainGlobals "BadEndless" = some (some (.ref C_BadEndless)))
    (xL_BadEndless : K.lookup C_BadEndless = some (excClassObj nm_BadEndless q_BadEndless C_BadEndless N_BadEndless bs_BadEndless bm_BadEndless true sn_BadEndless sub_BadEndless ab_BadEndless col_BadEndless dd_BadEndless k0_BadEndless k1_BadEndless k2_BadEndless k3_BadEndless k5_BadEndless "ValueError.__new__"))
    (rv_BadEndless : PySem.HandSPX.refsVE bm_BadEndless = true)
    (sa_BadEndless : PySem.W.findIn K (.ref C_BadEndless) "__setattr__" = some (some (.builtin "object.__setattr__")))
    (ex_BadEndless : PySem.W.subIn K (.ref C_BadEndless) (.type "BaseException") = some true)
    (tyc_BadEndless : PySem.W.typeIn K (.ref C_BadEndless) = some (.type "type"))
    (kc_BadEndless : PySem.W.keepIn K (.ref C_BadEndless) = true)
    (in_BadEndless : PySem.W.findIn K (.ref C_BadEndless) "__init__" = some (some (.ref i_BadEndless)))
    (ty_BadEndless : PySem.W.typeIn K (.ref i_BadEndless) = some (.type "function"))
    (no_BadEndless : PySem.W.findIn K (.ref C_BadEndless) "thing" = some none)
    (ga_BadEndless : PySem.W.findIn K (.ref C_BadEndless) "__getattribute__" = some (some (.builtin "BaseException.__getattribute__")))
    (gg_BadEndless : PySem.W.findIn K (.ref C_BadEndless) "__getattr__" = some none)
    (hd_BadEndless : PySem.W.hasDictIn K C_BadEndless = true)
    (ic_BadEndless : PySem.W.isClsIn K C_BadEndless = true)
    (sc_BadEndless : PySem.W.subIn K (.ref C_BadEndless) (.ref C_BadEndless) = some true)
    (l_BadEndless : K.lookup i_BadEndless = some ⟨oc_BadEndless, od_BadEndless, .func (PySem.W.fnOf "__init__" "BadEndless.__init__" (defArgs (inClass (top 2) 0)) (defBody (inClass (top 2) 0)) (defScope (inClass (top 2) 0)) .none kV_BadEndless dc_BadEndless pm_BadEndless an_BadEndless cd_BadEndless ct_BadEndless), sl_BadEndless⟩)
    (c_BadEndless : PySem.W.codeIn K cd_BadEndless "BadEndless.__init__" = true)
    (k_BadEndless : PySem.W.keepIn K (.ref i_BadEndless) = true)
    (n_BadFigures : PySem.W.nsIn K mainGlobals "BadFigures" = some (some (.ref C_BadFigures)))
    (xL_BadFigures : K.lookup C_BadFigures = some (excClassObj nm_BadFigures q_BadFigures C_BadFigures N_BadFigures bs_BadFigures bm_BadFigures true sn_BadFigures sub_BadFigures ab_BadFigures col_BadFigures dd_BadFigures k0_BadFigures k1_BadFigures k2_BadFigures k3_BadFigures k5_BadFigures "ValueError.__new__"))
    (rv_BadFigures : PySem.HandSPX.refsVE bm_BadFigures = true)
    (sa_BadFigures : PySem.W.findIn K (.ref C_BadFigures) "__setattr__" = some (some (.builtin "object.__setattr__")))
    (ex_BadFigures : PySem.W.subIn K (.ref C_BadFigures) (.type "BaseException") = some true)
    (tyc_BadFigures : PySem.W.typeIn K (.ref C_BadFigures) = some (.type "type"))
    (kc_BadFigures : PySem.W.keepIn K (.ref C_BadFigures) = true)
    (in_BadFigures : PySem.W.findIn K (.ref C_BadFigures) "__init__" = some (some (.ref i_BadFigures)))
    (ty_BadFigures : PySem.W.typeIn K (.ref i_BadFigures) = some (.type "function"))
    (no_BadFigures : PySem.W.findIn K (.ref C_BadFigures) "thing" = some none)
    (ga_BadFigures : PySem.W.findIn K (.ref C_BadFigures) "__getattribute__" = some (some (.builtin "BaseException.__getattribute__")))
    (gg_BadFigures : PySem.W.findIn K (.ref C_BadFigures) "__getattr__" = some none)
    (hd_BadFigures : PySem.W.hasDictIn K C_BadFigures = true)
    (ic_BadFigures : PySem.W.isClsIn K C_BadFigures = true)
    (sc_BadFigures : PySem.W.subIn K (.ref C_BadFigures) (.ref C_BadFigures) = some true)
    (l_BadFigures : K.lookup i_BadFigures = some ⟨oc_BadFigures, od_BadFigures, .func (PySem.W.fnOf "__init__" "BadFigures.__init__" (defArgs (inClass (top 3) 0)) (defBody (inClass (top 3) 0)) (defScope (inClass (top 3) 0)) .none kV_BadFigures dc_BadFigures pm_BadFigures an_BadFigures cd_BadFigures ct_BadFigures), sl_BadFigures⟩)
    (c_BadFigures : PySem.W.codeIn K cd_BadFigures "BadFigures.__init__" = true)
    (k_BadFigures : PySem.W.keepIn K (.ref i_BadFigures) = true)
    (n_BadMany : PySem.W.nsIn K mainGlobals "BadMany" = some (some (.ref C_BadMany)))
    (xL_BadMany : K.lookup C_BadMany = some (excClassObj nm_BadMany q_BadMany C_BadMany N_BadMany bs_BadMany bm_BadMany true sn_BadMany sub_BadMany ab_BadMany col_BadMany dd_BadMany k0_BadMany k1_BadMany k2_BadMany k3_BadMany k5_BadMany "ValueError.__new__"))
    (rv_BadMany : PySem.HandSPX.refsVE bm_BadMany = true)
    (sa_BadMany : PySem.W.findIn K (.ref C_BadMany) "__setattr__" = some (some (.builtin "object.__setattr__")))
    (ex_BadMany : PySem.W.subIn K (.ref C_BadMany) (.type "BaseException") = some true)
    (tyc_BadMany : PySem.W.typeIn K (.ref C_BadMany) = some (.type "type"))
    (kc_BadMany : PySem.W.keepIn K (.ref C_BadMany) = true)
    (in_BadMany : PySem.W.findIn K (.ref C_BadMany) "__init__" = some (some (.ref i_BadMany)))
    (ty_BadMany : PySem.W.typeIn K (.ref i_BadMany) = some (.type "function"))
    (no_BadMany : PySem.W.findIn K (.ref C_BadMany) "thing" = some none)
    (ga_BadMany : PySem.W.findIn K (.ref C_BadMany) "__getattribute__" = some (some (.builtin "BaseException.__getattribute__")))
    (gg_BadMany : PySem.W.findIn K (.ref C_BadMany) "__getattr__" = some none)
    (hd_BadMany : PySem.W.hasDictIn K C_BadMany = true)
    (ic_BadMany : PySem.W.isClsIn K C_BadMany = true)
    (sc_BadMany : PySem.W.subIn K (.ref C_BadMany) (.ref C_BadMany) = some true)
    (l_BadMany : K.lookup i_BadMany = some ⟨oc_BadMany, od_BadMany, .func (PySem.W.fnOf "__init__" "BadMany.__init__" (defArgs (inClass (top 4) 0)) (defBody (inClass (top 4) 0)) (defScope (inClass (top 4) 0)) .none kV_BadMany dc_BadMany pm_BadMany an_BadMany cd_BadMany ct_BadMany), sl_BadMany⟩)
    (c_BadMany : PySem.W.codeIn K cd_BadMany "BadMany.__init__" = true)
    (k_BadMany : PySem.W.keepIn K (.ref i_BadMany) = true)
    (n_BadOther : PySem.W.nsIn K mainGlobals "BadOther" = some (some (.ref C_BadOther)))
    (xL_BadOther : K.lookup C_BadOther = some (excClassObj nm_BadOther q_BadOther C_BadOther N_BadOther bs_BadOther bm_BadOther true sn_BadOther sub_BadOther ab_BadOther col_BadOther dd_BadOther k0_BadOther k1_BadOther k2_BadOther k3_BadOther k5_BadOther "ValueError.__new__"))
    (rv_BadOther : PySem.HandSPX.refsVE bm_BadOther = true)
    (sa_BadOther : PySem.W.findIn K (.ref C_BadOther) "__setattr__" = some (some (.builtin "object.__setattr__")))
    (ex_BadOther : PySem.W.subIn K (.ref C_BadOther) (.type "BaseException") = some true)
    (tyc_BadOther : PySem.W.typeIn K (.ref C_BadOther) = some (.type "type"))
    (kc_BadOther : PySem.W.keepIn K (.ref C_BadOther) = true)
    (in_BadOther : PySem.W.findIn K (.ref C_BadOther) "__init__" = some (some (.ref i_BadOther)))
    (ty_BadOther : PySem.W.typeIn K (.ref i_BadOther) = some (.type "function"))
    (no_BadOther : PySem.W.findIn K (.ref C_BadOther) "thing" = some none)
    (ga_BadOther : PySem.W.findIn K (.ref C_BadOther) "__getattribute__" = some (some (.builtin "BaseException.__getattribute__")))
    (gg_BadOther : PySem.W.findIn K (.ref C_BadOther) "__getattr__" = some none)
    (hd_BadOther : PySem.W.hasDictIn K C_BadOther = true)
    (ic_BadOther : PySem.W.isClsIn K C_BadOther = true)
    (sc_BadOther : PySem.W.subIn K (.ref C_BadOther) (.ref C_BadOther) = some true)
    (l_BadOther : K.lookup i_BadOther = some ⟨oc_BadOther, od_BadOther, .func (PySem.W.fnOf "__init__" "BadOther.__init__" (defArgs (inClass (top 5) 0)) (defBody (inClass (top 5) 0)) (defScope (inClass (top 5) 0)) .none kV_BadOther dc_BadOther pm_BadOther an_BadOther cd_BadOther ct_BadOther), sl_BadOther⟩)
    (c_BadOther : PySem.W.codeIn K cd_BadOther "BadOther.__init__" = true)
    (k_BadOther : PySem.W.keepIn K (.ref i_BadOther) = true)
    (tp_BadEndless_BadMany : PySem.W.subIn K (.ref C_BadEndless) (.ref C_BadMany) = some false)
    (tp_BadEndless_BadFigures : PySem.W.subIn K (.ref C_BadEndless) (.ref C_BadFigures) = some false)
    (tp_BadEndless_BadOther : PySem.W.subIn K (.ref C_BadEndless) (.ref C_BadOther) = some false)
    (tp_BadMany_BadEndless : PySem.W.subIn K (.ref C_BadMany) (.ref C_BadEndless) = some false)
    (tp_BadMany_BadFigures : PySem.W.subIn K (.ref C_BadMany) (.ref C_BadFigures) = some false)
    (tp_BadMany_BadOther : PySem.W.subIn K (.ref C_BadMany) (.ref C_BadOther) = some false)
    (tp_BadFigures_BadEndless : PySem.W.subIn K (.ref C_BadFigures) (.ref C_BadEndless) = some false)
    (tp_BadFigures_BadMany : PySem.W.subIn K (.ref C_BadFigures) (.ref C_BadMany) = some false)
    (tp_BadFigures_BadOther : PySem.W.subIn K (.ref C_BadFigures) (.ref C_BadOther) = some false)
    (tp_BadOther_BadEndless : PySem.W.subIn K (.ref C_BadOther) (.ref C_BadEndless) = some false)
    (tp_BadOther_BadMany : PySem.W.subIn K (.ref C_BadOther) (.ref C_BadMany) = some false)
    (tp_BadOther_BadFigures : PySem.W.subIn K (.ref C_BadOther) (.ref C_BadFigures) = some false)
    (n_all : PySem.W.nsIn K mainGlobals "all" = some none)
    (n_bool : PySem.W.nsIn K mainGlobals "bool" = some none)
    (n_dict : PySem.W.nsIn K mainGlobals "dict" = some none)
    (n_enumerate : PySem.W.nsIn K mainGlobals "enumerate" = some none)
    (n_int : PySem.W.nsIn K mainGlobals "int" = some none)
    (n_isinstance : PySem.W.nsIn K mainGlobals "isinstance" = some none)
    (n_len : PySem.W.nsIn K mainGlobals "len" = some none)
    (n_list : PySem.W.nsIn K mainGlobals "list" = some none)
    (n_max : PySem.W.nsIn K mainGlobals "max" = some none)
    (n_range : PySem.W.nsIn K mainGlobals "range" = some none)
    (n_repr : PySem.W.nsIn K mainGlobals "repr" = some none)
    (n_tuple : PySem.W.nsIn K mainGlobals "tuple" = some none)
    (n_zip : PySem.W.nsIn K mainGlobals "zip" = some none) :
    Tx K (fun i => if i = 1 then some (C_BadEndless, ("thing" : Str)) else if i = 2 then some (C_BadFigures, ("thing" : Str)) else if i = 3 then some (C_BadMany, ("thing" : Str)) else if i = 4 then some (C_BadOther, ("thing" : Str)) else none) mg := {
  a7 := a7, f7 := PySem.W.fnOf "is_integer" "is_integer" (defArgs (top 7)) (defBody (top 7)) (defScope (top 7)) .none kV7 dc7 pm7 an7 cd7 ct7, d7 := ⟨PySem.W.mg_of X G n7, (fun_mk (st := top 7) l7 c7 k7), k7, (fun_mk (st := top 7) l7 c7 k7).binds (ps := ["thing"]) fun _ _ _ _ _ _ us hl => match us, hl with | [_], _ => rfl⟩,
  a8 := a8, f8 := PySem.W.fnOf "is_number" "is_number" (defArgs (top 8)) (defBody (top 8)) (defScope (top 8)) .none kV8 dc8 pm8 an8 cd8 ct8, d8 := ⟨PySem.W.mg_of X G n8, (fun_mk (st := top 8) l8 c8 k8), k8, (fun_mk (st := top 8) l8 c8 k8).binds (ps := ["thing"]) fun _ _ _ _ _ _ us hl => match us, hl with | [_], _ => rfl⟩,
  a9 := a9, f9 := PySem.W.fnOf "is_row" "is_row" (defArgs (top 9)) (defBody (top 9)) (defScope (top 9)) .none kV9 dc9 pm9 an9 cd9 ct9, d9 := ⟨PySem.W.mg_of X G n9, (fun_mk (st := top 9) l9 c9 k9), k9, (fun_mk (st := top 9) l9 c9 k9).binds (ps := ["thing"]) fun _ _ _ _ _ _ us hl => match us, hl with | [_], _ => rfl⟩,
  a10 := a10, f10 := PySem.W.fnOf "is_endless" "is_endless" (defArgs (top 10)) (defBody (top 10)) (defScope (top 10)) .none kV10 dc10 pm10 an10 cd10 ct10, d10 := ⟨PySem.W.mg_of X G n10, (fun_mk (st := top 10) l10 c10 k10), k10, (fun_mk (st := top 10) l10 c10 k10).binds (ps := ["thing"]) fun _ _ _ _ _ _ us hl => match us, hl with | [_], _ => rfl⟩,
  a11 := a11, f11 := PySem.W.fnOf "least" "least" (defArgs (top 11)) (defBody (top 11)) (defScope (top 11)) .none kV11 dc11 pm11 an11 cd11 ct11, d11 := ⟨PySem.W.mg_of X G n11, (fun_mk (st := top 11) l11 c11 k11), k11, (fun_mk (st := top 11) l11 c11 k11).binds (ps := ["head", "again"]) fun _ _ _ _ _ _ us hl => match us, hl with | [_, _], _ => rfl⟩,
  a12 := a12, f12 := PySem.W.fnOf "checked_endless_form" "checked_endless_form" (defArgs (top 12)) (defBody (top 12)) (defScope (top 12)) .none kV12 dc12 pm12 an12 cd12 ct12, d12 := ⟨PySem.W.mg_of X G n12, (fun_mk (st := top 12) l12 c12 k12), k12, (fun_mk (st := top 12) l12 c12 k12).binds (ps := ["thing"]) fun _ _ _ _ _ _ us hl => match us, hl with | [_], _ => rfl⟩,
  a13 := a13, f13 := PySem.W.fnOf "checked_endless" "checked_endless" (defArgs (top 13)) (defBody (top 13)) (defScope (top 13)) .none kV13 dc13 pm13 an13 cd13 ct13, d13 := ⟨PySem.W.mg_of X G n13, (fun_mk (st := top 13) l13 c13 k13), k13, (fun_mk (st := top 13) l13 c13 k13).binds (ps := ["thing"]) fun _ _ _ _ _ _ us hl => match us, hl with | [_], _ => rfl⟩,
  a15 := a15, f15 := PySem.W.fnOf "first_figures" "first_figures" (defArgs (top 15)) (defBody (top 15)) (defScope (top 15)) .none kV15 dc15 pm15 an15 cd15 ct15, d15 := ⟨PySem.W.mg_of X G n15, (fun_mk (st := top 15) l15 c15 k15), k15, (fun_mk (st := top 15) l15 c15 k15).binds (ps := ["endless", "many"]) fun _ _ _ _ _ _ us hl => match us, hl with | [_, _], _ => rfl⟩,
  a16 := a16, f16 := PySem.W.fnOf "row_beneath" "row_beneath" (defArgs (top 16)) (defBody (top 16)) (defScope (top 16)) .none kV16 dc16 pm16 an16 cd16 ct16, d16 := ⟨PySem.W.mg_of X G n16, (fun_mk (st := top 16) l16 c16 k16), k16, (fun_mk (st := top 16) l16 c16 k16).binds (ps := ["endless", "many"]) fun _ _ _ _ _ _ us hl => match us, hl with | [_, _], _ => rfl⟩,
  a17 := a17, f17 := PySem.W.fnOf "checked_many" "checked_many" (defArgs (top 17)) (defBody (top 17)) (defScope (top 17)) .none kV17 dc17 pm17 an17 cd17 ct17, d17 := ⟨PySem.W.mg_of X G n17, (fun_mk (st := top 17) l17 c17 k17), k17, (fun_mk (st := top 17) l17 c17 k17).binds (ps := ["many"]) fun _ _ _ _ _ _ us hl => match us, hl with | [_], _ => rfl⟩,
  a18 := a18, f18 := PySem.W.fnOf "tops" "tops" (defArgs (top 18)) (defBody (top 18)) (defScope (top 18)) .none kV18 dc18 pm18 an18 cd18 ct18, d18 := ⟨PySem.W.mg_of X G n18, (fun_mk (st := top 18) l18 c18 k18), k18, (fun_mk (st := top 18) l18 c18 k18).binds (ps := ["endless", "many"]) fun _ _ _ _ _ _ us hl => match us, hl with | [_, _], _ => rfl⟩,
  a19 := a19, f19 := PySem.W.fnOf "drop_tops" "drop_tops" (defArgs (top 19)) (defBody (top 19)) (defScope (top 19)) .none kV19 dc19 pm19 an19 cd19 ct19, d19 := ⟨PySem.W.mg_of X G n19, (fun_mk (st := top 19) l19 c19 k19), k19, (fun_mk (st := top 19) l19 c19 k19).binds (ps := ["endless", "many"]) fun _ _ _ _ _ _ us hl => match us, hl with | [_, _], _ => rfl⟩,
  a20 := a20, f20 := PySem.W.fnOf "put_all" "put_all" (defArgs (top 20)) (defBody (top 20)) (defScope (top 20)) .none kV20 dc20 pm20 an20 cd20 ct20, d20 := ⟨PySem.W.mg_of X G n20, (fun_mk (st := top 20) l20 c20 k20), k20, (fun_mk (st := top 20) l20 c20 k20).binds (ps := ["figures", "endless"]) fun _ _ _ _ _ _ us hl => match us, hl with | [_, _], _ => rfl⟩,
  a21 := a21, f21 := PySem.W.fnOf "first_unlike" "first_unlike" (defArgs (top 21)) (defBody (top 21)) (defScope (top 21)) .none kV21 dc21 pm21 an21 cd21 ct21, d21 := ⟨PySem.W.mg_of X G n21, (fun_mk (st := top 21) l21 c21 k21), k21, (fun_mk (st := top 21) l21 c21 k21).binds (ps := ["endless", "other"]) fun _ _ _ _ _ _ us hl => match us, hl with | [_, _], _ => rfl⟩,
  a23 := a23, f23 := PySem.W.fnOf "_law_f_least" "_law_f_least" (defArgs (top 23)) (defBody (top 23)) (defScope (top 23)) .none kV23 dc23 pm23 an23 cd23 ct23, d23 := ⟨PySem.W.mg_of X G n23, (fun_mk (st := top 23) l23 c23 k23), k23, (fun_mk (st := top 23) l23 c23 k23).binds (ps := ["head", "again"]) fun _ _ _ _ _ _ us hl => match us, hl with | [_, _], _ => rfl⟩,
  a24 := a24, f24 := PySem.W.fnOf "_law_f_tops" "_law_f_tops" (defArgs (top 24)) (defBody (top 24)) (defScope (top 24)) .none kV24 dc24 pm24 an24 cd24 ct24, d24 := ⟨PySem.W.mg_of X G n24, (fun_mk (st := top 24) l24 c24 k24), k24, (fun_mk (st := top 24) l24 c24 k24).binds (ps := ["row", "many"]) fun _ _ _ _ _ _ us hl => match us, hl with | [_, _], _ => rfl⟩,
  a25 := a25, f25 := PySem.W.fnOf "_law_f_beneath" "_law_f_beneath" (defArgs (top 25)) (defBody (top 25)) (defScope (top 25)) .none kV25 dc25 pm25 an25 cd25 ct25, d25 := ⟨PySem.W.mg_of X G n25, (fun_mk (st := top 25) l25 c25 k25), k25, (fun_mk (st := top 25) l25 c25 k25).binds (ps := ["row", "many"]) fun _ _ _ _ _ _ us hl => match us, hl with | [_, _], _ => rfl⟩,
  a26 := a26, f26 := PySem.W.fnOf "_law_f_row" "_law_f_row" (defArgs (top 26)) (defBody (top 26)) (defScope (top 26)) .none kV26 dc26 pm26 an26 cd26 ct26, d26 := ⟨PySem.W.mg_of X G n26, (fun_mk (st := top 26) l26 c26 k26), k26, (fun_mk (st := top 26) l26 c26 k26).binds (ps := ["stream", "many"]) fun _ _ _ _ _ _ us hl => match us, hl with | [_, _], _ => rfl⟩,
  a27 := a27, f27 := PySem.W.fnOf "_law_f_endless" "_law_f_endless" (defArgs (top 27)) (defBody (top 27)) (defScope (top 27)) .none kV27 dc27 pm27 an27 cd27 ct27, d27 := ⟨PySem.W.mg_of X G n27, (fun_mk (st := top 27) l27 c27 k27), k27, (fun_mk (st := top 27) l27 c27 k27).binds (ps := ["stream"]) fun _ _ _ _ _ _ us hl => match us, hl with | [_], _ => rfl⟩,
  a28 := a28, f28 := PySem.W.fnOf "_law_f_as_told" "_law_f_as_told" (defArgs (top 28)) (defBody (top 28)) (defScope (top 28)) .none kV28 dc28 pm28 an28 cd28 ct28, d28 := ⟨PySem.W.mg_of X G n28, (fun_mk (st := top 28) l28 c28 k28), k28, (fun_mk (st := top 28) l28 c28 k28).binds (ps := ["stream", "row"]) fun _ _ _ _ _ _ us hl => match us, hl with | [_, _], _ => rfl⟩,
  a29 := a29, f29 := PySem.W.fnOf "_law_f_odd_rows" "_law_f_odd_rows" (defArgs (top 29)) (defBody (top 29)) (defScope (top 29)) .none kV29 dc29 pm29 an29 cd29 ct29, d29 := ⟨PySem.W.mg_of X G n29, (fun_mk (st := top 29) l29 c29 k29), k29, (fun_mk (st := top 29) l29 c29 k29).binds (ps := []) fun _ _ _ _ _ _ us hl => match us, hl with | [], _ => rfl⟩,
  a30 := a30, f30 := PySem.W.fnOf "_law_start" "_law_start" (defArgs (top 30)) (defBody (top 30)) (defScope (top 30)) .none kV30 dc30 pm30 an30 cd30 ct30, d30 := ⟨PySem.W.mg_of X G n30, (fun_mk (st := top 30) l30 c30 k30), k30, (fun_mk (st := top 30) l30 c30 k30).binds (ps := ["script"]) fun _ _ _ _ _ _ us hl => match us, hl with | [_], _ => rfl⟩,
  a31 := a31, f31 := PySem.W.fnOf "_law_draw" "_law_draw" (defArgs (top 31)) (defBody (top 31)) (defScope (top 31)) .none kV31 dc31 pm31 an31 cd31 ct31, d31 := ⟨PySem.W.mg_of X G n31, (fun_mk (st := top 31) l31 c31 k31), k31, (fun_mk (st := top 31) l31 c31 k31).binds (ps := ["stream", "many"]) fun _ _ _ _ _ _ us hl => match us, hl with | [_, _], _ => rfl⟩,
  a32 := a32, f32 := PySem.W.fnOf "_law_mixed" "_law_mixed" (defArgs (top 32)) (defBody (top 32)) (defScope (top 32)) .none kV32 dc32 pm32 an32 cd32 ct32, d32 := ⟨PySem.W.mg_of X G n32, (fun_mk (st := top 32) l32 c32 k32), k32, (fun_mk (st := top 32) l32 c32 k32).binds (ps := ["stream", "some"]) fun _ _ _ _ _ _ us hl => match us, hl with | [_, _], _ => rfl⟩,
  a33 := a33, f33 := PySem.W.fnOf "_law_same" "_law_same" (defArgs (top 33)) (defBody (top 33)) (defScope (top 33)) .none kV33 dc33 pm33 an33 cd33 ct33, d33 := ⟨PySem.W.mg_of X G n33, (fun_mk (st := top 33) l33 c33 k33), k33, (fun_mk (st := top 33) l33 c33 k33).binds (ps := ["found", "due"]) fun _ _ _ _ _ _ us hl => match us, hl with | [_, _], _ => rfl⟩,
  a34 := a34, f34 := PySem.W.fnOf "_law_loose" "_law_loose" (defArgs (top 34)) (defBody (top 34)) (defScope (top 34)) .none kV34 dc34 pm34 an34 cd34 ct34, d34 := ⟨PySem.W.mg_of X G n34, (fun_mk (st := top 34) l34 c34 k34), k34, (fun_mk (st := top 34) l34 c34 k34).binds (ps := ["stream", "thing"]) fun _ _ _ _ _ _ us hl => match us, hl with | [_, _], _ => rfl⟩,
  a35 := a35, f35 := PySem.W.fnOf "_law_row_or" "_law_row_or" (defArgs (top 35)) (defBody (top 35)) (defScope (top 35)) .none kV35 dc35 pm35 an35 cd35 ct35, d35 := ⟨PySem.W.mg_of X G n35, (fun_mk (st := top 35) l35 c35 k35), k35, (fun_mk (st := top 35) l35 c35 k35).binds (ps := ["ask"]) fun _ _ _ _ _ _ us hl => match us, hl with | [_], _ => rfl⟩,
  a36 := a36, f36 := PySem.W.fnOf "_law_below" "_law_below" (defArgs (top 36)) (defBody (top 36)) (defScope (top 36)) .none kV36 dc36 pm36 an36 cd36 ct36, d36 := ⟨PySem.W.mg_of X G n36, (fun_mk (st := top 36) l36 c36 k36), k36, (fun_mk (st := top 36) l36 c36 k36).binds (ps := ["row", "many"]) fun _ _ _ _ _ _ us hl => match us, hl with | [_, _], _ => rfl⟩,
  a37 := a37, f37 := PySem.W.fnOf "_law_row_right" "_law_row_right" (defArgs (top 37)) (defBody (top 37)) (defScope (top 37)) .none kV37 dc37 pm37 an37 cd37 ct37, d37 := ⟨PySem.W.mg_of X G n37, (fun_mk (st := top 37) l37 c37 k37), k37, (fun_mk (st := top 37) l37 c37 k37).binds (ps := ["stream", "row"]) fun _ _ _ _ _ _ us hl => match us, hl with | [_, _], _ => rfl⟩,
  a38 := a38, f38 := PySem.W.fnOf "_law_unlike_right" "_law_unlike_right" (defArgs (top 38)) (defBody (top 38)) (defScope (top 38)) .none kV38 dc38 pm38 an38 cd38 ct38, d38 := ⟨PySem.W.mg_of X G n38, (fun_mk (st := top 38) l38 c38 k38), k38, (fun_mk (st := top 38) l38 c38 k38).binds (ps := ["stream", "row", "other"]) fun _ _ _ _ _ _ us hl => match us, hl with | [_, _, _], _ => rfl⟩,
  lc39 := lc39, lt39 := lt39, lf39 := ⟨oc39, od39, kV39, dc39, pm39, an39, ct39, sl39, rfl, l39, c39⟩, lh39 := lh39, ln39 := ln39, a39 := a39, f39 := PySem.W.fnOf "_law_refused_right" "_law_refused_right" (defArgs (top 39)) (defBody (top 39)) (defScope (top 39)) .none kV39 dc39 pm39 an39 (.ref lc39) ct39, d39 := ⟨PySem.W.mg_of X G n39, (fun_mk (st := top 39) l39 c39 k39), k39, (fun_mk (st := top 39) l39 c39 k39).binds (ps := ["stream", "row"]) fun _ _ _ _ _ _ us hl => match us, hl with | [_, _], _ => rfl⟩,
  a40 := a40, f40 := PySem.W.fnOf "law" "law" (defArgs (top 40)) (defBody (top 40)) (defScope (top 40)) .none kV40 dc40 pm40 an40 cd40 ct40, d40 := ⟨PySem.W.mg_of X G n40, (fun_mk (st := top 40) l40 c40 k40), k40, (fun_mk (st := top 40) l40 c40 k40).binds (ps := ["script"]) fun _ _ _ _ _ _ us hl => match us, hl with | [_], _ => rfl⟩,
  C_BadEndless := C_BadEndless, i_BadEndless := i_BadEndless, fd_BadEndless := PySem.W.fnOf "__init__" "BadEndless.__init__" (defArgs (inClass (top 2) 0)) (defBody (inClass (top 2) 0)) (defScope (inClass (top 2) 0)) .none kV_BadEndless dc_BadEndless pm_BadEndless an_BadEndless cd_BadEndless ct_BadEndless, m_BadEndless := PySem.W.mg_of X G n_BadEndless, x_BadEndless := ⟨⟨_, _, _, _, _, _, _, _, _, _, _, _, _, _, _, xL_BadEndless, rv_BadEndless⟩, sa_BadEndless, ex_BadEndless, tyc_BadEndless, kc_BadEndless⟩, cl_BadEndless := rfl, in_BadEndless := in_BadEndless, ty_BadEndless := ty_BadEndless, no_BadEndless := no_BadEndless, xf_BadEndless := ⟨ga_BadEndless, gg_BadEndless, ex_BadEndless, hd_BadEndless⟩, te_BadEndless := exm_self ex_BadEndless ic_BadEndless tyc_BadEndless sc_BadEndless, F_BadEndless := (fun_mk (st := (inClass (top 2) 0)) l_BadEndless c_BadEndless k_BadEndless), b_BadEndless := (fun_mk (st := (inClass (top 2) 0)) l_BadEndless c_BadEndless k_BadEndless).binds (ps := ["self", "thing"]) fun _ _ _ _ _ _ us hl => match us, hl with | [_, _], _ => rfl,
  C_BadFigures := C_BadFigures, i_BadFigures := i_BadFigures, fd_BadFigures := PySem.W.fnOf "__init__" "BadFigures.__init__" (defArgs (inClass (top 3) 0)) (defBody (inClass (top 3) 0)) (defScope (inClass (top 3) 0)) .none kV_BadFigures dc_BadFigures pm_BadFigures an_BadFigures cd_BadFigures ct_BadFigures, m_BadFigures := PySem.W.mg_of X G n_BadFigures, x_BadFigures := ⟨⟨_, _, _, _, _, _, _, _, _, _, _, _, _, _, _, xL_BadFigures, rv_BadFigures⟩, sa_BadFigures, ex_BadFigures, tyc_BadFigures, kc_BadFigures⟩, cl_BadFigures := rfl, in_BadFigures := in_BadFigures, ty_BadFigures := ty_BadFigures, no_BadFigures := no_BadFigures, xf_BadFigures := ⟨ga_BadFigures, gg_BadFigures, ex_BadFigures, hd_BadFigures⟩, te_BadFigures := exm_self ex_BadFigures ic_BadFigures tyc_BadFigures sc_BadFigures, F_BadFigures := (fun_mk (st := (inClass (top 3) 0)) l_BadFigures c_BadFigures k_BadFigures), b_BadFigures := (fun_mk (st := (inClass (top 3) 0)) l_BadFigures c_BadFigures k_BadFigures).binds (ps := ["self", "thing"]) fun _ _ _ _ _ _ us hl => match us, hl with | [_, _], _ => rfl,
  C_BadMany := C_BadMany, i_BadMany := i_BadMany, fd_BadMany := PySem.W.fnOf "__init__" "BadMany.__init__" (defArgs (inClass (top 4) 0)) (defBody (inClass (top 4) 0)) (defScope (inClass (top 4) 0)) .none kV_BadMany dc_BadMany pm_BadMany an_BadMany cd_BadMany ct_BadMany, m_BadMany := PySem.W.mg_of X G n_BadMany, x_BadMany := ⟨⟨_, _, _, _, _, _, _, _, _, _, _, _, _, _, _, xL_BadMany, rv_BadMany⟩, sa_BadMany, ex_BadMany, tyc_BadMany, kc_BadMany⟩, cl_BadMany := rfl, in_BadMany := in_BadMany, ty_BadMany := ty_BadMany, no_BadMany := no_BadMany, xf_BadMany := ⟨ga_BadMany, gg_BadMany, ex_BadMany, hd_BadMany⟩, te_BadMany := exm_self ex_BadMany ic_BadMany tyc_BadMany sc_BadMany, F_BadMany := (fun_mk (st := (inClass (top 4) 0)) l_BadMany c_BadMany k_BadMany), b_BadMany := (fun_mk (st := (inClass (top 4) 0)) l_BadMany c_BadMany k_BadMany).binds (ps := ["self", "thing"]) fun _ _ _ _ _ _ us hl => match us, hl with | [_, _], _ => rfl,
  C_BadOther := C_BadOther, i_BadOther := i_BadOther, fd_BadOther := PySem.W.fnOf "__init__" "BadOther.__init__" (defArgs (inClass (top 5) 0)) (defBody (inClass (top 5) 0)) (defScope (inClass (top 5) 0)) .none kV_BadOther dc_BadOther pm_BadOther an_BadOther cd_BadOther ct_BadOther, m_BadOther := PySem.W.mg_of X G n_BadOther, x_BadOther := ⟨⟨_, _, _, _, _, _, _, _, _, _, _, _, _, _, _, xL_BadOther, rv_BadOther⟩, sa_BadOther, ex_BadOther, tyc_BadOther, kc_BadOther⟩, cl_BadOther := rfl, in_BadOther := in_BadOther, ty_BadOther := ty_BadOther, no_BadOther := no_BadOther, xf_BadOther := ⟨ga_BadOther, gg_BadOther, ex_BadOther, hd_BadOther⟩, te_BadOther := exm_self ex_BadOther ic_BadOther tyc_BadOther sc_BadOther, F_BadOther := (fun_mk (st := (inClass (top 5) 0)) l_BadOther c_BadOther k_BadOther), b_BadOther := (fun_mk (st := (inClass (top 5) 0)) l_BadOther c_BadOther k_BadOther).binds (ps := ["self", "thing"]) fun _ _ _ _ _ _ us hl => match us, hl with | [_, _], _ => rfl,
  tn_BadEndless_BadMany := exm_other ex_BadMany ic_BadMany tyc_BadMany tp_BadEndless_BadMany,
  tn_BadEndless_BadFigures := exm_other ex_BadFigures ic_BadFigures tyc_BadFigures tp_BadEndless_BadFigures,
  tn_BadEndless_BadOther := exm_other ex_BadOther ic_BadOther tyc_BadOther tp_BadEndless_BadOther,
  tn_BadMany_BadEndless := exm_other ex_BadEndless ic_BadEndless tyc_BadEndless tp_BadMany_BadEndless,
  tn_BadMany_BadFigures := exm_other ex_BadFigures ic_BadFigures tyc_BadFigures tp_BadMany_BadFigures,
  tn_BadMany_BadOther := exm_other ex_BadOther ic_BadOther tyc_BadOther tp_BadMany_BadOther,
  tn_BadFigures_BadEndless := exm_other ex_BadEndless ic_BadEndless tyc_BadEndless tp_BadFigures_BadEndless,
  tn_BadFigures_BadMany := exm_other ex_BadMany ic_BadMany tyc_BadMany tp_BadFigures_BadMany,
  tn_BadFigures_BadOther := exm_other ex_BadOther ic_BadOther tyc_BadOther tp_BadFigures_BadOther,
  tn_BadOther_BadEndless := exm_other ex_BadEndless ic_BadEndless tyc_BadEndless tp_BadOther_BadEndless,
  tn_BadOther_BadMany := exm_other ex_BadMany ic_BadMany tyc_BadMany tp_BadOther_BadMany,
  tn_BadOther_BadFigures := exm_other ex_BadFigures ic_BadFigures tyc_BadFigures tp_BadOther_BadFigures,
  n_all := PySem.W.mg_none_of X G n_all,
  n_bool := PySem.W.mg_none_of X G n_bool,
  n_dict := PySem.W.mg_none_of X G n_dict,
  n_enumerate := PySem.W.mg_none_of X G n_enumerate,
  n_int := PySem.W.mg_none_of X G n_int,
  n_isinstance := PySem.W.mg_none_of X G n_isinstance,
  n_len := PySem.W.mg_none_of X G n_len,
  n_list := PySem.W.mg_none_of X G n_list,
  n_max := PySem.W.mg_none_of X G n_max,
  n_range := PySem.W.mg_none_of X G n_range,
  n_repr := PySem.W.mg_none_of X G n_repr,
  n_tuple := PySem.W.mg_none_of X G n_tuple,
  n_zip := PySem.W.mg_none_of X G n_zip,
  kb19 := kb_mk19 (fun_mk (st := top 19) l19 c19 k19),
  kb18 := kb_mk18 (fun_mk (st := top 18) l18 c18 k18),
  kb20 := kb_mk20 (fun_mk (st := top 20) l20 c20 k20),
  kb21 := kb_mk21 (fun_mk (st := top 21) l21 c21 k21) }
theorem law_mk {l : PySem.W.OpenLaw} {w : World} {K : PySem.W.Frag} {mg : Str → Option Value} {fa : Addr} {h : Heap} {ts : List Addr} {cls : Nat → Option (Addr × Str)} (KX : K.In h) (hfa : mg "law" = some (.ref fa)) (T : Tx K cls mg) (hts : ∀ P ∈ ts, h.get? P = some (PySem.W.tabObj #[])) (mem : T.lt39 ∈ ts) :
    LawAtG l w K (L2.CX l.prog w) 14 63 "script" mg fa h := by
  have e := hfa.symm.trans T.d40.m
  cases e
  refine ⟨T.f40, [(T.lc39, T.lt39)], spLaw K [(T.lt39, qL39)], fun p hp => ?_, fun p hp => ?_, fun p hp => ?_, fun s v => ?_, fun H a ns hl _ hH hS => ⟨a, ns, rfl, hS, hl, fun p hp => ?_, fun _ => rfl⟩, fun base _ _ TB => ok_law T _ (TB _ (List.mem_singleton.mpr rfl)) (List.mem_singleton.mpr rfl) (fun p hp _ => by rw [List.mem_singleton.mp hp]) plain⟩
  · rw [List.mem_singleton.mp hp]; exact hts _ mem
  · rw [List.mem_singleton.mp hp]; exact T.ln39
  · rw [List.mem_singleton.mp hp]; exact PySem.W.codeHd_of_K KX T.lh39
  · obtain ⟨oc, od, kV, doc, pm, an, cdv, ct, osl, e, lk, hcd⟩ := T.d40.F.ex
    rw [e]
    exact .of_eq rfl
  · rw [List.mem_singleton.mp hp]
    exact LamX.TabS.nil (hH _ (List.mem_singleton.mpr rfl))
end K14
open PySem PySem.W PyProof.Rows
set_option maxRecDepth 100000 in
set_option maxHeartbeats 0 in
theorem PySem.Challenge.cw_twinforks_k14_whole_endless_rows_holds : PySem.Challenge.rw_twinforks_k14_whole_endless_rows.Holds := by
  w_on; o_law; k_head; (case hw => w_witness2)
  k_fill
  refine DI.walk_ofTG (n := 63) (k := 14) (x := "script") (l := PySem.Challenge.rw_twinforks_k14_whole_endless_rows) (CX := fun w => L2.CX PySem.Challenge.rw_twinforks_k14_whole_endless_rows.prog w) rfl (by decide) rfl ⟨rfl, by decide, by decide⟩ (fun w h Y => PySem.W.km_in_of Y) ?F ?C
  case F =>
    intro w mg fa h Y KX G hmg
    refine' K14.law_mk KX hmg (K14.all_mk KX G ?n7 ?l7 ?c7 ?k7 ?n8 ?l8 ?c8 ?k8 ?n9 ?l9 ?c9 ?k9 ?n10 ?l10 ?c10 ?k10 ?n11 ?l11 ?c11 ?k11 ?n12 ?l12 ?c12 ?k12 ?n13 ?l13 ?c13 ?k13 ?n15 ?l15 ?c15 ?k15 ?n16 ?l16 ?c16 ?k16 ?n17 ?l17 ?c17 ?k17 ?n18 ?l18 ?c18 ?k18 ?n19 ?l19 ?c19 ?k19 ?n20 ?l20 ?c20 ?k20 ?n21 ?l21 ?c21 ?k21 ?n23 ?l23 ?c23 ?k23 ?n24 ?l24 ?c24 ?k24 ?n25 ?l25 ?c25 ?k25 ?n26 ?l26 ?c26 ?k26 ?n27 ?l27 ?c27 ?k27 ?n28 ?l28 ?c28 ?k28 ?n29 ?l29 ?c29 ?k29 ?n30 ?l30 ?c30 ?k30 ?n31 ?l31 ?c31 ?k31 ?n32 ?l32 ?c32 ?k32 ?n33 ?l33 ?c33 ?k33 ?n34 ?l34 ?c34 ?k34 ?n35 ?l35 ?c35 ?k35 ?n36 ?l36 ?c36 ?k36 ?n37 ?l37 ?c37 ?k37 ?n38 ?l38 ?c38 ?k38 ?n39 ?l39 ?c39 ?k39 ?lq39 ?lp39 ?lh39 ?ln39 ?n40 ?l40 ?c40 ?k40 ?n_BadEndless ?xL_BadEndless ?rv_BadEndless ?sa_BadEndless ?ex_BadEndless ?tyc_BadEndless ?kc_BadEndless ?in_BadEndless ?ty_BadEndless ?no_BadEndless ?ga_BadEndless ?gg_BadEndless ?hd_BadEndless ?ic_BadEndless ?sc_BadEndless ?l_BadEndless ?c_BadEndless ?k_BadEndless ?n_BadFigures ?xL_BadFigures ?rv_BadFigures ?sa_BadFigures ?ex_BadFigures ?tyc_BadFigures ?kc_BadFigures ?in_BadFigures ?ty_BadFigures ?no_BadFigures ?ga_BadFigures ?gg_BadFigures ?hd_BadFigures ?ic_BadFigures ?sc_BadFigures ?l_BadFigures ?c_BadFigures ?k_BadFigures ?n_BadMany ?xL_BadMany ?rv_BadMany ?sa_BadMany ?ex_BadMany ?tyc_BadMany ?kc_BadMany ?in_BadMany ?ty_BadMany ?no_BadMany ?ga_BadMany ?gg_BadMany ?hd_BadMany ?ic_BadMany ?sc_BadMany ?l_BadMany ?c_BadMany ?k_BadMany ?n_BadOther ?xL_BadOther ?rv_BadOther ?sa_BadOther ?ex_BadOther ?tyc_BadOther ?kc_BadOther ?in_BadOther ?ty_BadOther ?no_BadOther ?ga_BadOther ?gg_BadOther ?hd_BadOther ?ic_BadOther ?sc_BadOther ?l_BadOther ?c_BadOther ?k_BadOther ?tp_BadEndless_BadMany ?tp_BadEndless_BadFigures ?tp_BadEndless_BadOther ?tp_BadMany_BadEndless ?tp_BadMany_BadFigures ?tp_BadMany_BadOther ?tp_BadFigures_BadEndless ?tp_BadFigures_BadMany ?tp_BadFigures_BadOther ?tp_BadOther_BadEndless ?tp_BadOther_BadMany ?tp_BadOther_BadFigures ?n_all ?n_bool ?n_dict ?n_enumerate ?n_int ?n_isinstance ?n_len ?n_list ?n_max ?n_range ?n_repr ?n_tuple ?n_zip) (PySem.W.km_tabs_of Y) ?mem
    (case n7 => k_is)
    (case l7 => k_is)
    (case c7 => k_is)
    (case k7 => k_is)
    (case n8 => k_is)
    (case l8 => k_is)
    (case c8 => k_is)
    (case k8 => k_is)
    (case n9 => k_is)
    (case l9 => k_is)
    (case c9 => k_is)
    (case k9 => k_is)
    (case n10 => k_is)
    (case l10 => k_is)
    (case c10 => k_is)
    (case k10 => k_is)
    (case n11 => k_is)
    (case l11 => k_is)
    (case c11 => k_is)
    (case k11 => k_is)
    (case n12 => k_is)
    (case l12 => k_is)
    (case c12 => k_is)
    (case k12 => k_is)
    (case n13 => k_is)
    (case l13 => k_is)
    (case c13 => k_is)
    (case k13 => k_is)
    (case n15 => k_is)
    (case l15 => k_is)
    (case c15 => k_is)
    (case k15 => k_is)
    (case n16 => k_is)
    (case l16 => k_is)
    (case c16 => k_is)
    (case k16 => k_is)
    (case n17 => k_is)
    (case l17 => k_is)
    (case c17 => k_is)
    (case k17 => k_is)
    (case n18 => k_is)
    (case l18 => k_is)
    (case c18 => k_is)
    (case k18 => k_is)
    (case n19 => k_is)
    (case l19 => k_is)
    (case c19 => k_is)
    (case k19 => k_is)
    (case n20 => k_is)
    (case l20 => k_is)
    (case c20 => k_is)
    (case k20 => k_is)
    (case n21 => k_is)
    (case l21 => k_is)
    (case c21 => k_is)
    (case k21 => k_is)
    (case n23 => k_is)
    (case l23 => k_is)
    (case c23 => k_is)
    (case k23 => k_is)
    (case n24 => k_is)
    (case l24 => k_is)
    (case c24 => k_is)
    (case k24 => k_is)
    (case n25 => k_is)
    (case l25 => k_is)
    (case c25 => k_is)
    (case k25 => k_is)
    (case n26 => k_is)
    (case l26 => k_is)
    (case c26 => k_is)
    (case k26 => k_is)
    (case n27 => k_is)
    (case l27 => k_is)
    (case c27 => k_is)
    (case k27 => k_is)
    (case n28 => k_is)
    (case l28 => k_is)
    (case c28 => k_is)
    (case k28 => k_is)
    (case n29 => k_is)
    (case l29 => k_is)
    (case c29 => k_is)
    (case k29 => k_is)
    (case n30 => k_is)
    (case l30 => k_is)
    (case c30 => k_is)
    (case k30 => k_is)
    (case n31 => k_is)
    (case l31 => k_is)
    (case c31 => k_is)
    (case k31 => k_is)
    (case n32 => k_is)
    (case l32 => k_is)
    (case c32 => k_is)
    (case k32 => k_is)
    (case n33 => k_is)
    (case l33 => k_is)
    (case c33 => k_is)
    (case k33 => k_is)
    (case n34 => k_is)
    (case l34 => k_is)
    (case c34 => k_is)
    (case k34 => k_is)
    (case n35 => k_is)
    (case l35 => k_is)
    (case c35 => k_is)
    (case k35 => k_is)
    (case n36 => k_is)
    (case l36 => k_is)
    (case c36 => k_is)
    (case k36 => k_is)
    (case n37 => k_is)
    (case l37 => k_is)
    (case c37 => k_is)
    (case k37 => k_is)
    (case n38 => k_is)
    (case l38 => k_is)
    (case c38 => k_is)
    (case k38 => k_is)
    (case n39 => k_is)
    (case l39 => k_is)
    (case c39 => k_is)
    (case k39 => k_is)
    (case lq39 => k_is)
    (case lp39 => rfl)
    (case lh39 => kernel_rfl)
    (case ln39 => kernel_rfl)
    (case n40 => k_is)
    (case l40 => k_is)
    (case c40 => k_is)
    (case k40 => k_is)
    (case n_BadEndless => k_is)
    (case xL_BadEndless => k_is)
    (case rv_BadEndless => decide +kernel)
    (case sa_BadEndless => k_is)
    (case ex_BadEndless => k_is)
    (case tyc_BadEndless => k_is)
    (case kc_BadEndless => k_is)
    (case in_BadEndless => k_is)
    (case ty_BadEndless => k_is)
    (case no_BadEndless => k_is)
    (case ga_BadEndless => k_is)
    (case gg_BadEndless => k_is)
    (case hd_BadEndless => k_is)
    (case ic_BadEndless => k_is)
    (case sc_BadEndless => first | rfl | k_is)
    (case l_BadEndless => k_is)
    (case c_BadEndless => k_is)
    (case k_BadEndless => k_is)
    (case n_BadFigures => k_is)
    (case xL_BadFigures => k_is)
    (case rv_BadFigures => decide +kernel)
    (case sa_BadFigures => k_is)
    (case ex_BadFigures => k_is)
    (case tyc_BadFigures => k_is)
    (case kc_BadFigures => k_is)
    (case in_BadFigures => k_is)
    (case ty_BadFigures => k_is)
    (case no_BadFigures => k_is)
    (case ga_BadFigures => k_is)
    (case gg_BadFigures => k_is)
    (case hd_BadFigures => k_is)
    (case ic_BadFigures => k_is)
    (case sc_BadFigures => first | rfl | k_is)
    (case l_BadFigures => k_is)
    (case c_BadFigures => k_is)
    (case k_BadFigures => k_is)
    (case n_BadMany => k_is)
    (case xL_BadMany => k_is)
    (case rv_BadMany => decide +kernel)
    (case sa_BadMany => k_is)
    (case ex_BadMany => k_is)
    (case tyc_BadMany => k_is)
    (case kc_BadMany => k_is)
    (case in_BadMany => k_is)
    (case ty_BadMany => k_is)
    (case no_BadMany => k_is)
    (case ga_BadMany => k_is)
    (case gg_BadMany => k_is)
    (case hd_BadMany => k_is)
    (case ic_BadMany => k_is)
    (case sc_BadMany => first | rfl | k_is)
    (case l_BadMany => k_is)
    (case c_BadMany => k_is)
    (case k_BadMany => k_is)
    (case n_BadOther => k_is)
    (case xL_BadOther => k_is)
    (case rv_BadOther => decide +kernel)
    (case sa_BadOther => k_is)
    (case ex_BadOther => k_is)
    (case tyc_BadOther => k_is)
    (case kc_BadOther => k_is)
    (case in_BadOther => k_is)
    (case ty_BadOther => k_is)
    (case no_BadOther => k_is)
    (case ga_BadOther => k_is)
    (case gg_BadOther => k_is)
    (case hd_BadOther => k_is)
    (case ic_BadOther => k_is)
    (case sc_BadOther => first | rfl | k_is)
    (case l_BadOther => k_is)
    (case c_BadOther => k_is)
    (case k_BadOther => k_is)
    (case tp_BadEndless_BadMany => k_is)
    (case tp_BadEndless_BadFigures => k_is)
    (case tp_BadEndless_BadOther => k_is)
    (case tp_BadMany_BadEndless => k_is)
    (case tp_BadMany_BadFigures => k_is)
    (case tp_BadMany_BadOther => k_is)
    (case tp_BadFigures_BadEndless => k_is)
    (case tp_BadFigures_BadMany => k_is)
    (case tp_BadFigures_BadOther => k_is)
    (case tp_BadOther_BadEndless => k_is)
    (case tp_BadOther_BadMany => k_is)
    (case tp_BadOther_BadFigures => k_is)
    (case n_all => k_is)
    (case n_bool => k_is)
    (case n_dict => k_is)
    (case n_enumerate => k_is)
    (case n_int => k_is)
    (case n_isinstance => k_is)
    (case n_len => k_is)
    (case n_list => k_is)
    (case n_max => k_is)
    (case n_range => k_is)
    (case n_repr => k_is)
    (case n_tuple => k_is)
    (case n_zip => k_is)
    (case mem => first | exact List.mem_singleton.mpr rfl | exact List.mem_cons_self)
  case C =>
    intro w H s e s' c
    obtain ⟨_, _, _, _, _, _, _, _, _, _, _, _, z⟩ := c
    exact z
