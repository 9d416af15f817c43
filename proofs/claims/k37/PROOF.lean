import PyProof.Rows.All
import HandS.Text
import Wide.All
import OpenK.AllK
import Wide.FinOn
import HandS.ForMost
import HandS.Walk
import HandS.Zip
import HandS.IsInst
import HandS.TupAny
import HandS.TupLe
import HandS.SortInts
import HandS.Conv
import HandS.Rev
import HandS.Dict
import HandS.WordsExc
import HandS.Exc
import KE.KDictDisplayH
import PyProof.Rows.TupTab
import KE.DataCmp
import HandS.Deep
import PyProof.StrBlock2
import PyProof.TupleOfSeq
import KE.SortData
import HandS.TupSets
import KE.DataMinMax
import HandS.RaiseMore
import KE.KTupSum
import HandS.More
import HandS.ClsMeth
import HandS.ExcIs
import KE.GoesEnum
import KE.KDictWalk
import HandS.SetFor
import HandS.Strs
import HandS.Iter
import PyProof.ListNew
import HandS.Style
import PyProof.SeqI
import HandS.SortKw
import KE.DataMinKey
import KE.SortKeyHeap
import KE.KDictCopyH
import KE.KDictSum
import KE.KDictZip
import KE.KTurns
import KE.KItemsList
import HandS.ListItems
import HandS.StrMore
import HandS.ExcOwn
import KE.KAsSuite
import HandS.Small
import KE.BitLaws
import PySem.Challenge.RW_tonemirror_k37_formed
set_option Elab.async false
set_option linter.all false
set_option maxRecDepth 100000
set_option maxHeartbeats 4000000
/-! MLsem: a small language over plain values (no heap), and what it computes. -/
namespace ML
open PySem

/-- bind and map of one's own: what stands behind is not looked at before its turn (its kind hangs on it, so that a rewriting by parts leaves it alone) -/
inductive Held {α : Type} {β : Type} : (α → β) → Type
  | it (f : α → β) : Held f
def _root_.Option.bnd {α β : Type} (x : Option α) (f : α → Option β) (_ : Held f := .it f) : Option β := x.bind f
def _root_.Option.mpd {α β : Type} (x : Option α) (f : α → β) (_ : Held f := .it f) : Option β := x.map f
/-- what comes of a value, and what else -/
def _root_.Option.els {α β : Type} (x : Option α) (f : α → Option β) (r : Unit → Option β) (_ : Held f := .it f) (_ : Held r := .it r) : Option β := match x with
  | some a => f a
  | none => r ()
theorem els_some {α β : Type} (a : α) (f : α → Option β) (r : Unit → Option β) (h : Held f) (h' : Held r) : (some a).els f r h h' = f a := rfl
theorem els_none {α β : Type} (f : α → Option β) (r : Unit → Option β) (h : Held f) (h' : Held r) : (none : Option α).els f r h h' = r () := rfl
theorem bnd_some {α β : Type} (a : α) (f : α → Option β) (h : Held f) : (some a).bnd f h = f a := rfl
theorem bnd_none {α β : Type} (f : α → Option β) (h : Held f) : (none : Option α).bnd f h = none := rfl
theorem mpd_some {α β : Type} (a : α) (f : α → β) (h : Held f) : (some a).mpd f h = some (f a) := rfl
theorem mpd_none {α β : Type} (f : α → β) (h : Held f) : (none : Option α).mpd f h = none := rfl
abbrev Key := Sum Int Str
abbrev LINE : Nat := 16777216

/-- plain data -/
inductive D where
  | non | bl (b : Bool) | int (i : Int) | str (x : Str)
  | tup (xs : List D) | lst (xs : List D)
  | scr (ns : List Int)
  | dK (kvs : List (Key × D)) | dT (kvs : List (List Key × D))
  /-- an instance of the class named c, its fields -/
  | obj (c : Str) (fs : List (Str × D))
  /-- an exception of the class named x -/
  | exc (x : Str)
  deriving Inhabited

/-- a slot: unknown, a frozen value, a list (or dict) that is this frame's own; a def's answer besides: io r d: it answers r and leaves d in the thing that was handed in, exc x: it raises an x, xio x d: it raises an x and leaves d there -/
inductive Sv where
  | no | fro (d : D) | own (d : D) | io (r d : D) | exc (x : Str) | xio (x : Str) (d : D)
  deriving Inhabited
/-- what an expression yields: a frozen value, a new list of one's own, what slot i owns -/
inductive Rv where
  | fro (d : D) | own (d : D) | ali (i : Nat)
  deriving Inhabited
abbrev Env := List Sv

inductive Bop where
  | add | sub | mul | fdiv | mod | pow | shl | shr | band | bor
  deriving DecidableEq
inductive Cop where
  | eq | ne | lt | le | gt | ge | isN | notN | isB | notB | inn | nin
  deriving DecidableEq
inductive Ty where
  | int | bool | str | tuple | list
  deriving DecidableEq
inductive Prim where
  | len | abs | max2 | min2 | int | str | list | tuple | sum | all | any | sorted | min | max
  deriving DecidableEq
/-- forms of several calls that are read as one -/
inductive Fus where
  | sortedSet | lenSet | tupRange | listRange | listRev | tupSorted
  deriving DecidableEq
inductive Mut where
  | append | pop | popAt | clear
  deriving DecidableEq
inductive Tg where
  | one (i : Nat) | many (is : List Nat)
inductive ItK where
  | seq | rng1 | rng2 | enum | zip | rev | items
  deriving DecidableEq

/-- min and sorted by a key -/
inductive KeyQ where
  | min | sorted
  deriving DecidableEq

/-- methods of texts and lists with one argument -/
inductive Smt where
  | split | join | starts | part | index
  deriving DecidableEq
inductive ME where
  | var (i : Nat)
  | cst (d : D)
  | gbl (x : Str) (d : D)
  | bin (o : Bop) (a b : ME)
  | neg (a : ME)
  | cmp (o : Cop) (a b : ME)
  | cmp2 (o o' : Cop) (a b c : ME)
  | bop (isAnd : Bool) (es : List ME)
  | not (a : ME)
  | ife (c a b : ME)
  | tup (es : List ME)
  | lst (es : List ME)
  | idx (a b : ME)
  | sli (a : ME) (lo hi : List ME)
  | back (a : ME)
  | call (f : Nat) (es : List ME)
  | prim (p : Prim) (es : List ME)
  | fus (q : Fus) (es : List ME)
  | isi (a : ME) (t : Ty)
  | comp (elt : ME) (tg : Tg) (vs : List Nat) (k : ItK) (src : List ME) (conds : List ME)
  | mut (m : Mut) (i : Nat) (es : List ME)
  /-- own lists are only lent -/
  | thw (a : ME)
  /-- {}, {k: v}; t: its keys are tuples; es: key and value by turns -/
  | dct (t : Bool) (es : List ME)
  /-- min(a, key=f), sorted(a, key=f), f one of the text's defs -/
  | keyf (q : KeyQ) (f : Nat) (a : ME)
  /-- sorted(a.keys(), key=f) -/
  | keyd (f : Nat) (a : ME)
  /-- list(zip(a, b)) -/
  | lzip (es : List ME)
  /-- f(..), slot i's own thing handed in at place j, to be changed there -/
  | cio (f j i : Nat) (es : List ME)
  /-- a.x -/
  | fld (a : ME) (x : Str)
  /-- a.m(..), tab: the def by a's class -/
  | meth (a : ME) (m : Str) (tab : List (Str × Nat)) (es : List ME)
  /-- a.m(..), a slot i's own instance of c, to be changed there -/
  | mio (c m : Str) (f i : Nat) (es : List ME)
  /-- c(..), f its __init__ -/
  | make (c : Str) (f : Nat) (es : List ME)
  /-- a.q(b) -/
  | smt (q : Smt) (a b : ME)
  /-- f(..), handed in at place j a new thing that is let go behind it -/
  | cit (f j : Nat) (es : List ME)
  /-- x[a], x a dict of the module -/
  | gdx (x : Str) (kvs : List (Str × D)) (a : ME)
  /-- a in x -/
  | gdin (neg : Bool) (x : Str) (kvs : List (Str × D)) (a : ME)
  /-- {"..": "..", ..} -/
  | dsp (kvs : List (Str × Str))
  /-- max(a, default=0) -/
  | maxd (a : ME)
  /-- isinstance(a, C), isinstance(a, (C, ..)) (many); ks: what a may be -/
  | isx (a : ME) (many : Bool) (cs ks : List Str)

inductive MS where
  | asg (i : Nat) (e : ME)
  | asgT (is : List Nat) (e : ME)
  | par2 (i j : Nat) (a b : ME)
  | aug (i : Nat) (o : Bop) (e : ME)
  | setix (i : Nat) (k e : ME)
  | putk (i : Nat) (k e : ME)
  | augix (i : Nat) (k e : ME)
  | expr (e : ME)
  | ret (e : ME)
  | retN
  | ite (c : ME) (a b : List MS)
  | forr (tg : Tg) (k : ItK) (src : List ME) (body : List MS) (kill : List Nat)
  | whl (c : ME) (body : List MS) (kill : List Nat)
  | pass | brk | cont | never
  /-- raise x("..") -/
  | rse (x : Str)
  /-- try: body / except te as slot i: h; ks: what may be raised -/
  | tri (body : List MS) (te : Str) (i : Nat) (h : List MS) (ks : List Str)
  /-- return e, slot j the thing that was handed in to be changed -/
  | retio (j : Nat) (e : ME)
  /-- slot i's x = e; x += e -/
  | setf (i : Nat) (x : Str) (e : ME)
  | augf (i : Nat) (x : Str) (e : ME)

inductive Out where
  | nx (ρ : Env) | ret (r : Sv) | brk (ρ : Env) | cnt (ρ : Env) | exc (x : Str) (ρ : Env)

structure MF where
  np : Nat
  ns : Nat
  body : List MS
  /-- the parameter that is handed in to be changed -/
  io : Option Nat := none

/-! ### values -/
mutual
def D.eqv : D → D → Bool
  | .non, .non => true
  | .bl a, .bl b => a == b
  | .bl a, .int j => (if a then 1 else 0) == j
  | .int i, .bl b => i == (if b then 1 else 0)
  | .int i, .int j => i == j
  | .str x, .str y => x == y
  | .tup xs, .tup ys => D.eqvs xs ys
  | .lst xs, .lst ys => D.eqvs xs ys
  | _, _ => false
def D.eqvs : List D → List D → Bool
  | [], [] => true
  | x :: xs, y :: ys => D.eqv x y && D.eqvs xs ys
  | _, _ => false
end
/-- data that == and the like are shown of: no dicts, texts of signs, not too deep -/
def signsOk (z : Str) : Bool := z.cps.all fun c => decide (c < 0x110000)
def D.flat : D → Bool
  | .non | .bl _ | .int _ => true
  | .str x => signsOk x
  | _ => false
mutual
def D.okd : Nat → D → Bool
  | _, .non => true
  | _, .bl _ => true
  | _, .int _ => true
  | _, .str x => signsOk x
  | n + 1, .tup xs => D.okds n xs
  | n + 1, .lst xs => D.okds n xs
  | _, _ => false
def D.okds : Nat → List D → Bool
  | _, [] => true
  | n, x :: xs => D.okd n x && D.okds n xs
end
mutual
/-- nothing in it can be changed -/
def D.imm : D → Bool
  | .non => true
  | .bl _ => true
  | .int _ => true
  | .str _ => true
  | .tup xs => D.imms xs
  | _ => false
def D.imms : List D → Bool
  | [] => true
  | x :: xs => D.imm x && D.imms xs
end
def Sv.imm : Sv → Bool
  | .fro d => d.imm
  | .own (.lst ds) => D.imms ds
  | _ => false
mutual
/-- of one form, so that < tells which is lesser -/
def D.alike : D → D → Bool
  | .non, .non => true
  | .bl _, .bl _ => true
  | .int _, .int _ => true
  | .str _, .str _ => true
  | .tup xs, .tup ys => D.alikes xs ys
  | .lst xs, .lst ys => D.alikes xs ys
  | _, _ => false
def D.alikes : List D → List D → Bool
  | x :: xs, y :: ys => D.alike x y && D.alikes xs ys
  | _, _ => true
end
mutual
def D.lt : D → D → Bool
  | .bl a, .bl b => !a && b
  | .int i, .int j => decide (i < j)
  | .str x, .str y => decide (x.cps.toList < y.cps.toList)
  | .tup xs, .tup ys => D.lts xs ys
  | .lst xs, .lst ys => D.lts xs ys
  | _, _ => false
def D.lts : List D → List D → Bool
  | [], [] => false
  | [], _ :: _ => true
  | _ :: _, [] => false
  | x :: xs, y :: ys => if D.eqv x y then D.lts xs ys else D.lt x y
end
def lexI : List Int → List Int → Bool
  | [], [] => false
  | [], _ :: _ => true
  | _ :: _, [] => false
  | x :: xs, y :: ys => if x = y then lexI xs ys else decide (x < y)
def D.ints : List D → Option (List Int)
  | [] => some []
  | .int i :: r => (D.ints r).mpd (i :: ·)
  | _ :: _ => none
def D.bls : List D → Option (List Bool)
  | [] => some []
  | .bl i :: r => (D.bls r).mpd (i :: ·)
  | _ :: _ => none

/-- the place that an index of any sign means -/
def ixN (len : Nat) (k : Int) : Option Nat :=
  if 0 ≤ k then
    (if k < len then some k.toNat else none)
  else if -(len : Int) ≤ k then some (k + len).toNat else none
def sIx (len dflt : Nat) : Option Int → Nat
  | none => dflt
  | some k => if k < 0 then (k + (len : Int)).toNat else min k.toNat len
def cut {α : Type} (xs : List α) (lo hi : Option Int) : List α := (xs.drop (sIx xs.length 0 lo)).take (sIx xs.length xs.length hi - sIx xs.length 0 lo)

/-- one factor is small -/
def MulOk (a b : Int) : Prop :=
  (-(2 ^ 64) < a ∧ a < 2 ^ 64) ∨
  (-(2 ^ 64) < b ∧ b < 2 ^ 64)
instance (a b : Int) : Decidable (MulOk a b) := by unfold MulOk; exact inferInstance

def binop : Bop → D → D → Option Sv
  | .add, .int i, .int j => some (.fro (.int (i + j)))
  | .add, .str x, .str y => if x.length + y.length ≤ LINE then some (.fro (.str (x ++ y))) else none
  | .add, .tup xs, .tup ys => if xs.length + ys.length ≤ LINE then some (.fro (.tup (xs ++ ys))) else none
  | .add, .lst xs, .lst ys => if xs.length + ys.length ≤ LINE then some (.own (.lst (xs ++ ys))) else none
  | .sub, .int i, .int j => some (.fro (.int (i - j)))
  | .mul, .int i, .int j => if MulOk i j then some (.fro (.int (i * j))) else none
  | .mul, .str x, .int n => if 1 ≤ n ∧ n ≤ 4096 ∧ x.length ≤ 4096 then some (.fro (.str (PySem.Txt.mul x n))) else none
  | .fdiv, .int i, .int j => if 0 < j ∧ j < 1073741824 then some (.fro (.int (i / j))) else none
  | .mod, .int i, .int j => if 0 < j then some (.fro (.int (i % j))) else none
  | .pow, .int i, .int j => if 0 ≤ j ∧ j ≤ 1000000 ∧ i.natAbs < 2 ^ 64 then some (.fro (.int (i ^ j.toNat))) else none
  | .shl, .int i, .int j => if 0 ≤ j ∧ j ≤ 1000000 ∧ i.natAbs < 2 ^ 64 then some (.fro (.int (i * 2 ^ j.toNat))) else none
  | .shr, .int i, .int j => if 0 ≤ j then some (.fro (.int (i / 2 ^ j.toNat))) else none
  | .band, .int i, .int j => some (.fro (.int (Builtin.bitAnd i j)))
  | .bor, .int i, .int j => some (.fro (.int (Builtin.bitOr i j)))
  | _, _, _ => none

def DEEP : Nat := 40
def D.inb (x : D) (xs : List D) : Bool := xs.any fun y => D.eqv y x
def strLt (x y : Str) : Bool := decide (x.cps.toList < y.cps.toList)
def ordOk (x y : D) : Bool := D.okd DEEP x && D.okd DEEP y && D.alike x y
/-! ### dicts -/
def keyD : Key → D
  | .inl i => .int i
  | .inr x => .str x
def asKey : D → Option Key
  | .int i => some (.inl i)
  | .str x => some (.inr x)
  | _ => none
def asKeys : List D → Option (List Key)
  | [] => some []
  | d :: ds => (asKey d).bnd fun k => (asKeys ds).mpd (k :: ·)
def valD {κ : Type} [DecidableEq κ] : List (κ × D) → κ → Option D
  | [], _ => none
  | e :: es, k => if e.1 = k then some e.2 else valD es k
def putD {κ : Type} [DecidableEq κ] : List (κ × D) → κ → D → List (κ × D)
  | [], k, d => [(k, d)]
  | e :: es, k, d => if e.1 = k then (k, d) :: es else e :: putD es k d
/-- what a dict holds at a key -/
def dget : D → D → Option (Option D)
  | .dT es, .tup ks => (asKeys ks).mpd fun k => valD es k
  | .dK es, .int i => some (valD es (.inl i))
  | .dK es, .str x => some (valD es (.inr x))
  | _, _ => none
def dput : D → D → D → Option D
  | .dT es, .tup ks, d => (asKeys ks).bnd fun k => if es.length < LINE then some (.dT (putD es k d)) else none
  | .dK es, .int i, d => if es.length < LINE then some (.dK (putD es (.inl i) d)) else none
  | .dK es, .str x, d => if es.length < LINE then some (.dK (putD es (.inr x) d)) else none
  | _, _, _ => none
def D.isD : D → Bool
  | .dT _ => true
  | .dK _ => true
  | _ => false
def cmpop : Cop → D → D → Option Bool
  | .eq, x, y => if D.okd DEEP x && D.okd DEEP y then some (D.eqv x y) else none
  | .ne, x, y => if D.okd DEEP x && D.okd DEEP y then some (!D.eqv x y) else none
  | .lt, .int i, .int j => some (decide (i < j))
  | .le, .int i, .int j => some (decide (i ≤ j))
  | .gt, .int i, .int j => some (decide (j < i))
  | .ge, .int i, .int j => some (decide (j ≤ i))
  | .lt, .tup xs, .tup ys => if ordOk (.tup xs) (.tup ys) then some (D.lts xs ys) else none
  | .gt, .tup xs, .tup ys => if ordOk (.tup xs) (.tup ys) then some (D.lts ys xs) else none
  | .le, .tup xs, .tup ys => if ordOk (.tup xs) (.tup ys) then some (!D.lts ys xs) else none
  | .ge, .tup xs, .tup ys => if ordOk (.tup xs) (.tup ys) then some (!D.lts xs ys) else none
  | .isN, .non, .non => some true
  | .isN, _, .non => some false
  | .notN, .non, .non => some false
  | .notN, _, .non => some true
  | .isB, .bl a, .bl b => some (a == b)
  | .notB, .bl a, .bl b => some (!(a == b))
  | .inn, .str x, .str y => if x.length = 1 then some (decide (x.cps.toList.headD 0 ∈ y.cps.toList)) else none
  | .nin, .str x, .str y => if x.length = 1 then some (!decide (x.cps.toList.headD 0 ∈ y.cps.toList)) else none
  | .inn, x, .tup ys => if D.flat x && ys.all D.flat then some (D.inb x ys) else none
  | .inn, x, .lst ys => if D.flat x && ys.all D.flat then some (D.inb x ys) else if D.okd DEEP x && D.okd DEEP (.lst ys) then some (D.inb x ys) else none
  | .inn, x, .dT es => (dget (.dT es) x).mpd Option.isSome
  | .inn, x, .dK es => (dget (.dK es) x).mpd Option.isSome
  | .nin, x, .dT es => (dget (.dT es) x).mpd fun o => !o.isSome
  | .nin, x, .dK es => (dget (.dK es) x).mpd fun o => !o.isSome
  | .nin, x, .tup ys => if D.flat x && ys.all D.flat then some (!D.inb x ys) else none
  | .nin, x, .lst ys => if D.flat x && ys.all D.flat then some (!D.inb x ys) else if D.okd DEEP x && D.okd DEEP (.lst ys) then some (!D.inb x ys) else none
  | _, _, _ => none

def idxop : D → D → Option D
  | .tup xs, .int i => (ixN xs.length i).bnd fun j => xs[j]?
  | .lst xs, .int i => (ixN xs.length i).bnd fun j => xs[j]?
  | .scr ns, .int i => (ixN ns.length i).bnd fun j => ns[j]?.mpd D.int
  | .str z, .int i => if z.length ≤ LINE then (ixN z.length i).bnd fun j => z.cps.toList[j]?.mpd fun c => D.str ⟨#[c]⟩ else none
  | .dT es, y => (dget (.dT es) y).bnd fun o => o
  | .dK es, y => (dget (.dK es) y).bnd fun o => o
  | _, _ => none
def sliop : D → Option Int → Option Int → Option Sv
  | .tup xs, lo, hi => some (.fro (.tup (cut xs lo hi)))
  | .lst xs, lo, hi => some (.own (.lst (cut xs lo hi)))
  | .str z, lo, hi => if z.length ≤ LINE then some (.fro (.str ⟨(cut z.cps.toList lo hi).toArray⟩)) else none
  | _, _, _ => none

/-- x[::-1] -/
def backop : D → Option Sv
  | .str z => if z.length ≤ LINE then some (.fro (.str ⟨z.cps.toList.reverse.toArray⟩)) else none
  | .tup xs => some (.fro (.tup xs.reverse))
  | .lst xs => some (.own (.lst xs.reverse))
  | _ => none

def D.isTy : Ty → D → Option Bool
  | .int, .int _ => some true
  | .int, .bl _ => some true
  | .int, .non => some false
  | .int, .str _ => some false
  | .int, .tup _ => some false
  | .int, .lst _ => some false
  | .bool, .bl _ => some true
  | .bool, .int _ => some false
  | .bool, .non => some false
  | .bool, .str _ => some false
  | .bool, .tup _ => some false
  | .bool, .lst _ => some false
  | .str, .str _ => some true
  | .str, .int _ => some false
  | .str, .bl _ => some false
  | .str, .non => some false
  | .str, .tup _ => some false
  | .str, .lst _ => some false
  | .tuple, .tup _ => some true
  | .tuple, .int _ => some false
  | .tuple, .bl _ => some false
  | .tuple, .non => some false
  | .tuple, .str _ => some false
  | .tuple, .lst _ => some false
  | .list, .lst _ => some true
  | .list, .int _ => some false
  | .list, .bl _ => some false
  | .list, .non => some false
  | .list, .str _ => some false
  | .list, .tup _ => some false
  | _, _ => none

/-- the ints in order -/
def insI (x : Int) : List Int → List Int
  | [] => [x]
  | y :: ys => if x ≤ y then x :: y :: ys else y :: insI x ys
def sortI : List Int → List Int
  | [] => []
  | x :: xs => insI x (sortI xs)
/-- the ints in order, each once -/
def insU (x : Int) : List Int → List Int
  | [] => [x]
  | y :: ys => if x < y then x :: y :: ys else if x = y then y :: ys else y :: insU x ys
def sortU : List Int → List Int
  | [] => []
  | x :: xs => insU x (sortU xs)
def minI : List Int → Option Int
  | [] => none
  | x :: xs => some (xs.foldl min x)
def maxI : List Int → Option Int
  | [] => none
  | x :: xs => some (xs.foldl max x)
def rangeD (a : Int) (n : Nat) : List D := (List.range n).map fun (i : Nat) => D.int (a + (i : Int))

/-! ### alike data in order -/
def D.nonN : D → Bool
  | .non => false
  | _ => true
def D.full : D → Bool
  | .tup (_ :: _) => true
  | _ => false
def alikeAll (xs : List D) : Bool := xs.all fun x => xs.all fun y => D.alike x y
def D.least (x : D) (xs : List D) : D := xs.foldl (fun a y => if D.lt y a then y else a) x
def minT : List D → Option Sv
  | [] => none
  | x :: xs => if D.okds 40 (x :: xs) && (x :: xs).all D.nonN && alikeAll (x :: xs) then some (.fro (D.least x xs)) else none
def D.void : D → Bool
  | .tup [] => true
  | _ => false
def sortT (xs : List D) : Option Sv := if D.okds 40 xs && (xs.all D.full || xs.all D.void) && alikeAll xs then some (.own (.lst (xs.mergeSort fun a b => !D.lt b a))) else none
/-- ints are dealt with by f, others by g -/
def orI (o : Option (List Int)) (f : List Int → Option Sv) (g : Option Sv) : Option Sv := match o with
  | some ns => f ns
  | none => g
theorem orI_some (ns : List Int) (f : List Int → Option Sv) (g : Option Sv) : orI (some ns) f g = f ns := rfl
theorem orI_none (f : List Int → Option Sv) (g : Option Sv) : orI none f g = g := rfl
def primF : Prim → List D → Option Sv
  | .len, [.tup xs] => some (.fro (.int xs.length))
  | .len, [.lst xs] => some (.fro (.int xs.length))
  | .len, [.scr xs] => some (.fro (.int xs.length))
  | .len, [.str x] => if x.length ≤ LINE then some (.fro (.int x.length)) else none
  | .abs, [.int i] => some (.fro (.int (if i < 0 then -i else i)))
  | .max2, [.int i, .int j] => some (.fro (.int (if j > i then j else i)))
  | .min2, [.int i, .int j] => some (.fro (.int (if j < i then j else i)))
  | .int, [.int i] => some (.fro (.int i))
  | .int, [.bl b] => some (.fro (.int (if b then 1 else 0)))
  | .str, [.int i] => if i.natAbs.log2 < 1920 then some (.fro (.str (toString i))) else none
  | .str, [.str x] => some (.fro (.str x))
  | .int, [.str x] => if x.length ≤ 640 then (PySem.intText? x).mpd fun n => .fro (.int n) else none
  | .list, [.dK es] => if es.length ≤ LINE then some (.own (.lst (es.map fun e => keyD e.1))) else none
  | .list, [.tup xs] => some (.own (.lst xs))
  | .list, [.lst xs] => some (.own (.lst xs))
  | .tuple, [.tup xs] => some (.fro (.tup xs))
  | .tuple, [.lst xs] => some (.fro (.tup xs))
  | .sum, [.lst xs] => (D.ints xs).mpd fun ns => .fro (.int ns.sum)
  | .sum, [.tup xs] => (D.ints xs).mpd fun ns => .fro (.int ns.sum)
  | .all, [.lst xs] => (D.bls xs).mpd fun bs => .fro (.bl (bs.all id))
  | .any, [.lst xs] => (D.bls xs).mpd fun bs => .fro (.bl (bs.any id))
  | .sorted, [.lst xs] => orI (D.ints xs) (fun ns => some (.own (.lst ((sortI ns).map D.int)))) (sortT xs)
  | .sorted, [.tup xs] => (D.ints xs).mpd fun ns => .own (.lst ((sortI ns).map D.int))
  | .min, [.lst xs] => orI (D.ints xs) (fun ns => (minI ns).mpd fun m => .fro (.int m)) (minT xs)
  | .max, [.lst xs] => (D.ints xs).bnd fun ns => (maxI ns).mpd fun m => .fro (.int m)
  | _, _ => none

/-- the items of a list or a tuple -/
def D.items : D → Option (List D)
  | .lst xs => some xs
  | .tup xs => some xs
  | _ => none
/-- rows of ints in order, each once -/
def insR (x : List Int) : List (List Int) → List (List Int)
  | [] => [x]
  | y :: l => if x = y then y :: l else if lexI x y then x :: y :: l else y :: insR x l
def sortR : List (List Int) → List (List Int)
  | [] => []
  | x :: l => insR x (sortR l)
def D.rows : List D → Option (List (List Int))
  | [] => some []
  | .tup xs :: r => (D.ints xs).bnd fun x => (D.rows r).mpd (x :: ·)
  | _ :: _ => none
/-- all empty, or all of one length, of numbers from 0 to 63 -/
def rowsOk (rs : List (List Int)) : Bool := rs.all (fun r => r.isEmpty) || rs.all fun r => decide (r.length = (rs.headD []).length) && !r.isEmpty && r.all fun x => decide (0 ≤ x ∧ x < 64)
def sortS : D → Option Sv
  | .lst xs => (D.rows xs).bnd fun rs => if rs.length < 64 ∧ rowsOk rs = true then some (.own (.lst ((sortR rs).map fun r => .tup (r.map D.int)))) else none
  | _ => none
def fusF : Fus → List D → Option Sv
  | .sortedSet, [d] => d.items.bnd fun xs => orI (D.ints xs) (fun ns => if ns.length ≤ 1000 ∧ (sortU ns).length < 64 then some (.own (.lst ((sortU ns).map D.int))) else none) (sortS d)
  | .lenSet, [d] => d.items.bnd fun xs => (D.ints xs).bnd fun ns => if ns.length ≤ 1000 then some (.fro (.int (sortU ns).length)) else none
  | .tupRange, [.int n] => if 0 ≤ n ∧ n ≤ 16777216 then some (.fro (.tup (rangeD 0 n.toNat))) else none
  | .listRange, [.int n] => if 0 ≤ n ∧ n ≤ 16777216 then some (.own (.lst (rangeD 0 n.toNat))) else none
  | .listRev, [.lst xs] => some (.own (.lst xs.reverse))
  | _, _ => none

/-- what is walked -/
def itSeq : D → Option (List D)
  | .lst xs => some xs
  | .tup xs => some xs
  | .str z => if z.length ≤ LINE then some (z.cps.toList.map fun c => D.str ⟨#[c]⟩) else none
  | .dT es => if (decide (es.length ≤ LINE) && es.all fun e => decide (e.1.length ≤ LINE)) then some (es.map fun e => .tup (e.1.map keyD)) else none
  | _ => none
def itIt : D → Option (List D)
  | .dT es => if (decide (es.length ≤ LINE) && es.all fun e => decide (e.1.length ≤ LINE)) then some (es.map fun e => .tup [.tup (e.1.map keyD), e.2]) else none
  | _ => none
def itR1 : D → Option (List D)
  | .int n => if -(2 ^ 62) ≤ n ∧ n ≤ 16777216 then some (rangeD 0 n.toNat) else none
  | _ => none
def itR2 : D → D → Option (List D)
  | .int a, .int b => if -(2 ^ 62) ≤ a ∧ a < 2 ^ 62 ∧ -(2 ^ 62) ≤ b ∧ b < 2 ^ 62 ∧ b - a ≤ 16777216 then some (rangeD a (b - a).toNat) else none
  | _, _ => none
def itEn : D → Option (List D)
  | .lst xs => some ((List.range xs.length).zipWith (fun (i : Nat) (d : D) => D.tup [.int (i : Int), d]) xs)
  | .tup xs => some ((List.range xs.length).zipWith (fun (i : Nat) (d : D) => D.tup [.int (i : Int), d]) xs)
  | _ => none
def itZ : D → D → Option (List D)
  | .lst xs, .lst ys => if xs.length = ys.length then some (xs.zipWith (fun a b => D.tup [a, b]) ys) else none
  | .tup xs, .tup ys => if xs.length = ys.length then some (xs.zipWith (fun a b => D.tup [a, b]) ys) else none
  | _, _ => none
def itRev : D → Option (List D)
  | .lst xs => some xs.reverse
  | _ => none
def itF : ItK → List D → Option (List D)
  | .seq, [d] => itSeq d
  | .rng1, [d] => itR1 d
  | .rng2, [d, e] => itR2 d e
  | .enum, [d] => itEn d
  | .zip, [d, e] => itZ d e
  | .rev, [d] => itRev d
  | .items, [d] => itIt d
  | _, _ => none

def mutF : Mut → List D → List D → Option (D × List D)
  | .append, xs, [d] => if xs.length < LINE then some (.non, xs ++ [d]) else none
  | .pop, xs, [] => (xs[xs.length - 1]?).mpd fun d => (d, xs.dropLast)
  | .popAt, xs, [.int i] => if -(2 ^ 63) ≤ i ∧ i < 2 ^ 63 then (ixN xs.length i).bnd fun j => (xs[j]?).mpd fun d => (d, xs.eraseIdx j) else none
  | .clear, _, [] => some (.non, [])
  | _, _, _ => none

/-! ### slots -/
def look (ρ : Env) (i : Nat) : Option Rv :=
  match ρ[i]? with
  | some (.fro d) => some (.fro d)
  | some (.own _) => some (.ali i)
  | _ => none
/-- slot i's own list -/
def ownL (ρ : Env) (i : Nat) : Option (List D) :=
  match ρ[i]? with
  | some (.own (.lst xs)) => some xs
  | _ => none
/-- what slot i's own thing holds -/
def ownC (ρ : Env) (i : Nat) : Option D :=
  match ρ[i]? with
  | some (.own d) => some d
  | _ => none
/-- slot i's own instance -/
def ownO (ρ : Env) (i : Nat) : Option (Str × List (Str × D)) :=
  match ρ[i]? with
  | some (.own (.obj c fs)) => some (c, fs)
  | _ => none
/-- slot i's own dict -/
def ownD (ρ : Env) (i : Nat) : Option D :=
  match ρ[i]? with
  | some (.own (.dT es)) => some (.dT es)
  | some (.own (.dK es)) => some (.dK es)
  | _ => none
/-- a new dict of pairs told by turns -/
def dictOf (t : Bool) : List D → Option D
  | [] => some (if t then .dT [] else .dK [])
  | [k, v] => dput (if t then .dT [] else .dK []) k v
  | _ => none
def cont (ρ : Env) : Rv → Option D
  | .fro d => some d
  | .own d => some d
  | .ali i => match ρ[i]? with
    | some (.fro d) => some d
    | some (.own d) => some d
    | _ => none
def frz (ρ : Env) : Rv → Option (D × Env)
  | .fro d => some (d, ρ)
  | .own d => some (d, ρ)
  | .ali i => match ρ[i]? with
    | some (.fro d) => some (d, ρ)
    | some (.own d) => some (d, ρ.set i (.fro d))
    | _ => none
def Sv.frz : Sv → Sv
  | .own d => .fro d
  | s => s
def frzAll : Env → Env
  | [] => []
  | s :: ρ => s.frz :: frzAll ρ
def Rv.imm : Rv → Bool
  | .fro d => d.imm
  | .own (.lst ds) => D.imms ds
  | _ => false
def frzs (ρ : Env) : List Rv → Option (List D × Env)
  | [] => some ([], ρ)
  | r :: rs => (frz ρ r).bnd fun p => (frzs p.2 rs).bnd fun q => some (p.1 :: q.1, q.2)
/-- all but the one at place j, which is slot i's own thing -/
def frzJ : Nat → Nat → List Rv → Env → Option (List D × Env)
  | 0, i, .ali k :: rs, ρ => if k = i then (frzs ρ rs).bnd fun q => (ownC q.2 i).mpd fun d => (d :: q.1, q.2) else none
  | j + 1, i, r :: rs, ρ => (frz ρ r).bnd fun p => (frzJ j i rs p.2).mpd fun q => (p.1 :: q.1, q.2)
  | _, _, _, _ => none
def conts (ρ : Env) : List Rv → Option (List D)
  | [] => some []
  | r :: rs => (cont ρ r).bnd fun d => (conts ρ rs).bnd fun ds => some (d :: ds)
def kill (ρ : Env) : List Nat → Env
  | [] => ρ
  | i :: is => kill (ρ.set i .no) is
/-- an expression's value as a slot's: y = x freezes x -/
def Sv.rv : Sv → Option Rv
  | .fro d => some (.fro d)
  | .own d => some (.own d)
  | .no => none
  | .io _ _ => none
  | .exc _ => none
  | .xio _ _ => none
def Sv.ioR : Sv → Option (D × D)
  | .io r d => some (r, d)
  | _ => none
/-- an __init__'s answer -/
def Sv.ioN : Sv → Option D
  | .io .non d => some d
  | _ => none
def Sv.exn : Sv → Option Str
  | .exc x => some x
  | _ => none
/-- the same of a def that changes what is handed in: the exception, what is left there -/
def Sv.exn2 : Sv → Option (Str × Sv)
  | .exc x => some (x, .no)
  | .xio x d => some (x, .own d)
  | _ => none
/-- an instance's class, where it has no field m -/
def clsF (m : Str) : D → Option Str
  | .obj c fs => if (fs.lookup m).isNone then some c else none
  | _ => none
def slotOf (ρ : Env) : Rv → Option (Sv × Env)
  | .fro d => some (.fro d, ρ)
  | .own d => some (.own d, ρ)
  | .ali i => (frz ρ (.ali i)).mpd fun p => (.fro p.1, p.2)
def bindT (ρ : Env) : List Nat → List D → Option Env
  | [], [] => some ρ
  | i :: is, d :: ds => bindT (ρ.set i (.fro d)) is ds
  | _, _ => none
def bind (ρ : Env) : Tg → D → Option Env
  | .one i, d => some (ρ.set i (.fro d))
  | .many is, .tup ds => bindT ρ is ds
  | .many _, _ => none

/-! ### loops -/
def evComp (body : D → Env → Option (Option D × Env)) : List D → Env → Option (List D × Env)
  | [], ρ => some ([], ρ)
  | x :: xs, ρ => (body x ρ).bnd fun p => (evComp body xs p.2).bnd fun q => some (p.1.toList ++ q.1, q.2)
/-- a walk that an item's turn breaks off by raising -/
def rxComp (body : D → Env → Option (Option D × Env)) (rs : D → Env → Option (Str × Env)) : List D → Env → Option (Str × Env)
  | [], _ => none
  | x :: xs, ρ => (body x ρ).els (fun p => rxComp body rs xs p.2) fun _ => rs x ρ
def evFor (kl : List Nat) (body : D → Env → Option Out) : List D → Env → Option Out
  | [], ρ => some (.nx ρ)
  | x :: xs, ρ => (body x ρ).bnd fun o => match o with
    | .nx ρ' => evFor kl body xs (kill ρ' kl)
    | .cnt ρ' => evFor kl body xs (kill ρ' kl)
    | .brk ρ' => some (.nx (kill ρ' kl))
    | .ret r => some (.ret r)
    | .exc x ρ' => some (.exc x ρ')
def evWhile (kl : List Nat) (c : Env → Option (Bool × Env)) (body : Env → Option Out) : Nat → Env → Option Out
  | 0, _ => none
  | n + 1, ρ => (c ρ).bnd fun p => if p.1 then
      (body p.2).bnd fun o => match o with
        | .nx ρ' => evWhile kl c body n (kill ρ' kl)
        | .cnt ρ' => evWhile kl c body n (kill ρ' kl)
        | .brk ρ' => some (.nx (kill ρ' kl))
        | .ret r => some (.ret r)
        | .exc x ρ' => some (.exc x ρ')
    else some (.nx p.2)

def asI : D → Option Int
  | .int i => some i
  | _ => none
/-- a field -/
def fldF (x : Str) : D → Option D
  | .obj _ fs => fs.lookup x
  | _ => none
def putFd (x : Str) (d : D) : List (Str × D) → List (Str × D)
  | [] => [(x, d)]
  | (y, e) :: fs => if y = x then (y, d) :: fs else (y, e) :: putFd x d fs
def augF : Bop → D → D → Option D
  | .add, .int a, .int b => some (.int (a + b))
  | _, _, _ => none
def asB : D → Option Bool
  | .bl b => some b
  | _ => none

/-- what a comprehension does with one item -/
def cmpB (tg : Tg) (vs : List Nat) (cf : Env → Option (Bool × Env)) (ef : Env → Option (Rv × Env)) (_ : Held cf) (_ : Held ef) (x : D) (ρ1 : Env) : Option (Option D × Env) :=
  (bind ρ1 tg x).bnd fun ρ2 => (cf ρ2).bnd fun c =>
        if c.1 then (ef c.2).bnd fun e => (frz e.2 e.1).bnd fun z => some (some z.1, kill z.2 vs) else some (none, kill c.2 vs)
/-- .. whose item raises -/
def cmpX (tg : Tg) (vs : List Nat) (cf : Env → Option (Bool × Env)) (rf : Env → Option (Str × Env)) (_ : Held cf) (_ : Held rf) (x : D) (ρ1 : Env) : Option (Str × Env) :=
  (bind ρ1 tg x).bnd fun ρ2 => (cf ρ2).bnd fun c => if c.1 then (rf c.2).mpd fun z => (z.1, kill z.2 vs) else none
/-- what a for does with one item -/
def forB (tg : Tg) (f : Env → Option Out) (_ : Held f) (x : D) (ρ1 : Env) : Option Out := (bind ρ1 tg x).bnd fun ρ2 => f ρ2
/-- a while's test -/
def whC (f : Env → Option (Rv × Env)) (_ : Held f) (ρ1 : Env) : Option (Bool × Env) := (f ρ1).bnd fun p => (cont p.2 p.1).bnd fun x => (asB x).mpd fun k => (k, p.2)

/-- a while's body -/
def whB (f : Env → Option Out) (_ : Held f) (ρ1 : Env) : Option Out := f ρ1

/-! ### by keys -/
def froS : Sv → Option D
  | .fro d => some d
  | _ => none
def keysOf (φ : List D → Option Sv) : List D → Option (List D)
  | [] => some []
  | x :: xs => (φ [x]).bnd fun s => (froS s).bnd fun k => (keysOf φ xs).mpd (k :: ·)
/-- the first one whose key is the least -/
def leastK (x k : D) : List D → List D → D
  | y :: ys, q :: qs => if D.lt q k then leastK y q ys qs else leastK x k ys qs
  | _, _ => x
def sortK (xs ks : List D) : List D := ((xs.zip ks).mergeSort fun a b => !D.lt b.2 a.2).map (·.1)
def minK : List D → List D → Option Sv
  | x :: xs, k :: ks => if D.okds 40 (k :: ks) && (k :: ks).all D.nonN && alikeAll (k :: ks) then some (.fro (leastK x k xs ks)) else none
  | _, _ => none
def keyF (φ : List D → Option Sv) : KeyQ → D → Option Sv
  | .min, .lst xs => (keysOf φ xs).bnd fun ks => minK xs ks
  | .sorted, .lst xs => (keysOf φ xs).bnd fun ks => if D.okds 40 ks && ks.all D.full && alikeAll ks && !ks.isEmpty then some (.own (.lst (sortK xs ks))) else none
  | _, _ => none

/-- a dict's keys, in their order -/
def keysD (es : List (List Key × D)) : D := .lst (es.map fun e => .tup (e.1.map keyD))
def keysT : D → Option D
  | .dT es => some (keysD es)
  | _ => none
def lzF : List D → Option (List D)
  | [.lst xs, .lst ys] => if xs.length = ys.length then some (xs.zipWith (fun a b => D.tup [a, b]) ys) else none
  | _ => none
/-! ### methods of texts and lists -/
def strsD : List D → Option (List Str)
  | [] => some []
  | .str x :: r => (strsD r).mpd (x :: ·)
  | _ :: _ => none
/-- the first place of y -/
def idxF (y : D) : List D → Nat → Option Nat
  | [], _ => none
  | x :: xs, j => if D.eqv x y then some j else idxF y xs (j + 1)
def recvF : Smt → D → Option Unit
  | .index, .lst _ => some ()
  | .index, _ => none
  | _, .str _ => some ()
  | _, _ => none
def smtF : Smt → D → D → Option Sv
  | .split, .str a, .str b => if b.length ≠ 0 ∧ a.length + 2 ≤ LINE ∧ (PySem.Txt.split a b).length ≤ LINE then some (.own (.lst ((PySem.Txt.split a b).map D.str))) else none
  | .join, .str a, .lst ys => (strsD ys).bnd fun zs => if (zs.map (·.length)).sum + zs.length * a.length ≤ LINE then some (.fro (.str (PySem.Txt.join a zs))) else none
  | .starts, .str a, .str b => some (.fro (.bl (PySem.Txt.startswith a b)))
  | .part, .str a, .str b => if b.length ≠ 0 ∧ a.length ≤ LINE then some (.fro (.tup [.str (PySem.Txt.partition a b).1, .str (PySem.Txt.partition a b).2.1, .str (PySem.Txt.partition a b).2.2])) else none
  | .index, .lst xs, y => if D.okd DEEP (.lst xs) && D.okd DEEP y then (idxF y xs 0).mpd fun j => .fro (.int j) else none
  | _, _, _ => none
def asS : D → Option Str
  | .str x => some x
  | _ => none
/-- what is handed in, the j-th a new thing -/
def frzT : Nat → List Rv → Env → Option (List D × Env)
  | 0, .own d :: rs, ρ => (frzs ρ rs).mpd fun q => (d :: q.1, q.2)
  | j + 1, r :: rs, ρ => (frz ρ r).bnd fun p => (frzT j rs p.2).mpd fun q => (p.1 :: q.1, q.2)
  | _, _, _ => none
def dspD (kvs : List (Str × Str)) : D := .dK (kvs.map fun p => (.inr p.1, .str p.2))
def maxD0 : D → Option D
  | .lst xs => (D.ints xs).mpd fun ns => match maxI ns with
    | some m => .int m
    | none => .int 0
  | _ => none
/-! ### exceptions -/
/-- whether an x is a c -/
def subX (x c : Str) : Bool := decide (c = x) || decide (c = "ToneError") || decide (c = "ValueError")
/-! #### what a clause of a try tells: x the class of what is caught, i its slot -/
mutual
def evH (x : Str) (i : Nat) : ME → Env → Option D
  | .var j, ρ => if j = i then none else match ρ[j]? with
    | some (.fro d) => some d
    | _ => none
  | .cst d, _ => some d
  | .isx (.var j) _ cs ks, _ => if j = i ∧ x ∈ ks then some (.bl (cs.any (subX x))) else none
  | .cmp o a b, ρ => (evH x i a ρ).bnd fun u => (evH x i b ρ).bnd fun v => (cmpop o u v).mpd fun c => .bl c
  | .not a, ρ => (evH x i a ρ).bnd fun u => (asB u).mpd fun b => .bl (!b)
  | .bop true es, ρ => evHA x i es ρ
  | .tup es, ρ => (evHs x i es ρ).bnd fun ds => if ds.length ≤ LINE then some (.tup ds) else none
  | _, _ => none
def evHs (x : Str) (i : Nat) : List ME → Env → Option (List D)
  | [], _ => some []
  | e :: es, ρ => (evH x i e ρ).bnd fun d => (evHs x i es ρ).mpd fun ds => d :: ds
def evHA (x : Str) (i : Nat) : List ME → Env → Option D
  | [], _ => none
  | [e], ρ => evH x i e ρ
  | e :: e' :: es, ρ => (evH x i e ρ).bnd fun u => (asB u).bnd fun b => if b then evHA x i (e' :: es) ρ else some (.bl false)
end
/-! ### expressions -/
mutual
def evE (Φ : Nat → List D → Option Sv) : ME → Env → Option (Rv × Env)
  | .var i, ρ => (look ρ i).mpd fun r => (r, ρ)
  | .cst d, ρ => some (.fro d, ρ)
  | .gbl _ d, ρ => some (.fro d, ρ)
  | .bin o a b, ρ => (evE Φ a ρ).bnd fun p => (evE Φ b p.2).bnd fun q => (cont q.2 p.1).bnd fun x => (cont q.2 q.1).bnd fun y => (binop o x y).bnd fun s => s.rv.mpd fun r => (r, q.2)
  | .neg a, ρ => (evE Φ a ρ).bnd fun p => (cont p.2 p.1).bnd fun x => (asI x).mpd fun i => (.fro (.int (-i)), p.2)
  | .cmp o a b, ρ => (evE Φ a ρ).bnd fun p => (evE Φ b p.2).bnd fun q => (cont q.2 p.1).bnd fun x => (cont q.2 q.1).bnd fun y => (cmpop o x y).mpd fun c => (.fro (.bl c), q.2)
  | .cmp2 o o' a b c, ρ => (evE Φ a ρ).bnd fun p => (evE Φ b p.2).bnd fun q => (cont q.2 p.1).bnd fun x => (cont q.2 q.1).bnd fun y => (cmpop o x y).bnd fun k =>
      if k then (evE Φ c q.2).bnd fun t => (cont t.2 q.1).bnd fun y' => (cont t.2 t.1).bnd fun z => (cmpop o' y' z).mpd fun k' => (.fro (.bl k'), t.2) else some (.fro (.bl false), q.2)
  | .bop isAnd es, ρ => evB Φ isAnd es ρ
  | .not a, ρ => (evE Φ a ρ).bnd fun p => (cont p.2 p.1).bnd fun x => (asB x).mpd fun b => (.fro (.bl (!b)), p.2)
  | .ife c a b, ρ => (evE Φ c ρ).bnd fun p => (cont p.2 p.1).bnd fun x => (asB x).bnd fun k => if k then evE Φ a p.2 else evE Φ b p.2
  | .tup es, ρ => (evEs Φ es ρ).bnd fun p => (frzs p.2 p.1).bnd fun q => if q.1.length ≤ LINE then some (.fro (.tup q.1), q.2) else none
  | .lst es, ρ => (evEs Φ es ρ).bnd fun p => (frzs p.2 p.1).bnd fun q => if q.1.length ≤ LINE then some (.own (.lst q.1), q.2) else none
  | .idx a b, ρ => (evE Φ a ρ).bnd fun p => (evE Φ b p.2).bnd fun q => (cont q.2 p.1).bnd fun x => (cont q.2 q.1).bnd fun y => (idxop x y).mpd fun d => (.fro d, q.2)
  | .sli a lo hi, ρ => (evE Φ a ρ).bnd fun p => (evO Φ lo p.2).bnd fun q => (evO Φ hi q.2).bnd fun t => (cont t.2 p.1).bnd fun x => (sliop x q.1 t.1).bnd fun s => s.rv.mpd fun r => (r, t.2)
  | .back a, ρ => (evE Φ a ρ).bnd fun p => (cont p.2 p.1).bnd fun x => (backop x).bnd fun s => s.rv.mpd fun r => (r, p.2)
  | .call f es, ρ => (evEs Φ es ρ).bnd fun p => (frzs p.2 p.1).bnd fun q => (Φ f q.1).bnd fun s => s.rv.mpd fun r => (r, cond s.imm p.2 q.2)
  | .prim f es, ρ => (evEs Φ es ρ).bnd fun p => (conts p.2 p.1).bnd fun ds => (primF f ds).bnd fun s => s.rv.mpd fun r => (r, p.2)
  | .fus f es, ρ => (evEs Φ es ρ).bnd fun p => (conts p.2 p.1).bnd fun ds => (fusF f ds).bnd fun s => s.rv.mpd fun r => (r, p.2)
  | .isi a t, ρ => (evE Φ a ρ).bnd fun p => (cont p.2 p.1).bnd fun x => (D.isTy t x).mpd fun b => (.fro (.bl b), p.2)
  | .comp elt tg vs k src conds, ρ => (evEs Φ src ρ).bnd fun p => (frzs p.2 p.1).bnd fun q => (itF k q.1).bnd fun items =>
      (evComp (cmpB tg vs (evC Φ conds) (evE Φ elt) (.it _) (.it _)) items (kill q.2 vs)).bnd fun t =>
      some (.own (.lst t.1), t.2)
  | .mut m i es, ρ => (ownL ρ i).bnd fun _ => (evEs Φ es ρ).bnd fun p => (frzs p.2 p.1).bnd fun q => (ownL q.2 i).bnd fun xs =>
      (mutF m xs q.1).mpd fun z => (.fro z.1, q.2.set i (.own (.lst z.2)))
  | .thw a, ρ => (evE Φ a (frzAll ρ)).bnd fun p => cond p.1.imm (some (p.1, ρ)) none
  | .dct t es, ρ => (evEs Φ es ρ).bnd fun p => (frzs p.2 p.1).bnd fun q => (dictOf t q.1).mpd fun d => (.own d, q.2)
  | .keyf q f a, ρ => (evE Φ a ρ).bnd fun p => (frz p.2 p.1).bnd fun z => (keyF (Φ f) q z.1).bnd fun s => s.rv.mpd fun r => (r, z.2)
  | .keyd f a, ρ => (evE Φ a ρ).bnd fun p => (frz p.2 p.1).bnd fun z => (keysT z.1).bnd fun d => (keyF (Φ f) .sorted d).bnd fun s => s.rv.mpd fun r => (r, z.2)
  | .lzip es, ρ => (evEs Φ es ρ).bnd fun p => (frzs p.2 p.1).bnd fun q => (lzF q.1).mpd fun ds => (.own (.lst ds), q.2)
  | .cio f j i es, ρ => (evEs Φ es ρ).bnd fun p => (frzJ j i p.1 p.2).bnd fun q => (Φ f q.1).bnd fun s => s.ioR.mpd fun z => (.fro z.1, q.2.set i (.own z.2))
  | .fld a x, ρ => (evE Φ a ρ).bnd fun p => (cont p.2 p.1).bnd fun d => (fldF x d).mpd fun e => (.fro e, p.2)
  | .meth a m tab es, ρ => (evE Φ a ρ).bnd fun p0 => (cont p0.2 p0.1).bnd fun d0 => (clsF m d0).bnd fun c => (tab.lookup c).bnd fun f => (evEs Φ es p0.2).bnd fun p => (frzs p.2 (p0.1 :: p.1)).bnd fun q => (Φ f q.1).bnd fun s => s.rv.mpd fun r => (r, cond s.imm p.2 q.2)
  | .mio c m f i es, ρ => (ownC ρ i).bnd fun d0 => (clsF m d0).bnd fun c' => if c' = c then (evEs Φ es ρ).bnd fun p => (frzJ 0 i (.ali i :: p.1) p.2).bnd fun q => (Φ f q.1).bnd fun s => s.ioR.mpd fun z => (.fro z.1, q.2.set i (.own z.2)) else none
  | .make c f es, ρ => (evEs Φ es ρ).bnd fun p => (frzs p.2 p.1).bnd fun q => (Φ f (.obj c [] :: q.1)).bnd fun s => s.ioN.mpd fun d => (.own d, q.2)
  | .smt q a b, ρ => (evE Φ a ρ).bnd fun p => (cont p.2 p.1).bnd fun x0 => (recvF q x0).bnd fun _ => (evE Φ b p.2).bnd fun r => (cont r.2 p.1).bnd fun x => (cont r.2 r.1).bnd fun y => (smtF q x y).bnd fun s => s.rv.mpd fun t => (t, r.2)
  | .cit f j es, ρ => (evEs Φ es ρ).bnd fun p => (frzT j p.1 p.2).bnd fun q => (Φ f q.1).bnd fun s => s.ioR.mpd fun z => (.fro z.1, q.2)
  | .gdx _ kvs a, ρ => (evE Φ a ρ).bnd fun p => (cont p.2 p.1).bnd fun x => (asS x).bnd fun z => (kvs.lookup z).mpd fun d => (.fro d, p.2)
  | .gdin neg _ kvs a, ρ => (evE Φ a ρ).bnd fun p => (cont p.2 p.1).bnd fun x => (asS x).mpd fun z => (.fro (.bl (if neg then !(kvs.lookup z).isSome else (kvs.lookup z).isSome)), p.2)
  | .dsp kvs, ρ => some (.own (dspD kvs), ρ)
  | .maxd a, ρ => (evE Φ a ρ).bnd fun p => (cont p.2 p.1).bnd fun x => (maxD0 x).mpd fun d => (.fro d, p.2)
  | .isx _ _ _ _, _ => none
def evEs (Φ : Nat → List D → Option Sv) : List ME → Env → Option (List Rv × Env)
  | [], ρ => some ([], ρ)
  | e :: es, ρ => (evE Φ e ρ).bnd fun p => (evEs Φ es p.2).bnd fun q => some (p.1 :: q.1, q.2)
def evB (Φ : Nat → List D → Option Sv) (isAnd : Bool) : List ME → Env → Option (Rv × Env)
  | [], _ => none
  | [e], ρ => evE Φ e ρ
  | e :: e' :: es, ρ => (evE Φ e ρ).bnd fun p => (cont p.2 p.1).bnd fun x => (asB x).bnd fun b => if b = isAnd then evB Φ isAnd (e' :: es) p.2 else some (.fro (.bl b), p.2)
/-- a part of a slice, left out or an int -/
def evO (Φ : Nat → List D → Option Sv) : List ME → Env → Option (Option Int × Env)
  | [], ρ => some (none, ρ)
  | e :: _, ρ => (evE Φ e ρ).bnd fun p => (cont p.2 p.1).bnd fun x => (asI x).mpd fun i => (some i, p.2)
/-- at most one test of a clause -/
def evC (Φ : Nat → List D → Option Sv) : List ME → Env → Option (Bool × Env)
  | [], ρ => some (true, ρ)
  | e :: _, ρ => (evE Φ e ρ).bnd fun p => (cont p.2 p.1).bnd fun x => (asB x).mpd fun b => (b, p.2)
end

/-! ### what raises -/
mutual
/-- no comprehension stands where it could raise -/
def noC : ME → Bool
  | .comp _ _ _ _ _ _ => false
  | .call _ es => noCs es
  | .cio _ _ _ es => noCs es
  | .meth _ _ _ es => noCs es
  | .mio _ _ _ _ es => noCs es
  | .bin _ a b => noC a && noC b
  | .idx a _ => noC a
  | .tup es => noCs es
  | .lst es => noCs es
  | .prim _ es => noCs es
  | .mut _ _ es => noCs es
  | .smt _ _ b => noC b
  | .thw a => noC a
  | _ => true
def noCs : List ME → Bool
  | [] => true
  | e :: es => noC e && noCs es
end
mutual
/-- the exception that an expression raises, and where things stand then -/
def rxE (Φ : Nat → List D → Option Sv) : ME → Env → Option (Str × Env)
  | .call f es, ρ => (evEs Φ es ρ).els (fun p => (frzs p.2 p.1).bnd fun q => (Φ f q.1).bnd fun s => s.exn.mpd fun x => (x, q.2)) (fun _ => rxEs Φ es ρ)
  | .cio f j i es, ρ => (evEs Φ es ρ).els (fun p => (frzJ j i p.1 p.2).bnd fun q => (Φ f q.1).bnd fun s => s.exn2.mpd fun x => (x.1, q.2.set i x.2)) (fun _ => rxEs Φ es ρ)
  | .meth a m tab es, ρ => (evE Φ a ρ).bnd fun p0 => (cont p0.2 p0.1).bnd fun d0 => (clsF m d0).bnd fun c => (tab.lookup c).bnd fun f =>
      (evEs Φ es p0.2).els (fun p => (frzs p.2 (p0.1 :: p.1)).bnd fun q => (Φ f q.1).bnd fun s => s.exn.mpd fun x => (x, q.2)) (fun _ => rxEs Φ es p0.2)
  | .mio c m f i es, ρ => (ownC ρ i).bnd fun d0 => (clsF m d0).bnd fun c' => if c' = c then
      (evEs Φ es ρ).els (fun p => (frzJ 0 i (.ali i :: p.1) p.2).bnd fun q => (Φ f q.1).bnd fun s => s.exn2.mpd fun x => (x.1, q.2.set i x.2)) (fun _ => rxEs Φ es ρ) else none
  | .bin _ a b, ρ => (evE Φ a ρ).els (fun p => rxE Φ b p.2) (fun _ => rxE Φ a ρ)
  | .idx a _, ρ => rxE Φ a ρ
  | .tup es, ρ => rxEs Φ es ρ
  | .lst es, ρ => rxEs Φ es ρ
  | .prim _ es, ρ => rxEs Φ es ρ
  | .mut .append i [e], ρ => (ownL ρ i).bnd fun _ => rxEs Φ [e] ρ
  | .smt .join a b, ρ => (evE Φ a ρ).bnd fun p => (cont p.2 p.1).bnd fun x0 => (recvF .join x0).bnd fun _ => rxE Φ b p.2
  | .thw a, ρ => (rxE Φ a (frzAll ρ)).mpd fun p => (p.1, ρ)
  | .comp elt tg vs k src conds, ρ => if noC elt then (evEs Φ src ρ).bnd fun p => (frzs p.2 p.1).bnd fun q => (itF k q.1).bnd fun items =>
      rxComp (cmpB tg vs (evC Φ conds) (evE Φ elt) (.it _) (.it _)) (cmpX tg vs (evC Φ conds) (rxE Φ elt) (.it _) (.it _)) items (kill q.2 vs) else none
  | _, _ => none
def rxEs (Φ : Nat → List D → Option Sv) : List ME → Env → Option (Str × Env)
  | [], _ => none
  | e :: es, ρ => (evE Φ e ρ).els (fun p => rxEs Φ es p.2) (fun _ => rxE Φ e ρ)
end
def xOut : Option (Str × Env) → Option Out
  | some p => some (.exc p.1 p.2)
  | none => none
/-- what a try does behind its body -/
def evHS (x : Str) (i : Nat) : List MS → Env → Option Out
  | [], ρ => some (.nx ρ)
  | .asg j m :: ss, ρ => if j = i then none else (evH x i m ρ).bnd fun d => evHS x i ss (ρ.set j (.fro d))
  | .ret m :: _, ρ => (evH x i m ρ).mpd fun d => .ret (.fro d)
  | _ :: _, _ => none
def triF (te : Str) (i : Nat) (h : List MS) (ks : List Str) : Out → Option Out
  | .exc x ρ => if x ∈ ks then (if subX x te then (evHS x i h (ρ.set i .no)).bnd fun o => match o with
      | .nx ρ' => some (.nx (ρ'.set i .no))
      | .ret r => some (.ret r)
      | _ => none
    else some (.exc x ρ)) else none
  | .nx ρ => some (.nx ρ)
  | .ret r => some (.ret r)
  | _ => none
/-! ### statements -/
def WFUEL : Nat := 1000000
mutual
def evS (Φ : Nat → List D → Option Sv) : MS → Env → Option Out
  | .asg i e, ρ => (evE Φ e ρ).els (fun p => (slotOf p.2 p.1).mpd fun s => .nx (s.2.set i s.1)) fun _ => xOut (rxE Φ e ρ)
  | .asgT is e, ρ => (evE Φ e ρ).els (fun p => (frz p.2 p.1).bnd fun z => (bind z.2 (.many is) z.1).mpd .nx) fun _ => xOut (rxE Φ e ρ)
  | .par2 i j a b, ρ => (evEs Φ [a, b] ρ).bnd fun p => (frzs p.2 p.1).bnd fun q => match q.1 with
      | [x, y] => some (.nx ((q.2.set i (.fro x)).set j (.fro y)))
      | _ => none
  | .aug i o e, ρ => (look ρ i).bnd fun r => (evE Φ e ρ).bnd fun p => (cont p.2 r).bnd fun x => (cont p.2 p.1).bnd fun y => (augF o x y).mpd fun z => .nx (p.2.set i (.fro z))
  | .setix i k e, ρ => (evE Φ e ρ).bnd fun p => (frz p.2 p.1).bnd fun z => (ownL z.2 i).bnd fun _ => (evE Φ k z.2).bnd fun q => (cont q.2 q.1).bnd fun y => (asI y).bnd fun n => (ownL q.2 i).bnd fun xs =>
      (ixN xs.length n).mpd fun j => .nx (q.2.set i (.own (.lst (xs.set j z.1))))
  | .putk i k e, ρ => (evE Φ e ρ).bnd fun p => (frz p.2 p.1).bnd fun z => (ownD z.2 i).bnd fun _ => (evE Φ k z.2).bnd fun q => (cont q.2 q.1).bnd fun y => (ownD q.2 i).bnd fun x =>
      (dput x y z.1).mpd fun d => .nx (q.2.set i (.own d))
  | .augix i k e, ρ => (ownL ρ i).bnd fun _ => (evE Φ k ρ).bnd fun q => (cont q.2 q.1).bnd fun y => (asI y).bnd fun n => (ownL q.2 i).bnd fun xs =>
      (ixN xs.length n).bnd fun j => (xs[j]?).bnd fun old => (asI old).bnd fun a => (evE Φ e q.2).bnd fun p => (cont p.2 p.1).bnd fun v => (asI v).bnd fun b => (ownL p.2 i).bnd fun ys =>
      (ixN ys.length n).mpd fun j' => .nx (p.2.set i (.own (.lst (ys.set j' (.int (a + b))))))
  | .expr e, ρ => (evE Φ e ρ).els (fun p => some (.nx p.2)) fun _ => xOut (rxE Φ e ρ)
  | .ret e, ρ => (evE Φ e ρ).els (fun p => match p.1 with
      | .fro d => some (.ret (.fro d))
      | .own d => some (.ret (.own d))
      | .ali i => match p.2[i]? with
        | some (.own d) => some (.ret (.own d))
        | some (.fro d) => some (.ret (.fro d))
        | _ => none) fun _ => xOut (rxE Φ e ρ)
  | .retN, ρ => some (.ret (.fro .non))
  | .ite c a b, ρ => (evE Φ c ρ).bnd fun p => (cont p.2 p.1).bnd fun x => (asB x).bnd fun k => if k then evSs Φ a p.2 else evSs Φ b p.2
  | .forr tg k src body kl, ρ => (evEs Φ src ρ).bnd fun p => (frzs p.2 p.1).bnd fun q => (itF k q.1).bnd fun items =>
      evFor kl (forB tg (evSs Φ body) (.it _)) items (kill q.2 kl)
  | .whl c body kl, ρ => evWhile kl (whC (evE Φ c) (.it _)) (whB (evSs Φ body) (.it _)) WFUEL (kill ρ kl)
  | .pass, ρ => some (.nx ρ)
  | .brk, ρ => some (.brk ρ)
  | .cont, ρ => some (.cnt ρ)
  | .never, _ => none
  | .rse x, ρ => some (.exc x ρ)
  | .tri body te i h ks, ρ => (evSs Φ body ρ).bnd fun o => triF te i h ks o
  | .retio j e, ρ => (evE Φ e ρ).els (fun p => (frz p.2 p.1).bnd fun z => (ownC z.2 j).mpd fun d => .ret (.io z.1 d)) fun _ => xOut (rxE Φ e ρ)
  | .setf i x e, ρ => (evE Φ e ρ).els (fun p => (frz p.2 p.1).bnd fun z => (ownO z.2 i).bnd fun o => if o.2.length < 1000 then some (.nx (z.2.set i (.own (.obj o.1 (putFd x z.1 o.2))))) else none) fun _ => xOut (rxE Φ e ρ)
  | .augf i x e, ρ => (ownO ρ i).bnd fun o0 => (o0.2.lookup x).bnd fun u => (asI u).bnd fun a => (evE Φ e ρ).bnd fun p => (cont p.2 p.1).bnd fun v => (asI v).bnd fun b => (ownO p.2 i).bnd fun o =>
      if o.1 = o0.1 ∧ o.2.length < 1000 then some (.nx (p.2.set i (.own (.obj o.1 (putFd x (.int (a + b)) o.2))))) else none
def evSs (Φ : Nat → List D → Option Sv) : List MS → Env → Option Out
  | [], ρ => some (.nx ρ)
  | s :: ss, ρ => (evS Φ s ρ).bnd fun o => match o with
      | .nx ρ' => evSs Φ ss ρ'
      | .brk ρ' => some (.brk ρ')
      | .cnt ρ' => some (.cnt ρ')
      | .ret r => some (.ret r)
      | .exc x ρ' => some (.exc x ρ')
end

/-- the arguments as slots -/
def argS : Option Nat → List D → Env
  | none, as => as.map Sv.fro
  | some _, [] => []
  | some 0, a :: as => .own a :: as.map Sv.fro
  | some (j + 1), a :: as => .fro a :: argS (some j) as
def startE (mf : MF) (as : List D) : Env := argS mf.io as ++ List.replicate (mf.ns - as.length) .no
/-- what a def tells that comes to its body's end -/
def endF (io : Option Nat) (ρ : Env) : Option Sv := match io with
  | none => some (.fro .non)
  | some j => (ownC ρ j).mpd fun d => .io .non d
/-- .. that raises -/
def endX (io : Option Nat) (x : Str) (ρ : Env) : Option Sv := match io with
  | none => some (.exc x)
  | some j => (ownC ρ j).els (fun d => some (.xio x d)) fun _ => some (.exc x)
def evBody (Φ : Nat → List D → Option Sv) (mf : MF) (as : List D) : Option Sv :=
  if as.length = mf.np then
    (evSs Φ mf.body (startE mf as)).bnd fun o => match o with
      | .ret r => some r
      | .nx ρ' => endF mf.io ρ'
      | .exc x ρ' => endX mf.io x ρ'
      | _ => none
  else none
/-- the place of the argument that the def of this number changes -/
def ioPos (f : Nat) : Option Nat := if f < 5000 then none else some (f % 10)
def callF (P : Nat → Option MF) : Nat → Nat → List D → Option Sv
  | 0, _, _ => none
  | k + 1, f, as => (P f).bnd fun mf => evBody (callF P k) mf as
end ML
set_option Elab.async false
set_option linter.all false
set_option autoImplicit false
set_option maxRecDepth 100000
set_option maxHeartbeats 4000000
/-! MLrep: how plain data stand in the abstract heap; what a run of code may change. -/
namespace ML
open PySem L2

/-- whose program, which world: by them the keys of dicts are hashed -/
class Wd where
  P : Program
  w : World
  /-- the names of the top -/
  mg : Str → Option Value
  /-- the classes whose instances are dealt with -/
  cls : Str → Option Addr
/-- the dict at a whose keys are tuples, without the tuples themselves -/
def DicAt [Wd] (a : Addr) (kvs : List (List L2.Key × Addr × V)) (ep : Nat) : HO := .ext fun h => (a == sysModules) = false ∧ kvs.length ≤ sizeLine ∧
  ∃ xs : List (List L2.Key × Addr × Value), Paired (fun p q => p.1 = q.1 ∧ p.2.1 = q.2.1 ∧ RelV p.2.2 q.2.2) kvs xs ∧
    ∃ o es, h.get? a = some o ∧ o.ExactDict ∧ o.data = .dict es ep ∧ es.toList = xs.map (entryOfKey (tupleKind (mixKind Wd.P Wd.w))) ∧ (xs.map (·.1)).Nodup
/-- an exception object of the class at C -/
def ExX (C a : Addr) : HO := .ext fun h => ∃ oe, h.get? a = some oe ∧ Zc (.ref C) none oe ∧ ∃ vs, oe.data = .fields vs
mutual
inductive Rep [Wd] (K : PySem.W.Frag) (H : Hp) : V → D → Prop
  | non : Rep K H .non .non
  | bl (b : Bool) : Rep K H (.bl b) (.bl b)
  | int (i : Int) : Rep K H (.int i) (.int i)
  | str (x : Str) : Rep K H (.str x) (.str x)
  | tup {a : Addr} {vs : List V} {ds : List D} : SqT K H a vs → Reps K H vs ds → ds.length ≤ LINE → Rep K H (.ref a) (.tup ds)
  | lst {a : Addr} {vs : List V} {ds : List D} : H a = some (.lst vs) → Reps K H vs ds → ds.length ≤ LINE → Rep K H (.ref a) (.lst ds)
  | scr {a : Addr} {ns : List Int} : SqL K H a (ns.map V.int) → ns.length ≤ LINE → Rep K H (.ref a) (.scr ns)
  | dT {a : Addr} {kvs : List (List L2.Key × Addr × V)} {ep : Nat} {es : List (List L2.Key × D)} : H a = some (DicAt a kvs ep) → kvs.map (·.1) = es.map (·.1) → (∀ p ∈ kvs, SqT K H p.2.1 (p.1.map kV)) → Reps K H (kvs.map (·.2.2)) (es.map (·.2)) → Rep K H (.ref a) (.dT es)
  | dK {a : Addr} {kvs : List (L2.Key × V)} {es : List (L2.Key × D)} : H a = some (.dK kvs) → kvs.map (·.1) = es.map (·.1) → Reps K H (kvs.map (·.2)) (es.map (·.2)) → Rep K H (.ref a) (.dK es)
  | exc {a C : Addr} {x : Str} : H a = some (ExX C a) → Wd.mg x = some (.ref C) → Rep K H (.ref a) (.exc x)
  | obj {a C dx : Addr} {c : Str} {gs : List (Str × V)} {fs : List (Str × D)} : H a = some (.ins C dx gs) → Wd.cls c = some C → gs.map (·.1) = fs.map (·.1) → Reps K H (gs.map (·.2)) (fs.map (·.2)) → Rep K H (.ref a) (.obj c fs)
inductive Reps [Wd] (K : PySem.W.Frag) (H : Hp) : List V → List D → Prop
  | nil : Reps K H [] []
  | cons {v : V} {vs : List V} {d : D} {ds : List D} : Rep K H v d → Reps K H vs ds → Reps K H (v :: vs) (d :: ds)
end

theorem line_eq : LINE = sizeLine := by rw [sizeLine_eq]
theorem same_sqT {K : PySem.W.Frag} {H H' : Hp} {a : Addr} {xs : List V} (e : Same H H') (h : SqT K H a xs) : SqT K H' a xs := by
  rcases h with (h | ⟨o, h⟩) | h
  · exact .inl (.inl (e _ _ h))
  · exact .inl (.inr ⟨o, e _ _ h⟩)
  · exact .inr h

section
variable [Wd] {K : PySem.W.Frag} {H H' B : Hp}
mutual
theorem Rep.mono (s : Same H H') : ∀ (d : D) (v : V), Rep K H v d → Rep K H' v d
  | _, _, .non => .non
  | _, _, .bl b => .bl b
  | _, _, .int i => .int i
  | _, _, .str x => .str x
  | _, _, .tup a b c => .tup (same_sqT s a) (Reps.mono s _ _ b) c
  | _, _, .lst a b c => .lst (s _ _ a) (Reps.mono s _ _ b) c
  | _, _, .scr a b => .scr (s.seq a) b
  | _, _, .dT a b c e => .dT (s _ _ a) b (fun p hp => same_sqT s (c p hp)) (Reps.mono s _ _ e)
  | _, _, .dK a b c => .dK (s _ _ a) b (Reps.mono s _ _ c)
  | _, _, .obj a b c e => .obj (s _ _ a) b c (Reps.mono s _ _ e)
  | _, _, .exc a b => .exc (s _ _ a) b
theorem Reps.mono (s : Same H H') : ∀ (ds : List D) (vs : List V), Reps K H vs ds → Reps K H' vs ds
  | _, _, .nil => .nil
  | _, _, .cons a b => .cons (Rep.mono s _ _ a) (Reps.mono s _ _ b)
end
theorem Reps.length : ∀ {vs : List V} {ds : List D}, Reps K H vs ds → vs.length = ds.length
  | _, _, .nil => rfl
  | _, _, .cons _ t => by simp [Reps.length t]
theorem Reps.append : ∀ {vs ws : List V} {ds es : List D}, Reps K H vs ds → Reps K H ws es → Reps K H (vs ++ ws) (ds ++ es)
  | _, _, _, _, .nil, q => q
  | _, _, _, _, .cons a t, q => .cons a (Reps.append t q)
theorem Reps.get : ∀ {vs : List V} {ds : List D} {i : Nat} {d : D}, Reps K H vs ds → ds[i]? = some d → ∃ v, vs[i]? = some v ∧ Rep K H v d
  | _, _, _, _, .nil, e => by simp at e
  | _, _, 0, _, .cons a _, e => by simp at e; subst e; exact ⟨_, rfl, a⟩
  | _, _, i + 1, d, .cons _ t, e => by
    obtain ⟨v, h1, h2⟩ := Reps.get (i := i) (d := d) t (by simpa using e)
    exact ⟨v, by simpa using h1, h2⟩
theorem Reps.getV : ∀ {vs : List V} {ds : List D} {i : Nat} {v : V}, Reps K H vs ds → vs[i]? = some v → ∃ d, ds[i]? = some d ∧ Rep K H v d
  | _, _, _, _, .nil, e => by simp at e
  | _, _, 0, _, .cons a _, e => by simp at e; subst e; exact ⟨_, rfl, a⟩
  | _, _, i + 1, d, .cons _ t, e => by
    obtain ⟨v, h1, h2⟩ := Reps.getV (i := i) (v := d) t (by simpa using e)
    exact ⟨v, by simpa using h1, h2⟩
theorem Reps.take : ∀ {vs : List V} {ds : List D} (n : Nat), Reps K H vs ds → Reps K H (vs.take n) (ds.take n)
  | _, _, 0, _ => by simp; exact .nil
  | _, _, _ + 1, .nil => by simp; exact .nil
  | _, _, n + 1, .cons a t => by simp; exact .cons a (Reps.take n t)
theorem Reps.drop : ∀ {vs : List V} {ds : List D} (n : Nat), Reps K H vs ds → Reps K H (vs.drop n) (ds.drop n)
  | _, _, 0, q => by simpa using q
  | _, _, _ + 1, .nil => by simp; exact .nil
  | _, _, n + 1, .cons _ t => by simp; exact Reps.drop n t
theorem Reps.set : ∀ {vs : List V} {ds : List D} (i : Nat) {v : V} {d : D}, Rep K H v d → Reps K H vs ds → Reps K H (vs.set i v) (ds.set i d)
  | _, _, _, _, _, _, .nil => by simp; exact .nil
  | _, _, 0, _, _, r, .cons _ t => by simp; exact .cons r t
  | _, _, i + 1, _, _, r, .cons a t => by simp; exact .cons a (Reps.set i r t)
theorem Reps.eraseIdx : ∀ {vs : List V} {ds : List D} (i : Nat), Reps K H vs ds → Reps K H (vs.eraseIdx i) (ds.eraseIdx i)
  | _, _, _, .nil => by simp; exact .nil
  | _, _, 0, .cons _ t => by simpa using t
  | _, _, i + 1, .cons a t => by simp; exact .cons a (Reps.eraseIdx i t)
theorem Reps.dropLast : ∀ {vs : List V} {ds : List D}, Reps K H vs ds → Reps K H vs.dropLast ds.dropLast
  | _, _, .nil => .nil
  | _, _, .cons a .nil => .nil
  | _, _, .cons a (.cons b t) => .cons a (Reps.dropLast (.cons b t))
theorem Reps.reverse : ∀ {vs : List V} {ds : List D}, Reps K H vs ds → Reps K H vs.reverse ds.reverse
  | _, _, .nil => .nil
  | _, _, .cons a t => by simp; exact Reps.append (Reps.reverse t) (.cons a .nil)
theorem Reps.ints : ∀ (ns : List Int), Reps K H (ns.map V.int) (ns.map D.int)
  | [] => .nil
  | n :: ns => .cons (.int n) (Reps.ints ns)
omit [Wd] in
theorem D.ints_eq : ∀ {ds : List D} {ns : List Int}, D.ints ds = some ns → ds = ns.map D.int
  | [], ns, h => by simp [D.ints] at h; subst h; rfl
  | .int i :: r, ns, h => by
    unfold D.ints at h
    cases e : D.ints r with
    | none => rw [e] at h; cases h
    | some ms => rw [e] at h; cases h; rw [D.ints_eq e]; rfl
  | .non :: _, _, h => by simp [D.ints] at h
  | .bl _ :: _, _, h => by simp [D.ints] at h
  | .str _ :: _, _, h => by simp [D.ints] at h
  | .tup _ :: _, _, h => by simp [D.ints] at h
  | .lst _ :: _, _, h => by simp [D.ints] at h
  | .scr _ :: _, _, h => by simp [D.ints] at h
  | .dK _ :: _, _, h => by simp [D.ints] at h
  | .dT _ :: _, _, h => by simp [D.ints] at h
  | .obj _ _ :: _, _, h => by simp [D.ints] at h
  | .exc _ :: _, _, h => by simp [D.ints] at h
omit [Wd] in
theorem D.bls_eq : ∀ {ds : List D} {ns : List Bool}, D.bls ds = some ns → ds = ns.map D.bl
  | [], ns, h => by simp [D.bls] at h; subst h; rfl
  | .bl i :: r, ns, h => by
    unfold D.bls at h
    cases e : D.bls r with
    | none => rw [e] at h; cases h
    | some ms => rw [e] at h; cases h; rw [D.bls_eq e]; rfl
  | .non :: _, _, h => by simp [D.bls] at h
  | .int _ :: _, _, h => by simp [D.bls] at h
  | .str _ :: _, _, h => by simp [D.bls] at h
  | .tup _ :: _, _, h => by simp [D.bls] at h
  | .lst _ :: _, _, h => by simp [D.bls] at h
  | .scr _ :: _, _, h => by simp [D.bls] at h
  | .dK _ :: _, _, h => by simp [D.bls] at h
  | .dT _ :: _, _, h => by simp [D.bls] at h
  | .obj _ _ :: _, _, h => by simp [D.bls] at h
  | .exc _ :: _, _, h => by simp [D.bls] at h
theorem Reps.of_ints : ∀ {ns : List Int} {vs : List V}, Reps K H vs (ns.map D.int) → vs = ns.map V.int
  | [], _, h => by cases h; rfl
  | n :: ns, _, h => by
    cases h with
    | cons a t => cases a; rw [Reps.of_ints t]; rfl
theorem Reps.of_bls : ∀ {ns : List Bool} {vs : List V}, Reps K H vs (ns.map D.bl) → vs = ns.map V.bl
  | [], _, h => by cases h; rfl
  | n :: ns, _, h => by
    cases h with
    | cons a t => cases a; rw [Reps.of_bls t]; rfl
end

/-! ### what a run changes -/
/-- B, H, O: frozen part, heap, own addresses ahead; B', H', O': behind -/
structure Ext (B H : Hp) (O : Addr → Prop) (B' H' : Hp) (O' : Addr → Prop) : Prop where
  b : Same B B'
  keep : ∀ a o, H a = some o → ¬ O a → H' a = some o
  tr : ∀ a, H' a = none → H a = none
  own : ∀ a, O' a → O a ∨ H a = none
  base : ∀ a u, B' a = some u → B a = some u ∨ H a = none ∨ O a
theorem Ext.refl {B H : Hp} {O : Addr → Prop} : Ext B H O B H O :=
  ⟨Same.refl _, fun _ _ h _ => h, fun _ h => h, fun _ h => .inl h, fun _ _ h => .inl h⟩
theorem Ext.trans {B H B1 H1 B2 H2 : Hp} {O O1 O2 : Addr → Prop} (x : Ext B H O B1 H1 O1) (y : Ext B1 H1 O1 B2 H2 O2) : Ext B H O B2 H2 O2 where
  b := x.b.trans y.b
  keep := fun a o h n => y.keep a o (x.keep a o h n) fun q => by
    rcases x.own a q with q | q
    · exact n q
    · rw [h] at q; cases q
  tr := fun a h => x.tr a (y.tr a h)
  own := fun a h => by
    rcases y.own a h with q | q
    · exact x.own a q
    · exact .inr (x.tr a q)
  base := fun a u h => by
    rcases y.base a u h with q | q | q
    · exact x.base a u q
    · exact .inr (.inl (x.tr a q))
    · rcases x.own a q with z | z
      · exact .inr (.inr z)
      · exact .inr (.inl z)

/-- what one's own object at a holds, what is in it frozen -/
inductive Cell [Wd] (K : PySem.W.Frag) (B : Hp) (a : Addr) : HO → D → Prop
  | lst {vs : List V} {ds : List D} : Reps K B vs ds → ds.length ≤ LINE → Cell K B a (.lst vs) (.lst ds)
  | dT {kvs : List (List L2.Key × Addr × V)} {ep : Nat} {es : List (List L2.Key × D)} : kvs.map (·.1) = es.map (·.1) → (∀ p ∈ kvs, SqT K B p.2.1 (p.1.map kV)) → Reps K B (kvs.map (·.2.2)) (es.map (·.2)) → Cell K B a (DicAt a kvs ep) (.dT es)
  | dK {kvs : List (L2.Key × V)} {es : List (L2.Key × D)} : kvs.map (·.1) = es.map (·.1) → Reps K B (kvs.map (·.2)) (es.map (·.2)) → Cell K B a (.dK kvs) (.dK es)
  | obj {C dx : Addr} {c : Str} {gs : List (Str × V)} {fs : List (Str × D)} : Wd.cls c = some C → gs.map (·.1) = fs.map (·.1) → Reps K B (gs.map (·.2)) (fs.map (·.2)) → Cell K B a (.ins C dx gs) (.obj c fs)
theorem Cell.mono [Wd] {K : PySem.W.Frag} {B B' : Hp} {a : Addr} {o : HO} {d : D} (s : Same B B') (c : Cell K B a o d) : Cell K B' a o d := by
  cases c with
  | lst r l => exact .lst (Reps.mono s _ _ r) l
  | dT e q r => exact .dT e (fun p hp => same_sqT s (q p hp)) (Reps.mono s _ _ r)
  | dK e r => exact .dK e (Reps.mono s _ _ r)
  | obj e q r => exact .obj e q (Reps.mono s _ _ r)
theorem Cell.rep [Wd] {K : PySem.W.Frag} {B H : Hp} {a : Addr} {o : HO} {d : D} (c : Cell K B a o d) (s : Same B H) (h : H a = some o) : Rep K H (.ref a) d := by
  cases c with
  | lst r l => exact .lst h (Reps.mono s _ _ r) l
  | dT e q r => exact .dT h e (fun p hp => same_sqT s (q p hp)) (Reps.mono s _ _ r)
  | dK e r => exact .dK h e (Reps.mono s _ _ r)
  | obj e q r => exact .obj h e q (Reps.mono s _ _ r)
theorem Cell.lists [Wd] {K : PySem.W.Frag} {B : Hp} {a : Addr} {o : HO} {ds : List D} (c : Cell K B a o (.lst ds)) : ∃ vs, o = .lst vs ∧ Reps K B vs ds ∧ ds.length ≤ LINE := by
  cases c with
  | lst r l => exact ⟨_, rfl, r, l⟩
/-- objects that may be one's own -/
def HO.cell : HO → Bool
  | .lst _ => true
  | .dK _ => true
  | .ext _ => true
  | .ins _ _ _ => true
  | _ => false
theorem Cell.cell [Wd] {K : PySem.W.Frag} {B : Hp} {a : Addr} {o : HO} {d : D} (c : Cell K B a o d) : HO.cell o = true := by
  cases c <;> rfl
/-- an object of one's own at a -/
def OwnAt [Wd] (K : PySem.W.Frag) (B H : Hp) (a : Addr) (d : D) : Prop :=
  ∃ o, B a = none ∧ H a = some o ∧ Cell K B a o d
structure EnvOk [Wd] (K : PySem.W.Frag) (B H : Hp) (ρ : Env) (σ : St) : Prop where
  same : Same B H
  fro : ∀ (i : Nat) d, ρ[i]? = some (.fro d) → ∃ v, σ[i]? = some (some v) ∧ Rep K B v d
  own : ∀ (i : Nat) d, ρ[i]? = some (.own d) → ∃ a, σ[i]? = some (some (.ref a)) ∧ OwnAt K B H a d
  apart : ∀ (i j : Nat) d e a, ρ[i]? = some (.own d) → ρ[j]? = some (.own e) → σ[i]? = some (some (.ref a)) → σ[j]? = some (some (.ref a)) → i = j
  len : ρ.length = σ.length
def OwnS (ρ : Env) (σ : St) (a : Addr) : Prop := ∃ (i : Nat) (d : D), ρ[i]? = some (.own d) ∧ σ[i]? = some (some (.ref a))

/-- an expression's result; H0: the heap ahead of it -/
def RvOk [Wd] (K : PySem.W.Frag) (B H H0 : Hp) (ρ : Env) (σ : St) : Rv → V → Prop
  | .fro d, v => Rep K B v d
  | .own d, v => ∃ a, v = .ref a ∧ OwnAt K B H a d ∧ H0 a = none ∧ ¬ OwnS ρ σ a
  | .ali i, v => σ[i]? = some (some v)
/-- an operand: what was new is frozen -/
def OpOk [Wd] (K : PySem.W.Frag) (B : Hp) (σ : St) : Rv → V → Prop
  | .fro d, v => Rep K B v d
  | .own d, v => Rep K B v d
  | .ali i, v => σ[i]? = some (some v)
inductive OpOks [Wd] (K : PySem.W.Frag) (B : Hp) (σ : St) : List Rv → List V → Prop
  | nil : OpOks K B σ [] []
  | cons {r : Rv} {v : V} {rs : List Rv} {vs : List V} : OpOk K B σ r v → OpOks K B σ rs vs → OpOks K B σ (r :: rs) (v :: vs)

section
variable [Wd] {K : PySem.W.Frag} {B H B' H' B0 H0 : Hp} {ρ ρ' : Env} {σ : St} {r : Rv} {v : V} {d : D} {O0 : Addr → Prop}
theorem OpOk.mono (s : Same B B') (h : OpOk K B σ r v) : OpOk K B' σ r v := by
  cases r with
  | fro d => exact Rep.mono s _ _ h
  | own d => exact Rep.mono s _ _ h
  | ali i => exact h
theorem OpOks.mono (s : Same B B') : ∀ {rs : List Rv} {vs : List V}, OpOks K B σ rs vs → OpOks K B' σ rs vs
  | _, _, .nil => .nil
  | _, _, .cons a t => .cons (a.mono s) (OpOks.mono s t)
theorem OwnAt.inH {a : Addr} (h : OwnAt K B H a d) : ∃ o, H a = some o ∧ HO.cell o = true := by
  obtain ⟨o, _, h, c⟩ := h
  exact ⟨o, h, c.cell⟩
/-- a list of one's own -/
theorem EnvOk.ownL {i : Nat} {ds : List D} (E : EnvOk K B H ρ σ) (h : ρ[i]? = some (.own (.lst ds))) : ∃ a vs, σ[i]? = some (some (.ref a)) ∧ B a = none ∧ H a = some (.lst vs) ∧ Reps K B vs ds ∧ ds.length ≤ LINE := by
  obtain ⟨a, h1, o, h2, h3, c⟩ := E.own i _ h
  obtain ⟨vs, rfl, r, l⟩ := c.lists
  exact ⟨a, vs, h1, h2, h3, r, l⟩
theorem OwnAt.ofL {a : Addr} {vs : List V} {ds : List D} (h1 : B a = none) (h2 : H a = some (.lst vs)) (r : Reps K B vs ds) (l : ds.length ≤ LINE) : OwnAt K B H a (.lst ds) := ⟨_, h1, h2, .lst r l⟩
omit [Wd] in
theorem same_upd {a : Addr} {o : HO} (s : Same B H) (h : H a = some o) : Same (upd B a o) H := fun b u e => by
  by_cases hb : b = a
  · subst hb; rw [upd_same] at e; cases e; exact h
  · rw [upd_ne hb] at e; exact s b u e
omit [Wd] in
theorem same_into {a : Addr} {o : HO} (h : B a = none) : Same B (upd B a o) := fun b u e => by
  rw [upd_ne (ne_of_none e h)]
  exact e
/-- what was at own slots stays, when the frozen part takes in another address -/
theorem EnvOk.grow {a : Addr} {o : HO} (E : EnvOk K B H ρ σ) (hB : B a = none) (hH : H a = some o) (hn : ¬ OwnS ρ σ a) : EnvOk K (upd B a o) H ρ σ where
  same := same_upd E.same hH
  fro := fun i d h => by
    obtain ⟨v, h1, h2⟩ := E.fro i d h
    exact ⟨v, h1, Rep.mono (same_into hB) _ _ h2⟩
  own := fun i d h => by
    obtain ⟨b, h1, u, h3, h4, c⟩ := E.own i d h
    refine ⟨b, h1, u, ?_, h4, c.mono (same_into hB)⟩
    rw [upd_ne]
    · exact h3
    · rintro rfl; exact hn ⟨i, d, h, h1⟩
  apart := E.apart
  len := E.len
/-- a new own list is frozen where it is an operand -/
theorem op_of (E : EnvOk K B H ρ σ) (X : Ext B0 H0 O0 B H (OwnS ρ σ)) (h : RvOk K B H H0 ρ σ r v) :
    ∃ B', EnvOk K B' H ρ σ ∧ Ext B0 H0 O0 B' H (OwnS ρ σ) ∧ OpOk K B' σ r v := by
  cases r with
  | fro d => exact ⟨B, E, X, h⟩
  | ali i => exact ⟨B, E, X, h⟩
  | own d =>
    obtain ⟨a, rfl, ⟨o, hB, hH, c⟩, h0, hn⟩ := h
    refine ⟨upd B a o, E.grow hB hH hn, ⟨X.b.trans (same_into hB), X.keep, X.tr, X.own, fun b u e => ?_⟩, c.rep (same_into hB) upd_same⟩
    by_cases hb : b = a
    · subst hb; exact .inr (.inl h0)
    · rw [upd_ne hb] at e; exact X.base b u e

/-- the top of it in H, what is in it frozen -/
inductive Rep1 [Wd] (K : PySem.W.Frag) (B H : Hp) : V → D → Prop
  | fro {v : V} {d : D} : Rep K B v d → Rep1 K B H v d
  | own {a : Addr} {o : HO} {d : D} : H a = some o → Cell K B a o d → Rep1 K B H (.ref a) d
theorem Rep1.full (s : Same B H) (h : Rep1 K B H v d) : Rep K H v d := by
  cases h with
  | fro h => exact Rep.mono s _ _ h
  | own h c => exact c.rep s h
theorem Rep1.lst {ds : List D} (s : Same B H) (h : Rep1 K B H v (.lst ds)) : ∃ a vs, v = .ref a ∧ H a = some (.lst vs) ∧ Reps K B vs ds ∧ ds.length ≤ LINE := by
  cases h with
  | fro h => cases h with | lst h a b => exact ⟨_, _, rfl, s _ _ h, a, b⟩
  | own h c =>
    obtain ⟨vs, rfl, a, b⟩ := c.lists
    exact ⟨_, vs, rfl, h, a, b⟩
theorem Rep1.tup {ds : List D} (s : Same B H) (h : Rep1 K B H v (.tup ds)) : ∃ a vs, v = .ref a ∧ SqT K H a vs ∧ Reps K B vs ds ∧ ds.length ≤ LINE := by
  cases h with
  | fro h => cases h with | tup h a b => exact ⟨_, _, rfl, same_sqT s h, a, b⟩
  | own _ c => cases c
theorem Rep1.obj {c : Str} {fs : List (Str × D)} (s : Same B H) (h : Rep1 K B H v (.obj c fs)) : ∃ a C dx gs, v = .ref a ∧ H a = some (.ins C dx gs) ∧ Wd.cls c = some C ∧ gs.map (·.1) = fs.map (·.1) ∧ Reps K B (gs.map (·.2)) (fs.map (·.2)) := by
  cases h with
  | fro h => cases h with | obj h a b c => exact ⟨_, _, _, _, rfl, s _ _ h, a, b, c⟩
  | own h c => cases c with | obj a b c => exact ⟨_, _, _, _, rfl, h, a, b, c⟩
theorem Rep1.exc {x : Str} (s : Same B H) (h : Rep1 K B H v (.exc x)) : ∃ a C, v = .ref a ∧ H a = some (ExX C a) ∧ Wd.mg x = some (.ref C) := by
  cases h with
  | fro h => cases h with | exc h a => exact ⟨_, _, rfl, s _ _ h, a⟩
  | own h c => cases c
theorem fld_get : ∀ {gs : List (Str × V)} {fs : List (Str × D)} {x : Str} {d : D}, gs.map (·.1) = fs.map (·.1) → Reps K B (gs.map (·.2)) (fs.map (·.2)) → fs.lookup x = some d → ∃ w, gs.lookup x = some w ∧ Rep K B w d
  | [], [], _, _, _, _, h => by cases h
  | [], _ :: _, _, _, e, _, _ => by cases e
  | _ :: _, [], _, _, e, _, _ => by cases e
  | (y, w) :: gs, (z, e) :: fs, x, d, h, r, hl => by
    rw [List.map_cons, List.map_cons] at h r
    obtain ⟨h1, h2⟩ := List.cons.inj h
    cases r with
    | cons r1 r2 =>
      have h1 : y = z := h1
      subst h1
      rw [List.lookup_cons] at hl ⊢
      split at hl
      · cases hl
        exact ⟨w, rfl, r1⟩
      · exact fld_get h2 r2 hl
theorem Rep1.int {i : Int} (h : Rep1 K B H v (.int i)) : v = .int i := by
  cases h with
  | fro h => cases h; rfl
  | own _ c => cases c
theorem Rep1.bl {i : Bool} (h : Rep1 K B H v (.bl i)) : v = .bl i := by
  cases h with
  | fro h => cases h; rfl
  | own _ c => cases c
theorem Rep1.str {i : Str} (h : Rep1 K B H v (.str i)) : v = .str i := by
  cases h with
  | fro h => cases h; rfl
  | own _ c => cases c
theorem Rep1.non (h : Rep1 K B H v .non) : v = .non := by
  cases h with
  | fro h => cases h; rfl
  | own _ c => cases c
theorem Rep1.scr {ns : List Int} (s : Same B H) (h : Rep1 K B H v (.scr ns)) : ∃ a, v = .ref a ∧ SqL K H a (ns.map V.int) ∧ ns.length ≤ LINE := by
  cases h with
  | fro h => cases h with | scr h a => exact ⟨_, rfl, s.seq h, a⟩
  | own _ c => cases c
theorem cont_ok (E : EnvOk K B H ρ σ) (o : OpOk K B σ r v) (h : cont ρ r = some d) : Rep1 K B H v d := by
  cases r with
  | fro d => cases h; exact .fro o
  | own d => cases h; exact .fro o
  | ali i =>
    simp only [cont] at h
    split at h
    · rename_i e
      cases h
      obtain ⟨w, h1, h2⟩ := E.fro i _ e
      rw [show σ[i]? = some (some v) from o] at h1
      cases h1
      exact .fro h2
    · rename_i e
      cases h
      obtain ⟨a, h1, u, h2, h3, c⟩ := E.own i _ e
      rw [show σ[i]? = some (some v) from o] at h1
      cases h1
      exact .own h3 c
    · cases h
omit [Wd] in
theorem get_set {α : Type} {l : List α} {i j : Nat} {x y : α} (h : (l.set i x)[j]? = some y) : (i = j ∧ x = y) ∨ (i ≠ j ∧ l[j]? = some y) := by
  by_cases e : i = j
  · subst e
    rw [List.getElem?_set_self'] at h
    cases q : l[i]? with
    | none => rw [q] at h; cases h
    | some z => rw [q] at h; cases h; exact .inl ⟨rfl, rfl⟩
  · rw [List.getElem?_set_ne e] at h
    exact .inr ⟨e, h⟩
omit [Wd] in
theorem set_get {α : Type} {l : List α} {i : Nat} {x y : α} (h : l[i]? = some y) : (l.set i x)[i]? = some x := by
  rw [List.getElem?_set_self', h]; rfl
omit [Wd] in
/-- slots forgotten or changed to a frozen value whose own list is now frozen -/
theorem OwnS.sub {a : Addr} (h : ∀ (i : Nat) (d : D), ρ'[i]? = some (.own d) → ∃ d' : D, ρ[i]? = some (.own d')) (o : OwnS ρ' σ a) : OwnS ρ σ a := by
  obtain ⟨i, d, h1, h2⟩ := o
  obtain ⟨d', h3⟩ := h i d h1
  exact ⟨i, d', h3, h2⟩
/-- the own list of slot i is frozen -/
theorem EnvOk.freeze {i : Nat} (E : EnvOk K B H ρ σ) (h : ρ[i]? = some (.own d)) :
    ∃ B' v, EnvOk K B' H (ρ.set i (.fro d)) σ ∧ Ext B H (OwnS ρ σ) B' H (OwnS (ρ.set i (.fro d)) σ) ∧ σ[i]? = some (some v) ∧ Rep K B' v d := by
  obtain ⟨a, h1, o, hB, hH, hc⟩ := E.own i d h
  have sub : ∀ b, OwnS (ρ.set i (.fro d)) σ b → OwnS ρ σ b ∧ b ≠ a := fun b ⟨j, e, q1, q2⟩ => by
    rcases get_set q1 with ⟨rfl, z⟩ | ⟨hj, z⟩
    · cases z
    · refine ⟨⟨j, e, z, q2⟩, ?_⟩
      rintro rfl
      exact hj (E.apart i j _ _ _ h z h1 q2)
  have rp : Rep K (upd B a o) (.ref a) d := hc.rep (same_into hB) upd_same
  refine ⟨upd B a o, .ref a, ⟨same_upd E.same hH, fun j e q => ?_, fun j e q => ?_, fun j k e f b q1 q2 z1 z2 => ?_, by rw [List.length_set]; exact E.len⟩, ⟨same_into hB, fun _ _ q _ => q, fun _ q => q, fun b q => .inl (sub b q).1, fun b u q => ?_⟩, h1, rp⟩
  · rcases get_set q with ⟨rfl, z⟩ | ⟨hj, z⟩
    · cases z; exact ⟨_, h1, rp⟩
    · obtain ⟨v, q1, q2⟩ := E.fro j e z
      exact ⟨v, q1, Rep.mono (same_into hB) _ _ q2⟩
  · rcases get_set q with ⟨rfl, z⟩ | ⟨hj, z⟩
    · cases z
    · obtain ⟨b, q1, u, q3, q4, qc⟩ := E.own j e z
      refine ⟨b, q1, u, ?_, q4, qc.mono (same_into hB)⟩
      rw [upd_ne (sub b ⟨j, e, q, q1⟩).2]
      exact q3
  · rcases get_set q1 with ⟨rfl, z⟩ | ⟨hj, z⟩
    · cases z
    · rcases get_set q2 with ⟨rfl, y⟩ | ⟨hk, y⟩
      · cases y
      · exact E.apart j k e f b z y z1 z2
  · by_cases hb : b = a
    · subst hb; exact .inr (.inr ⟨i, _, h, h1⟩)
    · rw [upd_ne hb] at q; exact .inl q
theorem frz_ok (E : EnvOk K B H ρ σ) (o : OpOk K B σ r v) (h : frz ρ r = some (d, ρ')) :
    ∃ B', EnvOk K B' H ρ' σ ∧ Ext B H (OwnS ρ σ) B' H (OwnS ρ' σ) ∧ Rep K B' v d := by
  cases r with
  | fro d => cases h; exact ⟨B, E, .refl, o⟩
  | own d => cases h; exact ⟨B, E, .refl, o⟩
  | ali i =>
    simp only [frz] at h
    split at h
    · rename_i e
      cases h
      obtain ⟨w, h1, h2⟩ := E.fro i _ e
      rw [show σ[i]? = some (some v) from o] at h1
      cases h1
      exact ⟨B, E, .refl, h2⟩
    · rename_i e
      cases h
      obtain ⟨B', w, h1, h2, h3, h4⟩ := E.freeze e
      rw [show σ[i]? = some (some v) from o] at h3
      cases h3
      exact ⟨B', h1, h2, h4⟩
    · cases h
omit [Wd] in
theorem bind_some {α β : Type} {x : Option α} {f : α → Option β} {b : β} {d : Held f} (h : x.bnd f d = some b) : ∃ a, x = some a ∧ f a = some b := by
  cases x with
  | none => cases h
  | some a => exact ⟨a, rfl, h⟩
omit [Wd] in
theorem map_some {α β : Type} {x : Option α} {f : α → β} {b : β} {d : Held f} (h : x.mpd f d = some b) : ∃ a, x = some a ∧ f a = b := by
  cases x with
  | none => cases h
  | some a => exact ⟨a, rfl, Option.some.inj h⟩
omit [Wd] in
theorem els_cases {α β : Type} {x : Option α} {f : α → Option β} {r : Unit → Option β} {b : β} {d : Held f} {d' : Held r} (h : x.els f r d d' = some b) : (∃ a, x = some a ∧ f a = some b) ∨ (x = none ∧ r () = some b) := by
  cases x with
  | none => exact .inr ⟨rfl, h⟩
  | some a => exact .inl ⟨a, rfl, h⟩
theorem frzs_ok : ∀ {rs : List Rv} {vs : List V} {ds : List D} {B : Hp} {ρ ρ' : Env}, EnvOk K B H ρ σ → OpOks K B σ rs vs → frzs ρ rs = some (ds, ρ') →
    ∃ B', EnvOk K B' H ρ' σ ∧ Ext B H (OwnS ρ σ) B' H (OwnS ρ' σ) ∧ Reps K B' vs ds
  | [], _, ds, B, ρ, ρ', E, o, h => by cases o; cases h; exact ⟨B, E, .refl, .nil⟩
  | r :: rs, _, ds, B, ρ, ρ', E, o, h => by
    cases o with
    | cons o os =>
      unfold frzs at h
      obtain ⟨p, h1, h⟩ := bind_some h
      obtain ⟨q, h2, h⟩ := bind_some h
      cases h
      obtain ⟨B1, E1, X1, R1⟩ := frz_ok E o h1
      obtain ⟨B2, E2, X2, R2⟩ := frzs_ok E1 (os.mono X1.b) h2
      exact ⟨B2, E2, X1.trans X2, .cons (Rep.mono X2.b _ _ R1) R2⟩
theorem conts_ok (E : EnvOk K B H ρ σ) : ∀ {rs : List Rv} {vs : List V} {ds : List D}, OpOks K B σ rs vs → conts ρ rs = some ds → Paired (Rep1 K B H) vs ds
  | [], _, ds, o, h => by cases o; cases h; exact .nil
  | r :: rs, _, ds, o, h => by
    cases o with
    | cons o os =>
      unfold conts at h
      obtain ⟨p, h1, h⟩ := bind_some h
      obtain ⟨q, h2, h⟩ := bind_some h
      cases h
      exact .cons (cont_ok E o h1) (conts_ok E os h2)
/-- a new object is laid -/
theorem EnvOk.laid {p : Addr} {o : HO} (E : EnvOk K B H ρ σ) (hp : H p = none) : EnvOk K B (upd H p o) ρ σ ∧ Ext B H (OwnS ρ σ) B (upd H p o) (OwnS ρ σ) := by
  have s : Same H (upd H p o) := same_into hp
  refine ⟨⟨E.same.trans s, E.fro, fun i d h => ?_, E.apart, E.len⟩, ⟨Same.refl _, fun a u h _ => s a u h, fun a h => ?_, fun _ h => .inl h, fun _ _ h => .inl h⟩⟩
  · obtain ⟨a, h1, u, h3, h4, c⟩ := E.own i d h
    exact ⟨a, h1, u, h3, s _ _ h4, c⟩
  · by_cases ha : a = p
    · subst ha; exact hp
    · rw [upd_ne ha] at h; exact h
theorem EnvOk.free {p : Addr} (E : EnvOk K B H ρ σ) (hp : H p = none) : B p = none := by
  cases e : B p with
  | none => rfl
  | some o => rw [E.same _ _ e] at hp; cases hp
theorem EnvOk.notOwn {p : Addr} (E : EnvOk K B H ρ σ) (hp : H p = none) : ¬ OwnS ρ σ p := fun ⟨i, d, h1, h2⟩ => by
  obtain ⟨a, q1, u, _, q2, _⟩ := E.own i d h1
  rw [h2] at q1; cases q1
  rw [hp] at q2; cases q2
/-- .. and frozen -/
theorem EnvOk.laidF {p : Addr} {o : HO} (E : EnvOk K B H ρ σ) (hp : H p = none) : EnvOk K (upd B p o) (upd H p o) ρ σ ∧ Ext B H (OwnS ρ σ) (upd B p o) (upd H p o) (OwnS ρ σ) := by
  obtain ⟨E1, X1⟩ := E.laid (o := o) hp
  refine ⟨E1.grow (E.free hp) upd_same (E.notOwn hp), ⟨same_into (E.free hp), X1.keep, X1.tr, X1.own, fun a u h => ?_⟩⟩
  by_cases ha : a = p
  · subst ha; exact .inr (.inl hp)
  · rw [upd_ne ha] at h; exact .inl h
/-- the own list of slot i is changed -/
theorem EnvOk.changeC {i : Nat} {a : Addr} {o' : HO} {d' : D} (E : EnvOk K B H ρ σ) (h : ρ[i]? = some (.own d)) (ha : σ[i]? = some (some (.ref a))) (hc' : Cell K B a o' d') :
    EnvOk K B (upd H a o') (ρ.set i (.own d')) σ ∧ Ext B H (OwnS ρ σ) B (upd H a o') (OwnS (ρ.set i (.own d')) σ) := by
  obtain ⟨a', q1, u0, hB, hH, hc0⟩ := E.own i d h
  rw [ha] at q1; cases q1
  refine ⟨⟨fun b o e => ?_, fun j e q => ?_, fun j e q => ?_, fun j k e f b q1 q2 z1 z2 => ?_, by rw [List.length_set]; exact E.len⟩, ⟨Same.refl _, fun b o e n => ?_, fun b e => ?_, fun b e => ?_, fun _ _ e => .inl e⟩⟩
  · rw [upd_ne (ne_of_none e hB)]; exact E.same b o e
  · rcases get_set q with ⟨rfl, z⟩ | ⟨hj, z⟩
    · cases z
    · exact E.fro j e z
  · rcases get_set q with ⟨rfl, z⟩ | ⟨hj, z⟩
    · cases z; exact ⟨a, ha, o', hB, upd_same, hc'⟩
    · obtain ⟨b, q1, us, q3, q4, qc⟩ := E.own j e z
      refine ⟨b, q1, us, q3, ?_, qc⟩
      rw [upd_ne]
      · exact q4
      · rintro rfl; exact hj (E.apart i j _ _ _ h z ha q1)
  · have f' : ∀ (k : Nat) (e : D), (ρ.set i (.own d'))[k]? = some (.own e) → ∃ e', ρ[k]? = some (.own e') := fun k e q => by
      rcases get_set q with ⟨rfl, _⟩ | ⟨_, z⟩
      · exact ⟨_, h⟩
      · exact ⟨_, z⟩
    obtain ⟨e', g1⟩ := f' j e q1
    obtain ⟨e'', g2⟩ := f' k f q2
    exact E.apart j k _ _ b g1 g2 z1 z2
  · rw [upd_ne]
    · exact e
    · rintro rfl; exact n ⟨i, _, h, ha⟩
  · by_cases hb : b = a
    · subst hb; rw [upd_same] at e; cases e
    · rw [upd_ne hb] at e; exact e
  · obtain ⟨j, f, z1, z2⟩ := e
    rcases get_set z1 with ⟨rfl, _⟩ | ⟨_, z⟩
    · rw [ha] at z2; cases z2; exact .inl ⟨i, _, h, ha⟩
    · exact .inl ⟨j, f, z, z2⟩
theorem EnvOk.change {i : Nat} {a : Addr} {ws : List V} {es : List D} (E : EnvOk K B H ρ σ) (h : ρ[i]? = some (.own d)) (ha : σ[i]? = some (some (.ref a))) (hw : Reps K B ws es) (hl : es.length ≤ LINE) :
    EnvOk K B (upd H a (.lst ws)) (ρ.set i (.own (.lst es))) σ ∧ Ext B H (OwnS ρ σ) B (upd H a (.lst ws)) (OwnS (ρ.set i (.own (.lst es))) σ) := E.changeC h ha (.lst hw hl)
/-- behind a call that may have changed slot i's own thing -/
theorem EnvOk.callIO {i : Nat} {a : Addr} {d' : D} (E : EnvOk K B H ρ σ) (h : ρ[i]? = some (.own d)) (ha : σ[i]? = some (some (.ref a))) (sm : Same B' H') (Y : Ext B H (fun b => b = a) B' H' (fun b => b = a)) (o : OwnAt K B' H' a d') :
    EnvOk K B' H' (ρ.set i (.own d')) σ ∧ Ext B H (OwnS ρ σ) B' H' (OwnS (ρ.set i (.own d')) σ) := by
  obtain ⟨a', q1, u0, hB, hH, hc0⟩ := E.own i d h
  rw [ha] at q1; cases q1
  have other : ∀ {j : Nat} {e : D} {b : Addr}, i ≠ j → ρ[j]? = some (.own e) → σ[j]? = some (some (.ref b)) → b ≠ a := fun hj h1 h2 => by
    rintro rfl; exact hj (E.apart i _ _ _ _ h h1 ha h2)
  refine ⟨⟨sm, fun j e q => ?_, fun j e q => ?_, fun j k e f b q1 q2 z1 z2 => ?_, by rw [List.length_set]; exact E.len⟩, ⟨Y.b, fun b o e n => Y.keep b o e fun z => n (by rw [z]; exact ⟨i, _, h, ha⟩), Y.tr, fun b e => ?_, fun b u e => ?_⟩⟩
  · rcases get_set q with ⟨rfl, z⟩ | ⟨hj, z⟩
    · cases z
    · obtain ⟨v, h1, h2⟩ := E.fro j e z
      exact ⟨v, h1, Rep.mono Y.b _ _ h2⟩
  · rcases get_set q with ⟨rfl, z⟩ | ⟨hj, z⟩
    · cases z; exact ⟨a, ha, o⟩
    · obtain ⟨b, h1, us, h3, h4, c⟩ := E.own j e z
      have ne := other hj z h1
      refine ⟨b, h1, us, ?_, Y.keep _ _ h4 ne, c.mono Y.b⟩
      cases e' : B' b with
      | none => rfl
      | some u =>
        rcases Y.base b u e' with w | w | w
        · rw [h3] at w; cases w
        · rw [h4] at w; cases w
        · exact absurd w ne
  · have f' : ∀ (k : Nat) (e : D), (ρ.set i (.own d'))[k]? = some (.own e) → ∃ e', ρ[k]? = some (.own e') := fun k e q => by
      rcases get_set q with ⟨rfl, _⟩ | ⟨_, z⟩
      · exact ⟨_, h⟩
      · exact ⟨_, z⟩
    obtain ⟨e', g1⟩ := f' j e q1
    obtain ⟨e'', g2⟩ := f' k f q2
    exact E.apart j k _ _ b g1 g2 z1 z2
  · obtain ⟨j, f, z1, z2⟩ := e
    rcases get_set z1 with ⟨rfl, _⟩ | ⟨_, z⟩
    · exact .inl ⟨i, _, h, z2⟩
    · exact .inl ⟨j, f, z, z2⟩
  · rcases Y.base b u e with z | z | z
    · exact .inl z
    · exact .inr (.inl z)
    · exact .inr (.inr (by rw [z]; exact ⟨i, _, h, ha⟩))
/-- .. and it is forgotten -/
theorem EnvOk.callIX {i : Nat} {a : Addr} (E : EnvOk K B H ρ σ) (h : ρ[i]? = some (.own d)) (ha : σ[i]? = some (some (.ref a))) (sm : Same B' H') (Y : Ext B H (fun b => b = a) B' H' (fun _ => False)) :
    EnvOk K B' H' (ρ.set i .no) σ ∧ Ext B H (OwnS ρ σ) B' H' (OwnS (ρ.set i .no) σ) := by
  obtain ⟨a', q1, u0, hB, hH, hc0⟩ := E.own i d h
  rw [ha] at q1; cases q1
  have other : ∀ {j : Nat} {e : D} {b : Addr}, i ≠ j → ρ[j]? = some (.own e) → σ[j]? = some (some (.ref b)) → b ≠ a := fun hj h1 h2 => by
    rintro rfl; exact hj (E.apart i _ _ _ _ h h1 ha h2)
  refine ⟨⟨sm, fun j e q => ?_, fun j e q => ?_, fun j k e f b q1 q2 z1 z2 => ?_, by rw [List.length_set]; exact E.len⟩, ⟨Y.b, fun b o e n => Y.keep b o e fun z => n (by rw [z]; exact ⟨i, _, h, ha⟩), Y.tr, fun b e => ?_, fun b u e => ?_⟩⟩
  · rcases get_set q with ⟨rfl, z⟩ | ⟨hj, z⟩
    · cases z
    · obtain ⟨v, h1, h2⟩ := E.fro j e z
      exact ⟨v, h1, Rep.mono Y.b _ _ h2⟩
  · rcases get_set q with ⟨rfl, z⟩ | ⟨hj, z⟩
    · cases z
    · obtain ⟨b, h1, us, h3, h4, c⟩ := E.own j e z
      have ne := other hj z h1
      refine ⟨b, h1, us, ?_, Y.keep _ _ h4 ne, c.mono Y.b⟩
      cases e' : B' b with
      | none => rfl
      | some u =>
        rcases Y.base b u e' with w | w | w
        · rw [h3] at w; cases w
        · rw [h4] at w; cases w
        · exact absurd w ne
  · rcases get_set q1 with ⟨rfl, z⟩ | ⟨hj, z⟩
    · cases z
    · rcases get_set q2 with ⟨rfl, y⟩ | ⟨hk, y⟩
      · cases y
      · exact E.apart j k e f b z y z1 z2
  · obtain ⟨j, f, z1, z2⟩ := e
    rcases get_set z1 with ⟨rfl, z⟩ | ⟨_, z⟩
    · cases z
    · exact .inl ⟨j, f, z, z2⟩
  · rcases Y.base b u e with z | z | z
    · exact .inl z
    · exact .inr (.inl z)
    · exact .inr (.inr (by rw [z]; exact ⟨i, _, h, ha⟩))
/-- the frame's slot i is set -/
theorem EnvOk.setF {i : Nat} (E : EnvOk K B H ρ σ) (h : Rep K B v d) : EnvOk K B H (ρ.set i (.fro d)) (σ.set i (some v)) ∧ ∀ a, OwnS (ρ.set i (.fro d)) (σ.set i (some v)) a → OwnS ρ σ a := by
  refine ⟨⟨E.same, fun j e q => ?_, fun j e q => ?_, fun j k e f b q1 q2 z1 z2 => ?_, by rw [List.length_set, List.length_set]; exact E.len⟩, fun a ⟨j, e, q1, q2⟩ => ?_⟩
  · rcases get_set q with ⟨rfl, z⟩ | ⟨hj, z⟩
    · cases z
      have hi : i < ρ.length := by
        have := (List.getElem?_eq_some_iff.mp q).1
        rwa [List.length_set] at this
      exact ⟨v, by rw [List.getElem?_set_self (by rw [← E.len]; exact hi)], h⟩
    · obtain ⟨w, q1, q2⟩ := E.fro j e z
      exact ⟨w, by rw [List.getElem?_set_ne hj]; exact q1, q2⟩
  · rcases get_set q with ⟨rfl, z⟩ | ⟨hj, z⟩
    · cases z
    · obtain ⟨b, q1, q2⟩ := E.own j e z
      exact ⟨b, by rw [List.getElem?_set_ne hj]; exact q1, q2⟩
  · rcases get_set q1 with ⟨rfl, z⟩ | ⟨hj, z⟩
    · cases z
    · rcases get_set q2 with ⟨rfl, y⟩ | ⟨hk, y⟩
      · cases y
      · rw [List.getElem?_set_ne hj] at z1
        rw [List.getElem?_set_ne hk] at z2
        exact E.apart j k e f b z y z1 z2
  · rcases get_set q1 with ⟨rfl, z⟩ | ⟨hj, z⟩
    · cases z
    · rw [List.getElem?_set_ne hj] at q2
      exact ⟨j, e, z, q2⟩
theorem EnvOk.setO {i : Nat} {a : Addr} (E : EnvOk K B H ρ σ) (h : OwnAt K B H a d) (hn : ¬ OwnS ρ σ a) : EnvOk K B H (ρ.set i (.own d)) (σ.set i (some (.ref a))) ∧
    ∀ b, OwnS (ρ.set i (.own d)) (σ.set i (some (.ref a))) b → OwnS ρ σ b ∨ b = a := by
  have hlt : ∀ e, (ρ.set i (.own d))[i]? = some e → i < σ.length := fun e q => by
    have := (List.getElem?_eq_some_iff.mp q).1
    rw [List.length_set] at this
    rw [← E.len]; exact this
  refine ⟨⟨E.same, fun j e q => ?_, fun j e q => ?_, fun j k e f b q1 q2 z1 z2 => ?_, by rw [List.length_set, List.length_set]; exact E.len⟩, fun b ⟨j, e, q1, q2⟩ => ?_⟩
  · rcases get_set q with ⟨rfl, z⟩ | ⟨hj, z⟩
    · cases z
    · obtain ⟨w, q1, q2⟩ := E.fro j e z
      exact ⟨w, by rw [List.getElem?_set_ne hj]; exact q1, q2⟩
  · rcases get_set q with ⟨rfl, z⟩ | ⟨hj, z⟩
    · cases z
      exact ⟨a, by rw [List.getElem?_set_self (hlt _ q)], h⟩
    · obtain ⟨b, q1, q2⟩ := E.own j e z
      exact ⟨b, by rw [List.getElem?_set_ne hj]; exact q1, q2⟩
  · rcases get_set q1 with ⟨rfl, z⟩ | ⟨hj, z⟩
    · rcases get_set q2 with ⟨rfl, y⟩ | ⟨hk, y⟩
      · rfl
      · rw [List.getElem?_set_self (hlt _ q1)] at z1
        cases z1
        rw [List.getElem?_set_ne hk] at z2
        exact absurd ⟨k, f, y, z2⟩ hn
    · rcases get_set q2 with ⟨rfl, y⟩ | ⟨hk, y⟩
      · rw [List.getElem?_set_self (hlt _ q2)] at z2
        cases z2
        rw [List.getElem?_set_ne hj] at z1
        exact absurd ⟨j, e, z, z1⟩ hn
      · rw [List.getElem?_set_ne hj] at z1
        rw [List.getElem?_set_ne hk] at z2
        exact E.apart j k e f b z y z1 z2
  · rcases get_set q1 with ⟨rfl, z⟩ | ⟨hj, z⟩
    · rw [List.getElem?_set_self (hlt _ q1)] at q2
      cases q2
      exact .inr rfl
    · rw [List.getElem?_set_ne hj] at q2
      exact .inl ⟨j, e, z, q2⟩
/-- a slot forgotten -/
theorem EnvOk.drop {i : Nat} (E : EnvOk K B H ρ σ) : EnvOk K B H (ρ.set i .no) σ ∧ ∀ a, OwnS (ρ.set i .no) σ a → OwnS ρ σ a := by
  refine ⟨⟨E.same, fun j e q => ?_, fun j e q => ?_, fun j k e f b q1 q2 z1 z2 => ?_, by rw [List.length_set]; exact E.len⟩, fun a ⟨j, e, q1, q2⟩ => ?_⟩
  · rcases get_set q with ⟨rfl, z⟩ | ⟨hj, z⟩
    · cases z
    · exact E.fro j e z
  · rcases get_set q with ⟨rfl, z⟩ | ⟨hj, z⟩
    · cases z
    · exact E.own j e z
  · rcases get_set q1 with ⟨rfl, z⟩ | ⟨hj, z⟩
    · cases z
    · rcases get_set q2 with ⟨rfl, y⟩ | ⟨hk, y⟩
      · cases y
      · exact E.apart j k e f b z y z1 z2
  · rcases get_set q1 with ⟨rfl, z⟩ | ⟨hj, z⟩
    · cases z
    · exact ⟨j, e, z, q2⟩
theorem EnvOk.kill : ∀ {ks : List Nat} {ρ : Env}, EnvOk K B H ρ σ → EnvOk K B H (kill ρ ks) σ ∧ ∀ a, OwnS (ML.kill ρ ks) σ a → OwnS ρ σ a
  | [], _, E => ⟨E, fun _ h => h⟩
  | i :: ks, ρ, E => by
    obtain ⟨E1, h1⟩ := E.drop (i := i)
    obtain ⟨E2, h2⟩ := EnvOk.kill (ks := ks) E1
    exact ⟨E2, fun a q => h1 a (h2 a q)⟩
omit [Wd] in
theorem Ext.less {O O' O1 : Addr → Prop} (x : Ext B H O B' H' O1) (h : ∀ a, O' a → O1 a) : Ext B H O B' H' O' :=
  ⟨x.b, x.keep, x.tr, fun a q => x.own a (h a q), x.base⟩
end
end ML
set_option Elab.async false
set_option linter.all false
set_option autoImplicit false
set_option maxRecDepth 100000
set_option maxHeartbeats 4000000
/-! MLdic: dicts whose keys are ints, texts or tuples of these. -/
namespace ML
open PySem L2
section
variable [Wd] {K : PySem.W.Frag} {B H : Hp}
/-! ### what holds of pairs -/
theorem asKeys_eq : ∀ {ds : List D} {ks : List Key}, asKeys ds = some ks → ds = ks.map keyD
  | [], ks, h => by cases h; rfl
  | d :: ds, ks, h => by
    rw [asKeys] at h
    obtain ⟨k, h1, h⟩ := bind_some h
    obtain ⟨r, h2, h3⟩ := map_some h
    subst h3
    rw [asKeys_eq h2]
    cases d <;> cases h1 <;> rfl
theorem key_rep (k : Key) : Rep K B (kV k) (keyD k) := by
  cases k
  · exact .int _
  · exact .str _
theorem keys_reps : ∀ ks : List Key, Reps K B (ks.map kV) (ks.map keyD)
  | [] => .nil
  | k :: ks => .cons (key_rep k) (keys_reps ks)
theorem reps_keys : ∀ {ks : List Key} {vs : List V}, Reps K B vs (ks.map keyD) → vs = ks.map kV
  | [], _, h => by cases h; rfl
  | .inl i :: ks, _, h => by
    cases h with
    | cons a t => cases a; rw [reps_keys t]; rfl
  | .inr i :: ks, _, h => by
    cases h with
    | cons a t => cases a; rw [reps_keys t]; rfl
/-- the pairs of a dict with tuple keys, in the reading and in the heap -/
inductive DRow [Wd] (K : PySem.W.Frag) (B : Hp) : List (List Key × D) → List (List Key × Addr × Value) → Prop
  | nil : DRow K B [] []
  | cons {k : List Key} {d : D} {b : Addr} {u : Value} {v : V} {es : List (List Key × D)} {xs : List (List Key × Addr × Value)} : SqT K B b (k.map kV) → RelV v u → Rep K B v d → DRow K B es xs → DRow K B ((k, d) :: es) ((k, b, u) :: xs)
theorem drow_of : ∀ {es : List (List Key × D)} {kvs : List (List Key × Addr × V)} {xs : List (List Key × Addr × Value)}, kvs.map (·.1) = es.map (·.1) → (∀ p ∈ kvs, SqT K B p.2.1 (p.1.map kV)) → Reps K B (kvs.map (·.2.2)) (es.map (·.2)) →
    Paired (fun p q => p.1 = q.1 ∧ p.2.1 = q.2.1 ∧ RelV p.2.2 q.2.2) kvs xs → DRow K B es xs
  | [], [], _, _, _, _, .nil => .nil
  | [], _ :: _, _, h, _, _, _ => by simp at h
  | _ :: _, [], _, h, _, _, _ => by simp at h
  | (k, d) :: es, (k', b, v) :: kvs, _, h, hs, hr, .cons (b := q) hq ht => by
    obtain ⟨q1, q2, q3⟩ := q
    obtain ⟨h1, h2, h3⟩ := hq
    rw [List.map_cons, List.map_cons] at h
    obtain ⟨e1, e2⟩ := List.cons.inj h
    simp only at h1 h2 h3 e1
    subst h1 h2 e1
    cases hr with
    | cons a t => exact .cons (hs _ List.mem_cons_self) h3 a (drow_of e2 (fun p hp => hs p (List.mem_cons_of_mem _ hp)) t ht)
theorem DRow.back : ∀ {es : List (List Key × D)} {xs : List (List Key × Addr × Value)}, DRow K B es xs → ∃ kvs : List (List Key × Addr × V), kvs.map (·.1) = es.map (·.1) ∧ (∀ p ∈ kvs, SqT K B p.2.1 (p.1.map kV)) ∧ Reps K B (kvs.map (·.2.2)) (es.map (·.2)) ∧
    Paired (fun p q => p.1 = q.1 ∧ p.2.1 = q.2.1 ∧ RelV p.2.2 q.2.2) kvs xs
  | _, _, .nil => ⟨[], rfl, fun p hp => (nomatch hp), .nil, .nil⟩
  | _, _, .cons (k := k) (b := b) (v := v) a r p t => by
    obtain ⟨kvs, h1, h2, h3, h4⟩ := DRow.back t
    refine ⟨(k, b, v) :: kvs, by rw [List.map_cons, List.map_cons, h1], fun q hq => ?_, .cons p h3, .cons ⟨rfl, rfl, r⟩ h4⟩
    rcases List.mem_cons.mp hq with rfl | hq
    · exact a
    · exact h2 q hq
theorem DRow.length {es : List (List Key × D)} {xs : List (List Key × Addr × Value)} (h : DRow K B es xs) : xs.length = es.length := by
  induction h with
  | nil => rfl
  | cons _ _ _ _ ih => rw [List.length_cons, List.length_cons, ih]
theorem DRow.val {es : List (List Key × D)} {xs : List (List Key × Addr × Value)} (h : DRow K B es xs) (k : List Key) : (valD es k = none ∧ atKey xs k = none) ∨ ∃ d p v, valD es k = some d ∧ atKey xs k = some p ∧ RelV v p.2 ∧ Rep K B v d := by
  induction h with
  | nil => exact .inl ⟨rfl, rfl⟩
  | @cons k' d b u v es xs a r p t ih =>
    by_cases e : k' = k
    · exact .inr ⟨d, (b, u), v, by rw [valD, if_pos e], by simp [atKey, List.find?_cons, e], r, p⟩
    · have e1 : valD ((k', d) :: es) k = valD es k := by rw [valD, if_neg e]
      have e2 : atKey ((k', b, u) :: xs) k = atKey xs k := by simp [atKey, List.find?_cons, e]
      rw [e1, e2]
      exact ih
theorem DRow.isSome {es : List (List Key × D)} {xs : List (List Key × Addr × Value)} (h : DRow K B es xs) (k : List Key) : (atKey xs k).isSome = (valD es k).isSome := by
  rcases h.val k with ⟨h1, h2⟩ | ⟨d, p, v, h1, h2, _⟩ <;> rw [h1, h2] <;> rfl
theorem putAt_ne {k : List Key} {u : Value} : ∀ {xs : List (List Key × Addr × Value)}, atKey xs k = none → xs.map (putAt k u) = xs
  | [], _ => rfl
  | x :: xs, h => by
    by_cases e : x.1 = k
    · simp [atKey, List.find?_cons, e] at h
    · have : atKey xs k = none := by simpa [atKey, List.find?_cons, e] using h
      rw [List.map_cons, putAt_ne this, putAt, if_neg e]
theorem DRow.mapPut {es : List (List Key × D)} {xs : List (List Key × Addr × Value)} (h : DRow K B es xs) (hn : (xs.map (·.1)).Nodup) {k : List Key} {v : V} {u : Value} {d : D} (r : RelV v u) (p : Rep K B v d) (hs : (valD es k).isSome = true) : DRow K B (putD es k d) (xs.map (putAt k u)) := by
  induction h with
  | nil => cases hs
  | @cons k' d' b u' v' es xs a r' p' t ih =>
    rw [List.map_cons] at hn
    obtain ⟨n1, n2⟩ := List.nodup_cons.mp hn
    by_cases e : k' = k
    · subst e
      have none' : atKey xs k' = none := by
        unfold atKey
        rw [Option.map_eq_none_iff, List.find?_eq_none]
        intro x hx z
        exact n1 (List.mem_map.mpr ⟨x, hx, of_decide_eq_true z⟩)
      rw [putD, if_pos rfl, List.map_cons, putAt_ne none', putAt, if_pos rfl]
      exact .cons a r p t
    · rw [valD, if_neg e] at hs
      rw [putD, if_neg e, List.map_cons, putAt, if_neg e]
      exact .cons a r' p' (ih n2 hs)
theorem putD_new {es : List (List Key × D)} {k : List Key} {d : D} : valD es k = none → putD es k d = es ++ [(k, d)] := by
  induction es with
  | nil => intro _; rfl
  | cons e es ih =>
    intro h
    by_cases q : e.1 = k
    · rw [valD, if_pos q] at h; cases h
    · rw [valD, if_neg q] at h
      rw [putD, if_neg q, ih h]
      rfl
theorem DRow.snoc {es : List (List Key × D)} {xs : List (List Key × Addr × Value)} (h : DRow K B es xs) {k : List Key} {b : Addr} {v : V} {u : Value} {d : D} (a : SqT K B b (k.map kV)) (r : RelV v u) (p : Rep K B v d) : DRow K B (es ++ [(k, d)]) (xs ++ [(k, b, u)]) := by
  induction h with
  | nil => exact .cons a r p .nil
  | cons a' r' p' t ih => exact .cons a' r' p' ih
theorem DRow.put {es : List (List Key × D)} {xs : List (List Key × Addr × Value)} (h : DRow K B es xs) (hn : (xs.map (·.1)).Nodup) {k : List Key} {b : Addr} {v : V} {u : Value} {d : D} (a : SqT K B b (k.map kV)) (r : RelV v u) (p : Rep K B v d) : DRow K B (putD es k d) (storedH xs k b u) := by
  unfold storedH
  rw [h.isSome]
  by_cases hs : (valD es k).isSome = true
  · rw [if_pos hs]
    exact h.mapPut hn r p hs
  · rw [if_neg hs, putD_new (by simpa using hs)]
    exact h.snoc a r p
theorem putD_len {κ : Type} [DecidableEq κ] : ∀ (es : List (κ × D)) (k : κ) (d : D), (putD es k d).length ≤ es.length + 1
  | [], _, _ => Nat.le_refl _
  | e :: es, k, d => by
    unfold putD
    split
    · rw [List.length_cons, List.length_cons]; omega
    · rw [List.length_cons, List.length_cons]; have := putD_len es k d; omega
end
/-! ### in the heap -/
section
variable [Wd] {X : Cx} {pins : List (Addr × Obj)} {σ : L2.St} {B H : Hp} {s : Shared} {a : Addr} {kvs : List (List Key × Addr × V)} {ep : Nat} {es : List (List Key × D)}
theorem key_is (I : Inv X pins σ H s) {b : Addr} {ks : List Key} (h : SqT X.K H b (ks.map kV)) : (tupleKind (mixKind X.prog X.w)).is s.heap ks b := by
  obtain ⟨its, r, ⟨o, ho, hc, n, hd⟩, _⟩ := I.tuple h
  exact ⟨o, its.toArray, n, ho, hc, hd, by simpa using items_are r⟩
theorem dic_open (hP : X.prog = Wd.P) (hw : X.w = Wd.w) (I : Inv X pins σ H s) (sm : Same B H) (ha : H a = some (DicAt a kvs ep)) (h1 : kvs.map (·.1) = es.map (·.1)) (h2 : ∀ p ∈ kvs, SqT X.K B p.2.1 (p.1.map kV)) (h3 : Reps X.K B (kvs.map (·.2.2)) (es.map (·.2))) :
    ∃ xs, DRow X.K B es xs ∧ s.heap.DictOfH (tupleKind (mixKind X.prog X.w)) a xs ∧ (a == sysModules) = false ∧ es.length ≤ sizeLine := by
  obtain ⟨y, z, xs, pr, o, es', q1, q2, q3, q4, q5⟩ := (I.hok a _ ha).1
  have row := drow_of h1 h2 h3 pr
  have len : es.length = kvs.length := by have := congrArg List.length h1; rw [List.length_map, List.length_map] at this; exact this.symm
  have hash : ∀ (P : Program) (w : World), X.prog = P → X.w = w → es'.toList = xs.map (entryOfKey (tupleKind (mixKind P w))) → es'.toList = xs.map (entryOfKey (tupleKind (mixKind X.prog X.w))) := by
    intro P w e1 e2 h
    subst e1 e2
    exact h
  refine ⟨xs, row, ⟨o, es', ep, q1, q2, q3, hash _ _ hP hw q4, fun x hx => ?_, q5⟩, y, by rw [len]; exact z⟩
  have : ∀ {es : List (List Key × D)} {xs : List (List Key × Addr × Value)}, DRow X.K B es xs → ∀ x ∈ xs, SqT X.K B x.2.1 (x.1.map kV) := by
    intro es xs r
    induction r with
    | nil => exact fun x hx => nomatch hx
    | cons a _ _ _ ih =>
      intro x hx
      rcases List.mem_cons.mp hx with rfl | hx
      · exact a
      · exact ih x hx
  exact key_is I (same_sqT sm (this row x hx))
theorem dic_ok {P : Program} {w : World} {h' : Heap} {xs : List (List Key × Addr × Value)} (hP : P = Wd.P) (hw : w = Wd.w) (hs : (a == sysModules) = false) (hz : kvs.length ≤ sizeLine) (pr : Paired (fun p q => p.1 = q.1 ∧ p.2.1 = q.2.1 ∧ RelV p.2.2 q.2.2) kvs xs)
    (dd : h'.DictOfH (tupleKind (mixKind P w)) a xs) : ∃ ep, ∀ H' : Hp, ObjOk P w H' h' a (DicAt a kvs ep) := by
  subst hP hw
  obtain ⟨o, es', ep, q1, q2, q3, q4, q5, q6⟩ := dd
  refine ⟨ep, fun _ => ⟨⟨hs, hz, xs, pr, o, es', q1, q2, q3, q4, q6⟩, ⟨o, q1⟩, fun h1 h2 p k => ?_⟩⟩
  obtain ⟨a1, a2, xs', a3, o', es2, b1, b2⟩ := p
  exact ⟨a1, a2, xs', a3, o', es2, k _ b1, b2⟩
/-- a dict of ints or texts -/
theorem dicK_open {kvs : List (Key × V)} {es : List (Key × D)} {K : PySem.W.Frag} (h1 : kvs.map (·.1) = es.map (·.1)) (h3 : Reps K B (kvs.map (·.2)) (es.map (·.2))) (k : Key) :
    (valD es k = none ∧ valV kvs k = none) ∨ ∃ d v, valD es k = some d ∧ valV kvs k = some v ∧ Rep K B v d := by
  induction es generalizing kvs with
  | nil =>
    cases kvs with
    | nil => exact .inl ⟨rfl, rfl⟩
    | cons p kvs => simp at h1
  | cons e es ih =>
    cases kvs with
    | nil => simp at h1
    | cons p kvs =>
      rw [List.map_cons, List.map_cons] at h1 h3
      obtain ⟨e1, e2⟩ := List.cons.inj h1
      cases h3 with
      | cons q t =>
        by_cases z : e.1 = k
        · exact .inr ⟨e.2, p.2, by rw [valD, if_pos z], valV_pos (e1.trans z), q⟩
        · rw [valD, if_neg z, valV_neg (fun y => z (e1.symm.trans y))]
          exact ih e2 t
theorem dicK_put {K : PySem.W.Frag} : ∀ {kvs : List (Key × V)} {es : List (Key × D)} (h1 : kvs.map (·.1) = es.map (·.1)) (h3 : Reps K B (kvs.map (·.2)) (es.map (·.2))) (nd : (es.map (·.1)).Nodup) {k : Key} {v : V} {d : D} (r : Rep K B v d),
    (putK kvs k v).map (·.1) = (putD es k d).map (·.1) ∧ Reps K B ((putK kvs k v).map (·.2)) ((putD es k d).map (·.2)) := by
  have same : ∀ {kvs : List (Key × V)} {k : Key} {v : V}, (∀ p ∈ kvs, p.1 ≠ k) → (kvs.map fun kv => if kv.1 = k then (kv.1, v) else kv) = kvs := by
    intro kvs k v h
    induction kvs with
    | nil => rfl
    | cons p kvs ih => rw [List.map_cons, if_neg (h p List.mem_cons_self), ih fun q hq => h q (List.mem_cons_of_mem _ hq)]
  have old : ∀ {kvs : List (Key × V)} {es : List (Key × D)} {k : Key} {v : V} {d : D}, kvs.map (·.1) = es.map (·.1) → Reps K B (kvs.map (·.2)) (es.map (·.2)) → (es.map (·.1)).Nodup → Rep K B v d → (valD es k).isSome = true →
      (kvs.map fun kv => if kv.1 = k then (kv.1, v) else kv).map (·.1) = (putD es k d).map (·.1) ∧ Reps K B ((kvs.map fun kv => if kv.1 = k then (kv.1, v) else kv).map (·.2)) ((putD es k d).map (·.2)) := by
    intro kvs es k v d
    induction es generalizing kvs with
    | nil => intro _ _ _ _ h; cases h
    | cons e es ih =>
      intro h1 h3 nd r hs
      cases kvs with
      | nil => simp at h1
      | cons p kvs =>
        rw [List.map_cons, List.map_cons] at h1 h3
        obtain ⟨e1, e2⟩ := List.cons.inj h1
        rw [List.map_cons] at nd
        obtain ⟨n1, n2⟩ := List.nodup_cons.mp nd
        cases h3 with
        | cons q t =>
          by_cases z : e.1 = k
          · have out : ∀ p ∈ kvs, p.1 ≠ k := fun p hp y => n1 (by rw [z, ← y, ← e2]; exact List.mem_map.mpr ⟨p, hp, rfl⟩)
            rw [List.map_cons, if_pos (e1.trans z), same out, putD, if_pos z]
            exact ⟨by rw [List.map_cons, List.map_cons, e2, ← z, ← e1], .cons r t⟩
          · rw [valD, if_neg z] at hs
            obtain ⟨i1, i2⟩ := ih e2 t n2 r hs
            rw [List.map_cons, if_neg (fun y => z (e1.symm.trans y)), putD, if_neg z]
            exact ⟨by rw [List.map_cons, List.map_cons, i1, e1], .cons q i2⟩
  intro kvs es h1 h3 nd k v d r
  have ev : (kvs.any fun kv => decide (kv.1 = k)) = (valD es k).isSome := by
    rw [valV_any]
    rcases dicK_open h1 h3 k with ⟨z1, z2⟩ | ⟨d', v', z1, z2, _⟩ <;> rw [z1, z2] <;> rfl
  by_cases hs : (valD es k).isSome = true
  · have e : putK kvs k v = kvs.map fun kv => if kv.1 = k then (kv.1, v) else kv := by
      unfold putK
      rw [ev, if_pos hs]
    rw [e]
    exact old h1 h3 nd r hs
  · have e : putK kvs k v = kvs ++ [(k, v)] := by
      unfold putK
      rw [ev, if_neg hs]
    have e2 : putD es k d = es ++ [(k, d)] := by
      have hn : valD es k = none := by simpa using hs
      clear ev hs e nd h3 h1
      induction es with
      | nil => rfl
      | cons x es ih =>
        by_cases q : x.1 = k
        · rw [valD, if_pos q] at hn; cases hn
        · rw [valD, if_neg q] at hn
          rw [putD, if_neg q, ih hn]
          rfl
    rw [e, e2, List.map_append, List.map_append, List.map_append, List.map_append, h1]
    exact ⟨rfl, h3.append (.cons r .nil)⟩
theorem Rep1.dic {K : PySem.W.Frag} {v : V} (sm : Same B H) (r : Rep1 K B H v (.dT es)) : ∃ a kvs ep, v = .ref a ∧ H a = some (DicAt a kvs ep) ∧ kvs.map (·.1) = es.map (·.1) ∧ (∀ p ∈ kvs, SqT K B p.2.1 (p.1.map kV)) ∧ Reps K B (kvs.map (·.2.2)) (es.map (·.2)) := by
  cases r with
  | fro r => cases r with | dT h a b c => exact ⟨_, _, _, rfl, sm _ _ h, a, b, c⟩
  | own h c => cases c with | dT a b d => exact ⟨_, _, _, rfl, h, a, b, d⟩
theorem Rep1.dicK {K : PySem.W.Frag} {v : V} {es : List (Key × D)} (sm : Same B H) (r : Rep1 K B H v (.dK es)) : ∃ a kvs, v = .ref a ∧ H a = some (.dK kvs) ∧ kvs.map (·.1) = es.map (·.1) ∧ Reps K B (kvs.map (·.2)) (es.map (·.2)) := by
  cases r with
  | fro r => cases r with | dK h a b => exact ⟨_, _, rfl, sm _ _ h, a, b⟩
  | own h c => cases c with | dK a b => exact ⟨_, _, rfl, h, a, b⟩
/-- the key's tuple -/
theorem Rep1.keyT {K : PySem.W.Frag} {y : V} {ds : List D} {ks : List Key} (r : Rep1 K B H y (.tup ds)) (e : asKeys ds = some ks) : ∃ b, y = .ref b ∧ SqT K B b (ks.map kV) := by
  cases r with
  | own _ c => cases c
  | fro r =>
    cases r with
    | tup h q _ =>
      rw [asKeys_eq e] at q
      rw [reps_keys q] at h
      exact ⟨_, rfl, h⟩
variable {x y : V} {u w' : Value} {dx dy : D} {A : Around} {E : Value → Shared → Prop} {o : Option D}
/-- what a look into a dict comes to -/
theorem dget_cases {dx dy : D} {o : Option D} (e : dget dx dy = some o) : (∃ es ds ks, dx = .dT es ∧ dy = .tup ds ∧ asKeys ds = some ks ∧ o = valD es ks) ∨ ∃ es k, dx = .dK es ∧ dy = keyD k ∧ o = valD es k := by
  unfold dget at e
  split at e
  · obtain ⟨ks, h1, h2⟩ := map_some e
    exact .inl ⟨_, _, ks, rfl, rfl, h1, h2.symm⟩
  · cases e
    exact .inr ⟨_, .inl _, rfl, rfl, rfl⟩
  · cases e
    exact .inr ⟨_, .inr _, rfl, rfl, rfl⟩
  · cases e
theorem Rep1.key {K : PySem.W.Frag} {y : V} {k : Key} (r : Rep1 K B H y (keyD k)) : y = kV k := by
  cases k with
  | inl i => exact r.int
  | inr i => exact r.str
theorem dic_getItem {d : D} {Q : Value → Shared → Prop} (hu : A.units + 1 < cLine) (hP : X.prog = Wd.P) (hw : X.w = Wd.w) (I : Inv X pins σ H s) (sm : Same B H) (r1 : Rep1 X.K B H x dx) (r2 : Rep1 X.K B H y dy) (rx : RelV x u) (ry : RelV y w') (e : dget dx dy = some (some d))
    (q : ∀ v z s', Inv X pins σ H s' → RelV v z → Rep X.K B v d → Q z s') : s.TypeIs u "dict" ∧ wpAny (model X.prog X.w) A (getItem u w') Q E s := by
  rcases dget_cases e with ⟨es, ds, ks, rfl, rfl, hk, ho⟩ | ⟨es, k, rfl, rfl, ho⟩
  · obtain ⟨a, kvs, ep, rfl, ha, h1, h2, h3⟩ := r1.dic sm
    obtain ⟨b, rfl, hb⟩ := r2.keyT hk
    obtain rfl : u = Value.ref a := rx
    obtain rfl : w' = Value.ref b := ry
    obtain ⟨xs, row, dd, _, _⟩ := dic_open hP hw I sm ha h1 h2 h3
    rcases row.val ks with ⟨z1, _⟩ | ⟨d', p, v, z1, z2, z3, z4⟩
    · rw [z1] at ho; cases ho
    · rw [z1] at ho
      cases ho
      exact ⟨dd.typeIs, wpAny_getItem_heap (tupleKind_room_in1 hu) (key_is I (same_sqT sm hb)) dd z2 (q v _ _ (I.tok _) z3 z4)⟩
  · obtain ⟨a, kvs, rfl, ha, h1, h3⟩ := r1.dicK sm
    obtain rfl := r2.key
    obtain rfl : u = Value.ref a := rx
    rcases dicK_open h1 h3 k with ⟨z1, _⟩ | ⟨d', v, z1, z2, z3⟩
    · rw [z1] at ho; cases ho
    · rw [z1] at ho
      cases ho
      have g : DGet H a (kV k) (some v) := by rw [← z2]; exact .k ha
      exact ⟨dict_typeIs I g, d_getItem hu I g ry fun z s' I' r => q v z s' I' r z3⟩
theorem dic_in {Q : Value → Shared → Prop} (hu : A.units + 1 < cLine) (hP : X.prog = Wd.P) (hw : X.w = Wd.w) (I : Inv X pins σ H s) (sm : Same B H) (r1 : Rep1 X.K B H x dx) (r2 : Rep1 X.K B H y dy) (rx : RelV x u) (ry : RelV y w') (e : dget dx dy = some o)
    (q : ∀ s', Inv X pins σ H s' → Q (.bool o.isSome) s') : wpAny (model X.prog X.w) A (compareOp .In w' u) Q E s := by
  rcases dget_cases e with ⟨es, ds, ks, rfl, rfl, hk, rfl⟩ | ⟨es, k, rfl, rfl, rfl⟩
  · obtain ⟨a, kvs, ep, rfl, ha, h1, h2, h3⟩ := r1.dic sm
    obtain ⟨b, rfl, hb⟩ := r2.keyT hk
    obtain rfl : u = Value.ref a := rx
    obtain rfl : w' = Value.ref b := ry
    obtain ⟨xs, row, dd, hs, _⟩ := dic_open hP hw I sm ha h1 h2 h3
    refine wpAny_in_heap (tupleKind_room_in1 hu) (key_is I (same_sqT sm hb)) hs dd ?_
    rw [row.isSome]
    exact q _ (I.tok _)
  · obtain ⟨a, kvs, rfl, ha, h1, h3⟩ := r1.dicK sm
    obtain rfl := r2.key
    obtain rfl : u = Value.ref a := rx
    refine d_in hu I (.k ha) ry fun s' I' => ?_
    have : (valV kvs k).isSome = (valD es k).isSome := by
      rcases dicK_open h1 h3 k with ⟨z1, z2⟩ | ⟨d', v, z1, z2, _⟩ <;> rw [z1, z2] <;> rfl
    rw [this]
    exact q s' I'
theorem dic_notIn {Q : Value → Shared → Prop} (hu : A.units + 1 < cLine) (hP : X.prog = Wd.P) (hw : X.w = Wd.w) (I : Inv X pins σ H s) (sm : Same B H) (r1 : Rep1 X.K B H x dx) (r2 : Rep1 X.K B H y dy) (rx : RelV x u) (ry : RelV y w') (e : dget dx dy = some o)
    (q : ∀ s', Inv X pins σ H s' → Q (.bool (!o.isSome)) s') : wpAny (model X.prog X.w) A (compareOp .NotIn w' u) Q E s := by
  rcases dget_cases e with ⟨es, ds, ks, rfl, rfl, hk, rfl⟩ | ⟨es, k, rfl, rfl, rfl⟩
  · obtain ⟨a, kvs, ep, rfl, ha, h1, h2, h3⟩ := r1.dic sm
    obtain ⟨b, rfl, hb⟩ := r2.keyT hk
    obtain rfl : u = Value.ref a := rx
    obtain rfl : w' = Value.ref b := ry
    obtain ⟨xs, row, dd, hs, _⟩ := dic_open hP hw I sm ha h1 h2 h3
    refine PyProof.Rows.wpAny_notIn_heap (tupleKind_room_in1 hu) (key_is I (same_sqT sm hb)) hs dd ?_
    rw [row.isSome]
    exact q _ (I.tok _)
  · obtain ⟨a, kvs, rfl, ha, h1, h3⟩ := r1.dicK sm
    obtain rfl := r2.key
    obtain rfl : u = Value.ref a := rx
    refine d_notIn hu I (.k ha) ry fun s' I' => ?_
    have : (valV kvs k).isSome = (valD es k).isSome := by
      rcases dicK_open h1 h3 k with ⟨z1, z2⟩ | ⟨d', v, z1, z2, _⟩ <;> rw [z1, z2] <;> rfl
    rw [this]
    exact q s' I'
/-- d[y] = v, d a dict of one's own at a -/
theorem dic_setItem {a : Addr} {o : HO} {v : V} {r : Value} {dv d' : D} {Q : Unit → Shared → Prop} (hu : A.units + 1 < cLine) (hP : X.prog = Wd.P) (hw : X.w = Wd.w) (I : Inv X pins σ H s) (sm : Same B H) (hB : B a = none) (ha : H a = some o) (c : Cell X.K B a o dx) (r2 : Rep1 X.K B H y dy) (ry : RelV y w')
    (rv : RelV v r) (pv : Rep X.K B v dv) (e : dput dx dy dv = some d') (q : ∀ o' s', Inv X pins σ (upd H a o') s' → Cell X.K B a o' d' → Q () s') : wpAny (model X.prog X.w) A (setItem (.ref a) w' r) Q E s := by
  have caseK : ∀ {es : List (Key × D)} {k : Key}, dx = .dK es → dy = keyD k → es.length < LINE → d' = .dK (putD es k dv) → wpAny (model X.prog X.w) A (setItem (.ref a) w' r) Q E s := by
    intro es k e1 e2 hl e3
    subst e1 e2 e3
    cases c with
    | dK h1 h3 =>
      rename_i kvs
      obtain rfl := r2.key
      obtain ⟨z, hd, vs, rel, dd⟩ := dk_of I.hok ha
      have nd : (es.map (·.1)).Nodup := by
        obtain ⟨ob, es', ep, _, _, _, _, _, nd⟩ := dd
        rw [← h1, KV.keys rel]
        exact nd
      have len : kvs.length < sizeLine := by
        have := congrArg List.length h1
        rw [List.length_map, List.length_map] at this
        rw [this, ← line_eq]
        exact hl
      obtain ⟨p1, p2⟩ := dicK_put h1 h3 nd (k := k) pv
      exact d_setItem hu I (.k ha len) ry rv fun s' I' => q _ s' I' (.dK p1 p2)
  unfold dput at e
  split at e
  · rename_i es0 ds0
    obtain ⟨ks, hk, e⟩ := bind_some e
    split at e
    · rename_i hl
      cases e
      cases c with
      | dT h1 h2 h3 =>
        obtain ⟨b, rfl, hb⟩ := r2.keyT hk
        obtain rfl : w' = Value.ref b := ry
        obtain ⟨xs, row, dd, hs, hz⟩ := dic_open hP hw I sm ha h1 h2 h3
        have nd : (xs.map (·.1)).Nodup := by
          obtain ⟨_, _, _, _, _, _, _, _, nd⟩ := dd
          exact nd
        have hz' : xs.length ≤ sizeLine := by rw [row.length]; exact hz
        refine wpAny_setItem_heap (hsz := hz') (tupleKind_room_in1 hu) (key_is I (same_sqT sm hb)) dd fun h' dd' sb => ?_
        have row' := row.put nd (k := ks) hb rv pv
        obtain ⟨kvs', k1, k2, k3, k4⟩ := row'.back
        have len' : kvs'.length ≤ sizeLine := by
          have := congrArg List.length k1
          rw [List.length_map, List.length_map] at this
          have := putD_len es0 ks dv
          rw [← line_eq]
          omega
        have he : ∃ q, h'.get? a = some q := by
          obtain ⟨ob, _, _, h, _⟩ := dd'
          exact ⟨ob, h⟩
        obtain ⟨ep', ok⟩ := dic_ok hP hw hs len' k4 dd'
        exact q (DicAt a kvs' ep') _ (d_write I (by rw [ha]; exact True.intro) sb he (ok _)) (.dT k1 k2 k3)
    · cases e
  · split at e
    · rename_i hl
      cases e
      exact caseK (k := .inl _) rfl rfl hl rfl
    · cases e
  · split at e
    · rename_i hl
      cases e
      exact caseK (k := .inr _) rfl rfl hl rfl
    · cases e
  · cases e
end
end ML
set_option Elab.async false
set_option linter.all false
set_option autoImplicit false
set_option maxRecDepth 100000
set_option maxHeartbeats 4000000
/-! MLops: the operations on values do what the small language says. -/
namespace ML
open PySem L2

/-- what an operation hands back: an old value, a new frozen object, a new own list -/
inductive New [Wd] (K : PySem.W.Frag) (B H : Hp) : Sv → V → Hp → Hp → Prop
  | old {d : D} {v : V} : Rep K B v d → New K B H (.fro d) v H B
  | fro {d : D} {p : Addr} {o : HO} : H p = none → Rep K (upd B p o) (.ref p) d → New K B H (.fro d) (.ref p) (upd H p o) (upd B p o)
  | own {ds : List D} {p : Addr} {vs : List V} : H p = none → Reps K B vs ds → ds.length ≤ LINE → New K B H (.own (.lst ds)) (.ref p) (upd H p (.lst vs)) B
  | cell {d : D} {p : Addr} {o : HO} : H p = none → Cell K B p o d → New K B H (.own d) (.ref p) (upd H p o) B

section
variable [Wd] {K : PySem.W.Frag} {B H B' H' B0 H0 : Hp} {ρ : Env} {σ : St} {s : Sv} {v : V} {O0 : Addr → Prop}
theorem New.ok (n : New K B H s v H' B') (E : EnvOk K B H ρ σ) (X : Ext B0 H0 O0 B H (OwnS ρ σ)) :
    EnvOk K B' H' ρ σ ∧ Ext B0 H0 O0 B' H' (OwnS ρ σ) ∧ ∃ r, s.rv = some r ∧ RvOk K B' H' H0 ρ σ r v := by
  cases n with
  | old h => exact ⟨E, X, _, rfl, h⟩
  | fro hp h =>
    obtain ⟨E1, X1⟩ := E.laidF hp
    exact ⟨E1, X.trans X1, _, rfl, h⟩
  | own hp h hl =>
    obtain ⟨E1, X1⟩ := E.laid (o := .lst _) hp
    exact ⟨E1, X.trans X1, _, rfl, _, rfl, .ofL (E.free hp) upd_same h hl, X.tr _ hp, E.notOwn hp⟩
  | cell hp c =>
    obtain ⟨E1, X1⟩ := E.laid (o := _) hp
    exact ⟨E1, X.trans X1, _, rfl, _, rfl, ⟨_, E.free hp, upd_same, c⟩, X.tr _ hp, E.notOwn hp⟩
theorem newTup {p : Addr} {vs : List V} {ds : List D} (s : Same B H) (hp : H p = none) (r : Reps K B vs ds) (hl : ds.length ≤ LINE) : New K B H (.fro (.tup ds)) (.ref p) (upd H p (.tup vs)) (upd B p (.tup vs)) := by
  have hB : B p = none := by
    cases e : B p with
    | none => rfl
    | some o => rw [s _ _ e] at hp; cases hp
  exact .fro hp (.tup (SqT.of upd_same) (Reps.mono (same_into hB) _ _ r) hl)
theorem sqT_sub {a : Addr} {ds : List D} (h : Rep1 K B H v (.tup ds)) (ha : v = .ref a) : Rep K B (.ref a) (.tup ds) := by
  cases h with
  | fro h => rw [← ha]; exact h
  | own _ c => cases c
end

theorem mul_small {x : Str} {n : Int} (h : 1 ≤ n ∧ n ≤ 4096 ∧ x.length ≤ 4096) : PySem.MulOk x n := by
  obtain ⟨h1, h2, h3⟩ := h
  have hm : x.length * n.toNat ≤ 4096 * 4096 := Nat.mul_le_mul h3 (by omega)
  refine ⟨by simp; omega, fun _ _ => ?_, fun _ _ => ?_⟩
  · have : (4096 : Int) ≤ (2 ^ 63 - 1) / n := by
      rw [Int.le_ediv_iff_mul_le (by omega)]
      omega
    omega
  · show decide (_ > sizeLine) = false
    have : sizeLine = 16777216 := rfl
    rw [decide_eq_false_iff_not]
    omega
/-! ### two-place operators -/
def Bop.py : Bop → Operator
  | .add => .Add | .sub => .Sub | .mul => .Mult | .fdiv => .FloorDiv | .mod => .Mod
  | .pow => .Pow | .shl => .LShift | .shr => .RShift | .band => .BitAnd | .bor => .BitOr
def rBin [Wd] (K : PySem.W.Frag) (o : Bop) : R2 := fun x y H Q => ∃ B dx dy s, Same B H ∧ Rep1 K B H x dx ∧ Rep1 K B H y dy ∧ binop o dx dy = some s ∧ ∀ v H' B', New K B H s v H' B' → Q v H'
section
variable [Wd] {X : Cx}
theorem op_bin (o : Bop) : OpR X (binaryOp o.py) (rBin X.K o) := by
  intro pins st σ H x y v u Q I rx ry h
  obtain ⟨B, dx, dy, s, sm, r1, r2, e, k⟩ := h
  unfold binop at e
  split at e
  · cases e; exact op_add pins st σ H x y v u Q I rx ry ⟨_, _, r1.int, r2.int, k _ _ _ (.old (.int _))⟩
  · split at e
    · rename_i hz
      cases e
      exact op_add_str pins st σ H x y v u Q I rx ry ⟨_, _, r1.str, r2.str, by rw [← line_eq]; exact hz, k _ _ _ (.old (.str _))⟩
    · cases e
  · split at e
    · rename_i hz
      cases e
      obtain ⟨a, xs, rfl, ha, q1, l1⟩ := r1.tup sm
      obtain ⟨b, ys, rfl, hb, q2, l2⟩ := r2.tup sm
      refine op_catA pins st σ H _ _ v u Q I rx ry ⟨a, b, xs, ys, rfl, rfl, ha, hb, ?_, fun z => ?_, fun z w => ?_, fun z w p hp => ?_⟩
      · rw [q1.length, q2.length, ← line_eq]; exact hz
      · subst z
        cases q1
        exact k _ _ _ (.old (by simpa using sqT_sub r2 rfl))
      · subst w
        cases q2
        exact k _ _ _ (.old (by simpa using sqT_sub r1 rfl))
      · exact k _ _ _ (newTup sm hp (q1.append q2) (by rw [List.length_append]; exact hz))
    · cases e
  · split at e
    · rename_i hz
      cases e
      obtain ⟨a, xs, rfl, ha, q1, l1⟩ := r1.lst sm
      obtain ⟨b, ys, rfl, hb, q2, l2⟩ := r2.lst sm
      exact op_cat pins st σ H _ _ v u Q I rx ry ⟨a, b, xs, ys, rfl, rfl, ha, hb, by rw [q1.length, q2.length, ← line_eq]; exact hz, fun p hp => k _ _ _ (.own hp (q1.append q2) (by rw [List.length_append]; exact hz))⟩
    · cases e
  · cases e; exact op_sub pins st σ H x y v u Q I rx ry ⟨_, _, r1.int, r2.int, k _ _ _ (.old (.int _))⟩
  · split at e
    · rename_i hz
      cases e
      exact op_mul pins st σ H x y v u Q I rx ry ⟨_, _, r1.int, r2.int, hz, k _ _ _ (.old (.int _))⟩
    · cases e
  · split at e
    · rename_i z n hz
      cases e
      have ex := r1.str
      have ey := r2.int
      subst ex ey
      obtain ⟨t, rfl⟩ := rx
      obtain ⟨t', rfl⟩ := ry
      exact PySem.SB.mul (mul_small hz) fun t' tk => ⟨.str _, H, I.tok _, ⟨_, rfl⟩, k _ _ _ (.old (.str _))⟩
    · cases e
  · split at e
    · rename_i hz
      cases e
      exact op_fdiv pins st σ H x y v u Q I rx ry ⟨_, _, r1.int, r2.int, hz, k _ _ _ (.old (.int _))⟩
    · cases e
  · split at e
    · rename_i hz
      cases e
      exact op_mod pins st σ H x y v u Q I rx ry ⟨_, _, r1.int, r2.int, hz, k _ _ _ (.old (.int _))⟩
    · cases e
  · split at e
    · rename_i hz
      cases e
      exact op_pow pins st σ H x y v u Q I rx ry ⟨_, _, r1.int, r2.int, hz, k _ _ _ (.old (.int _))⟩
    · cases e
  · split at e
    · rename_i hz
      cases e
      exact op_shl pins st σ H x y v u Q I rx ry ⟨_, _, r1.int, r2.int, hz, k _ _ _ (.old (.int _))⟩
    · cases e
  · split at e
    · rename_i hz
      cases e
      exact op_shr pins st σ H x y v u Q I rx ry ⟨_, _, r1.int, r2.int, hz, k _ _ _ (.old (.int _))⟩
    · cases e
  · cases e; exact op_and pins st σ H x y v u Q I rx ry ⟨_, _, r1.int, r2.int, k _ _ _ (.old (.int _))⟩
  · cases e; exact op_or pins st σ H x y v u Q I rx ry ⟨_, _, r1.int, r2.int, k _ _ _ (.old (.int _))⟩
  · cases e
end

/-! ### comparisons -/
mutual
def D.py : D → PyData
  | .non => .none
  | .bl b => .bool b
  | .int i => .int i
  | .str x => .str x
  | .tup xs => .tuple (D.pys xs)
  | .lst xs => .list (D.pys xs)
  | _ => .none
def D.pys : List D → List PyData
  | [] => []
  | x :: xs => D.py x :: D.pys xs
end
mutual
theorem dp_of [Wd] {K : PySem.W.Frag} {H : Hp} : ∀ (n : Nat) (d : D) (v : V), D.okd n d = true → Rep K H v d → Dp K H v d.py
  | _, .non, _, _, r => by cases r; exact .non
  | _, .bl b, _, _, r => by cases r; exact .bl b
  | _, .int i, _, _, r => by cases r; exact .int i
  | _, .str x, _, _, r => by cases r; exact .str x
  | n + 1, .tup ds, _, h, r => by
    cases r with
    | tup a b c => exact .tup a (dps_of n ds _ (by simpa [D.okd] using h) b)
  | n + 1, .lst ds, _, h, r => by
    cases r with
    | lst a b c => exact .lst (SqL.of a) (dps_of n ds _ (by simpa [D.okd] using h) b)
  | 0, .tup ds, _, h, _ => by simp [D.okd] at h
  | 0, .lst ds, _, h, _ => by simp [D.okd] at h
  | _, .scr _, _, h, _ => by simp [D.okd] at h
  | _, .dK _, _, h, _ => by simp [D.okd] at h
  | _, .dT _, _, h, _ => by simp [D.okd] at h
  | _, .obj _ _, _, h, _ => by simp [D.okd] at h
  | _, .exc _, _, h, _ => by simp [D.okd] at h
theorem dps_of [Wd] {K : PySem.W.Frag} {H : Hp} : ∀ (n : Nat) (ds : List D) (vs : List V), D.okds n ds = true → Reps K H vs ds → DpAll K H vs (D.pys ds)
  | _, [], _, _, r => by cases r; exact .nil
  | n, d :: ds, _, h, r => by
    cases r with
    | cons a b =>
      have h' : D.okd n d = true ∧ D.okds n ds = true := by simpa [D.okds] using h
      exact .cons (dp_of n d _ h'.1 a) (dps_of n ds _ h'.2 b)
end
mutual
theorem canLay_of : ∀ (n : Nat) (d : D), D.okd n d = true → PyData.canLay0 d.py = true ∧ PyData.depth d.py ≤ n
  | _, .non, _ => by simp [D.py, PyData.canLay0, PyData.depth]
  | _, .bl b, _ => by simp [D.py, PyData.canLay0, PyData.depth]
  | _, .int i, _ => by simp [D.py, PyData.canLay0, PyData.depth]
  | _, .str x, h => by
    have h' : signsOk x = true := by simpa [D.okd] using h
    refine ⟨?_, by simp [D.py, PyData.depth]⟩
    simp only [D.py, PyData.canLay0]
    exact h'
  | n + 1, .tup ds, h => by
    have h' := canLays_of n ds (by simpa [D.okd] using h)
    simp only [D.py, PyData.canLay0, PyData.depth]
    exact ⟨h'.1, by omega⟩
  | n + 1, .lst ds, h => by
    have h' := canLays_of n ds (by simpa [D.okd] using h)
    simp only [D.py, PyData.canLay0, PyData.depth]
    exact ⟨h'.1, by omega⟩
  | 0, .tup ds, h => by simp [D.okd] at h
  | 0, .lst ds, h => by simp [D.okd] at h
  | _, .scr _, h => by simp [D.okd] at h
  | _, .dK _, h => by simp [D.okd] at h
  | _, .dT _, h => by simp [D.okd] at h
  | _, .obj _ _, h => by simp [D.okd] at h
  | _, .exc _, h => by simp [D.okd] at h
theorem canLays_of : ∀ (n : Nat) (ds : List D), D.okds n ds = true → PyData.canLayAll0 (D.pys ds) = true ∧ PyData.depthAll (D.pys ds) ≤ n
  | n, [], _ => by simp [D.pys, PyData.canLayAll0, PyData.depthAll]
  | n, d :: ds, h => by
    have h' : D.okd n d = true ∧ D.okds n ds = true := by simpa [D.okds] using h
    have h1 := canLay_of n d h'.1
    have h2 := canLays_of n ds h'.2
    simp only [D.pys, PyData.canLayAll0, PyData.depthAll, h1.1, h2.1, Bool.and_self, true_and]
    omega
end
mutual
theorem eqv_py : ∀ (n m : Nat) (a b : D), D.okd n a = true → D.okd m b = true → PyData.eqv a.py b.py = D.eqv a b
  | n, m, .non, b, _, h => by cases b <;> simp_all [D.py, PyData.eqv, D.eqv, D.okd]
  | n, m, .bl _, b, _, h => by cases b <;> simp_all [D.py, PyData.eqv, D.eqv, D.okd]
  | n, m, .int _, b, _, h => by cases b <;> simp_all [D.py, PyData.eqv, D.eqv, D.okd]
  | n, m, .str _, b, _, h => by cases b <;> simp_all [D.py, PyData.eqv, D.eqv, D.okd]
  | n + 1, m, .tup xs, b, ha, h => by
    cases b with
    | tup ys =>
      cases m with
      | zero => simp [D.okd] at h
      | succ m =>
        simp only [D.py, PyData.eqv, D.eqv]
        exact eqvs_py n m xs ys (by simpa [D.okd] using ha) (by simpa [D.okd] using h)
    | _ => simp_all [D.py, PyData.eqv, D.eqv, D.okd]
  | n + 1, m, .lst xs, b, ha, h => by
    cases b with
    | lst ys =>
      cases m with
      | zero => simp [D.okd] at h
      | succ m =>
        simp only [D.py, PyData.eqv, D.eqv]
        exact eqvs_py n m xs ys (by simpa [D.okd] using ha) (by simpa [D.okd] using h)
    | _ => simp_all [D.py, PyData.eqv, D.eqv, D.okd]
  | 0, _, .tup _, _, h, _ => by simp [D.okd] at h
  | 0, _, .lst _, _, h, _ => by simp [D.okd] at h
  | _, _, .scr _, _, h, _ => by simp [D.okd] at h
  | _, _, .dK _, _, h, _ => by simp [D.okd] at h
  | _, _, .dT _, _, h, _ => by simp [D.okd] at h
  | _, _, .obj _ _, _, h, _ => by simp [D.okd] at h
  | _, _, .exc _, _, h, _ => by simp [D.okd] at h
theorem eqvs_py : ∀ (n m : Nat) (xs ys : List D), D.okds n xs = true → D.okds m ys = true → PyData.eqvAll (D.pys xs) (D.pys ys) = D.eqvs xs ys
  | _, _, [], [], _, _ => by simp [D.pys, PyData.eqvAll, D.eqvs]
  | _, _, [], _ :: _, _, _ => by simp [D.pys, PyData.eqvAll, D.eqvs]
  | _, _, _ :: _, [], _, _ => by simp [D.pys, PyData.eqvAll, D.eqvs]
  | n, m, x :: xs, y :: ys, h, h' => by
    have g : D.okd n x = true ∧ D.okds n xs = true := by simpa [D.okds] using h
    have g' : D.okd m y = true ∧ D.okds m ys = true := by simpa [D.okds] using h'
    simp only [D.pys, PyData.eqvAll, D.eqvs]
    rw [eqv_py n m x y g.1 g'.1, eqvs_py n m xs ys g.2 g'.2]
end
theorem flat_v [Wd] {K : PySem.W.Frag} {H : Hp} {v : V} {d : D} (h : D.flat d = true) (r : Rep K H v d) : flatV v = true := by
  cases d <;> simp [D.flat] at h <;> cases r <;> rfl
theorem flat_vs [Wd] {K : PySem.W.Frag} {H : Hp} : ∀ {vs : List V} {ds : List D}, ds.all D.flat = true → Reps K H vs ds → vs.all flatV = true
  | _, [], _, r => by cases r; rfl
  | _, d :: ds, h, r => by
    cases r with
    | cons a b =>
      simp only [List.all_cons, Bool.and_eq_true] at h ⊢
      exact ⟨flat_v h.1 a, flat_vs h.2 b⟩
theorem flat_eq [Wd] {K : PySem.W.Frag} {H H2 : Hp} {v w : V} {d e : D} (h : D.flat d = true) (h' : D.flat e = true) (r : Rep K H v d) (r' : Rep K H2 w e) : eqV v w = D.eqv d e := by
  cases d <;> simp [D.flat] at h <;> cases r <;> cases e <;> simp [D.flat] at h' <;> cases r' <;> simp [eqV, D.eqv]
theorem flat_in [Wd] {K : PySem.W.Frag} {H H2 : Hp} {v : V} {d : D} (h : D.flat d = true) (r : Rep K H v d) : ∀ {vs : List V} {ds : List D}, ds.all D.flat = true → Reps K H2 vs ds → inV v vs = D.inb d ds
  | _, [], _, q => by cases q; rfl
  | _, e :: ds, g, q => by
    cases q with
    | cons a b =>
      simp only [List.all_cons, Bool.and_eq_true] at g
      have ih := flat_in h r g.2 b
      unfold inV D.inb at ih ⊢
      rw [List.any_cons, List.any_cons, ih, flat_eq g.1 h a r]
/-! ### order -/
mutual
theorem alike_py : ∀ (a b : D) (n m : Nat), D.okd n a = true → D.okd m b = true → D.alike a b = true → PySem.W.alike a.py b.py = true
  | .non, b, _, _, _, _, h => by cases b <;> simp_all [D.py, PySem.W.alike, D.alike]
  | .bl _, b, _, _, _, _, h => by cases b <;> simp_all [D.py, PySem.W.alike, D.alike]
  | .int _, b, _, _, _, _, h => by cases b <;> simp_all [D.py, PySem.W.alike, D.alike]
  | .str _, b, _, _, _, _, h => by cases b <;> simp_all [D.py, PySem.W.alike, D.alike]
  | .tup xs, .tup ys, n, m, h1, h2, h => by
    cases n with
    | zero => simp [D.okd] at h1
    | succ n =>
      cases m with
      | zero => simp [D.okd] at h2
      | succ m =>
        rw [D.py, D.py, PySem.W.alike]
        exact alikes_py xs ys n m (by simpa [D.okd] using h1) (by simpa [D.okd] using h2) (by simpa [D.alike] using h)
  | .lst xs, .lst ys, n, m, h1, h2, h => by
    cases n with
    | zero => simp [D.okd] at h1
    | succ n =>
      cases m with
      | zero => simp [D.okd] at h2
      | succ m =>
        rw [D.py, D.py, PySem.W.alike]
        exact alikes_py xs ys n m (by simpa [D.okd] using h1) (by simpa [D.okd] using h2) (by simpa [D.alike] using h)
  | .tup _, .non, _, _, _, _, h => by simp [D.alike] at h
  | .tup _, .bl _, _, _, _, _, h => by simp [D.alike] at h
  | .tup _, .int _, _, _, _, _, h => by simp [D.alike] at h
  | .tup _, .str _, _, _, _, _, h => by simp [D.alike] at h
  | .tup _, .lst _, _, _, _, _, h => by simp [D.alike] at h
  | .tup _, .scr _, _, _, _, _, h => by simp [D.alike] at h
  | .tup _, .dK _, _, _, _, _, h => by simp [D.alike] at h
  | .tup _, .dT _, _, _, _, _, h => by simp [D.alike] at h
  | .tup _, .obj _ _, _, _, _, _, h => by simp [D.alike] at h
  | .tup _, .exc _, _, _, _, _, h => by simp [D.alike] at h
  | .lst _, .non, _, _, _, _, h => by simp [D.alike] at h
  | .lst _, .bl _, _, _, _, _, h => by simp [D.alike] at h
  | .lst _, .int _, _, _, _, _, h => by simp [D.alike] at h
  | .lst _, .str _, _, _, _, _, h => by simp [D.alike] at h
  | .lst _, .tup _, _, _, _, _, h => by simp [D.alike] at h
  | .lst _, .scr _, _, _, _, _, h => by simp [D.alike] at h
  | .lst _, .dK _, _, _, _, _, h => by simp [D.alike] at h
  | .lst _, .dT _, _, _, _, _, h => by simp [D.alike] at h
  | .lst _, .obj _ _, _, _, _, _, h => by simp [D.alike] at h
  | .lst _, .exc _, _, _, _, _, h => by simp [D.alike] at h
  | .scr _, _, _, _, _, _, h => by simp [D.alike] at h
  | .dK _, _, _, _, _, _, h => by simp [D.alike] at h
  | .dT _, _, _, _, _, _, h => by simp [D.alike] at h
  | .obj _ _, _, _, _, _, _, h => by simp [D.alike] at h
  | .exc _, _, _, _, _, _, h => by simp [D.alike] at h
theorem alikes_py : ∀ (as bs : List D) (n m : Nat), D.okds n as = true → D.okds m bs = true → D.alikes as bs = true → PySem.W.alikeAll (D.pys as) (D.pys bs) = true
  | [], bs, _, _, _, _, _ => by rw [D.pys, PySem.W.alikeAll]
  | _ :: _, [], _, _, _, _, _ => by rw [D.pys, D.pys, PySem.W.alikeAll]
  | a :: as, b :: bs, n, m, h1, h2, h => by
    rw [D.okds, Bool.and_eq_true] at h1 h2
    rw [D.alikes, Bool.and_eq_true] at h
    rw [D.pys, D.pys, PySem.W.alikeAll, alike_py a b n m h1.1 h2.1 h.1, alikes_py as bs n m h1.2 h2.2 h.2]
    rfl
end
mutual
theorem lt_py : ∀ (a b : D) (n m : Nat), D.okd n a = true → D.okd m b = true → D.alike a b = true → PySem.W.dataLt a.py b.py = D.lt a b
  | .non, b, _, _, _, _, h => by
    cases b <;> simp_all [D.alike]
    rfl
  | .bl x, b, _, _, _, _, h => by
    cases b with
    | bl y =>
      rw [D.py, D.py, PySem.W.dataLt_bool, D.lt]
      cases x <;> cases y <;> decide
    | _ => simp [D.alike] at h
  | .int _, b, _, _, _, _, h => by
    cases b <;> simp_all [D.alike]
    rw [D.py, D.py, PySem.W.dataLt_int, D.lt]
  | .str _, b, _, _, _, _, h => by
    cases b <;> simp_all [D.alike]
    rw [D.py, D.py, PySem.W.dataLt_str, D.lt]
  | .tup xs, .tup ys, n, m, h1, h2, h => by
    cases n with
    | zero => simp [D.okd] at h1
    | succ n =>
      cases m with
      | zero => simp [D.okd] at h2
      | succ m =>
        rw [D.py, D.py, PySem.W.dataLt_tuple, D.lt]
        exact lts_py xs ys n m (by simpa [D.okd] using h1) (by simpa [D.okd] using h2) (by simpa [D.alike] using h)
  | .lst xs, .lst ys, n, m, h1, h2, h => by
    cases n with
    | zero => simp [D.okd] at h1
    | succ n =>
      cases m with
      | zero => simp [D.okd] at h2
      | succ m =>
        rw [D.py, D.py, PySem.W.dataLt_list, D.lt]
        exact lts_py xs ys n m (by simpa [D.okd] using h1) (by simpa [D.okd] using h2) (by simpa [D.alike] using h)
  | .tup _, .non, _, _, _, _, h => by simp [D.alike] at h
  | .tup _, .bl _, _, _, _, _, h => by simp [D.alike] at h
  | .tup _, .int _, _, _, _, _, h => by simp [D.alike] at h
  | .tup _, .str _, _, _, _, _, h => by simp [D.alike] at h
  | .tup _, .lst _, _, _, _, _, h => by simp [D.alike] at h
  | .tup _, .scr _, _, _, _, _, h => by simp [D.alike] at h
  | .tup _, .dK _, _, _, _, _, h => by simp [D.alike] at h
  | .tup _, .dT _, _, _, _, _, h => by simp [D.alike] at h
  | .tup _, .obj _ _, _, _, _, _, h => by simp [D.alike] at h
  | .tup _, .exc _, _, _, _, _, h => by simp [D.alike] at h
  | .lst _, .non, _, _, _, _, h => by simp [D.alike] at h
  | .lst _, .bl _, _, _, _, _, h => by simp [D.alike] at h
  | .lst _, .int _, _, _, _, _, h => by simp [D.alike] at h
  | .lst _, .str _, _, _, _, _, h => by simp [D.alike] at h
  | .lst _, .tup _, _, _, _, _, h => by simp [D.alike] at h
  | .lst _, .scr _, _, _, _, _, h => by simp [D.alike] at h
  | .lst _, .dK _, _, _, _, _, h => by simp [D.alike] at h
  | .lst _, .dT _, _, _, _, _, h => by simp [D.alike] at h
  | .lst _, .obj _ _, _, _, _, _, h => by simp [D.alike] at h
  | .lst _, .exc _, _, _, _, _, h => by simp [D.alike] at h
  | .scr _, _, _, _, _, _, h => by simp [D.alike] at h
  | .dK _, _, _, _, _, _, h => by simp [D.alike] at h
  | .dT _, _, _, _, _, _, h => by simp [D.alike] at h
  | .obj _ _, _, _, _, _, _, h => by simp [D.alike] at h
  | .exc _, _, _, _, _, _, h => by simp [D.alike] at h
theorem lts_py : ∀ (as bs : List D) (n m : Nat), D.okds n as = true → D.okds m bs = true → D.alikes as bs = true → PyProof.Rows.lexLt PyProof.Rows.itemOrd (PySem.W.keyToksAll (D.pys as)) (PySem.W.keyToksAll (D.pys bs)) = D.lts as bs
  | [], [], _, _, _, _, _ => by rw [D.lts]; exact PyProof.Rows.lex_irrefl _
  | [], b :: bs, _, _, _, _, _ => by
    rw [D.lts, D.pys, D.pys, PySem.W.keyToksAll, PySem.W.keyToksAll, PyProof.Rows.lex_diff (by decide)]
    rfl
  | a :: as, [], _, _, _, _, _ => by
    rw [D.lts, D.pys, D.pys, PySem.W.keyToksAll, PySem.W.keyToksAll, PyProof.Rows.lex_diff (by decide)]
    rfl
  | a :: as, b :: bs, n, m, h1, h2, h => by
    rw [D.okds, Bool.and_eq_true] at h1 h2
    rw [D.alikes, Bool.and_eq_true] at h
    have e1 := eqv_py n m a b h1.1 h2.1
    have al := alike_py a b n m h1.1 h2.1 h.1
    rw [D.lts, D.pys, D.pys]
    cases e : D.eqv a b with
    | true =>
      rw [e] at e1
      rw [PySem.W.dataLt_all_yes al e1, if_pos rfl]
      exact lts_py as bs n m h1.2 h2.2 h.2
    | false =>
      rw [e] at e1
      rw [PySem.W.dataLt_all_no al e1, if_neg Bool.false_ne_true]
      exact lt_py a b n m h1.1 h2.1 h.1
end
mutual
theorem alike_comm : ∀ (a b : D), D.alike a b = D.alike b a
  | .non, b => by cases b <;> rfl
  | .bl _, b => by cases b <;> rfl
  | .int _, b => by cases b <;> rfl
  | .str _, b => by cases b <;> rfl
  | .tup xs, b => by
    cases b with
    | tup ys => rw [D.alike, D.alike]; exact alikes_comm xs ys
    | _ => rfl
  | .lst xs, b => by
    cases b with
    | lst ys => rw [D.alike, D.alike]; exact alikes_comm xs ys
    | _ => rfl
  | .scr _, b => by cases b <;> rfl
  | .dK _, b => by cases b <;> rfl
  | .dT _, b => by cases b <;> rfl
  | .obj _ _, b => by cases b <;> rfl
  | .exc _, b => by cases b <;> rfl
theorem alikes_comm : ∀ (as bs : List D), D.alikes as bs = D.alikes bs as
  | [], [] => rfl
  | [], _ :: _ => rfl
  | _ :: _, [] => rfl
  | a :: as, b :: bs => by rw [D.alikes, D.alikes, alike_comm a b, alikes_comm as bs]
end
def Cop.py : Cop → CmpOp
  | .eq => .Eq | .ne => .NotEq | .lt => .Lt | .le => .LtE | .gt => .Gt | .ge => .GtE
  | .isN => .Is | .notN => .IsNot | .isB => .Is | .notB => .IsNot | .inn => .In | .nin => .NotIn
theorem inb_py : ∀ (n m : Nat) (x : D) (ys : List D), D.okd n x = true → D.okds m ys = true → (D.pys ys).any (fun z => PyData.eqv z x.py) = D.inb x ys
  | n, m, x, [], _, _ => rfl
  | n, m, x, y :: ys, h1, h2 => by
    rw [D.okds, Bool.and_eq_true] at h2
    rw [D.pys, List.any_cons, inb_py n m x ys h1 h2.2, eqv_py _ _ _ _ h2.1 h1]
    rfl
def rCmp [Wd] (K : PySem.W.Frag) (o : Cop) : R2 := fun x y H Q => ∃ B dx dy k, Same B H ∧ Rep1 K B H x dx ∧ Rep1 K B H y dy ∧ cmpop o dx dy = some k ∧ Q (.bl k) H
theorem deep64 {d : D} (h : D.okd DEEP d = true) : SeqAt.shaped d.py = true := by
  obtain ⟨h1, h2⟩ := canLay_of _ _ h
  unfold SeqAt.shaped
  rw [h1, Bool.true_and]
  exact decide_eq_true (Nat.le_trans h2 (by decide))
theorem one_sign {x : Str} (h : x.length = 1) : ∃ c, x = ⟨#[c]⟩ ∧ x.cps.toList.headD 0 = c := by
  obtain ⟨⟨l⟩⟩ := x
  match l, h with
  | [c], _ => exact ⟨c, rfl, rfl⟩
section
variable [Wd] {X : Cx}
theorem op_cmp (hP : X.prog = Wd.P) (hw : X.w = Wd.w) (hu' : X.A.units + 100 < cLine) (o : Cop) : OpR X (compareOp o.py) (rCmp X.K o) := by
  intro pins st σ H x y v u Q I rx ry h
  have hu : X.A.units + 64 < cLine := by omega
  obtain ⟨B, dx, dy, k, sm, r1, r2, e, q⟩ := h
  have f1 := r1.full sm
  have f2 := r2.full sm
  have hord : ordOk dx dy = true → dx.py ≠ .none → ∃ as bs, Reads st.heap v dx.py as ∧ Reads st.heap u dy.py bs ∧ PySem.W.alike dx.py dy.py = true ∧ X.A.units + min dx.py.depth dy.py.depth < cLine ∧ PySem.W.dataLt dx.py dy.py = D.lt dx dy ∧ PySem.W.dataLt dy.py dx.py = D.lt dy dx := fun h _ => by
    unfold ordOk at h
    simp only [Bool.and_eq_true] at h
    obtain ⟨⟨h1, h2⟩, h3⟩ := h
    obtain ⟨as, q1⟩ := Dp.reads I dx.py x v (dp_of _ _ _ h1 f1) rx
    obtain ⟨bs, q2⟩ := Dp.reads I dy.py y u (dp_of _ _ _ h2 f2) ry
    have d1 := (canLay_of _ _ h1).2
    refine ⟨as, bs, q1, q2, alike_py _ _ _ _ h1 h2 h3, ?_, lt_py _ _ _ _ h1 h2 h3, lt_py _ _ _ _ h2 h1 (by rw [alike_comm]; exact h3)⟩
    have : DEEP = 40 := rfl
    omega
  have hin : ∀ {ys : List D}, dy = .tup ys ∨ dy = .lst ys → D.flat dx = true → ys.all D.flat = true → ∃ p xs, y = .ref p ∧ (SqL X.K H p xs ∨ SqT X.K H p xs) ∧ flatV x = true ∧ xs.all flatV = true ∧ inV x xs = D.inb dx ys := by
    intro ys hy h1 h2
    rcases hy with rfl | rfl
    · obtain ⟨a, xs, rfl, ha, q2, _⟩ := r2.tup sm
      exact ⟨a, xs, rfl, .inr ha, flat_v h1 f1, flat_vs h2 q2, flat_in h1 f1 h2 q2⟩
    · obtain ⟨a, xs, rfl, ha, q2, _⟩ := r2.lst sm
      exact ⟨a, xs, rfl, .inl (SqL.of ha), flat_v h1 f1, flat_vs h2 q2, flat_in h1 f1 h2 q2⟩
  unfold cmpop at e
  split at e
  · split at e
    · rename_i hz
      rw [Bool.and_eq_true] at hz
      cases e
      exact op_eqD hu pins st σ H x y v u Q I rx ry ⟨_, _, dp_of _ _ _ hz.1 f1, dp_of _ _ _ hz.2 f2, deep64 hz.1, deep64 hz.2, by rw [eqv_py _ _ _ _ hz.1 hz.2]; exact q⟩
    · cases e
  · split at e
    · rename_i hz
      rw [Bool.and_eq_true] at hz
      cases e
      exact op_neD hu pins st σ H x y v u Q I rx ry ⟨_, _, dp_of _ _ _ hz.1 f1, dp_of _ _ _ hz.2 f2, deep64 hz.1, deep64 hz.2, by rw [eqv_py _ _ _ _ hz.1 hz.2]; exact q⟩
    · cases e
  · cases e; exact op_lt pins st σ H x y v u Q I rx ry ⟨_, _, r1.int, r2.int, q⟩
  · cases e; exact op_le pins st σ H x y v u Q I rx ry ⟨_, _, r1.int, r2.int, q⟩
  · cases e; exact op_gt pins st σ H x y v u Q I rx ry ⟨_, _, r1.int, r2.int, q⟩
  · cases e; exact op_ge pins st σ H x y v u Q I rx ry ⟨_, _, r1.int, r2.int, q⟩
  · split at e
    · rename_i hz
      cases e
      obtain ⟨as, bs, q1, q2, q3, q4, q5, q6⟩ := hord hz (fun z => nomatch z)
      exact PySem.W.lt_data q1 q2 q3 (fun z => nomatch z) q4 ⟨.bl _, H, I, rfl, by rw [q5]; exact q⟩
    · cases e
  · split at e
    · rename_i hz
      cases e
      obtain ⟨as, bs, q1, q2, q3, q4, q5, q6⟩ := hord hz (fun z => nomatch z)
      exact PySem.W.gt_data q1 q2 q3 (fun z => nomatch z) q4 ⟨.bl _, H, I, rfl, by rw [q6]; exact q⟩
    · cases e
  · split at e
    · rename_i hz
      cases e
      obtain ⟨as, bs, q1, q2, q3, q4, q5, q6⟩ := hord hz (fun z => nomatch z)
      exact PySem.W.le_data q1 q2 q3 (fun z => nomatch z) q4 ⟨.bl _, H, I, rfl, by rw [q6]; exact q⟩
    · cases e
  · split at e
    · rename_i hz
      cases e
      obtain ⟨as, bs, q1, q2, q3, q4, q5, q6⟩ := hord hz (fun z => nomatch z)
      exact PySem.W.ge_data q1 q2 q3 (fun z => nomatch z) q4 ⟨.bl _, H, I, rfl, by rw [q5]; exact q⟩
    · cases e
  · cases e; exact op_isN pins st σ H x y v u Q I rx ry ⟨r2.non, by rw [r1.non]; exact q⟩
  · rename_i hne
    cases e
    refine op_isN pins st σ H x y v u Q I rx ry ⟨r2.non, ?_⟩
    rw [decide_eq_false]
    · exact q
    · intro z
      subst z
      cases r1 with
      | fro r => cases r; exact hne rfl
  · cases e; exact op_notN pins st σ H x y v u Q I rx ry ⟨r2.non, by rw [r1.non]; exact q⟩
  · rename_i hne
    cases e
    refine op_notN pins st σ H x y v u Q I rx ry ⟨r2.non, ?_⟩
    rw [decide_eq_false]
    · exact q
    · intro z
      subst z
      cases r1 with
      | fro r => cases r; exact hne rfl
  · cases e; exact op_is_bl pins st σ H x y v u Q I rx ry ⟨_, _, r1.bl, r2.bl, by rw [← Bool.beq_eq_decide_eq]; exact q⟩
  · cases e; exact op_isnot_bl pins st σ H x y v u Q I rx ry ⟨_, _, r1.bl, r2.bl, by rw [← Bool.beq_eq_decide_eq]; exact q⟩
  · split at e
    · rename_i hz
      cases e
      obtain ⟨c, hc, hd⟩ := one_sign hz
      rw [hd] at q
      exact op_in_sign pins st σ H x y v u Q I rx ry ⟨c, _, by rw [r1.str, hc], r2.str, q⟩
    · cases e
  · split at e
    · rename_i hz
      cases e
      obtain ⟨c, hc, hd⟩ := one_sign hz
      rw [hd] at q
      exact op_notIn_sign pins st σ H x y v u Q I rx ry ⟨c, _, by rw [r1.str, hc], r2.str, q⟩
    · cases e
  · split at e
    · rename_i hz
      rw [Bool.and_eq_true] at hz
      cases e
      obtain ⟨p, xs, h1, h2, h3, h4, h5⟩ := hin (.inl rfl) hz.1 hz.2
      exact op_in_seq pins st σ H x y v u Q I rx ry ⟨p, xs, h1, h2, h3, h4, by rw [h5]; exact q⟩
    · cases e
  · split at e
    · rename_i hz
      rw [Bool.and_eq_true] at hz
      cases e
      obtain ⟨p, xs, h1, h2, h3, h4, h5⟩ := hin (.inr rfl) hz.1 hz.2
      exact op_in_seq pins st σ H x y v u Q I rx ry ⟨p, xs, h1, h2, h3, h4, by rw [h5]; exact q⟩
    · split at e
      · rename_i hz
        rw [Bool.and_eq_true] at hz
        cases e
        have hys := hz.2
        rw [show DEEP = 39 + 1 from rfl, D.okd] at hys
        exact op_inD (by omega) pins st σ H x y v u Q I rx ry ⟨_, _, dp_of _ _ _ hz.1 f1, dp_of _ _ _ hz.2 f2, deep64 hz.1, deep64 hz.2, by rw [inb_py _ _ _ _ hz.1 hys]; exact q⟩
      · cases e
  · obtain ⟨o, e1, e2⟩ := map_some e
    subst e2
    exact dic_in (by omega) hP hw I sm r2 r1 ry rx e1 fun s' I' => ⟨.bl _, H, I', rfl, q⟩
  · obtain ⟨o, e1, e2⟩ := map_some e
    subst e2
    exact dic_in (by omega) hP hw I sm r2 r1 ry rx e1 fun s' I' => ⟨.bl _, H, I', rfl, q⟩
  · obtain ⟨o, e1, e2⟩ := map_some e
    subst e2
    exact dic_notIn (by omega) hP hw I sm r2 r1 ry rx e1 fun s' I' => ⟨.bl _, H, I', rfl, q⟩
  · obtain ⟨o, e1, e2⟩ := map_some e
    subst e2
    exact dic_notIn (by omega) hP hw I sm r2 r1 ry rx e1 fun s' I' => ⟨.bl _, H, I', rfl, q⟩
  · split at e
    · rename_i hz
      rw [Bool.and_eq_true] at hz
      cases e
      obtain ⟨p, xs, h1, h2, h3, h4, h5⟩ := hin (.inl rfl) hz.1 hz.2
      exact op_notIn_seq pins st σ H x y v u Q I rx ry ⟨p, xs, h1, h2, h3, h4, by rw [h5]; exact q⟩
    · cases e
  · split at e
    · rename_i hz
      rw [Bool.and_eq_true] at hz
      cases e
      obtain ⟨p, xs, h1, h2, h3, h4, h5⟩ := hin (.inr rfl) hz.1 hz.2
      exact op_notIn_seq pins st σ H x y v u Q I rx ry ⟨p, xs, h1, h2, h3, h4, by rw [h5]; exact q⟩
    · split at e
      · rename_i hz
        rw [Bool.and_eq_true] at hz
        cases e
        have hys := hz.2
        rw [show DEEP = 39 + 1 from rfl, D.okd] at hys
        exact op_notInD (by omega) pins st σ H x y v u Q I rx ry ⟨_, _, dp_of _ _ _ hz.1 f1, dp_of _ _ _ hz.2 f2, deep64 hz.1, deep64 hz.2, by rw [inb_py _ _ _ _ hz.1 hys]; exact q⟩
      · cases e
  · cases e
end

/-! ### subscripts -/
theorem ixN_eq (n : Nat) (i : Int) : ML.ixN n i = L2.ixN n i := rfl
theorem sIx_eq (n d : Nat) (o : Option Int) : ML.sIx n d o = HT.sIx n d o := by cases o <;> rfl
def rIdx [Wd] (K : PySem.W.Frag) : R2 := fun x y H Q => ∃ B dx dy d, Same B H ∧ Rep1 K B H x dx ∧ Rep1 K B H y dy ∧ idxop dx dy = some d ∧ ∀ v, Rep K B v d → Q v H
section
variable [Wd] {X : Cx}
/-- a subscript of a dict -/
theorem ix_dic (hP : X.prog = Wd.P) (hw : X.w = Wd.w) (hu : X.A.units + 1 < cLine) {value slice : Expr} {pins : List (Addr × Obj)} {s : Shared} {σ : L2.St} {B H : Hp} {x y : V} {v u : Value} {Q : VK} {dx dy d : D} (I : L2.Inv X pins σ H s) (sm : Same B H) (r1 : Rep1 X.K B H x dx) (r2 : Rep1 X.K B H y dy)
    (rx : RelV x v) (ry : RelV y u) (e : dget dx dy = some (some d)) (hs : subscripted slice false v u = operate [v, u] (getItem v u)) (k : ∀ v, Rep X.K B v d → Q v H) : wpAny (model X.prog X.w) X.A (PyProof.Rows.subscriptTail value slice v u) (EP X pins σ Q) X.xe s := by
  have look : ∀ {R : Value → Shared → Prop}, (∀ z s', EP X pins σ Q z s' → R z s') → s.TypeIs v "dict" ∧ wpAny (model X.prog X.w) X.A (getItem v u) R X.xe s := fun {R} hR =>
    dic_getItem hu hP hw I sm r1 r2 rx ry e fun w z s' I' rz pz => hR z s' ⟨w, H, I', rz, k w pz⟩
  have ty : s.TypeIs v "dict" := (look (R := fun _ _ => True) fun _ _ _ => trivial).1
  unfold PyProof.Rows.subscriptTail
  refine wpAny_bind ?_
  rw [getitemInPython_of_ne ty.not_modules]
  refine wpAny_bind (wpAny_specialOf ty PySem.F.slot_dict_getitem.lookup ?_)
  have rest : wpAny (model X.prog X.w) X.A (subscripted slice false v u) (fun r s3 => wpAny (model X.prog X.w) X.A (letTemporaryGo value v r >>= fun _ => pure r) (EP X pins σ Q) X.xe s3) X.xe s := by
    rw [hs]
    have fin := (look (R := fun r s3 => wpAny (model X.prog X.w) X.A (letTemporaryGo value v r >>= fun _ => pure r) (EP X pins σ Q) X.xe s3) fun z s' hz => wpAny_bind (wpAny_letTemporaryGo (wpAny_pure hz))).2
    exact wpAny_operating fin
  first
    | exact wpAny_pure (wpAny_bind rest)
    | exact wpAny_bind (wpAny_pure (wpAny_bind rest))
    | exact wpAny_bind rest
theorem ix_idx (hP : X.prog = Wd.P) (hw : X.w = Wd.w) (hu : X.A.units + 1 < cLine) : IxR X (rIdx X.K) := by
  intro value slice pins st σ H x y v u Q I rx ry h hs
  obtain ⟨B, dx, dy, d, sm, r1, r2, e, k⟩ := h
  unfold idxop at e
  split at e
  · obtain ⟨a, xs, rfl, ha, q1, l1⟩ := r1.tup sm
    obtain ⟨j, h1, h2⟩ := bind_some e
    obtain ⟨w, g1, g2⟩ := q1.get h2
    refine ix_seq value slice pins st σ H _ y v u Q I rx ry (.inr (.inl ⟨a, xs, _, w, rfl, r2.int, ha, ?_, k _ g2⟩)) hs
    unfold atI
    rw [q1.length, ← ixN_eq, h1]
    exact g1
  · obtain ⟨a, xs, rfl, ha, q1, l1⟩ := r1.lst sm
    obtain ⟨j, h1, h2⟩ := bind_some e
    obtain ⟨w, g1, g2⟩ := q1.get h2
    refine ix_seq value slice pins st σ H _ y v u Q I rx ry (.inl ⟨a, xs, _, w, rfl, r2.int, SqL.of ha, ?_, k _ g2⟩) hs
    unfold atI
    rw [q1.length, ← ixN_eq, h1]
    exact g1
  · obtain ⟨a, rfl, ha, l1⟩ := r1.scr sm
    obtain ⟨j, h1, h2⟩ := bind_some e
    obtain ⟨w, g1, g2⟩ := map_some h2
    subst g2
    refine ix_seq value slice pins st σ H _ y v u Q I rx ry (.inl ⟨a, _, _, .int w, rfl, r2.int, ha, ?_, k _ (.int w)⟩) hs
    unfold atI
    rw [List.length_map, ← ixN_eq, h1]
    show (List.map V.int _)[j]? = _
    rw [List.getElem?_map, g1]
    rfl
  · split at e
    · rename_i hz
      obtain ⟨j, h1, h2⟩ := bind_some e
      obtain ⟨w, g1, g2⟩ := map_some h2
      subst g2
      refine ix_seq value slice pins st σ H x y v u Q I rx ry (.inr (.inr ⟨_, _, w, r1.str, r2.int, by rw [← line_eq]; exact hz, ?_, k _ (.str _)⟩)) hs
      unfold atI
      rw [show ∀ z : Str, z.cps.toList.length = z.length from fun _ => rfl, ← ixN_eq, h1]
      exact g1
    · cases e
  · obtain ⟨o, e1, e2⟩ := bind_some e
    subst e2
    exact ix_dic hP hw hu I sm r1 r2 rx ry e1 hs k
  · obtain ⟨o, e1, e2⟩ := bind_some e
    subst e2
    exact ix_dic hP hw hu I sm r1 r2 rx ry e1 hs k
  · cases e
theorem cut_eq {α : Type} (xs : List α) (lo hi : Option Int) : cut xs lo hi = (xs.drop (HT.sIx xs.length 0 lo)).take (HT.sIx xs.length xs.length hi - HT.sIx xs.length 0 lo) := by
  unfold cut
  rw [sIx_eq, sIx_eq]
theorem cut_length {α : Type} (xs : List α) (lo hi : Option Int) : (cut xs lo hi).length ≤ xs.length := by
  unfold cut
  rw [List.length_take, List.length_drop]
  omega
theorem Reps.cut [Wd] {K : PySem.W.Frag} {H : Hp} {vs : List V} {ds : List D} (lo hi : Option Int) (r : Reps K H vs ds) : Reps K H (cutV vs lo hi) (ML.cut ds lo hi) := by
  rw [cut_eq]
  unfold cutV
  rw [r.length]
  exact (r.drop _).take _
def rSli [Wd] (K : PySem.W.Frag) : V → Option Int → Option Int → Hp → VK → Prop := fun x lo hi H Q => ∃ B dx s, Same B H ∧ Rep1 K B H x dx ∧ sliop dx lo hi = some s ∧ ∀ v H' B', New K B H s v H' B' → Q v H'
theorem sl_sli : SlR X (rSli X.K) := by
  intro pins st σ H x v vl vu lo hi sl Q I rx hs pl pu h
  obtain ⟨B, dx, s, sm, r1, e, k⟩ := h
  unfold sliop at e
  split at e
  · cases e
    obtain ⟨a, xs, rfl, ha, q1, l1⟩ := r1.tup sm
    refine sl_tupA pins st σ H _ v vl vu lo hi sl Q I rx hs pl pu ⟨a, xs, rfl, ha, fun z => ?_, fun z p hp => ?_⟩
    · refine k _ _ _ (.old ?_)
      have e2 := sqT_sub r1 rfl
      rw [cut_eq, ← q1.length, z.1, z.2, Nat.sub_zero, List.drop_zero, List.take_of_length_le (by rw [q1.length]; exact Nat.le_refl _)]
      exact e2
    · exact k _ _ _ (newTup sm hp (q1.cut lo hi) (Nat.le_trans (cut_length _ _ _) l1))
  · cases e
    obtain ⟨a, xs, rfl, ha, q1, l1⟩ := r1.lst sm
    exact sl_list pins st σ H _ v vl vu lo hi sl Q I rx hs pl pu ⟨a, xs, rfl, SqL.of ha, fun p hp => k _ _ _ (.own hp (q1.cut lo hi) (Nat.le_trans (cut_length _ _ _) l1))⟩
  · split at e
    · rename_i hz
      cases e
      have q := k _ _ _ (.old (.str _))
      refine sl_str pins st σ H x v vl vu lo hi sl Q I rx hs pl pu ⟨_, r1.str, by rw [← line_eq]; exact hz, ?_⟩
      unfold cutS
      rw [cut_eq] at q
      exact q
    · cases e
  · cases e
end
end ML
set_option Elab.async false
set_option linter.all false
set_option autoImplicit false
set_option maxRecDepth 100000
set_option maxHeartbeats 4000000
/-! MLsrt: sorted(t) of a tuple of ints. -/
namespace ML
open PySem L2 PyProof.Rows
section
variable {prog : Program} {w : World} {A : Around} {E : Value → Shared → Prop} {s : Shared}
/-- what is collected out of a tuple is sorted as a list of its own -/
theorem sorted_of_tup {t : Addr} {vs : List Value} {ltv : Value → Value → Bool} {Q : Value → Shared → Prop} (O : SrtO.Swo ltv) (ht : IsTup s.heap t vs.toArray) (hz : vs.length ≤ sizeLine)
    (hS : 2 ≤ vs.length → ∀ (h₁ : Heap) (a : Addr), h₁.get? a = some (seqObj "list" vs.toArray 0) → (∀ b o, s.heap.get? b = some o → b ≠ a ∧ h₁.get? b = some o) → SrtO.SortableO prog w A.in1.in1 { s with heap := h₁ } a vs ltv)
    (h : ∀ (h' : Heap) (out : List Value), (∀ b o, s.heap.get? b = some o → h'.get? b = some o) → SrtO.Srtd ltv out → SrtO.Stb ltv out vs → Q (.ref h'.objs.size) { s with heap := sortedHeap (h'.push (seqObj "list" vs.toArray 0)) h'.objs.size vs out.toArray }) :
    wpAny (model prog w) A (call (.builtin "sorted") [.ref t]) Q E s := by
  obtain ⟨o, ho, hc, n, hd⟩ := id ht
  apply Calls.call_function_entry kind_sorted plain_sorted entry_sorted (args_sorted1 _)
  show wpAny _ _ (Builtin.«sorted» ⟨[.ref t], []⟩) _ _ s
  unfold Builtin.«sorted»
  apply wpAny_bind (m := checkCount "sorted" 1 1 _)
  refine wpAny_pure (wpAny_bind (wpAny_collect_seq t (.inr rfl) ho hc hd (fun h' k => ?_) (by rw [List.size_toArray]; exact hz)))
  rw [show vs.toArray.toList = vs by simp]
  refine wpAny_bind (wpAny_newList ?_ hz)
  have at_ : (h'.push (seqObj "list" vs.toArray 0)).get? h'.objs.size = some (seqObj "list" vs.toArray 0) := Heap.get?_push_size _ rfl
  have old : ∀ b u, s.heap.get? b = some u → b ≠ h'.objs.size ∧ (h'.push (seqObj "list" vs.toArray 0)).get? b = some u := fun b u e =>
    ⟨Nat.ne_of_lt (Heap.lt_size (k b u e)), Heap.get?_push_of_some _ (k b u e)⟩
  show wpAny _ _ _ _ _ { s with heap := h'.push (seqObj "list" vs.toArray 0) }
  exact wpAny_bind (wpAny_holding (wpAny_call_entry slot_list_sort ⟨_, at_, rfl⟩ entry_list_sort (SrtO.list_sort_ord O at_ hz (fun h2 => hS h2 _ _ at_ old) fun out g1 g2 => ⟨_, rfl, wpAny_pure ⟨_, rfl, h h' out k g1 g2⟩⟩) (args_list_sort _)))
end
def rSortedIT [Wd] (K : PySem.W.Frag) : List V → Hp → VK → Prop := fun vs H Q => ∃ (a : Addr) (ns : List Int), vs = [V.ref a] ∧ SqT K H a (ns.map V.int) ∧
  ∀ (ns' : List Int) (p : Addr), ns'.Perm ns → ns'.Pairwise (· ≤ ·) → H p = none → Q (.ref p) (upd H p (.lst (ns'.map V.int)))
theorem cr_sortedIT [Wd] {X : Cx} : CallR X (.builtin "sorted") (rSortedIT X.K) := by
  intro pins s σ H vs us Q I r h
  obtain ⟨a, ns, rfl, hs, q⟩ := h
  obtain ⟨its, rv, hl, hz⟩ := I.tuple hs
  rw [Vals.ref1 r]
  have hi := rv.ints
  refine sorted_of_tup SrtO.swo_int hl (by rw [← rv.length]; exact hz) (fun h2 h₁ a' _ _ => SrtO.ints_sortable hi h2) fun h' out k g1 g2 => ?_
  obtain ⟨k1, k2, k3⟩ := SrtO.ints_out hi g1 g2
  have I1 : L2.Inv X pins σ H { s with heap := h' } := I.kept (t' := s.toks) k
  obtain ⟨ep, he⟩ := sortedHeap_at (h := h'.push (seqObj "list" its.toArray 0)) (a := h'.objs.size) (vs := its) (n := 0) (out := out.toArray) (Heap.get?_push_size _ rfl)
  have len : ((out.map SrtO.iv).map V.int).length ≤ sizeLine := by
    rw [List.length_map, k2.length_eq]
    rwa [List.length_map] at hz
  have old : ∀ b u, h'.get? b = some u → (sortedHeap (h'.push (seqObj "list" its.toArray 0)) h'.objs.size its out.toArray).get? b = some u := fun b u e => by
    rw [sortedHeap_old (Nat.ne_of_lt (Heap.lt_size e)) (Nat.lt_of_lt_of_le (Heap.lt_size e) (by rw [size_push']; exact Nat.le_succ _))]
    exact Heap.get?_push_of_some _ e
  exact ⟨.ref h'.objs.size, upd H h'.objs.size (.lst ((out.map SrtO.iv).map V.int)), I1.laid (t' := s.toks) old (Nat.le_refl _) ⟨len, out, ep, vals_of_ints k1, he⟩, rfl, q _ _ k2 k3 (I1.hok.fresh (Nat.le_refl _))⟩
end ML
set_option Elab.async false
set_option linter.all false
set_option autoImplicit false
set_option maxRecDepth 100000
set_option maxHeartbeats 4000000
/-! MLvoid: lists of empty tuples in order, and lists of one item. -/
namespace ML
open PySem L2 PySem.W PyProof.Rows PySem.SeqAt
section
variable {prog : Program} {w : World} {A : Around} {s : Shared} {h : Heap}
/-- one item at most: nothing is compared -/
theorem sorts_few {vs : List Value} {ds : List PyData} (e : EachIs (fun v d => ∃ as, Reads s.heap v d as) vs ds) (hal : AllAlike ds) (hn : ∀ d ∈ ds, d ≠ .none) (hu : ∀ d ∈ ds, A.units + d.depth < cLine) (hl : vs.length < 2) :
    SortsAt prog w A s (dataKind s.heap ds) vs := by
  refine ⟨fun v hv => ?_, general', ?_, fun h2 => absurd h2 (by omega)⟩
  · obtain ⟨d, hd, as, r⟩ := e.left v hv
    exact ⟨_, dataKind_some hal hd r⟩
  · intro E x y a b Q ha hb hq
    obtain ⟨d, as, hd, ra, rfl⟩ := dataKind_inv ha
    obtain ⟨d', as', hd', rb, rfl⟩ := dataKind_inv hb
    exact oneLt_alike (f := false) (fun z => nomatch z) ra rb (hal d hd d' hd') (hn d hd) (Nat.lt_of_le_of_lt (Nat.add_le_add_left (Nat.min_le_left _ _) _) (hu d hd)) hq
theorem void_of {v : Value} {as : List Addr} (r : Reads h v (.tuple []) as) : ∃ a n dd sl, v = .ref a ∧ h.get? a = some { cls := .type "tuple", dict := dd, data := .seq #[] n, slots := sl } := by
  cases r with
  | @tuple a o xs n _ _ h1 h2 h3 h4 =>
    obtain ⟨cls, dd, data, sl⟩ := o
    simp only at h2 h3
    subst h2 h3
    have : xs = #[] := by
      cases q : xs.toList with
      | nil => exact Array.toList_inj.mp q
      | cons y ys =>
        rw [q] at h4
        cases h4
    subst this
    exact ⟨a, n, dd, sl, rfl, h1⟩
theorem void_lt {E : Value → Shared → Prop} {x y : Value} {as bs : List Addr} {Q : Bool → Shared → Prop} (rx : Reads s.heap x (.tuple []) as) (ry : Reads s.heap y (.tuple []) bs) (hu : A.units < cLine) (hq : Q false s) :
    wpAny (model prog w) A (oneLt' true x y) Q E s := by
  obtain ⟨a, n, dd, sl, rfl, ha⟩ := void_of rx
  obtain ⟨b, n', dd', sl', rfl, hb⟩ := void_of ry
  rw [oneLt'_eq]
  simp only [if_true]
  refine wpAny_bind (wpAny_cRoomFor hu ?_)
  refine wpAny_bind (wpAny_callSpecialIfBound?_slot (T := "tuple") ⟨_, ha, rfl⟩ F.slot_tuple_lt (call_meets F.slot_tuple_lt ⟨_, ha, rfl⟩ F.entry_tuple_lt (F.args_tuple_lt_2 _ _)
    (tuple_ltAt a b #[] #[] n n' dd dd' sl sl' (fun _ => false) (fun _ => false)) ⟨ha, hb, fun j h1 => absurd h1 (by simp), fun j h1 => absurd h1 (by simp), ?_⟩))
  exact wpAny_truthy_bool hq
theorem void_first {M : Model} {E : Value → Shared → Prop} {v : Value} {as : List Addr} {Q : Option Value → Shared → Prop} (r : Reads s.heap v (.tuple []) as) (hq : Q none s) : wpAny M A (firstOfTuple' v) Q E s := by
  have lk := looks_reads (M := M) r
  obtain ⟨a, n, dd, sl, rfl, ha⟩ := void_of r
  rw [kas_first_eq]
  refine wpAny_bind (lk.here ?_)
  rw [if_neg (by decide)]
  refine wpAny_bind (listItems_at ha rfl ?_)
  exact wpAny_pure hq
theorem void_kind {M : Model} {E : Value → Shared → Prop} {vs : List Value} {Q : SortKind → Shared → Prop} (h2 : 2 ≤ vs.length) (hv : ∀ v ∈ vs, ∃ as, Reads s.heap v (.tuple []) as) (hq : Q oneType' s) : wpAny M A (keyKind' vs.toArray) Q E s := by
  obtain ⟨v, v', rest, rfl⟩ : ∃ v v' rest, vs = v :: v' :: rest := by
    cases vs with
    | nil => exact absurd h2 (by simp)
    | cons a t =>
      cases t with
      | nil => exact absurd h2 (by simp)
      | cons b t => exact ⟨a, b, t, rfl⟩
  rw [kat_kind_eq, List.mapM_toArray, map_eq_pure_bind]
  refine wpAny_bind (wpAny_bind (kas_mapM (r := none) _ (fun u hu R hR => ?_) (wpAny_pure ?_)))
  · obtain ⟨as, r⟩ := hv u hu
    exact void_first r hR
  · rw [if_neg (by simp), if_neg (by simp), oneTypeOnly'_eq, List.mapM_toArray, map_eq_pure_bind]
    refine wpAny_bind (wpAny_bind (wpAny_bind (kas_mapM (r := Value.type "tuple") _ (fun u hu R hR => ?_) (wpAny_pure ?_))))
    · obtain ⟨as, r⟩ := hv u hu
      exact (looks_reads r).here hR
    · have each : ((List.map (fun _ => Value.type "tuple") (v :: v' :: rest)).toArray.all fun x => x == Value.type "tuple") = true := by
        rw [List.all_toArray, List.all_map, List.all_eq_true]
        exact fun _ _ => show (Value.type "tuple" == Value.type "tuple") = true from beq_self_eq_true _
      have first : (List.map (fun _ => Value.type "tuple") (v :: v' :: rest)).toArray[0]? = some (Value.type "tuple") := by simp
      rw [first]
      simp only [each, if_true]
      exact wpAny_pure (wpAny_pure hq)
/-- empty tuples, as many as there are -/
theorem sorts_void {vs : List Value} {ds : List PyData} (e : EachIs (fun v d => ∃ as, Reads s.heap v d as) vs ds) (hn : ∀ d ∈ ds, d = .tuple []) (hu : A.units < cLine) : SortsAt prog w A s (dataKind s.heap ds) vs := by
  have hal : AllAlike ds := fun d hd d' hd' => by rw [hn d hd, hn d' hd']; rfl
  refine ⟨fun v hv => ?_, oneType', ?_, fun h2 E Q hq => ?_⟩
  · obtain ⟨d, hd, as, r⟩ := e.left v hv
    exact ⟨_, dataKind_some hal hd r⟩
  · intro E x y a b Q ha hb hq
    obtain ⟨d, as, hd, ra, rfl⟩ := dataKind_inv ha
    obtain ⟨d', as', hd', rb, rfl⟩ := dataKind_inv hb
    have e1 := hn d hd
    have e2 := hn d' hd'
    subst e1 e2
    rw [keyLt'_oneType]
    exact void_lt ra rb hu hq
  · refine void_kind h2 (fun v hv => ?_) hq
    obtain ⟨d, hd, as, r⟩ := e.left v hv
    exact ⟨as, hn d hd ▸ r⟩
/-- sorted(xs), xs a list of empty tuples -/
theorem sorted_void {β : Type} {l : Addr} {vs : List Value} {bs : List β} {enc : β → PyData} {R : Value → β → Prop} {E Q : Value → Shared → Prop} (hl : s.heap.IsList l vs.toArray) (e : EachIs R vs bs) (er : EachIs (fun v b => ∃ as, Reads s.heap v (enc b) as) vs bs)
    (hn : ∀ b ∈ bs, enc b = .tuple []) (hL : bs.length ≤ sizeLine) (hu : A.units + 64 < cLine)
    (k : ∀ out, out.length = bs.length → EachIs R out (bs.mergeSort (dataLe false enc)) → Q (.ref (s.heap.objs.size + 1)) { s with heap := sortedAll s.heap vs (List.toArray out) }) :
    wpAny (model prog w) A (call (.builtin "sorted") [.ref l]) Q E s := by
  have hn' : ∀ d ∈ bs.map enc, d = .tuple [] := fun d hd => by
    obtain ⟨b, hb, rfl⟩ := List.mem_map.mp hd
    exact hn b hb
  have hal : AllAlike (bs.map enc) := fun d hd d' hd' => by rw [hn' d hd, hn' d' hd']; rfl
  have er' : EachIs (fun v b => ∃ as, Reads (sortingHeap (copyHeap s.heap vs) (s.heap.objs.size + 1) vs) v (enc b) as) vs bs := er.mono fun _ _ ⟨as, r⟩ => ⟨as, PyProof.Rows.Reads.keeps (fun _ _ q => sorting_copy_old q) r⟩
  have room : A.in1.in1.units < cLine := by
    show A.units + 1 + 1 < cLine
    omega
  have S := sorts_void (prog := prog) (w := w) (s := { s with heap := sortingHeap (copyHeap s.heap vs) (s.heap.objs.size + 1) vs })
    (each_map (R := fun v d => ∃ as, Reads (sortingHeap (copyHeap s.heap vs) (s.heap.objs.size + 1) vs) v d as) enc er') hn' room
  exact sorted_vals hl S (by rw [e.length]; exact hL) (k _ (by rw [sortVals_length false rfl]; exact e.length) (sortVals_data false e er' hal))
end
section
variable {P : Program} {w : World} {A : Around} {s : Shared}
theorem each_self {α : Type} : ∀ l : List α, EachIs (fun x y => x = y) l l
  | [] => .nil
  | x :: l => .cons rfl (each_self l)
theorem each_eq {α : Type} : ∀ {l m : List α}, EachIs (fun x y => x = y) l m → l = m
  | _, _, .nil => rfl
  | _, _, .cons h t => by rw [h, each_eq t]
theorem isT_reads {h : Heap} {b : Addr} (x : IsT P w h [] b) : ∃ as, Reads h (.ref b) (.tuple []) as := by
  obtain ⟨o, its, n, h1, h2, h3, h4⟩ := x
  have e : its.toList = [] := by
    cases q : its.toList with
    | nil => rfl
    | cons y ys =>
      rw [q] at h4
      cases h4
  exact ⟨[], .tuple h1 h2 h3 (by rw [e]; exact .nil)⟩
/-- sorted(set), the set of the empty tuple or of nothing -/
theorem sorted_setV {a : Addr} {L : List (Addr × List Int)} {es : Array (Int × Value)} {ep : Nat} {t : SetTable} {E Q : Value → Shared → Prop} (R : SetTR P w s.heap a L es ep t) (hh : A.handled = none) (hu : A.units + 64 < cLine) (hV : ∀ p ∈ L, p.2 = [])
    (k : ∀ s' p c, (∀ b o, s.heap.get? b = some o → s'.heap.get? b = some o) → s'.gens = s.gens → s'.os = s.os → s.heap.objs.size ≤ p → s'.heap.get? p = some (seqObj "list" (L.map fun q => Value.ref q.1).toArray c) → Q (.ref p) s') :
    wpAny (model P w) A (call (.builtin "sorted") [.ref a]) Q E s := by
  have few : L.length ≤ 1 := by
    have nd := R.nd
    cases L with
    | nil => exact Nat.zero_le _
    | cons p L =>
      cases L with
      | nil => exact Nat.le_refl _
      | cons q L =>
        rw [List.map_cons, List.map_cons, hV p List.mem_cons_self, hV q (List.mem_cons_of_mem _ List.mem_cons_self)] at nd
        exact absurd List.mem_cons_self (List.nodup_cons.mp nd).1
  obtain ⟨o, ho, hex, hd⟩ := R.ob
  have size := R.size
  refine Calls.call_function_entry kind_sorted plain_sorted entry_sorted (args_sorted1 _) ?_
  unfold Builtin.«sorted»
  refine wpAny_bind (m := checkCount "sorted" 1 1 _) (wpAny_pure ?_)
  refine wpAny_bind (collect_set (A := A.in1) hh ⟨o, ho, hex.1, hd⟩ R.fits (by unfold scanBound; omega) R.tab.ris R.led fun s1 vs k1 z1 g1 o1 pm => ?_)
  have rows : es.toList.map (·.2) = L.map fun q => Value.ref q.1 := by
    rw [R.rows, L2.rowsOf, List.map_map]
    rfl
  rw [rows] at pm
  have ev : vs = L.map fun q => Value.ref q.1 := by
    cases L with
    | nil => exact pm.eq_nil
    | cons p L =>
      cases L with
      | nil => exact List.perm_singleton.mp pm
      | cons q L => exact absurd few (by simp)
  have vl : vs.length ≤ 1 := by rw [ev, List.length_map]; exact few
  refine wpAny_bind (wpAny_newList ?_ (by rw [sizeLine_eq]; omega))
  have new : (s1.heap.push (seqObj "list" vs.toArray 0)).get? s1.heap.objs.size = some (seqObj "list" vs.toArray 0) := Heap.get?_push_size _ rfl
  have rd : ∀ v ∈ vs, ∃ as, Reads (sortingHeap (s1.heap.push (seqObj "list" vs.toArray 0)) s1.heap.objs.size vs) v (.tuple []) as := fun v hv => by
    rw [ev] at hv
    obtain ⟨q, hq, rfl⟩ := List.mem_map.mp hv
    have it := R.tup q hq
    rw [hV q hq] at it
    refine isT_reads (P := P) (w := w) (isT_keep it fun b u e => ?_)
    have e1 := k1 b u e
    exact sortingHeap_old (Nat.ne_of_lt (Heap.lt_size e1)) (Heap.get?_push_of_some _ e1)
  have er : EachIs (fun v (b : Value) => ∃ as, Reads (sortingHeap (s1.heap.push (seqObj "list" vs.toArray 0)) s1.heap.objs.size vs) v ((fun _ => PyData.tuple []) b) as) vs vs :=
    (each_mem (each_self vs)).mono fun v b (q : v = b ∧ b ∈ vs) => rd v (by rw [q.1]; exact q.2)
  have room : A.in1.in1.in1.units < cLine := by
    show A.units + 1 + 1 + 1 < cLine
    omega
  have hn : ∀ d ∈ vs.map (fun _ => PyData.tuple []), d = .tuple [] := fun d hd => by
    obtain ⟨_, _, rfl⟩ := List.mem_map.mp hd
    rfl
  have S := sorts_void (prog := P) (w := w) (A := A.in1.in1) (s := { s1 with heap := sortingHeap (s1.heap.push (seqObj "list" vs.toArray 0)) s1.heap.objs.size vs }) (each_map (fun _ => PyData.tuple []) er) hn (by show A.units + 1 + 1 < cLine; omega)
  have out : sortVals (dataKind (sortingHeap (s1.heap.push (seqObj "list" vs.toArray 0)) s1.heap.objs.size vs) (vs.map fun _ => PyData.tuple [])) false vs vs = vs := by
    have q := each_eq (sortVals_data false (each_self vs) er fun d hd d' hd' => by rw [hn d hd, hn d' hd']; rfl)
    rw [q]
    match vs, vl with
    | [], _ => simp
    | [_], _ => simp
  refine wpAny_bind (wpAny_holding (wpAny_call_entry slot_list_sort ⟨_, new, rfl⟩ entry_list_sort (list_sort_vals (s := { s1 with heap := s1.heap.push (seqObj "list" vs.toArray 0) }) new S (by rw [sizeLine_eq]; omega) ⟨.none, rfl, ?_⟩) (args_list_sort _)))
  rw [out]
  obtain ⟨c, hc⟩ := sortedHeap_at (vs := vs) (out := vs.toArray) new
  refine wpAny_pure ⟨_, rfl, k _ s1.heap.objs.size c (fun b u e => ?_) g1 o1 z1 (by rw [← ev]; exact hc)⟩
  have q := k1 b u e
  have lt := Heap.lt_size q
  show (sortedHeap (s1.heap.push (seqObj "list" vs.toArray 0)) s1.heap.objs.size vs vs.toArray).get? b = some u
  rw [sortedHeap_old (Nat.ne_of_lt lt) (by rw [size_push']; exact Nat.lt_succ_of_lt lt)]
  exact Heap.get?_push_of_some _ q
end
end ML
set_option Elab.async false
set_option linter.all false
set_option autoImplicit false
set_option maxRecDepth 100000
set_option maxHeartbeats 4000000
/-! MLdata: sorted and min of alike data. -/
namespace ML
open PySem L2 PySem.W
mutual
theorem py_inj : ∀ (n m : Nat) (a b : D), D.okd n a = true → D.okd m b = true → a.py = b.py → a = b
  | n, m, .non, b, h1, h2, e => by cases b <;> simp_all [D.py, D.okd]
  | n, m, .bl _, b, h1, h2, e => by cases b <;> simp_all [D.py, D.okd]
  | n, m, .int _, b, h1, h2, e => by cases b <;> simp_all [D.py, D.okd]
  | n, m, .str _, b, h1, h2, e => by cases b <;> simp_all [D.py, D.okd]
  | 0, _, .tup _, _, h1, _, _ => by simp [D.okd] at h1
  | 0, _, .lst _, _, h1, _, _ => by simp [D.okd] at h1
  | n + 1, m, .tup xs, b, h1, h2, e => by
    cases b with
    | tup ys =>
      cases m with
      | zero => simp [D.okd] at h2
      | succ m =>
        rw [D.py, D.py] at e
        rw [pys_inj n m xs ys (by simpa [D.okd] using h1) (by simpa [D.okd] using h2) (by simpa using e)]
    | scr _ => simp [D.okd] at h2
    | dK _ => simp [D.okd] at h2
    | dT _ => simp [D.okd] at h2
    | _ => simp [D.py] at e
  | n + 1, m, .lst xs, b, h1, h2, e => by
    cases b with
    | lst ys =>
      cases m with
      | zero => simp [D.okd] at h2
      | succ m =>
        rw [D.py, D.py] at e
        rw [pys_inj n m xs ys (by simpa [D.okd] using h1) (by simpa [D.okd] using h2) (by simpa using e)]
    | scr _ => simp [D.okd] at h2
    | dK _ => simp [D.okd] at h2
    | dT _ => simp [D.okd] at h2
    | _ => simp [D.py] at e
  | _, _, .scr _, _, h1, _, _ => by simp [D.okd] at h1
  | _, _, .dK _, _, h1, _, _ => by simp [D.okd] at h1
  | _, _, .dT _, _, h1, _, _ => by simp [D.okd] at h1
  | _, _, .obj _ _, _, h1, _, _ => by simp [D.okd] at h1
  | _, _, .exc _, _, h1, _, _ => by simp [D.okd] at h1
theorem pys_inj : ∀ (n m : Nat) (as bs : List D), D.okds n as = true → D.okds m bs = true → D.pys as = D.pys bs → as = bs
  | _, _, [], [], _, _, _ => rfl
  | _, _, [], _ :: _, _, _, e => by simp [D.pys] at e
  | _, _, _ :: _, [], _, _, e => by simp [D.pys] at e
  | n, m, a :: as, b :: bs, h1, h2, e => by
    rw [D.okds, Bool.and_eq_true] at h1 h2
    rw [D.pys, D.pys] at e
    obtain ⟨e1, e2⟩ := List.cons.inj e
    rw [py_inj n m a b h1.1 h2.1 e1, pys_inj n m as bs h1.2 h2.2 e2]
end
theorem okds_mem {n : Nat} : ∀ {ds : List D}, D.okds n ds = true → ∀ d ∈ ds, D.okd n d = true
  | [], _, _, h => nomatch h
  | x :: ds, h, d, hd => by
    rw [D.okds, Bool.and_eq_true] at h
    rcases List.mem_cons.mp hd with rfl | hd
    · exact h.1
    · exact okds_mem h.2 d hd
theorem pys_map : ∀ ds : List D, D.pys ds = ds.map D.py
  | [] => rfl
  | d :: ds => by rw [D.pys, pys_map ds]; rfl
theorem alikeAll_mem {ds : List D} (h : alikeAll ds = true) : ∀ a ∈ ds, ∀ b ∈ ds, D.alike a b = true := fun a ha b hb => List.all_eq_true.mp (List.all_eq_true.mp h a ha) b hb
theorem alikeAll_py {ds : List D} {n : Nat} (ho : D.okds n ds = true) (h : alikeAll ds = true) : AllAlike (ds.map D.py) := by
  intro d hd d' hd'
  obtain ⟨a, ha, rfl⟩ := List.mem_map.mp hd
  obtain ⟨b, hb, rfl⟩ := List.mem_map.mp hd'
  exact alike_py a b n n (okds_mem ho a ha) (okds_mem ho b hb) (alikeAll_mem h a ha b hb)
section
variable [Wd] {X : Cx} {pins : List (Addr × Obj)} {σ : L2.St} {B H : Hp} {s : Shared}
theorem each_rep : ∀ {vs : List V} {us : List Value} {ds : List D}, Vals vs us → Reps X.K B vs ds → EachIs (fun (v : Value) (d : D) => ∃ w, RelV w v ∧ Rep X.K B w d) us ds
  | _, _, _, .nil, .nil => .nil
  | _, _, _, .cons r t, .cons a b => .cons ⟨_, r, a⟩ (each_rep t b)
theorem each_reads (I : Inv X pins σ H s) (sm : Same B H) {n : Nat} {us : List Value} {ds : List D} (h : D.okds n ds = true) (e : EachIs (fun (v : Value) (d : D) => ∃ w, RelV w v ∧ Rep X.K B w d) us ds) : EachIs (fun v d => ∃ as, Reads s.heap v (D.py d) as) us ds := by
  induction e with
  | nil => exact .nil
  | cons q t ih =>
    rw [D.okds, Bool.and_eq_true] at h
    obtain ⟨w, r, q⟩ := q
    exact .cons (Dp.reads I _ w _ (dp_of _ _ _ h.1 (Rep.mono sm _ _ q)) r) (ih h.2)
theorem each_back : ∀ {us : List Value} {ds : List D}, EachIs (fun (v : Value) (d : D) => ∃ w, RelV w v ∧ Rep X.K B w d) us ds → ∃ vs, Vals vs us ∧ Reps X.K B vs ds
  | _, _, .nil => ⟨[], .nil, .nil⟩
  | _, _, .cons ⟨w, r, q⟩ t => by
    obtain ⟨vs, h1, h2⟩ := each_back t
    exact ⟨w :: vs, .cons r h1, .cons q h2⟩
end
def rSortT [Wd] (K : PySem.W.Frag) : List V → Hp → VK → Prop := fun xs H Q => ∃ B a vs ds, Same B H ∧ xs = [V.ref a] ∧ H a = some (.lst vs) ∧ Reps K B vs ds ∧ ds.length ≤ LINE ∧ D.okds 40 ds = true ∧ (ds.all D.full || ds.all D.void) = true ∧ alikeAll ds = true ∧
  ∀ vs' p, H p = none → Reps K B vs' (ds.mergeSort fun a b => !D.lt b a) → Q (.ref p) (upd H p (.lst vs'))
theorem cr_sortT [Wd] {X : Cx} (hu : X.A.units + 64 < cLine) : CallR X (.builtin "sorted") (rSortT X.K) := by
  intro pins s σ H xs us Q I r h
  obtain ⟨B, a, vs, ds, sm, rfl, ha, hr, hl0, ho, hf, hal, q⟩ := h
  obtain ⟨its, rv, hl, hz⟩ := I.list (SqL.of ha)
  rw [Vals.ref1 r]
  have e := each_rep rv hr
  have er := each_reads I sm ho e
  have fin : ∀ out : List Value, out.length = ds.length → EachIs (fun (v : Value) (d : D) => ∃ w, RelV w v ∧ Rep X.K B w d) out (ds.mergeSort (dataLe false D.py)) → EP X pins σ Q (.ref (s.heap.objs.size + 1)) { s with heap := PyProof.Rows.sortedAll s.heap its (List.toArray out) } := fun out hlen eo => by
    have em : ds.mergeSort (dataLe false D.py) = ds.mergeSort fun a b => !D.lt b a := by
      have := List.map_mergeSort (r := dataLe false D.py) (s := fun a b => !D.lt b a) (f := id) (l := ds) (fun a ha b hb => by
        rw [dataLe_eq]
        show (!dataLt b.py a.py) = _
        rw [lt_py b a 40 40 (okds_mem ho b hb) (okds_mem ho a ha) (alikeAll_mem hal b hb a ha)]
        rfl)
      rwa [List.map_id, List.map_id] at this
    rw [em] at eo
    obtain ⟨vs', w1, w2⟩ := each_back eo
    obtain ⟨ep, he'⟩ := PyProof.Rows.sortedAll_at s.heap its (List.toArray out)
    have hlen' : vs'.length ≤ sizeLine := by
      rw [w1.length, hlen, ← line_eq]
      exact hl0
    exact ⟨.ref _, upd H (s.heap.objs.size + 1) (.lst vs'), I.laid (t' := s.toks) (fun _ _ => PyProof.Rows.sortedAll_old) (Nat.le_succ _) ⟨hlen', out, ep, w1, he'⟩, rfl, q vs' _ (I.hok.fresh (Nat.le_succ _)) w2⟩
  rcases Bool.or_eq_true _ _ |>.mp hf with hf | hf
  · refine sorted_data (enc := D.py) (bs := ds) hl.isList e er (alikeAll_py ho hal) (.inl fun d hd => ?_) (by rw [← line_eq]; exact hl0) (fun b hb => ?_) fin
    · obtain ⟨b, hb, rfl⟩ := List.mem_map.mp hd
      have := List.all_eq_true.mp hf b hb
      cases b with
      | tup ys =>
        cases ys with
        | nil => simp [D.full] at this
        | cons y ys => exact ⟨_, _, rfl⟩
      | _ => simp [D.full] at this
    · have := (canLay_of _ _ (okds_mem ho b hb)).2
      omega
  · refine sorted_void (enc := D.py) (bs := ds) hl.isList e er (fun b hb => ?_) (by rw [← line_eq]; exact hl0) hu fin
    have := List.all_eq_true.mp hf b hb
    cases b with
    | tup ys =>
      cases ys with
      | nil => rfl
      | cons y ys => simp [D.void] at this
    | _ => simp [D.void] at this
def rMinT [Wd] (K : PySem.W.Frag) : List V → Hp → VK → Prop := fun xs H Q => ∃ B a vs x ds, Same B H ∧ xs = [V.ref a] ∧ H a = some (.lst vs) ∧ Reps K B vs (x :: ds) ∧ D.okds 40 (x :: ds) = true ∧ (x :: ds).all D.nonN = true ∧ alikeAll (x :: ds) = true ∧
  ∀ v, Rep K B v (D.least x ds) → Q v H
theorem least_mem : ∀ (ds : List D) (x : D), D.least x ds ∈ x :: ds
  | [], x => List.mem_singleton.mpr rfl
  | y :: ds, x => by
    unfold D.least
    rw [List.foldl_cons]
    split
    · have := least_mem ds y
      exact List.mem_cons_of_mem _ this
    · have := least_mem ds x
      rcases List.mem_cons.mp this with z | z
      · exact List.mem_cons.mpr (.inl z)
      · exact List.mem_cons_of_mem _ (List.mem_cons_of_mem _ z)
theorem least_py : ∀ (ds : List D) (x : D), D.okds 40 (x :: ds) = true → alikeAll (x :: ds) = true → minD x.py (ds.map D.py) = (D.least x ds).py
  | [], x, _, _ => rfl
  | y :: ds, x, ho, ha => by
    unfold minD D.least
    rw [List.map_cons, List.foldl_cons, List.foldl_cons]
    have my : y ∈ x :: y :: ds := List.mem_cons_of_mem _ List.mem_cons_self
    have mx : x ∈ x :: y :: ds := List.mem_cons_self
    rw [lt_py y x 40 40 (okds_mem ho y my) (okds_mem ho x mx) (alikeAll_mem ha y my x mx)]
    have sub : ∀ z, z ∈ x :: y :: ds → D.okds 40 (z :: ds) = true ∧ alikeAll (z :: ds) = true := fun z hz => by
      constructor
      · rw [D.okds, okds_mem ho z hz]
        rw [D.okds, Bool.and_eq_true, D.okds, Bool.and_eq_true] at ho
        rw [ho.2.2]
        rfl
      · refine List.all_eq_true.mpr fun a h1 => List.all_eq_true.mpr fun b h2 => alikeAll_mem ha a ?_ b ?_
        · rcases List.mem_cons.mp h1 with rfl | h1
          · exact hz
          · exact List.mem_cons_of_mem _ (List.mem_cons_of_mem _ h1)
        · rcases List.mem_cons.mp h2 with rfl | h2
          · exact hz
          · exact List.mem_cons_of_mem _ (List.mem_cons_of_mem _ h2)
    cases h : D.lt y x with
    | true =>
      rw [if_pos rfl, if_pos rfl]
      exact least_py ds y (sub y my).1 (sub y my).2
    | false =>
      rw [if_neg (by decide), if_neg (by decide)]
      exact least_py ds x (sub x mx).1 (sub x mx).2
theorem depths_le : ∀ (ds : List D), D.okds 40 ds = true → PyData.depthAll (ds.map D.py) ≤ 40
  | [], _ => by simp [PyData.depthAll]
  | d :: ds, h => by
    rw [D.okds, Bool.and_eq_true] at h
    have h1 := (canLay_of _ _ h.1).2
    have h2 := depths_le ds h.2
    rw [List.map_cons, PyData.depthAll]
    omega
theorem cr_minT [Wd] {X : Cx} (hc : X.calm = true) (hu : X.A.units + 64 < cLine) : CallR X (.builtin "min") (rMinT X.K) := by
  intro pins s σ H xs us Q I r h
  obtain ⟨B, a, vs, x, ds, sm, rfl, ha, hr, ho, hn, hal, q⟩ := h
  obtain ⟨its, rv, hl, hz⟩ := I.list (SqL.of ha)
  rw [Vals.ref1 r]
  have e := each_rep rv hr
  have er := each_reads I sm ho e
  obtain ⟨as, ra⟩ := each_readsAll D.py er
  have dl := depths_le (x :: ds) ho
  refine min_list_data (x := x.py) (xs := ds.map D.py) (I.ok.hd hc) hl.isList (by simpa using ra) ⟨fun b hb c hc => ?_, fun b hb => ?_⟩ (by rw [← List.map_cons]; omega) fun i v h' tk bs hi rm hk => ?_
  · rw [← List.map_cons] at hb hc
    exact alikeAll_py ho hal b hb c hc
  · rw [← List.map_cons] at hb
    obtain ⟨d, hd, rfl⟩ := List.mem_map.mp hb
    have := List.all_eq_true.mp hn d hd
    have hok := okds_mem ho d hd
    cases d <;> simp_all [D.nonN, D.py, D.okd]
  · have hi' : its[i]? = some v := by simpa using hi
    obtain ⟨w, hw, rw'⟩ : ∃ w, vs[i]? = some w ∧ RelV w v := by
      have hlt : i < its.length := (List.getElem?_eq_some_iff.mp hi').1
      obtain ⟨u, g1, g2⟩ := rv.get (List.getElem?_eq_getElem (l := vs) (i := i) (by rw [rv.length]; exact hlt))
      rw [hi'] at g1
      cases g1
      exact ⟨_, List.getElem?_eq_getElem (by rw [rv.length]; exact hlt), g2⟩
    obtain ⟨d, hd, rp⟩ := hr.getV hw
    have md := List.mem_of_getElem? hd
    obtain ⟨cs, rd⟩ := Dp.reads I d.py w v (dp_of _ _ _ (okds_mem ho d md) (Rep.mono sm _ _ rp)) rw'
    have rd' : Reads h' v d.py cs := PyProof.Rows.Reads.keeps hk rd
    rw [least_py ds x ho hal] at rm
    have ml := least_mem ds x
    have ee := alike_unique _ _ _ _ _ (alike_py d (D.least x ds) 40 40 (okds_mem ho d md) (okds_mem ho _ ml) (alikeAll_mem hal d md _ ml)) rd' rm
    have ed := py_inj 40 40 d _ (okds_mem ho d md) (okds_mem ho _ ml) ee
    rw [ed] at rp
    exact ⟨w, H, I.kept hk, rw', q w rp⟩
end ML
set_option Elab.async false
set_option linter.all false
set_option autoImplicit false
set_option maxRecDepth 100000
set_option maxHeartbeats 4000000
/-! MLprim: built-in functions called by name. -/
namespace ML
open PySem L2

/-! ### lists of ints in order -/
theorem insI_perm (x : Int) : ∀ xs : List Int, (insI x xs).Perm (x :: xs)
  | [] => List.Perm.refl _
  | y :: ys => by
    unfold insI
    split
    · exact List.Perm.refl _
    · exact ((insI_perm x ys).cons y).trans (List.Perm.swap x y ys)
theorem sortI_perm : ∀ xs : List Int, (sortI xs).Perm xs
  | [] => List.Perm.refl _
  | x :: xs => (insI_perm x _).trans ((sortI_perm xs).cons x)
theorem insI_sorted (x : Int) : ∀ xs : List Int, xs.Pairwise (· ≤ ·) → (insI x xs).Pairwise (· ≤ ·)
  | [], _ => by unfold insI; exact List.pairwise_singleton _ _
  | y :: ys, h => by
    unfold insI
    rw [List.pairwise_cons] at h
    split
    · rename_i hx
      rw [List.pairwise_cons]
      refine ⟨fun z hz => ?_, List.pairwise_cons.mpr h⟩
      rcases List.mem_cons.mp hz with rfl | hz
      · exact hx
      · exact Int.le_trans hx (h.1 z hz)
    · rename_i hx
      rw [List.pairwise_cons]
      refine ⟨fun z hz => ?_, insI_sorted x ys h.2⟩
      rcases List.mem_cons.mp ((insI_perm x ys).mem_iff.mp hz) with rfl | hz
      · omega
      · exact h.1 z hz
theorem sortI_sorted : ∀ xs : List Int, (sortI xs).Pairwise (· ≤ ·)
  | [] => List.Pairwise.nil
  | x :: xs => insI_sorted x _ (sortI_sorted xs)
theorem sorted_unique : ∀ {xs ys : List Int}, xs.Perm ys → xs.Pairwise (· ≤ ·) → ys.Pairwise (· ≤ ·) → xs = ys
  | [], ys, p, _, _ => (List.Perm.nil_eq p)
  | x :: xs, [], p, _, _ => absurd p.length_eq (by simp)
  | x :: xs, y :: ys, p, h, h' => by
    rw [List.pairwise_cons] at h h'
    have hxy : x ≤ y := by
      rcases List.mem_cons.mp (p.mem_iff.mpr (List.mem_cons_self : y ∈ y :: ys)) with e | e
      · omega
      · exact h.1 y e
    have hyx : y ≤ x := by
      rcases List.mem_cons.mp (p.mem_iff.mp (List.mem_cons_self : x ∈ x :: xs)) with e | e
      · omega
      · exact h'.1 x e
    have e : x = y := by omega
    subst e
    rw [sorted_unique (List.perm_cons x |>.mp p) h.2 h'.2]
theorem foldl_min_le : ∀ (xs : List Int) (a : Int), xs.foldl min a ≤ a ∧ (∀ y ∈ xs, xs.foldl min a ≤ y) ∧ (xs.foldl min a = a ∨ xs.foldl min a ∈ xs)
  | [], a => ⟨Int.le_refl _, fun _ h => (nomatch h), .inl rfl⟩
  | x :: xs, a => by
    obtain ⟨h1, h2, h3⟩ := foldl_min_le xs (min a x)
    rw [List.foldl_cons]
    refine ⟨by omega, fun y hy => ?_, ?_⟩
    · rcases List.mem_cons.mp hy with rfl | hy
      · omega
      · exact h2 y hy
    · rcases h3 with h3 | h3
      · rw [h3]
        by_cases h : a ≤ x
        · exact .inl (by omega)
        · exact .inr (by rw [show min a x = x by omega]; exact List.mem_cons_self)
      · exact .inr (List.mem_cons_of_mem _ h3)
theorem minI_spec {ns : List Int} {m : Int} (h : m ∈ ns) (h' : ∀ y ∈ ns, m ≤ y) : minI ns = some m := by
  cases ns with
  | nil => cases h
  | cons x xs =>
    obtain ⟨h1, h2, h3⟩ := foldl_min_le xs x
    show some (xs.foldl min x) = some m
    have e1 : xs.foldl min x ≤ m := by
      rcases List.mem_cons.mp h with rfl | h
      · exact h1
      · exact h2 m h
    have e2 : m ≤ xs.foldl min x := by
      rcases h3 with h3 | h3
      · rw [h3]; exact h' x List.mem_cons_self
      · exact h' _ (List.mem_cons_of_mem _ h3)
    rw [show xs.foldl min x = m by omega]
theorem foldl_max_le : ∀ (xs : List Int) (a : Int), a ≤ xs.foldl max a ∧ (∀ y ∈ xs, y ≤ xs.foldl max a) ∧ (xs.foldl max a = a ∨ xs.foldl max a ∈ xs)
  | [], a => ⟨Int.le_refl _, fun _ h => (nomatch h), .inl rfl⟩
  | x :: xs, a => by
    obtain ⟨h1, h2, h3⟩ := foldl_max_le xs (max a x)
    rw [List.foldl_cons]
    refine ⟨by omega, fun y hy => ?_, ?_⟩
    · rcases List.mem_cons.mp hy with rfl | hy
      · omega
      · exact h2 y hy
    · rcases h3 with h3 | h3
      · rw [h3]
        by_cases h : x ≤ a
        · exact .inl (by omega)
        · exact .inr (by rw [show max a x = x by omega]; exact List.mem_cons_self)
      · exact .inr (List.mem_cons_of_mem _ h3)
theorem maxI_spec {ns : List Int} {m : Int} (h : m ∈ ns) (h' : ∀ y ∈ ns, y ≤ m) : maxI ns = some m := by
  cases ns with
  | nil => cases h
  | cons x xs =>
    obtain ⟨h1, h2, h3⟩ := foldl_max_le xs x
    show some (xs.foldl max x) = some m
    have e1 : m ≤ xs.foldl max x := by
      rcases List.mem_cons.mp h with rfl | h
      · exact h1
      · exact h2 m h
    have e2 : xs.foldl max x ≤ m := by
      rcases h3 with h3 | h3
      · rw [h3]; exact h' x List.mem_cons_self
      · exact h' _ (List.mem_cons_of_mem _ h3)
    rw [show xs.foldl max x = m by omega]

/-! ### the built-ins -/
def Prim.name : Prim → Str
  | .len => "len" | .abs => "abs" | .max2 => "max" | .min2 => "min" | .int => "int" | .str => "str" | .list => "list" | .tuple => "tuple"
  | .sum => "sum" | .all => "all" | .any => "any" | .sorted => "sorted" | .min => "min" | .max => "max"
def Prim.val : Prim → Value
  | .len => .builtin "len" | .abs => .builtin "abs" | .max2 => .builtin "max" | .min2 => .builtin "min" | .int => .type "int" | .str => .type "str" | .list => .type "list" | .tuple => .type "tuple"
  | .sum => .builtin "sum" | .all => .builtin "all" | .any => .builtin "any" | .sorted => .builtin "sorted" | .min => .builtin "min" | .max => .builtin "max"
def rPrim [Wd] (K : PySem.W.Frag) (p : Prim) : List V → Hp → VK → Prop := fun xs H Q => ∃ B ds s, Same B H ∧ Paired (Rep1 K B H) xs ds ∧ primF p ds = some s ∧ ∀ v H' B', New K B H s v H' B' → Q v H'
theorem paired1 {α β : Type} {R : α → β → Prop} {xs : List α} {b : β} (h : Paired R xs [b]) : ∃ a, xs = [a] ∧ R a b := by
  cases h with
  | cons r t => cases t; exact ⟨_, rfl, r⟩
theorem paired2 {α β : Type} {R : α → β → Prop} {xs : List α} {b c : β} (h : Paired R xs [b, c]) : ∃ a d, xs = [a, d] ∧ R a b ∧ R d c := by
  cases h with
  | cons r t =>
    cases t with
    | cons r' t => cases t; exact ⟨_, _, rfl, r, r'⟩
theorem map_int_len {ns : List Int} : (ns.map D.int).length = ns.length := by simp
section
variable [Wd] {K : PySem.W.Frag} {B H : Hp}
theorem Rep1.dK {v : V} {es : List (L2.Key × D)} (s : Same B H) (h : Rep1 K B H v (.dK es)) : ∃ a kvs, v = .ref a ∧ H a = some (.dK kvs) ∧ kvs.map (·.1) = es.map (·.1) ∧ Reps K B (kvs.map (·.2)) (es.map (·.2)) := by
  cases h with
  | fro h => cases h with | dK h a b => exact ⟨_, _, rfl, s _ _ h, a, b⟩
  | own h c => cases c with | dK a b => exact ⟨_, _, rfl, h, a, b⟩
theorem reps_keyD : ∀ ks : List L2.Key, Reps K B (ks.map kV) (ks.map keyD)
  | [] => .nil
  | .inl i :: r => .cons (.int i) (reps_keyD r)
  | .inr x :: r => .cons (.str x) (reps_keyD r)
theorem dK_keys {l : Addr} {kvs : List (L2.Key × V)} {es : List (L2.Key × D)} (hl : H l = none) (q : kvs.map (·.1) = es.map (·.1)) (hz : es.length ≤ LINE) : New K B H (.own (.lst (es.map fun e => keyD e.1))) (.ref l) (upd H l (.lst (kvs.map fun kv => kV kv.1))) B := by
  refine .own hl ?_ (by rw [List.length_map]; exact hz)
  have h1 : (kvs.map fun kv => kV kv.1) = (kvs.map (·.1)).map kV := by rw [List.map_map]; rfl
  have h2 : (es.map fun e => keyD e.1) = (es.map (·.1)).map keyD := by rw [List.map_map]; rfl
  rw [h1, h2, q]
  exact reps_keyD _
end
section
variable [Wd] {X : Cx}
/-- sum(t), t a tuple of ints -/
theorem sum_tupV (hc : X.calm = true) : CallR X (.builtin "sum") (fun vs H Q => ∃ (a : Addr) (ns : List Int), vs = [V.ref a] ∧ SqT X.K H a (ns.map V.int) ∧ Q (.int ns.sum) H) := by
  intro pins s σ H vs us Q I r h
  obtain ⟨a, ns, rfl, hs, q⟩ := h
  obtain ⟨its, rv, ht, _⟩ := I.tuple hs
  rw [Vals.ref1 r]
  have hi := rv.ints
  obtain ⟨xs, hx⟩ := hi.allInts.items
  have hn : numsOf its.toArray.toList = ns := by rw [show its.toArray.toList = its from rfl, hi.numsOf]
  rw [hx] at ht hn
  rw [PySem.nums_intItems] at hn
  refine PySem.W.ktm_sumG (I.ok.hd hc) ht fun h' tk t' hk => ⟨.int _, H, I.kept hk, ⟨t', ?_⟩, q⟩
  rw [preSum_eq, List.take_of_length_le (by simp), hn]
theorem call_prim (hc : X.calm = true) (hu : X.A.units + 64 < cLine) (p : Prim) : CallR X p.val (rPrim X.K p) := by
  intro pins st σ H xs us Q I r h
  obtain ⟨B, ds, s, sm, pr, e, k⟩ := h
  unfold primF at e
  split at e
  · cases e
    obtain ⟨x, rfl, r1⟩ := paired1 pr
    obtain ⟨a, vs, rfl, ha, q1, l1⟩ := r1.tup sm
    exact call_len_seq pins st σ H _ us Q I r ⟨a, vs, rfl, .inr ha, by rw [q1.length]; exact k _ _ _ (.old (.int _))⟩
  · cases e
    obtain ⟨x, rfl, r1⟩ := paired1 pr
    obtain ⟨a, vs, rfl, ha, q1, l1⟩ := r1.lst sm
    exact call_len_seq pins st σ H _ us Q I r ⟨a, vs, rfl, .inl (SqL.of ha), by rw [q1.length]; exact k _ _ _ (.old (.int _))⟩
  · cases e
    obtain ⟨x, rfl, r1⟩ := paired1 pr
    obtain ⟨a, rfl, ha, l1⟩ := r1.scr sm
    exact call_len_seq pins st σ H _ us Q I r ⟨a, _, rfl, .inl ha, by rw [List.length_map]; exact k _ _ _ (.old (.int _))⟩
  · split at e
    · rename_i hz
      cases e
      obtain ⟨x, rfl, r1⟩ := paired1 pr
      exact call_len_str pins st σ H _ us Q I r ⟨_, by rw [r1.str], by rw [← line_eq]; exact hz, k _ _ _ (.old (.int _))⟩
    · cases e
  · cases e
    obtain ⟨x, rfl, r1⟩ := paired1 pr
    exact call_abs pins st σ H _ us Q I r ⟨_, by rw [r1.int], k _ _ _ (.old (.int _))⟩
  · cases e
    obtain ⟨x, y, rfl, r1, r2⟩ := paired2 pr
    exact call_max2 hc pins st σ H _ us Q I r ⟨_, _, by rw [r1.int, r2.int], k _ _ _ (.old (.int _))⟩
  · cases e
    obtain ⟨x, y, rfl, r1, r2⟩ := paired2 pr
    exact call_min2 hc pins st σ H _ us Q I r ⟨_, _, by rw [r1.int, r2.int], k _ _ _ (.old (.int _))⟩
  · cases e
    obtain ⟨x, rfl, r1⟩ := paired1 pr
    exact call_int1 pins st σ H _ us Q I r (.inl ⟨_, by rw [r1.int], k _ _ _ (.old (.int _))⟩)
  · cases e
    obtain ⟨x, rfl, r1⟩ := paired1 pr
    exact call_int1 pins st σ H _ us Q I r (.inr ⟨_, by rw [r1.bl], k _ _ _ (.old (.int _))⟩)
  · split at e
    · rename_i hz
      cases e
      obtain ⟨x, rfl, r1⟩ := paired1 pr
      exact call_str_int pins st σ H _ us Q I r ⟨_, by rw [r1.int], hz, k _ _ _ (.old (.str _))⟩
    · cases e
  · cases e
    obtain ⟨x, rfl, r1⟩ := paired1 pr
    exact SkE.call_str_str pins st σ H _ us Q I r ⟨_, by rw [r1.str], k _ _ _ (.old (.str _))⟩
  · split at e
    · rename_i hz
      obtain ⟨x, rfl, r1⟩ := paired1 pr
      obtain ⟨n, e1, e2⟩ := map_some e
      cases e2
      exact call_int_str pins st σ H _ us Q I r ⟨_, n, by rw [r1.str], e1, hz, k _ _ _ (.old (.int _))⟩
    · cases e
  · split at e
    · rename_i hz
      cases e
      obtain ⟨x, rfl, r1⟩ := paired1 pr
      obtain ⟨a, kvs, rfl, ha, q1, q2⟩ := Rep1.dK sm r1
      exact call_list_dK hc pins st σ H _ us Q I r ⟨a, kvs, rfl, ha, fun l hl => k _ _ _ (dK_keys hl q1 hz)⟩
    · cases e
  · cases e
    obtain ⟨x, rfl, r1⟩ := paired1 pr
    obtain ⟨a, vs, rfl, ha, q1, l1⟩ := r1.tup sm
    exact call_list_of pins st σ H _ us Q I r ⟨a, vs, rfl, .inr ha, fun l hl => k _ _ _ (.own hl q1 l1)⟩
  · cases e
    obtain ⟨x, rfl, r1⟩ := paired1 pr
    obtain ⟨a, vs, rfl, ha, q1, l1⟩ := r1.lst sm
    exact call_list_of pins st σ H _ us Q I r ⟨a, vs, rfl, .inl (SqL.of ha), fun l hl => k _ _ _ (.own hl q1 l1)⟩
  · cases e
    obtain ⟨x, rfl, r1⟩ := paired1 pr
    obtain ⟨a, vs, rfl, ha, q1, l1⟩ := r1.tup sm
    exact call_tuple_of pins st σ H _ us Q I r ⟨a, vs, rfl, .inr ⟨ha, k _ _ _ (.old (sqT_sub r1 rfl))⟩⟩
  · cases e
    obtain ⟨x, rfl, r1⟩ := paired1 pr
    obtain ⟨a, vs, rfl, ha, q1, l1⟩ := r1.lst sm
    exact call_tuple_of pins st σ H _ us Q I r ⟨a, vs, rfl, .inl ⟨SqL.of ha, fun l hl => k _ _ _ (newTup sm hl q1 l1)⟩⟩
  · obtain ⟨ns, e1, e2⟩ := map_some e
    cases e2
    obtain ⟨x, rfl, r1⟩ := paired1 pr
    obtain ⟨a, vs, rfl, ha, q1, l1⟩ := r1.lst sm
    rw [D.ints_eq e1] at q1
    rw [q1.of_ints] at ha
    exact cr_sum hc pins st σ H _ us Q I r ⟨a, ns, rfl, SqL.of ha, k _ _ _ (.old (.int _))⟩
  · obtain ⟨ns, e1, e2⟩ := map_some e
    cases e2
    obtain ⟨x, rfl, r1⟩ := paired1 pr
    obtain ⟨a, vs, rfl, ha, q1, l1⟩ := r1.tup sm
    rw [D.ints_eq e1] at q1
    rw [q1.of_ints] at ha
    exact sum_tupV hc pins st σ H _ us Q I r ⟨a, ns, rfl, ha, k _ _ _ (.old (.int _))⟩
  · obtain ⟨ns, e1, e2⟩ := map_some e
    cases e2
    obtain ⟨x, rfl, r1⟩ := paired1 pr
    obtain ⟨a, vs, rfl, ha, q1, l1⟩ := r1.lst sm
    rw [D.bls_eq e1] at q1
    rw [q1.of_bls] at ha
    exact cr_all hc pins st σ H _ us Q I r ⟨a, ns, rfl, SqL.of ha, k _ _ _ (.old (.bl _))⟩
  · obtain ⟨ns, e1, e2⟩ := map_some e
    cases e2
    obtain ⟨x, rfl, r1⟩ := paired1 pr
    obtain ⟨a, vs, rfl, ha, q1, l1⟩ := r1.lst sm
    rw [D.bls_eq e1] at q1
    rw [q1.of_bls] at ha
    exact cr_any hc pins st σ H _ us Q I r ⟨a, ns, rfl, SqL.of ha, k _ _ _ (.old (.bl _))⟩
  · unfold orI at e
    split at e
    · rename_i ns e1
      cases e
      obtain ⟨x, rfl, r1⟩ := paired1 pr
      obtain ⟨a, vs, rfl, ha, q1, l1⟩ := r1.lst sm
      rw [D.ints_eq e1] at q1 l1
      rw [q1.of_ints] at ha
      refine cr_sortedI pins st σ H _ us Q I r ⟨a, ns, rfl, SqL.of ha, fun ns' p pm pw hp => ?_⟩
      have e3 : ns' = sortI ns := sorted_unique (pm.trans (sortI_perm ns).symm) pw (sortI_sorted ns)
      subst e3
      refine k _ _ _ (.own hp (Reps.ints _) ?_)
      rw [List.length_map, (sortI_perm ns).length_eq]
      rw [List.length_map] at l1
      exact l1
    · unfold sortT at e
      split at e
      · rename_i hz
        simp only [Bool.and_eq_true] at hz
        cases e
        obtain ⟨x, rfl, r1⟩ := paired1 pr
        obtain ⟨a, vs, rfl, ha, q1, l1⟩ := r1.lst sm
        exact cr_sortT hu pins st σ H _ us Q I r ⟨B, a, vs, _, sm, rfl, ha, q1, l1, hz.1.1, hz.1.2, hz.2, fun vs' p hp rp => k _ _ _ (.own hp rp (by rw [List.length_mergeSort]; exact l1))⟩
      · cases e
  · obtain ⟨ns, e1, e2⟩ := map_some e
    cases e2
    obtain ⟨x, rfl, r1⟩ := paired1 pr
    obtain ⟨a, vs, rfl, ha, q1, l1⟩ := r1.tup sm
    rw [D.ints_eq e1] at q1 l1
    rw [q1.of_ints] at ha
    refine cr_sortedIT pins st σ H _ us Q I r ⟨a, ns, rfl, ha, fun ns' p pm pw hp => ?_⟩
    have e3 : ns' = sortI ns := sorted_unique (pm.trans (sortI_perm ns).symm) pw (sortI_sorted ns)
    subst e3
    refine k _ _ _ (.own hp (Reps.ints _) ?_)
    rw [List.length_map, (sortI_perm ns).length_eq]
    rw [List.length_map] at l1
    exact l1
  · unfold orI at e
    split at e
    · rename_i ns e1
      obtain ⟨m, e2, e3⟩ := map_some e
      cases e3
      obtain ⟨x, rfl, r1⟩ := paired1 pr
      obtain ⟨a, vs, rfl, ha, q1, l1⟩ := r1.lst sm
      rw [D.ints_eq e1] at q1
      rw [q1.of_ints] at ha
      refine cr_min hc pins st σ H _ us Q I r ⟨a, ns, rfl, SqL.of ha, ?_, fun m' h1 h2 => ?_⟩
      · cases ns with
        | nil => cases e2
        | cons _ _ => simp
      · rw [minI_spec h1 h2] at e2
        cases e2
        exact k _ _ _ (.old (.int _))
    · unfold minT at e
      split at e
      · cases e
      · split at e
        · rename_i hz
          simp only [Bool.and_eq_true] at hz
          cases e
          obtain ⟨x, rfl, r1⟩ := paired1 pr
          obtain ⟨a, vs, rfl, ha, q1, l1⟩ := r1.lst sm
          exact cr_minT hc hu pins st σ H _ us Q I r ⟨B, a, vs, _, _, sm, rfl, ha, q1, hz.1.1, hz.1.2, hz.2, fun v rp => k _ _ _ (.old rp)⟩
        · cases e
  · obtain ⟨ns, e1, e2⟩ := bind_some e
    obtain ⟨m, e2, e3⟩ := map_some e2
    cases e3
    obtain ⟨x, rfl, r1⟩ := paired1 pr
    obtain ⟨a, vs, rfl, ha, q1, l1⟩ := r1.lst sm
    rw [D.ints_eq e1] at q1
    rw [q1.of_ints] at ha
    refine cr_max hc pins st σ H _ us Q I r ⟨a, ns, rfl, SqL.of ha, ?_, fun m' h1 h2 => ?_⟩
    · cases ns with
      | nil => cases e2
      | cons _ _ => simp
    · rw [maxI_spec h1 h2] at e2
      cases e2
      exact k _ _ _ (.old (.int _))
  · cases e
end

/-! ### isinstance -/
def Ty.name : Ty → String
  | .int => "int" | .bool => "bool" | .str => "str" | .tuple => "tuple" | .list => "list"
theorem sqT_ty [Wd] {K : PySem.W.Frag} {H : Hp} {a : Addr} {xs : List V} (h : SqT K H a xs) : TyX K H (.ref a) (.type "tuple") := by
  rcases h with (h | ⟨o, h⟩) | ⟨o, _, _, h1, h2, _⟩
  · exact .base (.tup h)
  · exact .fTuple h
  · exact .kTuple h1 h2
def rIsA [Wd] (K : PySem.W.Frag) (t : Ty) : List V → Hp → VK → Prop := fun xs H Q => ∃ B x d b, Same B H ∧ xs = [x, .ty t.name] ∧ Rep1 K B H x d ∧ D.isTy t d = some b ∧ Q (.bl b) H
theorem isTy_ok [Wd] {K : PySem.W.Frag} {B H : Hp} {x : V} {d : D} {t : Ty} {b : Bool} (sm : Same B H) (r : Rep1 K B H x d) (e : D.isTy t d = some b) :
    ∃ T, TyX K H x (.type T) ∧ kitB T t.name = some b := by
  cases d with
  | non => rw [r.non]; refine ⟨"NoneType", .base .non, ?_⟩; cases t <;> cases e <;> decide +kernel
  | bl k => rw [r.bl]; refine ⟨"bool", .base (.bl _), ?_⟩; cases t <;> cases e <;> decide +kernel
  | int k => rw [r.int]; refine ⟨"int", .base (.int _), ?_⟩; cases t <;> cases e <;> decide +kernel
  | str k => rw [r.str]; refine ⟨"str", .base (.str _), ?_⟩; cases t <;> cases e <;> decide +kernel
  | tup ds =>
    obtain ⟨a, vs, rfl, ha, _, _⟩ := r.tup sm
    refine ⟨"tuple", sqT_ty ha, ?_⟩
    cases t <;> cases e <;> decide +kernel
  | lst ds =>
    obtain ⟨a, vs, rfl, ha, _, _⟩ := r.lst sm
    refine ⟨"list", .base (.lst ha), ?_⟩
    cases t <;> cases e <;> decide +kernel
  | scr _ => cases t <;> cases e
  | dK _ => cases t <;> cases e
  | dT _ => cases t <;> cases e
  | obj _ _ => cases t <;> cases e
  | exc _ => cases t <;> cases e
section
variable [Wd] {X : Cx}
theorem call_isA (t : Ty) : CallR X (.builtin "isinstance") (rIsA X.K t) := by
  intro pins st σ H xs us Q I r h
  obtain ⟨B, x, d, b, sm, rfl, r1, e, q⟩ := h
  obtain ⟨T, ty, hk⟩ := isTy_ok sm r1 e
  exact call_isi pins st σ H _ us Q I r ⟨x, _, _, _, b, rfl, .ty _, ty, kit_ty hk, q⟩
end
end ML
set_option Elab.async false
set_option linter.all false
set_option autoImplicit false
set_option maxRecDepth 100000
set_option maxHeartbeats 4000000
/-! MLsnd: what the small language computes is what the machine does: expressions. -/
namespace ML
open PySem L2

/-! ### the canonical readings -/
def tE [Wd] (K : PySem.W.Frag) (Φ : Nat → List D → Option Sv) (m : ME) : TE := fun σ H Q => ∃ B ρ r ρ', EnvOk K B H ρ σ ∧ evE Φ m ρ = some (r, ρ') ∧
  ∀ v H' B', EnvOk K B' H' ρ' σ → Ext B H (OwnS ρ σ) B' H' (OwnS ρ' σ) → RvOk K B' H' H ρ' σ r v → Q v H'
def tA [Wd] (K : PySem.W.Frag) (Φ : Nat → List D → Option Sv) (ms : List ME) : TA := fun σ H Q => ∃ B ρ rs ρ', EnvOk K B H ρ σ ∧ evEs Φ ms ρ = some (rs, ρ') ∧
  ∀ vs H' B', EnvOk K B' H' ρ' σ → Ext B H (OwnS ρ σ) B' H' (OwnS ρ' σ) → OpOks K B' σ rs vs → Q vs H'
def tT [Wd] (K : PySem.W.Frag) (Φ : Nat → List D → Option Sv) (m : ME) : TT := fun σ H Q => ∃ B ρ r ρ' b, EnvOk K B H ρ σ ∧ evE Φ m ρ = some (r, ρ') ∧ cont ρ' r = some (.bl b) ∧
  ∀ H' B', EnvOk K B' H' ρ' σ → Ext B H (OwnS ρ σ) B' H' (OwnS ρ' σ) → Q b H'
def tBv [Wd] (K : PySem.W.Frag) (Φ : Nat → List D → Option Sv) (k : Bool) (ms : List ME) : TE := fun σ H Q => ∃ B ρ r ρ', EnvOk K B H ρ σ ∧ evB Φ k ms ρ = some (r, ρ') ∧
  ∀ v H' B', EnvOk K B' H' ρ' σ → Ext B H (OwnS ρ σ) B' H' (OwnS ρ' σ) → RvOk K B' H' H ρ' σ r v → Q v H'
def tBt [Wd] (K : PySem.W.Frag) (Φ : Nat → List D → Option Sv) (k : Bool) (ms : List ME) : TT := fun σ H Q => ∃ B ρ r ρ' b, EnvOk K B H ρ σ ∧ evB Φ k ms ρ = some (r, ρ') ∧ cont ρ' r = some (.bl b) ∧
  ∀ H' B', EnvOk K B' H' ρ' σ → Ext B H (OwnS ρ σ) B' H' (OwnS ρ' σ) → Q b H'
def tO [Wd] (K : PySem.W.Frag) (Φ : Nat → List D → Option Sv) (ms : List ME) : TO := fun σ H Q => ∃ B ρ r ρ', EnvOk K B H ρ σ ∧ evO Φ ms ρ = some (r, ρ') ∧
  ∀ H' B', EnvOk K B' H' ρ' σ → Ext B H (OwnS ρ σ) B' H' (OwnS ρ' σ) → Q r H'
def tC1 [Wd] (K : PySem.W.Frag) (Φ : Nat → List D → Option Sv) (ms : List ME) : TT := fun σ H Q => ∃ B ρ r ρ', EnvOk K B H ρ σ ∧ evC Φ ms ρ = some (r, ρ') ∧
  ∀ H' B', EnvOk K B' H' ρ' σ → Ext B H (OwnS ρ σ) B' H' (OwnS ρ' σ) → Q r H'

/-- what a def's caller is to give: O: what was handed in to be changed -/
def RetQ [Wd] (K : PySem.W.Frag) (B H : Hp) (O : Addr → Prop) (Q : VK) (E : XK) : Sv → Prop
  | .fro d => ∀ v H' B', Same B' H' → Ext B H O B' H' (fun _ => False) → Rep K B' v d → Q v H'
  | .own d => ∀ v H' B', Same B' H' → Ext B H O B' H' (fun _ => False) → (∃ a, v = .ref a ∧ OwnAt K B' H' a d ∧ H a = none) → Q v H'
  | .no => ∀ v H' B', Same B' H' → Ext B H O B' H' (fun _ => False) → Q v H'
  | .io r d => ∀ v H' B', Same B' H' → Ext B H O B' H' O → Rep K B' v r → (∀ a, O a → OwnAt K B' H' a d) → Q v H'
  | .exc x => ∀ C H' B', Wd.mg x = some (.ref C) → Same B' H' → Ext B H O B' H' (fun _ => False) → E (.ref C) none H'
  | .xio x d => ∀ C H' B', Wd.mg x = some (.ref C) → Same B' H' → Ext B H O B' H' O → (∀ a, O a → OwnAt K B' H' a d) → E (.ref C) none H'
/-- a def's promise: what the small language gives -/
def spF [Wd] (K : PySem.W.Frag) (φ : List D → Option Sv) (n : Nat) : Sp := fun vs H Q E => vs.length = n ∧ ∃ B ds r, Same B H ∧ Reps K B vs ds ∧ φ ds = some r ∧ RetQ K B H (fun _ => False) Q E r
/-- .. of a def that changes the j-th thing that is handed in -/
def spIO [Wd] (K : PySem.W.Frag) (j : Nat) (φ : List D → Option Sv) (n : Nat) : Sp := fun vs H Q E => vs.length = n ∧ ∃ B ds r a, Same B H ∧ vs.length = ds.length ∧ vs[j]? = some (.ref a) ∧
  (∀ (i : Nat) v d, vs[i]? = some v → ds[i]? = some d → if i = j then OwnAt K B H a d else Rep K B v d) ∧ φ ds = some r ∧ RetQ K B H (fun b => b = a) Q E r
def spG [Wd] (K : PySem.W.Frag) (f : Nat) (φ : List D → Option Sv) (n : Nat) : Sp := match ioPos f with
  | none => spF K φ n
  | some j => spIO K j φ n
theorem spG_len [Wd] {K : PySem.W.Frag} {f : Nat} {φ : List D → Option Sv} {n : Nat} {vs : List V} {H : Hp} {Q : VK} {E : XK} (h : spG K f φ n vs H Q E) : vs.length = n := by
  unfold spG at h
  cases e : ioPos f with
  | none => rw [e] at h; exact h.1
  | some j => rw [e] at h; exact h.1
theorem spG_none [Wd] {K : PySem.W.Frag} {f : Nat} {φ : List D → Option Sv} {n : Nat} (e : ioPos f = none) : spG K f φ n = spF K φ n := by
  unfold spG
  rw [e]
theorem spG_some [Wd] {K : PySem.W.Frag} {f j : Nat} {φ : List D → Option Sv} {n : Nat} (e : ioPos f = some j) : spG K f φ n = spIO K j φ n := by
  unfold spG
  rw [e]
/-- a name with a dot: a method of a class, a field of any -/
def dotN (c m : Str) : Str := c ++ (("." : Str) ++ m)
/-- what stands for a field -/
def FLD : Nat := 4999

section
variable [Wd] {X : Cx}
theorem PE.imp {e : Expr} {t t' : TE} (h : PE X e t) (k : ∀ σ H Q, t' σ H Q → t σ H Q) : PE X e t' := ⟨fun pins s σ H Q I q => h.run pins s σ H Q I (k σ H Q q)⟩
theorem PT.imp {e : Expr} {t t' : TT} (h : PT X e t) (k : ∀ σ H Q, t' σ H Q → t σ H Q) : PT X e t' := ⟨fun pins s σ H Q I q => h.run pins s σ H Q I (k σ H Q q)⟩
theorem PW.imp {e : Expr} {t t' : TT} (h : PW X e t) (k : ∀ σ H Q, t' σ H Q → t σ H Q) : PW X e t' := ⟨fun w pins s σ H Q I q => h.run w pins s σ H Q I (k σ H Q q)⟩
theorem PA.imp {e : List Expr} {t t' : TA} (h : PA X e t) (k : ∀ σ H Q, t' σ H Q → t σ H Q) : PA X e t' := ⟨fun p pins s σ H Q I q => h.run p pins s σ H Q I (k σ H Q q)⟩
theorem PO.imp {e : Option Expr} {t t' : TO} (h : PO X e t) (k : ∀ σ H Q, t' σ H Q → t σ H Q) : PO X e t' := ⟨fun pins s σ H Q I q => h.run pins s σ H Q I (k σ H Q q)⟩
theorem PTs.imp {e : List Expr} {t t' : TT} (h : PTs X e t) (k : ∀ σ H Q, t' σ H Q → t σ H Q) : PTs X e t' := ⟨fun pins s σ H Q I q => h.run pins s σ H Q I (k σ H Q q)⟩
end

/-! ### where one stands -/
def plainB (x : Str) : Bool := !(x == ("__debug__" : Str)) && !(x == ("__classdict__" : Str)) && !decide (x = ("__name__" : Str)) && !x.cps.contains 46 && !decide (x = ("@" : Str))
def bltNames : List Str := ["len", "abs", "max", "min", "int", "bool", "str", "list", "tuple", "sum", "all", "any", "sorted", "isinstance", "range", "reversed", "enumerate", "zip", "set", "ValueError"]
/-- what the top has written of an error's class -/
structure ErrR (K : PySem.W.Frag) (mg : Str → Option Value) (x : Str) (C : Addr) : Prop where
  gC : mg x = some (.ref C)
  kC : PySem.W.keepIn K (.ref C) = true
  ex : ∃ B newId initId bmB, ExcBaseFacts B newId initId bmB ∧ PySem.W.excIn K C bmB newId = true
  hs : PySem.W.subIn K (.ref C) (.type "BaseException") = some true
  ty : PySem.W.typeIn K (.ref C) = some (.type "type")
  isE : ExcC K C
  kv : PySem.W.kitOne K (.ref C) (.type "ValueError") = some true
/-- a dict of the module as a tuple of its pairs -/
def encD (kvs : List (Str × D)) : D := .tup (kvs.map fun p => .tup [.str p.1, p.2])
inductive EntsOk [Wd] (K : PySem.W.Frag) : List DictEntry → List (Str × D) → Prop
  | nil : EntsOk K [] []
  | cons {e : DictEntry} {es : List DictEntry} {k : Str} {t : Tok} {d : D} {v : V} {kvs : List (Str × D)} : e.key = .str k t → RelV v e.val → (∀ H, Rep K H v d) → EntsOk K es kvs → EntsOk K (e :: es) ((k, d) :: kvs)
def GdOk [Wd] (K : PySem.W.Frag) (w : World) (mg : Str → Option Value) (x : Str) (kvs : List (Str × D)) : Prop := ∃ (a : Addr) (es : Array DictEntry) (n : Nat), mg x = some (.ref a) ∧ KDict K w a es n ∧ EntsOk K es.toList kvs
/-- c.m, a plain def read off a class -/
structure ClsC (K : PySem.W.Frag) (C : Addr) (m : Str) (a : Addr) : Prop where
  rd : PySem.W.readsIn K C (.type "type") = true
  ga : PySem.W.specialIn K (.ref C) "__getattribute__" = some (some (.builtin "type.__getattribute__"))
  at_ : PySem.W.findCls K (.ref C) (.type "type") m = some (.val (.ref a))
  kp : PySem.W.keepIn K (.ref a) = true
structure Good [Wd] (X : Cx) (Φ : Nat → List D → Option Sv) (F : List (Str × Nat)) (Gc : List (Str × D)) (N : List Str) (sc : Scope) (k : Nat) : Prop where
  calm : X.calm = true
  hN : X.N = N
  nd : N.Nodup
  hsc : X.env.scope = sc
  kind : sc.kind = .function
  room : Room (k + 2) X.A
  hP : X.prog = Wd.P
  hw : X.w = Wd.w
  hM : X.mg = Wd.mg
  bl : ∀ x : Str, F.lookup x = none → Gc.lookup x = none → x ∈ bltNames → X.mg x = none
  fn : ∀ (x : Str) (f : Nat), plainB x = true → F.lookup x = some f → ∃ (a : Addr) (fd : FuncData) (ps : List Str), X.mg x = some (.ref a) ∧ PySem.W.keepIn X.K (.ref a) = true ∧ Binds X.K fd ps [] ∧ FnOk X.prog X.w X.K X.mg X.base (L2.CX X.prog X.w) k a fd ps (spG X.K f (Φ f) ps.length) ∧
    ∀ ds s, Φ f ds = some s → ds.length = ps.length
  cl : ∀ c C, Wd.cls c = some C → X.mg c = some (.ref C) ∧ Cls X.K C
  mt : ∀ (c m : Str) (f : Nat), plainB c = true → F.lookup (dotN c m) = some f → f ≠ FLD → ∃ (C a : Addr) (fd : FuncData) (ps : List Str), Wd.cls c = some C ∧ Meth X.K C m a ∧ (m = "__init__" → Mk X.K C a) ∧ Binds X.K fd ps [] ∧
    FnOk X.prog X.w X.K X.mg X.base (L2.CX X.prog X.w) k a fd ps (spG X.K f (Φ f) ps.length) ∧ ∀ ds s, Φ f ds = some s → ds.length = ps.length
  na : ∀ c C x, Wd.cls c = some C → F.lookup (dotN Str.empty x) = some FLD → NoAttr X.K C x
  er : ∀ x, F.lookup (dotN "!" x) = some FLD → ∃ C, Wd.mg x = some (.ref C) ∧ ErrR X.K X.mg x C
  xc : ∀ (x c : Str) (C D : Addr), F.lookup (dotN "!" x) = some FLD → F.lookup (dotN "!" c) = some FLD → X.mg x = some (.ref C) → X.mg c = some (.ref D) → PySem.W.kitOne X.K (.ref C) (.ref D) = some (subX x c) ∧ PySem.W.exmOne X.K (.ref C) (.ref D) = some (subX x c)
  cc : ∀ (c m : Str) (f : Nat), plainB c = true → F.lookup (dotN "@" (dotN c m)) = some f → f ≠ FLD → ∃ (C a : Addr) (fd : FuncData) (ps : List Str), X.mg c = some (.ref C) ∧ ClsC X.K C m a ∧ Binds X.K fd ps [] ∧
    FnOk X.prog X.w X.K X.mg X.base (L2.CX X.prog X.w) k a fd ps (spG X.K f (Φ f) ps.length) ∧ ∀ ds s, Φ f ds = some s → ds.length = ps.length
  gd : ∀ (x : Str) (kvs : List (Str × D)), Gc.lookup (dotN "#" x) = some (encD kvs) → GdOk X.K X.w X.mg x kvs
  gl : ∀ (x : Str) (d : D), plainB x = true → Gc.lookup x = some d → ∃ u v, X.mg x = some u ∧ RelV v u ∧ ∀ H, Rep X.K H v d

/-- what a suite of a try keeps of it -/
structure GoodH [Wd] (X : Cx) (F : List (Str × Nat)) (Gc : List (Str × D)) (N : List Str) (sc : Scope) : Prop where
  hN : X.N = N
  nd : N.Nodup
  hsc : X.env.scope = sc
  hP : X.prog = Wd.P
  hw : X.w = Wd.w
  hM : X.mg = Wd.mg
  hu : X.A.units + 100 < cLine
  bl : ∀ x : Str, F.lookup x = none → Gc.lookup x = none → x ∈ bltNames → X.mg x = none
  er : ∀ x, F.lookup (dotN "!" x) = some FLD → ∃ C, Wd.mg x = some (.ref C) ∧ ErrR X.K X.mg x C
  xc : ∀ (x c : Str) (C D : Addr), F.lookup (dotN "!" x) = some FLD → F.lookup (dotN "!" c) = some FLD → X.mg x = some (.ref C) → X.mg c = some (.ref D) → PySem.W.kitOne X.K (.ref C) (.ref D) = some (subX x c) ∧ PySem.W.exmOne X.K (.ref C) (.ref D) = some (subX x c)
def visB (sc : Scope) (x : Str) : Bool := match sc.names.lookup x with
  | some .local => true
  | some .cell => true
  | some .free => true
  | _ => false
def gloB (sc : Scope) (x : Str) : Bool := decide (sc.names.lookup x = some .globalImplicit)
def locB (ns : List (Str × NameKind)) (x : Str) : Bool := match ns.lookup x with
  | some .local => true
  | some .cell => true
  | _ => false
def noStar : Expr → Bool
  | .Starred _ _ => false
  | _ => true
def noSet : Expr → Bool
  | .Set _ _ _ => false
  | _ => true
/-- whose method is called -/
def recvB : Expr → Bool
  | .Name _ _ => true
  | .Attribute (.Name _ _) _ _ => true
  | .Call (.Name _ _) (_ :: _) _ _ => true
  | _ => false
/-- whose attribute is not asked of super -/
def recvG : Expr → Bool
  | .Call (.Name _ _) [] [] _ => false
  | _ => true
def Smt.name : Smt → Str
  | .split => "split" | .join => "join" | .starts => "startswith" | .part => "partition" | .index => "index"
def dspB : List (Str × Str) → List (Option Expr) → List Expr → Bool
  | [], [], [] => true
  | (k, v) :: r, some (.Constant (.str k') _ _) :: ks, .Constant (.str v') _ _ :: vs => decide (k = k') && decide (v = v') && dspB r ks vs
  | _, _, _ => false
def noSlice : Expr → Bool
  | .Slice _ _ _ _ => false
  | _ => true
def Tg.slots : Tg → List Nat
  | .one i => [i]
  | .many is => is
def okName (N : List Str) (ns : List (Str × NameKind)) (i : Nat) : Expr → Bool
  | .Name x _ => decide (N[i]? = some x) && locB ns x
  | _ => false
def okNames (N : List Str) (ns : List (Str × NameKind)) : List Nat → List Expr → Bool
  | [], [] => true
  | i :: is, e :: es => okName N ns i e && okNames N ns is es
  | _, _ => false
def okTg (N : List Str) (ns : List (Str × NameKind)) : Tg → Expr → Bool
  | .one i, e => okName N ns i e
  | .many is, .Tuple es _ _ => okNames N ns is es
  | .many _, _ => false
def isTup : Expr → Bool
  | .Tuple _ _ _ => true
  | _ => false
/-- behind a comparison's right side no mark -/
def markB (o : Cop) (e : Expr) : Bool := !(behindInMarks o.py e)
def ownOf (N : List Str) (vs : List Nat) : List (Str × Nat) := vs.map fun i => (N.getD i Str.empty, i)
def Mut.name : Mut → Str
  | .append => "append" | .pop => "pop" | .popAt => "pop" | .clear => "clear"

/-- what may stand as a test of its own -/
def testOk : ME → Bool
  | .ife _ _ _ => false
  | .thw _ => false
  | _ => true

/-- a built-in name that the text leaves alone -/
def bltOk (F : List (Str × Nat)) (Gc : List (Str × D)) (sc : Scope) (x : Str) : Bool := decide (F.lookup x = none) && decide ((Gc.lookup x).isNone) && gloB sc x

def KeyQ.name : KeyQ → Str
  | .min => "min" | .sorted => "sorted"
mutual
/-- the same data -/
def D.same : D → D → Bool
  | .non, .non => true
  | .bl a, .bl b => a == b
  | .int i, .int j => decide (i = j)
  | .str x, .str y => decide (x = y)
  | .tup xs, .tup ys => D.sames xs ys
  | _, _ => false
def D.sames : List D → List D → Bool
  | [], [] => true
  | x :: xs, y :: ys => D.same x y && D.sames xs ys
  | _, _ => false
end
mutual
theorem same_eq : ∀ (a b : D), D.same a b = true → a = b
  | .non, b, h => by cases b <;> simp_all [D.same]
  | .bl _, b, h => by cases b <;> simp_all [D.same]
  | .int _, b, h => by cases b <;> simp_all [D.same]
  | .str _, b, h => by cases b <;> simp_all [D.same]
  | .tup xs, b, h => by
    cases b with
    | tup ys => rw [sames_eq xs ys (by simpa [D.same] using h)]
    | _ => simp [D.same] at h
  | .lst _, _, h => by simp [D.same] at h
  | .scr _, _, h => by simp [D.same] at h
  | .dK _, _, h => by simp [D.same] at h
  | .dT _, _, h => by simp [D.same] at h
  | .obj _ _, _, h => by simp [D.same] at h
  | .exc _, _, h => by simp [D.same] at h
theorem sames_eq : ∀ (as bs : List D), D.sames as bs = true → as = bs
  | [], [], _ => rfl
  | [], _ :: _, h => by simp [D.sames] at h
  | _ :: _, [], h => by simp [D.sames] at h
  | a :: as, b :: bs, h => by
    rw [D.sames, Bool.and_eq_true] at h
    rw [same_eq a b h.1, sames_eq as bs h.2]
end
/-- the module's dict x -/
def gdB (Gc : List (Str × D)) (x : Str) (kvs : List (Str × D)) : Bool := match Gc.lookup (dotN "#" x) with
  | some e => D.same e (encD kvs)
  | none => false
/-- names of classes of errors -/
def clsB (F : List (Str × Nat)) (sc : Scope) : List Expr → List Str → Bool
  | [], [] => true
  | .Name x _ :: es, c :: cs => decide (x = c) && decide (F.lookup (dotN "!" c) = some FLD) && gloB sc x && plainB x && clsB F sc es cs
  | _, _ => false
mutual
def okE (F : List (Str × Nat)) (Gc : List (Str × D)) (N : List Str) (sc : Scope) : ME → Expr → Bool
  | .var i, e => match e with
    | .Name x _ => decide (N[i]? = some x) && visB sc x && plainB x
    | _ => false
  | .cst d, e => match e, d with
    | .Constant .none _ _, .non => true
    | .Constant (.bool b) _ _, .bl b' => b == b'
    | .Constant (.int i) _ _, .int i' => decide (i = i')
    | .Constant (.str x) _ _, .str x' => decide (x = x')
    | _, _ => false
  | .gbl x d, e => match e with
    | .Name y _ => decide (y = x) && gloB sc y && plainB y && (match Gc.lookup y with
      | some e => D.same e d
      | none => false)
    | _ => false
  | .bin o a b, e => match e with
    | .BinOp l op r _ => decide (op = o.py) && okE F Gc N sc a l && okE F Gc N sc b r
    | _ => false
  | .neg a, e => match e with
    | .UnaryOp .USub x _ => okE F Gc N sc a x
    | _ => false
  | .cmp o a b, e => match e with
    | .Compare l [op] [r] _ => decide (op = o.py) && markB o r && okE F Gc N sc a l && okE F Gc N sc b r
    | _ => false
  | .cmp2 o o' a b c, e => match e with
    | .Compare l [op, op'] [r, r'] _ => decide (op = o.py) && decide (op' = o'.py) && markB o r && markB o' r' && okE F Gc N sc a l && okE F Gc N sc b r && okE F Gc N sc c r'
    | _ => false
  | .bop k es, e => match e with
    | .BoolOp op xs _ => decide (op = (if k then BoolOp.And else BoolOp.Or)) && es.all testOk && okEs F Gc N sc es xs
    | _ => false
  | .not a, e => match e with
    | .UnaryOp .Not x _ => testOk a && okE F Gc N sc a x
    | _ => false
  | .ife c a b, e => match e with
    | .IfExp x y z _ => testOk c && okE F Gc N sc c x && okE F Gc N sc a y && okE F Gc N sc b z
    | _ => false
  | .tup es, e => match e with
    | .Tuple xs _ _ => okEs F Gc N sc es xs
    | _ => false
  | .lst es, e => match e with
    | .List xs _ => okEs F Gc N sc es xs
    | _ => false
  | .idx a b, e => match e with
    | .Subscript x y _ => noSlice y && okE F Gc N sc a x && okE F Gc N sc b y
    | _ => false
  | .sli a lo hi, e => match e with
    | .Subscript x (.Slice l h none _) _ => okE F Gc N sc a x && okO F Gc N sc lo l && okO F Gc N sc hi h
    | _ => false
  | .back a, e => match e with
    | .Subscript x (.Slice none none (some (.UnaryOp .USub (.Constant (.int i) _ _) _)) _) _ => decide (i = 1) && okE F Gc N sc a x
    | _ => false
  | .call f es, e => match e with
    | .Call (.Name x _) xs [] _ => decide (F.lookup x = some f) && decide (ioPos f = none) && gloB sc x && plainB x && okEs F Gc N sc es xs
    | .Call (.Attribute (.Name c _) m ap) xs [] cp => decide (F.lookup (dotN "@" (dotN c m)) = some f) && decide (f ≠ FLD) && decide (ioPos f = none) && gloB sc c && plainB c && (ap.endLine == cp.line) && decide (xs.length < 30) && okEs F Gc N sc es xs
    | _ => false
  | .cio f j i es, e => match e with
    | .Call (.Name x _) xs [] _ => decide (F.lookup x = some f) && decide (ioPos f = some j) && gloB sc x && plainB x && okEs F Gc N sc es xs
    | _ => false
  | .fld a x, e => match e with
    | .Attribute (.Name y p) nm _ => decide (nm = x) && decide (F.lookup (dotN Str.empty x) = some FLD) && okE F Gc N sc a (.Name y p)
    | _ => false
  | .meth a m tab es, e => match e with
    | .Call (.Attribute o nm ap) xs [] cp => decide (nm = m) && recvB o && (ap.endLine == cp.line) && decide (xs.length < 30) && tab.all (fun y => decide (F.lookup (dotN y.1 m) = some y.2) && decide (y.2 ≠ FLD) && decide (ioPos y.2 = none) && plainB y.1) && okE F Gc N sc a o && okEs F Gc N sc es xs
    | _ => false
  | .mio c m f i es, e => match e with
    | .Call (.Attribute (.Name x _) nm ap) xs [] cp => decide (N[i]? = some x) && visB sc x && plainB x && decide (nm = m) && (ap.endLine == cp.line) && decide (xs.length < 30) && decide (F.lookup (dotN c m) = some f) && decide (f ≠ FLD) && decide (ioPos f = some 0) && plainB c && okEs F Gc N sc es xs
    | _ => false
  | .make c f es, e => match e with
    | .Call (.Name x _) xs [] _ => decide (x = c) && decide (F.lookup (dotN c "__init__") = some f) && decide (f ≠ FLD) && decide (ioPos f = some 0) && gloB sc x && plainB x && okEs F Gc N sc es xs
    | _ => false
  | .prim p es, e => match e with
    | .Call (.Name x _) (y :: ys) [] _ => decide (x = p.name) && decide (F.lookup x = none) && decide ((Gc.lookup x).isNone) && gloB sc x && plainB x && okEs F Gc N sc es (y :: ys)
    | _ => false
  | .fus q [m], e => match q, e with
    | .sortedSet, .Call (.Name x _) [.Call (.Name z _) [y] [] _] [] _ => decide (x = ("sorted" : Str)) && bltOk F Gc sc x && decide (z = ("set" : Str)) && bltOk F Gc sc z && noStar y && okE F Gc N sc m y
    | .lenSet, .Call (.Name x _) [.Call (.Name z _) [y] [] _] [] _ => decide (x = ("len" : Str)) && bltOk F Gc sc x && decide (z = ("set" : Str)) && bltOk F Gc sc z && noStar y && okE F Gc N sc m y
    | .tupRange, .Call (.Name x _) [.Call (.Name z _) [y] [] _] [] _ => decide (x = ("tuple" : Str)) && bltOk F Gc sc x && decide (z = ("range" : Str)) && bltOk F Gc sc z && noStar y && okE F Gc N sc m y
    | .listRange, .Call (.Name x _) [.Call (.Name z _) [y] [] _] [] _ => decide (x = ("list" : Str)) && bltOk F Gc sc x && decide (z = ("range" : Str)) && bltOk F Gc sc z && noStar y && okE F Gc N sc m y
    | .listRev, .Call (.Name x _) [.Call (.Name z _) [y] [] _] [] _ => decide (x = ("list" : Str)) && bltOk F Gc sc x && decide (z = ("reversed" : Str)) && bltOk F Gc sc z && noStar y && okE F Gc N sc m y
    | _, _ => false
  | .fus _ _, _ => false
  | .isi a t, e => match e with
    | .Call (.Name x _) [y, .Name z _] [] _ => decide (x = ("isinstance" : Str)) && decide (F.lookup x = none) && decide ((Gc.lookup x).isNone) && gloB sc x && okE F Gc N sc a y && noStar y
        && decide (z = (t.name : Str)) && decide (F.lookup z = none) && decide ((Gc.lookup z).isNone) && gloB sc z
    | _ => false
  | .isx _ _ _ _, _ => false
  | .comp elt tg vs k src conds, e => match e with
    | .ListComp el [⟨t, it, ifs, a⟩] scope _ => decide (a = 0) && L2.blkC N sc scope (ownOf N vs) && tg.slots.all (fun i => decide (i ∈ vs)) && okTg N scope.names tg t && noSet it
        && (match k, it, src with
          | .seq, it, [s] => okE F Gc N sc s it
          | .rng1, .Call (.Name x _) [y] [] _, [s] => decide (x = ("range" : Str)) && decide (F.lookup x = none) && decide ((Gc.lookup x).isNone) && gloB sc x && noStar y && okE F Gc N sc s y
          | .rng2, .Call (.Name x _) [y, z] [] _, [s, u] => decide (x = ("range" : Str)) && decide (F.lookup x = none) && decide ((Gc.lookup x).isNone) && gloB sc x && noStar y && noStar z && okE F Gc N sc s y && okE F Gc N sc u z
          | .rev, .Call (.Name x _) [y] [] _, [s] => decide (x = ("reversed" : Str)) && decide (F.lookup x = none) && decide ((Gc.lookup x).isNone) && gloB sc x && noStar y && okE F Gc N sc s y
          | .enum, .Call (.Name x _) [y] [] _, [s] => decide (x = ("enumerate" : Str)) && decide (F.lookup x = none) && decide ((Gc.lookup x).isNone) && gloB sc x && noStar y && isTup t && okE F Gc N sc s y
          | .zip, .Call (.Name x _) [y, z] [] _, [s, u] => decide (x = ("zip" : Str)) && decide (F.lookup x = none) && decide ((Gc.lookup x).isNone) && gloB sc x && noStar y && noStar z && isTup t && okE F Gc N sc s y && okE F Gc N sc u z
          | .items, .Call (.Attribute (.Name x px) nm ap) [] [] cp, [s] => decide (nm = ("items" : Str)) && (ap.endLine == cp.line) && isTup t && okE F Gc N sc s (.Name x px)
          | _, _, _ => false)
        && (match conds, ifs with
          | [], [] => true
          | [c], [x] => testOk c && okE F Gc N (L2.relS scope sc) c x
          | _, _ => false)
        && okE F Gc N (L2.relS scope sc) elt el
    | _ => false
  | .mut m i es, e => match e with
    | .Call (.Attribute (.Name x _) nm ap) xs [] cp => decide (N[i]? = some x) && visB sc x && plainB x && decide (nm = m.name) && (ap.endLine == cp.line) && okEs F Gc N sc es xs
        && (match m, es with
          | .append, [_] => true
          | .pop, [] => true
          | .popAt, [_] => true
          | .clear, [] => true
          | _, _ => false)
    | _ => false
  | .smt q a b, e => match e with
    | .Call (.Attribute o nm ap) [y] [] cp => decide (nm = q.name) && recvG o && (ap.endLine == cp.line) && noStar y && okE F Gc N sc a o && okE F Gc N sc b y
    | _ => false
  | .cit f j es, e => match e with
    | .Call (.Name x _) xs [] _ => decide (F.lookup x = some f) && decide (ioPos f = some j) && gloB sc x && plainB x && okEs F Gc N sc es xs
    | _ => false
  | .gdx x kvs a, e => match e with
    | .Subscript (.Name y _) z _ => decide (y = x) && gloB sc y && plainB y && noSlice z && gdB Gc x kvs && okE F Gc N sc a z
    | _ => false
  | .gdin neg x kvs a, e => match e with
    | .Compare l [op] [.Name y p] _ => decide (op = (if neg then CmpOp.NotIn else CmpOp.In)) && !(behindInMarks op (.Name y p)) && decide (y = x) && gloB sc y && plainB y && gdB Gc x kvs && okE F Gc N sc a l
    | _ => false
  | .dsp kvs, e => match e with
    | .Dict ks vs _ => dspB kvs ks vs && !kvs.isEmpty && decide (kvs.length ≤ 15) && decide ((kvs.map (·.1)).Nodup)
    | _ => false
  | .maxd a, e => match e with
    | .Call (.Name x _) [y] [⟨some kn, .Constant (.int i) _ _, _⟩] _ => decide (x = ("max" : Str)) && bltOk F Gc sc x && decide (kn = ("default" : Str)) && decide (i = 0) && noStar y && okE F Gc N sc a y
    | _ => false
  | .thw a, e => okE F Gc N sc a e
  | .dct _ [], e => match e with
    | .Dict [] [] _ => true
    | _ => false
  | .dct true [a, b], e => match e with
    | .Dict [some x] [y] _ => okE F Gc N sc a x && okE F Gc N sc b y
    | _ => false
  | .dct _ _, _ => false
  | .keyf q f a, e => match e with
    | .Call (.Name x _) [y] [⟨some kn, .Name z _, _⟩] _ => decide (x = q.name) && bltOk F Gc sc x && decide (kn = ("key" : Str)) && decide (F.lookup z = some f) && decide (ioPos f = none) && gloB sc z && plainB z && noStar y && okE F Gc N sc a y
    | _ => false
  | .keyd f a, e => match e with
    | .Call (.Name x _) [.Call (.Attribute (.Name y py) nm ap) [] [] cp] [⟨some kn, .Name z _, _⟩] _ => decide (x = ("sorted" : Str)) && bltOk F Gc sc x && decide (nm = ("keys" : Str)) && (ap.endLine == cp.line) && decide (kn = ("key" : Str)) && decide (F.lookup z = some f) && decide (ioPos f = none) && gloB sc z && plainB z && okE F Gc N sc a (.Name y py)
    | _ => false
  | .lzip es, e => match e with
    | .Call (.Name x _) [.Call (.Name z _) [y1, y2] [] _] [] _ => decide (x = ("list" : Str)) && bltOk F Gc sc x && decide (z = ("zip" : Str)) && bltOk F Gc sc z && noStar y1 && noStar y2 && okEs F Gc N sc es [y1, y2]
    | _ => false
def okEs (F : List (Str × Nat)) (Gc : List (Str × D)) (N : List Str) (sc : Scope) : List ME → List Expr → Bool
  | [], [] => true
  | m :: ms, e :: es => noStar e && okE F Gc N sc m e && okEs F Gc N sc ms es
  | _, _ => false
def okO (F : List (Str × Nat)) (Gc : List (Str × D)) (N : List Str) (sc : Scope) : List ME → Option Expr → Bool
  | [], none => true
  | [m], some e => okE F Gc N sc m e
  | _, _ => false
end
theorem fus_call {F : List (Str × Nat)} {Gc : List (Str × D)} {N : List Str} {sc : Scope} {q : Fus} {es : List ME} {e : Expr} (h : okE F Gc N sc (.fus q es) e = true) : ∃ f xs ks p, e = .Call f xs ks p := by
  cases es with
  | nil => simp [okE] at h
  | cons a es =>
    cases es with
    | cons b es => simp [okE] at h
    | nil =>
      unfold okE at h
      split at h
      · exact ⟨_, _, _, _, rfl⟩
      · exact ⟨_, _, _, _, rfl⟩
      · exact ⟨_, _, _, _, rfl⟩
      · exact ⟨_, _, _, _, rfl⟩
      · exact ⟨_, _, _, _, rfl⟩
      · cases h
theorem dct_form {F : List (Str × Nat)} {Gc : List (Str × D)} {N : List Str} {sc : Scope} {t : Bool} {es : List ME} {e : Expr} (h : okE F Gc N sc (.dct t es) e = true) : ∃ ks vs p, e = .Dict ks vs p := by
  match es, t with
  | [], _ =>
    unfold okE at h
    split at h
    · exact ⟨_, _, _, rfl⟩
    · cases h
  | [a], true => simp [okE] at h
  | [a], false => simp [okE] at h
  | [a, b], false => simp [okE] at h
  | a :: b :: c :: es, true => simp [okE] at h
  | a :: b :: c :: es, false => simp [okE] at h
  | [a, b], true =>
    unfold okE at h
    split at h
    · exact ⟨_, _, _, rfl⟩
    · cases h
def okIt (F : List (Str × Nat)) (Gc : List (Str × D)) (N : List Str) (sc : Scope) (k : ItK) (t it : Expr) (src : List ME) : Bool :=
  match k, it, src with

          | .seq, it, [s] => okE F Gc N sc s it
          | .rng1, .Call (.Name x _) [y] [] _, [s] => decide (x = ("range" : Str)) && decide (F.lookup x = none) && decide ((Gc.lookup x).isNone) && gloB sc x && noStar y && okE F Gc N sc s y
          | .rng2, .Call (.Name x _) [y, z] [] _, [s, u] => decide (x = ("range" : Str)) && decide (F.lookup x = none) && decide ((Gc.lookup x).isNone) && gloB sc x && noStar y && noStar z && okE F Gc N sc s y && okE F Gc N sc u z
          | .rev, .Call (.Name x _) [y] [] _, [s] => decide (x = ("reversed" : Str)) && decide (F.lookup x = none) && decide ((Gc.lookup x).isNone) && gloB sc x && noStar y && okE F Gc N sc s y
          | .enum, .Call (.Name x _) [y] [] _, [s] => decide (x = ("enumerate" : Str)) && decide (F.lookup x = none) && decide ((Gc.lookup x).isNone) && gloB sc x && noStar y && isTup t && okE F Gc N sc s y
          | .zip, .Call (.Name x _) [y, z] [] _, [s, u] => decide (x = ("zip" : Str)) && decide (F.lookup x = none) && decide ((Gc.lookup x).isNone) && gloB sc x && noStar y && noStar z && isTup t && okE F Gc N sc s y && okE F Gc N sc u z
          | .items, .Call (.Attribute (.Name x px) nm ap) [] [] cp, [s] => decide (nm = ("items" : Str)) && (ap.endLine == cp.line) && isTup t && okE F Gc N sc s (.Name x px)
          | _, _, _ => false
def okC (F : List (Str × Nat)) (Gc : List (Str × D)) (N : List Str) (sc : Scope) (conds : List ME) (ifs : List Expr) : Bool :=
  match conds, ifs with
  | [], [] => true
  | [c], [x] => testOk c && okE F Gc N sc c x
  | _, _ => false
end ML
set_option Elab.async false
set_option linter.all false
set_option autoImplicit false
set_option maxRecDepth 100000
set_option maxHeartbeats 4000000
/-! MLexp: each form of expression by itself. -/
namespace ML
open PySem L2

theorem plain_ne {x : Str} (h : plainB x = true) : (x == ("__debug__" : Str)) = false ∧ (x == ("__classdict__" : Str)) = false ∧ x ≠ "__name__" := by
  unfold plainB at h
  simp only [Bool.and_eq_true, Bool.not_eq_true', decide_eq_false_iff_not] at h
  exact ⟨h.1.1.1.1, h.1.1.1.2, h.1.1.2⟩
theorem vis_of {sc : Scope} {x : Str} (h : visB sc x = true) : Vis sc x := by
  unfold visB at h
  unfold Vis
  split at h
  · rename_i e; exact .inl e
  · rename_i e; exact .inr (.inl e)
  · rename_i e; exact .inr (.inr e)
  · cases h
theorem loc_of {sc : Scope} {x : Str} (h : locB sc.names x = true) : L2.Loc sc x := by
  unfold locB at h
  unfold L2.Loc
  split at h
  · rename_i e; exact .inl e
  · rename_i e; exact .inr e
  · cases h
theorem star_cons {e : Expr} (h : noStar e = true) (es : List Expr) (env : PySem.Env) : starEach (e :: es) env = (false, eval e env) :: starEach es env := by
  cases e <;> first | rfl | cases h
theorem plainIx_of {b : Expr} (h : noSlice b = true) : PlainIx b := by
  cases b <;> first | (intro o i; rfl) | cases h
theorem noSet_ok {e : Expr} (h : noSet e = true) (env : PySem.Env) : ∀ x, foldedSetIterable e env x = pure x := by
  cases e <;> first | (intro x; rfl) | cases h

section
variable [Wd] {X : Cx} {Φ : Nat → List D → Option Sv} {F : List (Str × Nat)} {Gc : List (Str × D)} {N : List Str} {sc : Scope} {k : Nat}
theorem Good.gl_ok (g : Good X Φ F Gc N sc k) {x : Str} (h : gloB sc x = true) : Gl X x := by
  unfold Gl
  show X.env.scope.names.lookup x = _
  rw [g.hsc]
  exact of_decide_eq_true h
theorem Good.rm (g : Good X Φ F Gc N sc k) : Room k X.A := g.room.mono (Nat.le_add_right k 2)
theorem Good.hu (g : Good X Φ F Gc N sc k) : X.A.units + 64 < cLine := g.room.units
theorem Good.hu' (g : Good X Φ F Gc N sc k) : X.A.units + 100 < cLine := by have := g.room.un; omega

/-- a name -/
theorem snd_var (g : Good X Φ F Gc N sc k) {i : Nat} {x : Str} {pos : Pos} (h1 : N[i]? = some x) (h2 : visB sc x = true) (h3 : plainB x = true) : PE X (.Name x pos) (tE X.K Φ (.var i)) := by
  obtain ⟨d1, d2, _⟩ := plain_ne h3
  refine PE.imp (pe_var (i := i) (by rw [g.hN]; exact h1) (by rw [g.hsc]; exact vis_of h2) d1 d2) fun σ H Q ⟨B, ρ, r, ρ', E, e, q⟩ => ?_
  rw [evE] at e
  obtain ⟨r', e1, e2⟩ := map_some e
  cases e2
  unfold look at e1
  split at e1
  · rename_i d hd
    cases e1
    obtain ⟨v, h1, h2⟩ := E.fro i d hd
    exact ⟨v, h1, q v H B E .refl h2⟩
  · rename_i d hd
    cases e1
    obtain ⟨a, h1, _⟩ := E.own i d hd
    exact ⟨_, h1, q _ H B E .refl h1⟩
  · cases e1
theorem snd_cst {d : D} {v : V} {e : Expr} (h : PE X e (tC v)) (hd : ∀ H, Rep X.K H v d) : PE X e (tE X.K Φ (.cst d)) := by
  refine PE.imp h fun σ H Q ⟨B, ρ, r, ρ', E, e, q⟩ => ?_
  rw [evE] at e
  cases e
  exact q v H B E .refl (hd B)
theorem snd_gbl {d : D} {v : V} {e : Expr} {x : Str} (h : PE X e (tC v)) (hd : ∀ H, Rep X.K H v d) : PE X e (tE X.K Φ (.gbl x d)) := by
  refine PE.imp h fun σ H Q ⟨B, ρ, r, ρ', E, e, q⟩ => ?_
  rw [evE] at e
  cases e
  exact q v H B E .refl (hd B)
theorem snd_bin {o : Bop} {a b : ME} {l r : Expr} {pos : Pos} (ha : PE X l (tE X.K Φ a)) (hb : PE X r (tE X.K Φ b)) : PE X (.BinOp l o.py r pos) (tE X.K Φ (.bin o a b)) := by
  refine PE.imp (pe_op (op_bin o) ha hb) fun σ H Q ⟨B, ρ, r, ρ', E, e, q⟩ => ?_
  rw [evE] at e
  obtain ⟨p1, e1, e⟩ := bind_some e
  obtain ⟨p2, e2, e⟩ := bind_some e
  obtain ⟨x, e3, e⟩ := bind_some e
  obtain ⟨y, e4, e⟩ := bind_some e
  obtain ⟨s, e5, e⟩ := bind_some e
  obtain ⟨r', e6, e7⟩ := map_some e
  cases e7
  refine ⟨B, ρ, p1.1, p1.2, E, e1, fun v H1 B1 E1 X1 R1 => ?_⟩
  obtain ⟨B1', E1', X1', O1⟩ := op_of E1 X1 R1
  refine ⟨B1', p1.2, p2.1, p2.2, E1', e2, fun w H2 B2 E2 X2 R2 => ?_⟩
  obtain ⟨B2', E2', X2', O2⟩ := op_of E2 X2 R2
  have XX := X1'.trans X2'
  have r1 := cont_ok E2' (O1.mono X2'.b) e3
  have r2 := cont_ok E2' O2 e4
  refine ⟨B2', x, y, s, E2'.same, r1, r2, e5, fun z H3 B3 n => ?_⟩
  obtain ⟨E3, X3, r3, f, R3⟩ := n.ok E2' XX
  rw [e6] at f; cases f
  exact q z H3 B3 E3 X3 R3
theorem asI_eq {d : D} {i : Int} (h : asI d = some i) : d = .int i := by
  cases d <;> simp [asI] at h
  rw [h]
theorem asB_eq {d : D} {i : Bool} (h : asB d = some i) : d = .bl i := by
  cases d <;> simp [asB] at h
  rw [h]
theorem snd_neg {a : ME} {l : Expr} {pos : Pos} (ha : PE X l (tE X.K Φ a)) : PE X (.UnaryOp .USub l pos) (tE X.K Φ (.neg a)) := by
  refine PE.imp (pe_un un_neg ha) fun σ H Q ⟨B, ρ, r, ρ', E, e, q⟩ => ?_
  rw [evE] at e
  obtain ⟨p1, e1, e⟩ := bind_some e
  obtain ⟨x, e3, e⟩ := bind_some e
  obtain ⟨i, e4, e5⟩ := map_some e
  cases e5
  refine ⟨B, ρ, p1.1, p1.2, E, e1, fun v H1 B1 E1 X1 R1 => ?_⟩
  obtain ⟨B1', E1', X1', O1⟩ := op_of E1 X1 R1
  have r1 := cont_ok E1' O1 e3
  rw [asI_eq e4] at r1
  exact ⟨i, r1.int, q _ _ _ E1' X1' (.int _)⟩
theorem snd_cmp (g : Good X Φ F Gc N sc k) {o : Cop} {a b : ME} {l r : Expr} {pos : Pos} (hm : markB o r = true) (ha : PE X l (tE X.K Φ a)) (hb : PE X r (tE X.K Φ b)) : PE X (.Compare l [o.py] [r] pos) (tE X.K Φ (.cmp o a b)) := by
  refine PE.imp (pe_cmpR (op_cmp g.hP g.hw g.hu' o) ha hb (by simpa [markB] using hm)) fun σ H Q ⟨B, ρ, r, ρ', E, e, q⟩ => ?_
  rw [evE] at e
  obtain ⟨p1, e1, e⟩ := bind_some e
  obtain ⟨p2, e2, e⟩ := bind_some e
  obtain ⟨x, e3, e⟩ := bind_some e
  obtain ⟨y, e4, e⟩ := bind_some e
  obtain ⟨c, e5, e6⟩ := map_some e
  cases e6
  refine ⟨B, ρ, p1.1, p1.2, E, e1, fun v H1 B1 E1 X1 R1 => ?_⟩
  obtain ⟨B1', E1', X1', O1⟩ := op_of E1 X1 R1
  refine ⟨B1', p1.2, p2.1, p2.2, E1', e2, fun w H2 B2 E2 X2 R2 => ?_⟩
  obtain ⟨B2', E2', X2', O2⟩ := op_of E2 X2 R2
  exact ⟨B2', x, y, c, E2'.same, cont_ok E2' (O1.mono X2'.b) e3, cont_ok E2' O2 e4, e5, q _ _ _ E2' (X1'.trans X2') (.bl _)⟩
theorem snd_cmpT (g : Good X Φ F Gc N sc k) {o : Cop} {a b : ME} {l r : Expr} {pos : Pos} (hm : markB o r = true) (ha : PE X l (tE X.K Φ a)) (hb : PE X r (tE X.K Φ b)) : PT X (.Compare l [o.py] [r] pos) (tT X.K Φ (.cmp o a b)) := by
  refine PT.imp (pt_cmpR (op_cmp g.hP g.hw g.hu' o) ha hb (by simpa [markB] using hm)) fun σ H Q ⟨B, ρ, r, ρ', bb, E, e, eb, q⟩ => ?_
  rw [evE] at e
  obtain ⟨p1, e1, e⟩ := bind_some e
  obtain ⟨p2, e2, e⟩ := bind_some e
  obtain ⟨x, e3, e⟩ := bind_some e
  obtain ⟨y, e4, e⟩ := bind_some e
  obtain ⟨c, e5, e6⟩ := map_some e
  cases e6
  cases eb
  refine ⟨B, ρ, p1.1, p1.2, E, e1, fun v H1 B1 E1 X1 R1 => ?_⟩
  obtain ⟨B1', E1', X1', O1⟩ := op_of E1 X1 R1
  refine ⟨B1', p1.2, p2.1, p2.2, E1', e2, fun w H2 B2 E2 X2 R2 => ?_⟩
  obtain ⟨B2', E2', X2', O2⟩ := op_of E2 X2 R2
  exact ⟨B2', x, y, _, E2'.same, cont_ok E2' (O1.mono X2'.b) e3, cont_ok E2' O2 e4, e5, _, rfl, q _ _ E2' (X1'.trans X2')⟩
theorem snd_cmp2 (g : Good X Φ F Gc N sc k) {o o' : Cop} {a b c : ME} {l r r' : Expr} {pos : Pos} (hm : markB o' r' = true) (ha : PE X l (tE X.K Φ a)) (hb : PE X r (tE X.K Φ b)) (hc : PE X r' (tE X.K Φ c)) : PE X (.Compare l [o.py, o'.py] [r, r'] pos) (tE X.K Φ (.cmp2 o o' a b c)) := by
  refine PE.imp (pe_chain (op_cmp g.hP g.hw g.hu' o) (op_cmp g.hP g.hw g.hu' o') ha hb hc (show behindInMarks o'.py r' = false by simpa [markB] using hm)) fun σ H Q ⟨B, ρ, r, ρ', E, e, q⟩ => ?_
  rw [evE] at e
  obtain ⟨p1, e1, e⟩ := bind_some e
  obtain ⟨p2, e2, e⟩ := bind_some e
  obtain ⟨x, e3, e⟩ := bind_some e
  obtain ⟨y, e4, e⟩ := bind_some e
  obtain ⟨c, e5, e⟩ := bind_some e
  refine ⟨B, ρ, p1.1, p1.2, E, e1, fun v H1 B1 E1 X1 R1 => ?_⟩
  obtain ⟨B1', E1', X1', O1⟩ := op_of E1 X1 R1
  refine ⟨B1', p1.2, p2.1, p2.2, E1', e2, fun w H2 B2 E2 X2 R2 => ?_⟩
  obtain ⟨B2', E2', X2', O2⟩ := op_of E2 X2 R2
  refine ⟨B2', x, y, c, E2'.same, cont_ok E2' (O1.mono X2'.b) e3, cont_ok E2' O2 e4, e5, c, rfl, ?_⟩
  cases c with
  | false =>
    simp only [Bool.false_eq_true, if_false] at e ⊢
    cases e
    exact q _ _ _ E2' (X1'.trans X2') (.bl _)
  | true =>
    simp only [if_true] at e ⊢
    obtain ⟨p3, e6, e⟩ := bind_some e
    obtain ⟨y', e7, e⟩ := bind_some e
    obtain ⟨z, e8, e⟩ := bind_some e
    obtain ⟨c', e9, e10⟩ := map_some e
    cases e10
    refine ⟨B2', p2.2, p3.1, p3.2, E2', e6, fun u H3 B3 E3 X3 R3 => ?_⟩
    obtain ⟨B3', E3', X3', O3⟩ := op_of E3 X3 R3
    exact ⟨B3', y', z, c', E3'.same, cont_ok E3' (O2.mono X3'.b) e7, cont_ok E3' O3 e8, e9, q _ _ _ E3' ((X1'.trans X2').trans X3') (.bl _)⟩
theorem snd_cmp2T (g : Good X Φ F Gc N sc k) {o o' : Cop} {a b c : ME} {l r r' : Expr} {pos : Pos} (hm : markB o' r' = true) (ha : PE X l (tE X.K Φ a)) (hb : PE X r (tE X.K Φ b)) (hc : PE X r' (tE X.K Φ c)) : PT X (.Compare l [o.py, o'.py] [r, r'] pos) (tT X.K Φ (.cmp2 o o' a b c)) := by
  refine PT.imp (pt_chain (op_cmp g.hP g.hw g.hu' o) (op_cmp g.hP g.hw g.hu' o') ha hb hc (show behindInMarks o'.py r' = false by simpa [markB] using hm)) fun σ H Q ⟨B, ρ, r, ρ', bb, E, e, eb, q⟩ => ?_
  rw [evE] at e
  obtain ⟨p1, e1, e⟩ := bind_some e
  obtain ⟨p2, e2, e⟩ := bind_some e
  obtain ⟨x, e3, e⟩ := bind_some e
  obtain ⟨y, e4, e⟩ := bind_some e
  obtain ⟨c, e5, e⟩ := bind_some e
  refine ⟨B, ρ, p1.1, p1.2, E, e1, fun v H1 B1 E1 X1 R1 => ?_⟩
  obtain ⟨B1', E1', X1', O1⟩ := op_of E1 X1 R1
  refine ⟨B1', p1.2, p2.1, p2.2, E1', e2, fun w H2 B2 E2 X2 R2 => ?_⟩
  obtain ⟨B2', E2', X2', O2⟩ := op_of E2 X2 R2
  refine ⟨B2', x, y, c, E2'.same, cont_ok E2' (O1.mono X2'.b) e3, cont_ok E2' O2 e4, e5, c, rfl, ?_⟩
  cases c with
  | false =>
    simp only [Bool.false_eq_true, if_false] at e ⊢
    cases e
    cases eb
    exact ⟨_, rfl, q _ _ E2' (X1'.trans X2')⟩
  | true =>
    simp only [if_true] at e ⊢
    obtain ⟨p3, e6, e⟩ := bind_some e
    obtain ⟨y', e7, e⟩ := bind_some e
    obtain ⟨z, e8, e⟩ := bind_some e
    obtain ⟨c', e9, e10⟩ := map_some e
    cases e10
    cases eb
    refine ⟨B2', p2.2, p3.1, p3.2, E2', e6, fun u H3 B3 E3 X3 R3 => ?_⟩
    obtain ⟨B3', E3', X3', O3⟩ := op_of E3 X3 R3
    exact ⟨B3', y', z, _, E3'.same, cont_ok E3' (O2.mono X3'.b) e7, cont_ok E3' O3 e8, e9, _, rfl, q _ _ E3' ((X1'.trans X2').trans X3')⟩
/-- an expression whose value is a truth, as a test -/
theorem snd_val {m : ME} {e : Expr} (h : PE X e (tE X.K Φ m)) (he : ∀ whole, isTrue e X.env whole = (do let v ← whole; standAt e.pos; holding [v] (truthy v))) : PT X e (tT X.K Φ m) := by
  refine PT.imp (pt_val h he) fun σ H Q ⟨B, ρ, r, ρ', b, E, e, eb, q⟩ => ?_
  refine ⟨B, ρ, r, ρ', E, e, fun v H1 B1 E1 X1 R1 => ?_⟩
  obtain ⟨B1', E1', X1', O1⟩ := op_of E1 X1 R1
  have r1 := cont_ok E1' O1 eb
  exact ⟨b, r1.bl, q _ _ E1' X1'⟩
theorem snd_not {a : ME} {l : Expr} {pos : Pos} (ha : PE X l (tE X.K Φ a)) : PE X (.UnaryOp .Not l pos) (tE X.K Φ (.not a)) := by
  refine PE.imp (pe_not ha) fun σ H Q ⟨B, ρ, r, ρ', E, e, q⟩ => ?_
  rw [evE] at e
  obtain ⟨p1, e1, e⟩ := bind_some e
  obtain ⟨x, e3, e⟩ := bind_some e
  obtain ⟨i, e4, e5⟩ := map_some e
  cases e5
  refine ⟨B, ρ, p1.1, p1.2, E, e1, fun v H1 B1 E1 X1 R1 => ?_⟩
  obtain ⟨B1', E1', X1', O1⟩ := op_of E1 X1 R1
  have r1 := cont_ok E1' O1 e3
  rw [asB_eq e4] at r1
  exact ⟨i, r1.bl, q _ _ _ E1' X1' (.bl _)⟩
theorem snd_notT {a : ME} {l : Expr} {pos : Pos} (ha : PT X l (tT X.K Φ a)) : PT X (.UnaryOp .Not l pos) (tT X.K Φ (.not a)) := by
  refine PT.imp (pt_not ha) fun σ H Q ⟨B, ρ, r, ρ', b, E, e, eb, q⟩ => ?_
  rw [evE] at e
  obtain ⟨p1, e1, e⟩ := bind_some e
  obtain ⟨x, e3, e⟩ := bind_some e
  obtain ⟨i, e4, e5⟩ := map_some e
  cases e5
  cases eb
  rw [asB_eq e4] at e3
  exact ⟨B, ρ, p1.1, p1.2, i, E, e1, e3, q⟩
theorem snd_ife {c a b : ME} {x y z : Expr} {pos : Pos} (hc : PT X x (tT X.K Φ c)) (ha : PE X y (tE X.K Φ a)) (hb : PE X z (tE X.K Φ b)) : PE X (.IfExp x y z pos) (tE X.K Φ (.ife c a b)) := by
  refine PE.imp (pe_ifExp hc ha hb) fun σ H Q ⟨B, ρ, r, ρ', E, e, q⟩ => ?_
  rw [evE] at e
  obtain ⟨p1, e1, e⟩ := bind_some e
  obtain ⟨w, e3, e⟩ := bind_some e
  obtain ⟨i, e4, e⟩ := bind_some e
  rw [asB_eq e4] at e3
  refine ⟨B, ρ, p1.1, p1.2, i, E, e1, e3, fun H1 B1 E1 X1 => ?_⟩
  have fin : ∀ {v : V} {H' B' : Hp}, EnvOk X.K B' H' ρ' σ → Ext B1 H1 (OwnS p1.2 σ) B' H' (OwnS ρ' σ) → RvOk X.K B' H' H1 ρ' σ r v → Q v H' := by
    intro v H' B' E' X' R'
    refine q v H' B' E' (X1.trans X') ?_
    cases r with
    | fro d => exact R'
    | ali j => exact R'
    | own d =>
      obtain ⟨a, h1, h2, h3, h4⟩ := R'
      exact ⟨a, h1, h2, X1.tr _ h3, h4⟩
  cases i with
  | true => exact ⟨B1, p1.2, r, ρ', E1, by simpa using e, fun v H' B' E' X' R' => fin E' X' R'⟩
  | false => exact ⟨B1, p1.2, r, ρ', E1, by simpa using e, fun v H' B' E' X' R' => fin E' X' R'⟩

/-! ### lists of expressions -/
theorem snd_nil : PA X [] (tA X.K Φ []) := by
  refine PA.imp pa_nil fun σ H Q ⟨B, ρ, rs, ρ', E, e, q⟩ => ?_
  rw [evEs] at e
  cases e
  exact q [] H B E .refl .nil
theorem snd_cons {m : ME} {ms : List ME} {e : Expr} {es : List Expr} (hs : noStar e = true) (ha : PE X e (tE X.K Φ m)) (hr : PA X es (tA X.K Φ ms)) : PA X (e :: es) (tA X.K Φ (m :: ms)) := by
  refine PA.imp (pa_cons ha hr (star_cons hs _ _)) fun σ H Q ⟨B, ρ, rs, ρ', E, e, q⟩ => ?_
  rw [evEs] at e
  obtain ⟨p1, e1, e⟩ := bind_some e
  obtain ⟨p2, e2, e⟩ := bind_some e
  cases e
  refine ⟨B, ρ, p1.1, p1.2, E, e1, fun v H1 B1 E1 X1 R1 => ?_⟩
  obtain ⟨B1', E1', X1', O1⟩ := op_of E1 X1 R1
  refine ⟨B1', p1.2, p2.1, p2.2, E1', e2, fun vs H2 B2 E2 X2 R2 => ?_⟩
  exact q _ _ _ E2 (X1'.trans X2) (.cons (O1.mono X2.b) R2)
theorem snd_tup {ms : List ME} {es : List Expr} {j : Nat} {pos : Pos} (ha : PA X es (tA X.K Φ ms)) : PE X (.Tuple es j pos) (tE X.K Φ (.tup ms)) := by
  refine PE.imp (pe_tup ha) fun σ H Q ⟨B, ρ, r, ρ', E, e, q⟩ => ?_
  rw [evE] at e
  obtain ⟨p1, e1, e⟩ := bind_some e
  obtain ⟨p2, e2, e⟩ := bind_some e
  split at e
  · rename_i hz
    cases e
    refine ⟨B, ρ, p1.1, p1.2, E, e1, fun vs H1 B1 E1 X1 O1 => ?_⟩
    obtain ⟨B2, E2, X2, R2⟩ := frzs_ok E1 O1 e2
    refine ⟨by rw [R2.length, ← line_eq]; exact hz, fun p hp => ?_⟩
    obtain ⟨E3, X3, r3, f, R3⟩ := (newTup E2.same hp R2 hz).ok E2 (X1.trans X2)
    cases f
    exact q _ _ _ E3 X3 R3
  · cases e
theorem snd_lst {ms : List ME} {es : List Expr} {pos : Pos} (ha : PA X es (tA X.K Φ ms)) : PE X (.List es pos) (tE X.K Φ (.lst ms)) := by
  refine PE.imp (pe_lst ha) fun σ H Q ⟨B, ρ, r, ρ', E, e, q⟩ => ?_
  rw [evE] at e
  obtain ⟨p1, e1, e⟩ := bind_some e
  obtain ⟨p2, e2, e⟩ := bind_some e
  split at e
  · rename_i hz
    cases e
    refine ⟨B, ρ, p1.1, p1.2, E, e1, fun vs H1 B1 E1 X1 O1 => ?_⟩
    obtain ⟨B2, E2, X2, R2⟩ := frzs_ok E1 O1 e2
    refine ⟨by rw [R2.length, ← line_eq]; exact hz, fun p hp => ?_⟩
    obtain ⟨E3, X3, r3, f, R3⟩ := (New.own (K := X.K) hp R2 hz).ok E2 (X1.trans X2)
    cases f
    exact q _ _ _ E3 X3 R3
  · cases e
theorem snd_idx (g : Good X Φ F Gc N sc k) {a b : ME} {l r : Expr} {pos : Pos} (hs : noSlice r = true) (ha : PE X l (tE X.K Φ a)) (hb : PE X r (tE X.K Φ b)) : PE X (.Subscript l r pos) (tE X.K Φ (.idx a b)) := by
  refine PE.imp (pe_ix (ix_idx g.hP g.hw (by have := g.hu; omega)) ha hb (plainIx_of hs)) fun σ H Q ⟨B, ρ, r, ρ', E, e, q⟩ => ?_
  rw [evE] at e
  obtain ⟨p1, e1, e⟩ := bind_some e
  obtain ⟨p2, e2, e⟩ := bind_some e
  obtain ⟨x, e3, e⟩ := bind_some e
  obtain ⟨y, e4, e⟩ := bind_some e
  obtain ⟨c, e5, e6⟩ := map_some e
  cases e6
  refine ⟨B, ρ, p1.1, p1.2, E, e1, fun v H1 B1 E1 X1 R1 => ?_⟩
  obtain ⟨B1', E1', X1', O1⟩ := op_of E1 X1 R1
  refine ⟨B1', p1.2, p2.1, p2.2, E1', e2, fun w H2 B2 E2 X2 R2 => ?_⟩
  obtain ⟨B2', E2', X2', O2⟩ := op_of E2 X2 R2
  exact ⟨B2', x, y, c, E2'.same, cont_ok E2' (O1.mono X2'.b) e3, cont_ok E2' O2 e4, e5, fun z hz => q _ _ _ E2' (X1'.trans X2') hz⟩
theorem snd_oNone : PO X none (tO X.K Φ []) := by
  refine PO.imp po_none fun σ H Q ⟨B, ρ, r, ρ', E, e, q⟩ => ?_
  rw [evO] at e
  cases e
  exact q H B E .refl
theorem snd_oSome {m : ME} {e : Expr} (h : PE X e (tE X.K Φ m)) : PO X (some e) (tO X.K Φ [m]) := by
  refine PO.imp (po_some h) fun σ H Q ⟨B, ρ, r, ρ', E, e, q⟩ => ?_
  rw [evO] at e
  obtain ⟨p1, e1, e⟩ := bind_some e
  obtain ⟨x, e3, e⟩ := bind_some e
  obtain ⟨i, e4, e5⟩ := map_some e
  cases e5
  refine ⟨B, ρ, p1.1, p1.2, E, e1, fun v H1 B1 E1 X1 R1 => ?_⟩
  obtain ⟨B1', E1', X1', O1⟩ := op_of E1 X1 R1
  have r1 := cont_ok E1' O1 e3
  rw [asI_eq e4] at r1
  exact ⟨i, r1.int, q _ _ E1' X1'⟩
theorem snd_sli {a : ME} {lo hi : List ME} {x : Expr} {l h : Option Expr} {p2 pos : Pos} (ha : PE X x (tE X.K Φ a)) (hl : PO X l (tO X.K Φ lo)) (hh : PO X h (tO X.K Φ hi)) : PE X (.Subscript x (.Slice l h none p2) pos) (tE X.K Φ (.sli a lo hi)) := by
  refine PE.imp (pe_slice sl_sli ha hl hh) fun σ H Q ⟨B, ρ, r, ρ', E, e, q⟩ => ?_
  rw [evE] at e
  obtain ⟨p1, e1, e⟩ := bind_some e
  obtain ⟨p2, e2, e⟩ := bind_some e
  obtain ⟨p3, e3, e⟩ := bind_some e
  obtain ⟨x, e4, e⟩ := bind_some e
  obtain ⟨s, e5, e⟩ := bind_some e
  obtain ⟨r', e6, e7⟩ := map_some e
  cases e7
  refine ⟨B, ρ, p1.1, p1.2, E, e1, fun v H1 B1 E1 X1 R1 => ?_⟩
  obtain ⟨B1', E1', X1', O1⟩ := op_of E1 X1 R1
  refine ⟨B1', p1.2, p2.1, p2.2, E1', e2, fun H2 B2 E2 X2 => ?_⟩
  refine ⟨B2, p2.2, p3.1, p3.2, E2, e3, fun H3 B3 E3 X3 => ?_⟩
  have XX := (X1'.trans X2).trans X3
  refine ⟨B3, x, s, E3.same, cont_ok E3 (O1.mono (X2.trans X3).b) e4, e5, fun z H4 B4 n => ?_⟩
  obtain ⟨E4, X4, r4, f, R4⟩ := n.ok E3 XX
  rw [e6] at f; cases f
  exact q _ _ _ E4 X4 R4

/-! ### calls -/
theorem okEs_plain : ∀ {ms : List ME} {es : List Expr}, okEs F Gc N sc ms es = true → ∀ pos env, (backTo pos (starEach es env)).any (·.1) = false
  | [], [], _, _, _ => rfl
  | m :: ms, e :: es, h, pos, env => by
    unfold okEs at h
    simp only [Bool.and_eq_true] at h
    rw [star_cons h.1.1]
    have ih := okEs_plain h.2 pos env
    unfold backTo at ih ⊢
    rw [List.map_cons, List.any_cons, ih]
    rfl
  | [], _ :: _, h, _, _ => by simp [okEs] at h
  | _ :: _, [], h, _, _ => by simp [okEs] at h
theorem EnvOk.call [Wd] {K : PySem.W.Frag} {B H B' H' : Hp} {ρ : Env} {σ : St} (E : EnvOk K B H ρ σ) (sm : Same B' H') (Y : Ext B H (fun _ => False) B' H' (fun _ => False)) :
    EnvOk K B' H' ρ σ ∧ Ext B H (OwnS ρ σ) B' H' (OwnS ρ σ) := by
  refine ⟨⟨sm, fun i d h => ?_, fun i d h => ?_, E.apart, E.len⟩, ⟨Y.b, fun a o h _ => Y.keep a o h (fun z => z), Y.tr, fun _ h => .inl h, fun a u h => ?_⟩⟩
  · obtain ⟨v, h1, h2⟩ := E.fro i d h
    exact ⟨v, h1, Rep.mono Y.b _ _ h2⟩
  · obtain ⟨a, h1, o, h3, h4, c⟩ := E.own i d h
    refine ⟨a, h1, o, ?_, Y.keep _ _ h4 (fun z => z), c.mono Y.b⟩
    cases e : B' a with
    | none => rfl
    | some u =>
      rcases Y.base a u e with z | z | z
      · rw [h3] at z; cases z
      · rw [h4] at z; cases z
      · exact z.elim
  · rcases Y.base a u h with z | z | z
    · exact .inl z
    · exact .inr (.inl z)
    · exact z.elim
/-- what nothing can change does not lean on lists -/
theorem imm_rep [Wd] {K : PySem.W.Frag} {B B' : Hp} (h : ∀ a u, B a = some u → B' a = some u ∨ HO.cell u = true) : ∀ (d : D) (v : V), d.imm = true → Rep K B v d → Rep K B' v d
  | .non, _, _, r => by cases r; exact .non
  | .bl b, _, _, r => by cases r; exact .bl b
  | .int i, _, _, r => by cases r; exact .int i
  | .str x, _, _, r => by cases r; exact .str x
  | .tup ds, _, e, r => by
    cases r with
    | tup a b c =>
      refine .tup ?_ (imm_reps h ds _ (by simpa [D.imm] using e) b) c
      rcases a with (a | ⟨o, a⟩) | a
      · rcases h _ _ a with z | z
        · exact .inl (.inl z)
        · cases z
      · rcases h _ _ a with z | z
        · exact .inl (.inr ⟨o, z⟩)
        · cases z
      · exact .inr a
  | .lst _, _, e, _ => by simp [D.imm] at e
  | .scr _, _, e, _ => by simp [D.imm] at e
  | .dK _, _, e, _ => by simp [D.imm] at e
  | .dT _, _, e, _ => by simp [D.imm] at e
  | .obj _ _, _, e, _ => by simp [D.imm] at e
  | .exc _, _, e, _ => by simp [D.imm] at e
where imm_reps {K : PySem.W.Frag} {B B' : Hp} (h : ∀ a u, B a = some u → B' a = some u ∨ HO.cell u = true) : ∀ (ds : List D) (vs : List V), D.imms ds = true → Reps K B vs ds → Reps K B' vs ds
  | [], _, _, r => by cases r; exact .nil
  | d :: ds, _, e, r => by
    rw [D.imms, Bool.and_eq_true] at e
    cases r with
    | cons a b => exact .cons (imm_rep h d _ e.1 a) (imm_reps h ds _ e.2 b)
/-- behind a call whose answer nothing can change the lists handed in are one's own again -/
theorem EnvOk.thaw [Wd] {K : PySem.W.Frag} {B H B1 B' H' : Hp} {ρ ρ1 : Env} {σ : St} (E : EnvOk K B H ρ σ) (X : Ext B H (OwnS ρ σ) B1 H (OwnS ρ1 σ)) (sm : Same B' H') (Y : Ext B1 H (fun _ => False) B' H' (fun _ => False)) :
    ∃ B2, EnvOk K B2 H' ρ σ ∧ Ext B H (OwnS ρ σ) B2 H' (OwnS ρ σ) ∧ (∀ d v, d.imm = true → Rep K B' v d → Rep K B2 v d) ∧ (∀ ds vs, D.imms ds = true → Reps K B' vs ds → Reps K B2 vs ds) ∧ ∀ a, B' a = none → B2 a = none := by
  classical
  refine ⟨fun a => if OwnS ρ σ a then none else B' a, ?_⟩
  have ownH : ∀ a, OwnS ρ σ a → B a = none ∧ ∃ u, H a = some u ∧ HO.cell u = true := fun a ⟨i, d, h1, h2⟩ => by
    obtain ⟨b, q1, u, q2, q3, qc⟩ := E.own i d h1
    rw [h2] at q1
    cases q1
    exact ⟨q2, u, q3, qc.cell⟩
  have sub : ∀ a u, (if OwnS ρ σ a then none else B' a) = some u → B' a = some u := fun a u h => by
    by_cases o : OwnS ρ σ a
    · rw [if_pos o] at h; cases h
    · rw [if_neg o] at h; exact h
  have up : ∀ a u, B' a = some u → (if OwnS ρ σ a then none else B' a) = some u ∨ HO.cell u = true := fun a u h => by
    by_cases o : OwnS ρ σ a
    · obtain ⟨_, o', hv, hc⟩ := ownH a o
      have z1 := sm a u h
      have z2 := Y.keep a _ hv fun z => z
      rw [z1] at z2
      cases z2
      exact .inr hc
    · rw [if_neg o]; exact .inl h
  have sB : Same B (fun a => if OwnS ρ σ a then none else B' a) := fun a u h => by
    show (if OwnS ρ σ a then none else B' a) = some u
    rw [if_neg fun o => by rw [(ownH a o).1] at h; cases h]
    exact Y.b _ _ (X.b _ _ h)
  refine ⟨⟨fun a u h => sm a u (sub a u h), fun i d h => ?_, fun i d h => ?_, E.apart, E.len⟩, ⟨sB, fun a o h _ => Y.keep a o h fun z => z, Y.tr, fun _ h => .inl h, fun a u h => ?_⟩, fun d v i r => imm_rep up d v i r, fun ds vs i r => imm_rep.imm_reps up ds vs i r, fun a h => ?_⟩
  · obtain ⟨v, h1, h2⟩ := E.fro i d h
    exact ⟨v, h1, Rep.mono sB _ _ h2⟩
  · obtain ⟨a, h1, o, h3, h4, c⟩ := E.own i d h
    exact ⟨a, h1, o, if_pos ⟨i, d, h, h1⟩, Y.keep _ _ h4 fun z => z, c.mono sB⟩
  · rcases Y.base a u (sub a u h) with z | z | z
    · rcases X.base a u z with z | z | z
      · exact .inl z
      · exact .inr (.inl z)
      · exact .inr (.inr z)
    · exact .inr (.inl z)
    · exact z.elim
  · by_cases o : OwnS ρ σ a
    · exact if_pos o
    · exact (if_neg o).trans h
theorem frzAll_get : ∀ (ρ : Env) (i : Nat), (frzAll ρ)[i]? = (ρ[i]?).map Sv.frz
  | [], i => by simp [frzAll]
  | s :: ρ, 0 => by simp [frzAll]
  | s :: ρ, i + 1 => by rw [frzAll, List.getElem?_cons_succ, frzAll_get ρ i, List.getElem?_cons_succ]
/-- all own lists are frozen -/
theorem EnvOk.freezeAll [Wd] {K : PySem.W.Frag} {B H : Hp} {ρ : Env} {σ : St} (E : EnvOk K B H ρ σ) :
    ∃ B', EnvOk K B' H (frzAll ρ) σ ∧ Ext B H (OwnS ρ σ) B' H (OwnS (frzAll ρ) σ) ∧ ∀ a, ¬ OwnS (frzAll ρ) σ a := by
  classical
  have none' : ∀ (i : Nat) (d : D), (frzAll ρ)[i]? ≠ some (.own d) := fun i d h => by
    rw [frzAll_get] at h
    obtain ⟨s, _, h2⟩ := Option.map_eq_some_iff.mp h
    cases s <;> cases h2
  have nO : ∀ a, ¬ OwnS (frzAll ρ) σ a := fun a ⟨i, d, h, _⟩ => none' i d h
  have ownB : ∀ a, OwnS ρ σ a → B a = none := fun a ⟨i, d, h1, h2⟩ => by
    obtain ⟨b, q1, u, q2, _⟩ := E.own i d h1
    rw [h2] at q1
    cases q1
    exact q2
  have sB : Same B (fun a => if OwnS ρ σ a then H a else B a) := fun a u h => by
    show (if OwnS ρ σ a then H a else B a) = some u
    rw [if_neg fun o => by rw [ownB a o] at h; cases h]
    exact h
  refine ⟨fun a => if OwnS ρ σ a then H a else B a, ⟨fun a u h => ?_, fun i d h => ?_, fun i d h => absurd h (none' i d), fun i j d e a h _ _ _ => absurd h (none' i d), ?_⟩, ⟨sB, fun _ _ h _ => h, fun _ h => h, fun a h => absurd h (nO a), fun a u h => ?_⟩, nO⟩
  · by_cases o : OwnS ρ σ a
    · rw [if_pos o] at h; exact h
    · rw [if_neg o] at h; exact E.same _ _ h
  · rw [frzAll_get] at h
    obtain ⟨s, h1, h2⟩ := Option.map_eq_some_iff.mp h
    cases s with
    | no => cases h2
    | io _ _ => cases h2
    | exc _ => cases h2
    | xio _ _ => cases h2
    | fro d' =>
      cases h2
      obtain ⟨v, g1, g2⟩ := E.fro i _ h1
      exact ⟨v, g1, Rep.mono sB _ _ g2⟩
    | own d' =>
      cases h2
      obtain ⟨a, g1, u, g2, g3, gc⟩ := E.own i _ h1
      refine ⟨_, g1, gc.rep sB ?_⟩
      show (if OwnS ρ σ a then H a else B a) = some u
      rw [if_pos ⟨i, _, h1, g1⟩]
      exact g3
  · rw [← E.len]
    have : ∀ ρ : Env, (frzAll ρ).length = ρ.length := fun ρ => by
      induction ρ with
      | nil => rfl
      | cons s r ih => rw [frzAll, List.length_cons, List.length_cons, ih]
    exact this ρ
  · by_cases o : OwnS ρ σ a
    · exact .inr (.inr o)
    · rw [if_neg o] at h; exact .inl h
theorem thw_key [Wd] {K : PySem.W.Frag} {m : ME} : ∀ σ H Q, tE K Φ (.thw m) σ H Q → tE K Φ m σ H Q := by
  intro σ H Q ⟨B, ρ, r, ρ', E, e, q⟩
  rw [evE] at e
  obtain ⟨p, e1, e⟩ := bind_some e
  obtain ⟨B1, E1, X1, nO⟩ := E.freezeAll
  cases hi : p.1.imm with
  | false => rw [hi] at e; cases e
  | true =>
    rw [hi, cond_true] at e
    cases e
    refine ⟨B1, _, p.1, p.2, E1, e1, fun v H' B' E' X' R' => ?_⟩
    have Y : Ext B1 H (fun _ => False) B' H' (fun _ => False) := ⟨X'.b, fun a o h _ => X'.keep a o h (nO a), X'.tr, fun _ z => z.elim, fun a u h => by
      rcases X'.base a u h with z | z | z
      · exact .inl z
      · exact .inr (.inl z)
      · exact absurd z (nO a)⟩
    obtain ⟨B2, E2, X2, m1, m2, m3⟩ := E.thaw X1 E'.same Y
    refine q v H' B2 E2 X2 ?_
    obtain ⟨r, ρ2⟩ := p
    cases r with
    | fro d => exact m1 d v hi R'
    | own d =>
      cases d with
      | lst ds =>
        obtain ⟨b, h1, ⟨o, g1, g2, gc⟩, h3, h4⟩ := R'
        obtain ⟨vs', rfl, g3, g4⟩ := gc.lists
        exact ⟨b, h1, .ofL (m3 _ g1) g2 (m2 ds vs' hi g3) g4, h3, fun z => E.notOwn h3 z⟩
      | _ => cases hi
    | ali i => cases hi
theorem call_key [Wd] {φ : List D → Option Sv} {K : PySem.W.Frag} {f n : Nat} {ms : List ME} (hl : ∀ ds s, Φ f ds = some s → ds.length = n) :
    ∀ σ H Q {E1 : XK}, tE K Φ (.call f ms) σ H Q → (tA K Φ ms) σ H fun vs H1 => (spF K (Φ f) n) vs H1 Q E1 := by
  intro σ H Q E1 ⟨B, ρ, r, ρ', E, e, q⟩
  rw [evE] at e
  obtain ⟨p1, e1, e⟩ := bind_some e
  obtain ⟨p2, e2, e⟩ := bind_some e
  obtain ⟨s, e3, e⟩ := bind_some e
  obtain ⟨r', e4, e5⟩ := map_some e
  cases e5
  refine ⟨B, ρ, p1.1, p1.2, E, e1, fun vs H1 B1 E1 X1 O1 => ?_⟩
  obtain ⟨B2, E2, X2, R2⟩ := frzs_ok E1 O1 e2
  refine ⟨by rw [R2.length]; exact hl _ _ e3, B2, p2.1, s, E2.same, R2, e3, ?_⟩
  cases s with
  | no => cases e4
  | io _ _ => cases e4
  | exc _ => cases e4
  | xio _ _ => cases e4
  | fro d =>
    cases e4
    refine fun v H' B' sm Y R => ?_
    by_cases hi : (Sv.fro d).imm = true
    · obtain ⟨B3, E3, X3, m1, m2, m3⟩ := E1.thaw X2 sm Y
      rw [hi, cond_true] at q
      exact q v H' B3 E3 (X1.trans X3) (m1 d v hi R)
    · obtain ⟨E3, X3⟩ := E2.call sm Y
      rw [Bool.eq_false_iff.mpr hi, cond_false] at q
      exact q v H' B' E3 ((X1.trans X2).trans X3) R
  | own d =>
    cases e4
    refine fun v H' B' sm Y R => ?_
    by_cases hi : (Sv.own d).imm = true
    · obtain ⟨B3, E3, X3, m1, m2, m3⟩ := E1.thaw X2 sm Y
      rw [hi, cond_true] at q
      refine q v H' B3 E3 (X1.trans X3) ?_
      cases d with
      | lst ds =>
        obtain ⟨b, h1, ⟨o, g1, g2, gc⟩, h3⟩ := R
        obtain ⟨vs', rfl, g3, g4⟩ := gc.lists
        exact ⟨b, h1, .ofL (m3 _ g1) g2 (m2 ds vs' hi g3) g4, X1.tr _ h3, fun z => E1.notOwn h3 z⟩
      | _ => cases hi
    · obtain ⟨E3, X3⟩ := E2.call sm Y
      rw [Bool.eq_false_iff.mpr hi, cond_false] at q
      refine q v H' B' E3 ((X1.trans X2).trans X3) ?_
      obtain ⟨b, h1, h2, h3⟩ := R
      refine ⟨b, h1, h2, (X1.trans X2).tr _ h3, fun z => ?_⟩
      exact E2.notOwn h3 z
/-- a call that changes slot i's own thing -/
theorem frzJ_ok [Wd] {K : PySem.W.Frag} {H : Hp} {σ : L2.St} : ∀ {j i : Nat} {rs : List Rv} {vs : List V} {ds : List D} {B : Hp} {ρ ρ' : ML.Env}, EnvOk K B H ρ σ → OpOks K B σ rs vs → frzJ j i rs ρ = some (ds, ρ') →
    ∃ B' a d, EnvOk K B' H ρ' σ ∧ Ext B H (OwnS ρ σ) B' H (OwnS ρ' σ) ∧ vs.length = ds.length ∧ vs[j]? = some (.ref a) ∧ σ[i]? = some (some (.ref a)) ∧ ρ'[i]? = some (.own d) ∧ ds[j]? = some d ∧
      ∀ (m : Nat) v e, vs[m]? = some v → ds[m]? = some e → m ≠ j → Rep K B' v e
  | 0, i, .ali k :: rs, _, ds, B, ρ, ρ', E, .cons (v := v) (vs := ws) o os, h => by
    rw [frzJ] at h
    split at h
    · rename_i hk
      subst hk
      obtain ⟨q, h1, h⟩ := bind_some h
      obtain ⟨d, h2, h3⟩ := map_some h
      cases h3
      obtain ⟨B', E', X', R'⟩ := frzs_ok E os h1
      have h4 : q.2[k]? = some (.own d) := by
        unfold ownC at h2
        split at h2
        · rename_i e; cases h2; exact e
        · cases h2
      obtain ⟨a, g1, g2⟩ := E'.own k d h4
      have hv : σ[k]? = some (some v) := o
      rw [g1] at hv
      cases hv
      refine ⟨B', a, d, E', X', by rw [List.length_cons, List.length_cons, R'.length], rfl, g1, h4, rfl, fun m v e q1 q2 hm => ?_⟩
      cases m with
      | zero => exact absurd rfl hm
      | succ m =>
        rw [List.getElem?_cons_succ] at q1 q2
        obtain ⟨w, r1, r2⟩ := R'.get q2
        rw [q1] at r1
        cases r1
        exact r2
    · cases h
  | j + 1, i, r :: rs, _, ds, B, ρ, ρ', E, .cons (v := v) (vs := ws) o os, h => by
    rw [frzJ] at h
    obtain ⟨p, h1, h⟩ := bind_some h
    obtain ⟨q, h2, h3⟩ := map_some h
    cases h3
    obtain ⟨B1, E1, X1, R1⟩ := frz_ok E o h1
    obtain ⟨B', a, d, E', X', l, g1, g2, g3, g4, g5⟩ := frzJ_ok E1 (os.mono X1.b) h2
    refine ⟨B', a, d, E', X1.trans X', by rw [List.length_cons, List.length_cons, l], g1, g2, g3, g4, fun m v e q1 q2 hm => ?_⟩
    cases m with
    | zero => cases q1; cases q2; exact Rep.mono X'.b _ _ R1
    | succ m => exact g5 m v e (by simpa using q1) (by simpa using q2) (fun z => hm (by rw [z]))
  | 0, i, .fro _ :: _, _, _, _, _, _, _, _, h => by simp [frzJ] at h
  | 0, i, .own _ :: _, _, _, _, _, _, _, _, h => by simp [frzJ] at h
  | _, _, [], _, _, _, _, _, _, _, h => by simp [frzJ] at h
theorem cio_key [Wd] {K : PySem.W.Frag} {f j i n : Nat} {ms : List ME} (hl : ∀ ds s, Φ f ds = some s → ds.length = n) :
    ∀ σ H Q {E1 : XK}, tE K Φ (.cio f j i ms) σ H Q → (tA K Φ ms) σ H fun vs H1 => (spIO K j (Φ f) n) vs H1 Q E1 := by
  intro σ H Q E1 ⟨B, ρ, r, ρ', E, e, q⟩
  rw [evE] at e
  obtain ⟨p1, e1, e⟩ := bind_some e
  obtain ⟨p2, e2, e⟩ := bind_some e
  obtain ⟨s, e3, e⟩ := bind_some e
  obtain ⟨z, e4, e5⟩ := map_some e
  cases e5
  refine ⟨B, ρ, p1.1, p1.2, E, e1, fun vs H1 B1 E1 X1 O1 => ?_⟩
  obtain ⟨B2, a, d, E2, X2, l, g1, g2, g3, g4, g5⟩ := frzJ_ok E1 O1 e2
  obtain ⟨a', q1, oa⟩ := E2.own i d g3
  rw [g2] at q1
  cases q1
  refine ⟨by rw [l]; exact hl _ _ e3, B2, p2.1, s, a, E2.same, l, g1, fun m v e q1 q2 => ?_, e3, ?_⟩
  · split
    · rename_i hm
      subst hm
      rw [g4] at q2
      cases q2
      exact oa
    · rename_i hm
      exact g5 m v e q1 q2 hm
  · cases s with
    | io r d' =>
      cases e4
      refine fun v H' B' sm Y R own => ?_
      obtain ⟨E3, X3⟩ := E2.callIO g3 g2 sm Y (own a rfl)
      exact q v H' B' E3 ((X1.trans X2).trans X3) R
    | _ => cases e4
theorem snd_call (g : Good X Φ F Gc N sc k) {f : Nat} {x : Str} {ms : List ME} {es : List Expr} {p pos : Pos} (hf : F.lookup x = some f) (hi : ioPos f = none) (hg : gloB sc x = true) (hp : plainB x = true) (hok : okEs F Gc N sc ms es = true) (ha : PA X es (tA X.K Φ ms)) :
    PE X (.Call (.Name x p) es [] pos) (tE X.K Φ (.call f ms)) := by
  obtain ⟨a, fd, ps, hm, hk, hb, Fn, hl⟩ := g.fn x f hp hf
  rw [spG_none hi] at Fn
  obtain ⟨d1, d2, _⟩ := plain_ne hp
  cases es with
  | nil =>
    cases ms with
    | cons _ _ => simp [okEs] at hok
    | nil =>
      refine PE.imp (pe_call0 (dvs := []) Fn g.rm (g.gl_ok hg) hm hk hb .nil passL d1) fun σ H Q h => ?_
      obtain ⟨B, ρ, rs, ρ', E, e, q⟩ := call_key (φ := Φ f) hl σ H Q h
      rw [evEs] at e
      cases e
      exact q [] H B E .refl .nil
  | cons e es =>
    cases ms with
    | nil => simp [okEs] at hok
    | cons m ms =>
      have hok' := hok
      unfold okEs at hok'
      simp only [Bool.and_eq_true] at hok'
      refine PE.imp (pe_call (dvs := []) Fn g.rm (g.gl_ok hg) hm hk hb .nil passL ha d1 (star_cons hok'.1.1 _ _) (okEs_plain hok'.2 _ _)) fun σ H Q h => ?_
      obtain ⟨B, ρ, rs, ρ', E, e, q⟩ := call_key (φ := Φ f) hl σ H Q h
      refine ⟨B, ρ, rs, ρ', E, e, fun vs H' B' E' X' O' => ?_⟩
      show spF X.K (Φ f) ps.length (vs ++ []) H' Q E0
      rw [List.append_nil]
      exact q vs H' B' E' X' O'
theorem snd_cio (g : Good X Φ F Gc N sc k) {f j i : Nat} {x : Str} {ms : List ME} {es : List Expr} {p pos : Pos} (hf : F.lookup x = some f) (hi : ioPos f = some j) (hg : gloB sc x = true) (hp : plainB x = true) (hok : okEs F Gc N sc ms es = true) (ha : PA X es (tA X.K Φ ms)) :
    PE X (.Call (.Name x p) es [] pos) (tE X.K Φ (.cio f j i ms)) := by
  obtain ⟨a, fd, ps, hm, hk, hb, Fn, hl⟩ := g.fn x f hp hf
  rw [spG_some hi] at Fn
  obtain ⟨d1, d2, _⟩ := plain_ne hp
  cases es with
  | nil =>
    refine ⟨fun pins s σ H Q I h => ?_⟩
    exfalso
    obtain ⟨B, ρ, rs, ρ', E, e, q⟩ := cio_key (E1 := E0) (j := j) (i := i) hl σ H Q h
    cases ms with
    | cons _ _ => simp [okEs] at hok
    | nil =>
      rw [evEs] at e
      cases e
      obtain ⟨_, _, _, _, _, _, _, z, _⟩ := q [] H B E .refl .nil
      cases z
  | cons e es =>
    cases ms with
    | nil => simp [okEs] at hok
    | cons m ms =>
      have hok' := hok
      unfold okEs at hok'
      simp only [Bool.and_eq_true] at hok'
      refine PE.imp (pe_call (dvs := []) Fn g.rm (g.gl_ok hg) hm hk hb .nil passL ha d1 (star_cons hok'.1.1 _ _) (okEs_plain hok'.2 _ _)) fun σ H Q h => ?_
      obtain ⟨B, ρ, rs, ρ', E, e, q⟩ := cio_key (j := j) (i := i) hl σ H Q h
      refine ⟨B, ρ, rs, ρ', E, e, fun vs H' B' E' X' O' => ?_⟩
      show spIO X.K j (Φ f) ps.length (vs ++ []) H' Q E0
      rw [List.append_nil]
      exact q vs H' B' E' X' O'
/-- a field -/
theorem snd_fld (g : Good X Φ F Gc N sc k) {a : ME} {x y : Str} {p pos : Pos} (hf : F.lookup (dotN Str.empty x) = some FLD) (ha : PE X (.Name y p) (tE X.K Φ a)) : PE X (.Attribute (.Name y p) x pos) (tE X.K Φ (.fld a x)) := by
  refine PE.imp (pe_fld ha rfl) fun σ H Q ⟨B, ρ, r, ρ', E, e, q⟩ => ?_
  rw [evE] at e
  obtain ⟨p1, e1, e⟩ := bind_some e
  obtain ⟨d, e3, e⟩ := bind_some e
  obtain ⟨d', e4, e5⟩ := map_some e
  cases e5
  refine ⟨B, ρ, p1.1, p1.2, E, e1, fun v H1 B1 E1 X1 R1 => ?_⟩
  obtain ⟨B1', E1', X1', O1⟩ := op_of E1 X1 R1
  have r1 := cont_ok E1' O1 e3
  unfold fldF at e4
  split at e4
  · rename_i c fs
    obtain ⟨a', C, dx, gs, rfl, hH, hC, hn, hr⟩ := r1.obj E1'.same
    obtain ⟨w, h1, h2⟩ := fld_get hn hr e4
    exact ⟨a', C, dx, gs, w, rfl, hH, (g.cl c C hC).2, g.na c C x hC hf, h1, q _ _ _ E1' X1' h2⟩
  · cases e4
theorem snd_prim (g : Good X Φ F Gc N sc k) {f : Prim} {ms : List ME} {e : Expr} {es : List Expr} {p pos : Pos} (hF : F.lookup f.name = none) (hG : (Gc.lookup f.name).isNone = true) (hg : gloB sc f.name = true) (hp : plainB f.name = true) (hok : okEs F Gc N sc ms (e :: es) = true) (ha : PA X (e :: es) (tA X.K Φ ms)) :
    PE X (.Call (.Name f.name p) (e :: es) [] pos) (tE X.K Φ (.prim f ms)) := by
  obtain ⟨d1, d2, d3⟩ := plain_ne hp
  have hb : bootBuiltins f.name = some f.val := by cases f <;> decide +kernel
  have hm : X.mg f.name = none := g.bl _ hF (Option.isNone_iff_eq_none.mp hG) (by cases f <;> decide +kernel)
  cases ms with
  | nil => simp [okEs] at hok
  | cons m ms =>
    have hok' := hok
    unfold okEs at hok'
    simp only [Bool.and_eq_true] at hok'
    have key : PE X (.Call (.Name f.name p) (e :: es) [] pos) (tCB (rPrim X.K f) (tA X.K Φ (m :: ms))) := by
      have hc := call_prim g.calm g.hu f
      have hst := star_cons hok'.1.1 es X.env
      have hpl := okEs_plain hok'.2 pos X.env
      cases f <;> first
        | exact pe_callB hc (g.gl_ok hg) hm hb ha d3 d1 hst hpl
        | exact pe_callTy hc (g.gl_ok hg) hm hb ha d3 d1 hst hpl
    refine PE.imp key fun σ H Q ⟨B, ρ, r, ρ', E, e, q⟩ => ?_
    rw [evE] at e
    obtain ⟨p1, e1, e⟩ := bind_some e
    obtain ⟨ds, e2, e⟩ := bind_some e
    obtain ⟨s, e3, e⟩ := bind_some e
    obtain ⟨r', e4, e5⟩ := map_some e
    cases e5
    refine ⟨B, ρ, p1.1, p1.2, E, e1, fun vs H1 B1 E1 X1 O1 => ?_⟩
    refine ⟨B1, ds, s, E1.same, conts_ok E1 O1 e2, e3, fun z H4 B4 n => ?_⟩
    obtain ⟨E4, X4, r4, f', R4⟩ := n.ok E1 X1
    rw [e4] at f'; cases f'
    exact q _ _ _ E4 X4 R4
theorem snd_isi (g : Good X Φ F Gc N sc k) {a : ME} {t : Ty} {y : Expr} {p p2 pos : Pos} (hF : F.lookup ("isinstance" : Str) = none) (hG : (Gc.lookup ("isinstance" : Str)).isNone = true) (hg : gloB sc "isinstance" = true)
    (hF2 : F.lookup (t.name : Str) = none) (hG2 : (Gc.lookup (t.name : Str)).isNone = true) (hg2 : gloB sc (t.name : Str) = true) (hs : noStar y = true) (ha : PE X y (tE X.K Φ a)) :
    PE X (.Call (.Name ("isinstance" : Str) p) [y, .Name (t.name : Str) p2] [] pos) (tE X.K Φ (.isi a t)) := by
  have hb : bootBuiltins ("isinstance" : Str) = some (.builtin "isinstance") := by decide +kernel
  have hm : X.mg ("isinstance" : Str) = none := g.bl _ hF (Option.isNone_iff_eq_none.mp hG) (by decide +kernel)
  have hb2 : bootBuiltins (t.name : Str) = some (.type t.name) := by cases t <;> decide +kernel
  have hm2 : X.mg (t.name : Str) = none := g.bl _ hF2 (Option.isNone_iff_eq_none.mp hG2) (by cases t <;> decide +kernel)
  have ht : PE X (.Name (t.name : Str) p2) (tC (.ty t.name)) := pe_bltn (g.gl_ok hg2) hm2 hb2 rfl (by cases t <;> decide +kernel) (by cases t <;> decide +kernel)
  refine PE.imp (pe_callB (call_isA t) (g.gl_ok hg) hm hb (pa_cons ha (pa_cons ht pa_nil (star_cons rfl _ _)) (star_cons hs _ _)) (by decide +kernel) (by decide +kernel) (star_cons hs _ _) (by rfl)) fun σ H Q ⟨B, ρ, r, ρ', E, e, q⟩ => ?_
  rw [evE] at e
  obtain ⟨p1, e1, e⟩ := bind_some e
  obtain ⟨x, e3, e⟩ := bind_some e
  obtain ⟨b, e4, e5⟩ := map_some e
  cases e5
  refine ⟨B, ρ, p1.1, p1.2, E, e1, fun v H1 B1 E1 X1 R1 => ?_⟩
  obtain ⟨B1', E1', X1', O1⟩ := op_of E1 X1 R1
  exact ⟨B1', v, x, b, E1'.same, rfl, cont_ok E1' O1 e3, e4, q _ _ _ E1' X1' (.bl _)⟩

/-! ### and, or -/
theorem snd_b1 {m : ME} {e : Expr} {op : BoolOp} {kk : Bool} {pos : Pos} (h : PE X e (tE X.K Φ m)) : PE X (.BoolOp op [e] pos) (tBv X.K Φ kk [m]) := by
  refine PE.imp (pe_one h) fun σ H Q ⟨B, ρ, r, ρ', E, e, q⟩ => ?_
  rw [evB] at e
  exact ⟨B, ρ, r, ρ', E, e, q⟩
theorem bv_step [Wd] {K : PySem.W.Frag} {m m2 : ME} {ms : List ME} {kk : Bool} {ρ : ML.Env} {r : Rv} {ρ' : ML.Env} (e : evB Φ kk (m :: m2 :: ms) ρ = some (r, ρ')) :
    ∃ p b, evE Φ m ρ = some p ∧ cont p.2 p.1 = some (.bl b) ∧ ((b = kk ∧ evB Φ kk (m2 :: ms) p.2 = some (r, ρ')) ∨ (b ≠ kk ∧ r = .fro (.bl b) ∧ ρ' = p.2)) := by
  rw [evB] at e
  obtain ⟨p1, e1, e⟩ := bind_some e
  obtain ⟨x, e3, e⟩ := bind_some e
  obtain ⟨b, e4, e⟩ := bind_some e
  rw [asB_eq e4] at e3
  refine ⟨p1, b, e1, e3, ?_⟩
  split at e
  · rename_i hb; exact .inl ⟨hb, e⟩
  · rename_i hb; cases e; exact .inr ⟨hb, rfl, rfl⟩
theorem fin_rv [Wd] {K : PySem.W.Frag} {B0 H0 B1 H1 B2 H2 : Hp} {O0 O1 : Addr → Prop} {ρ : ML.Env} {σ : L2.St} {r : Rv} {v : V} (X1 : Ext B0 H0 O0 B1 H1 O1) (R : RvOk K B2 H2 H1 ρ σ r v) : RvOk K B2 H2 H0 ρ σ r v := by
  cases r with
  | fro d => exact R
  | ali j => exact R
  | own d =>
    obtain ⟨a, h1, h2, h3, h4⟩ := R
    exact ⟨a, h1, h2, X1.tr _ h3, h4⟩
theorem snd_bAnd {m m2 : ME} {ms : List ME} {e e2 : Expr} {es : List Expr} {pos : Pos} (h : PE X e (tE X.K Φ m)) (hr : PE X (.BoolOp .And (e2 :: es) pos) (tBv X.K Φ true (m2 :: ms))) :
    PE X (.BoolOp .And (e :: e2 :: es) pos) (tBv X.K Φ true (m :: m2 :: ms)) := by
  refine PE.imp (pe_and h hr) fun σ H Q ⟨B, ρ, r, ρ', E, e, q⟩ => ?_
  obtain ⟨p, b, e1, e2, e3⟩ := bv_step (K := X.K) e
  refine ⟨B, ρ, p.1, p.2, E, e1, fun v H1 B1 E1 X1 R1 => ?_⟩
  obtain ⟨B1', E1', X1', O1⟩ := op_of E1 X1 R1
  refine ⟨b, (cont_ok E1' O1 e2).bl, ?_⟩
  rcases e3 with ⟨rfl, e3⟩ | ⟨hb, rfl, rfl⟩
  · rw [if_pos rfl]
    exact ⟨B1', p.2, r, ρ', E1', e3, fun v H2 B2 E2 X2 R2 => q v H2 B2 E2 (X1'.trans X2) (fin_rv X1' R2)⟩
  · cases b with
    | true => exact absurd rfl hb
    | false => exact q _ _ _ E1' X1' (.bl _)
theorem snd_bOr {m m2 : ME} {ms : List ME} {e e2 : Expr} {es : List Expr} {pos : Pos} (h : PE X e (tE X.K Φ m)) (hr : PE X (.BoolOp .Or (e2 :: es) pos) (tBv X.K Φ false (m2 :: ms))) :
    PE X (.BoolOp .Or (e :: e2 :: es) pos) (tBv X.K Φ false (m :: m2 :: ms)) := by
  refine PE.imp (pe_or h hr) fun σ H Q ⟨B, ρ, r, ρ', E, e, q⟩ => ?_
  obtain ⟨p, b, e1, e2, e3⟩ := bv_step (K := X.K) e
  refine ⟨B, ρ, p.1, p.2, E, e1, fun v H1 B1 E1 X1 R1 => ?_⟩
  obtain ⟨B1', E1', X1', O1⟩ := op_of E1 X1 R1
  refine ⟨b, (cont_ok E1' O1 e2).bl, ?_⟩
  rcases e3 with ⟨rfl, e3⟩ | ⟨hb, rfl, rfl⟩
  · rw [if_neg (by decide)]
    exact ⟨B1', p.2, r, ρ', E1', e3, fun v H2 B2 E2 X2 R2 => q v H2 B2 E2 (X1'.trans X2) (fin_rv X1' R2)⟩
  · cases b with
    | false => exact absurd rfl hb
    | true => exact q _ _ _ E1' X1' (.bl _)
theorem snd_bop {kk : Bool} {ms : List ME} {es : List Expr} {op : BoolOp} {pos : Pos} (h : PE X (.BoolOp op es pos) (tBv X.K Φ kk ms)) : PE X (.BoolOp op es pos) (tE X.K Φ (.bop kk ms)) := by
  refine PE.imp h fun σ H Q ⟨B, ρ, r, ρ', E, e, q⟩ => ?_
  rw [evE] at e
  exact ⟨B, ρ, r, ρ', E, e, q⟩
theorem snd_b1A {m : ME} {e : Expr} {pos : Pos} (h : PT X e (tT X.K Φ m)) : PW X (.BoolOp .And [e] pos) (tBt X.K Φ true [m]) := by
  refine PW.imp (pw_and1 h) fun σ H Q ⟨B, ρ, r, ρ', b, E, e, eb, q⟩ => ?_
  rw [evB] at e
  exact ⟨B, ρ, r, ρ', b, E, e, eb, q⟩
theorem snd_b1O {m : ME} {e : Expr} {pos : Pos} (h : PT X e (tT X.K Φ m)) : PW X (.BoolOp .Or [e] pos) (tBt X.K Φ false [m]) := by
  refine PW.imp (pw_or1 h) fun σ H Q ⟨B, ρ, r, ρ', b, E, e, eb, q⟩ => ?_
  rw [evB] at e
  exact ⟨B, ρ, r, ρ', b, E, e, eb, q⟩
theorem snd_tAnd {m m2 : ME} {ms : List ME} {e e2 : Expr} {es : List Expr} {pos : Pos} (h : PT X e (tT X.K Φ m)) (hr : PW X (.BoolOp .And (e2 :: es) pos) (tBt X.K Φ true (m2 :: ms))) :
    PW X (.BoolOp .And (e :: e2 :: es) pos) (tBt X.K Φ true (m :: m2 :: ms)) := by
  refine PW.imp (pw_and h hr) fun σ H Q ⟨B, ρ, r, ρ', b', E, e, eb, q⟩ => ?_
  obtain ⟨p, b, e1, e2, e3⟩ := bv_step (K := X.K) e
  refine ⟨B, ρ, p.1, p.2, b, E, e1, e2, fun H1 B1 E1 X1 => ?_⟩
  rcases e3 with ⟨rfl, e3⟩ | ⟨hb, rfl, rfl⟩
  · rw [if_pos rfl]
    exact ⟨B1, p.2, r, ρ', b', E1, e3, eb, fun H2 B2 E2 X2 => q H2 B2 E2 (X1.trans X2)⟩
  · cases eb
    cases b' with
    | true => exact absurd rfl hb
    | false => exact q _ _ E1 X1
theorem snd_tOr {m m2 : ME} {ms : List ME} {e e2 : Expr} {es : List Expr} {pos : Pos} (h : PT X e (tT X.K Φ m)) (hr : PW X (.BoolOp .Or (e2 :: es) pos) (tBt X.K Φ false (m2 :: ms))) :
    PW X (.BoolOp .Or (e :: e2 :: es) pos) (tBt X.K Φ false (m :: m2 :: ms)) := by
  refine PW.imp (pw_or h hr) fun σ H Q ⟨B, ρ, r, ρ', b', E, e, eb, q⟩ => ?_
  obtain ⟨p, b, e1, e2, e3⟩ := bv_step (K := X.K) e
  refine ⟨B, ρ, p.1, p.2, b, E, e1, e2, fun H1 B1 E1 X1 => ?_⟩
  rcases e3 with ⟨rfl, e3⟩ | ⟨hb, rfl, rfl⟩
  · rw [if_neg (by decide)]
    exact ⟨B1, p.2, r, ρ', b', E1, e3, eb, fun H2 B2 E2 X2 => q H2 B2 E2 (X1.trans X2)⟩
  · cases eb
    cases b' with
    | false => exact absurd rfl hb
    | true => exact q _ _ E1 X1
theorem snd_bopT {kk : Bool} {ms : List ME} {es : List Expr} {op : BoolOp} {pos : Pos} (h : PW X (.BoolOp op es pos) (tBt X.K Φ kk ms)) : PT X (.BoolOp op es pos) (tT X.K Φ (.bop kk ms)) := by
  refine PT.imp h.pt fun σ H Q ⟨B, ρ, r, ρ', b, E, e, eb, q⟩ => ?_
  rw [evE] at e
  exact ⟨B, ρ, r, ρ', b, E, e, eb, q⟩

/-! ### methods that change a list -/
theorem ownL_eq {ρ : ML.Env} {i : Nat} {xs : List D} (h : ownL ρ i = some xs) : ρ[i]? = some (.own (.lst xs)) := by
  unfold ownL at h
  split at h
  · rename_i e; cases h; exact e
  · cases h
def rMut [Wd] (K : PySem.W.Frag) (m : Mut) : V → List V → Hp → VK → Prop := fun x vs H Q => ∃ a B xs us ds z, x = .ref a ∧ Same B H ∧ H a = some (.lst us) ∧ Reps K B us xs ∧ xs.length ≤ LINE ∧ Reps K B vs ds ∧ mutF m xs ds = some z ∧
  ∀ v ws, Rep K B v z.1 → Reps K B ws z.2 → z.2.length ≤ LINE → Q v (upd H a (.lst ws))
theorem ixN_lt {n : Nat} {i : Int} {j : Nat} (h : ML.ixN n i = some j) : seqIndex? i n = some j := (ixN_seq (by rw [← ixN_eq]; exact h)).1
theorem mt_mut (m : Mut) : MtR X (match m with | .append => "list.append" | .pop => "list.pop" | .popAt => "list.pop" | .clear => "list.clear") (rMut X.K m) := by
  intro pins st σ H x vs v us Q I rx rv h
  obtain ⟨a, B, xs, ws, ds, z, rfl, sm, ha, hr, hl, hd, e, q⟩ := h
  unfold mutF at e
  split at e
  · split at e
    · rename_i hz
      cases e
      cases hd with
      | cons h1 h2 =>
        cases h2
        exact mt_append pins st σ H _ _ v us Q I rx rv ⟨a, ws, _, rfl, rfl, ha, by rw [hr.length, ← line_eq]; exact hz, q _ _ .non (hr.append (.cons h1 .nil)) (by rw [List.length_append]; simp; omega)⟩
    · cases e
  · obtain ⟨d, e1, e2⟩ := map_some e
    cases e2
    cases hd
    obtain ⟨w, g1, g2⟩ := hr.get e1
    exact mt_pop pins st σ H _ _ v us Q I rx rv ⟨a, ws, w, rfl, rfl, ha, by rw [hr.length]; exact g1, q _ _ g2 hr.dropLast (by rw [List.length_dropLast]; omega)⟩
  · split at e
    · rename_i hz
      obtain ⟨j, e1, e⟩ := bind_some e
      obtain ⟨d, e2, e3⟩ := map_some e
      cases e3
      cases hd with
      | cons h1 h2 =>
        cases h2
        cases h1
        obtain ⟨w, g1, g2⟩ := hr.get e2
        exact mt_popAt pins st σ H _ _ v us Q I rx rv ⟨a, ws, _, j, w, rfl, rfl, ha, hz.1, hz.2, by rw [hr.length]; exact ixN_lt e1, g1, q _ _ g2 (hr.eraseIdx j) (Nat.le_trans (len_erase _ _) hl)⟩
    · cases e
  · cases e
    cases hd
    exact mt_clear pins st σ H _ _ v us Q I rx rv ⟨a, ws, rfl, rfl, ha, q _ _ .non .nil (Nat.zero_le _)⟩
  · cases e
theorem mut_key {m : Mut} {i : Nat} {ms : List ME} : ∀ σ H Q, tE X.K Φ (.mut m i ms) σ H Q → (tVar i) σ H fun x H1 => tyV X.K "list" x H1 ∧ (tA X.K Φ ms) σ H1 fun xs H2 => rMut X.K m x xs H2 Q := by
  intro σ H Q ⟨B, ρ, r, ρ', E, e, q⟩
  rw [evE] at e
  obtain ⟨x0, e0, e⟩ := bind_some e
  obtain ⟨p1, e1, e⟩ := bind_some e
  obtain ⟨p2, e2, e⟩ := bind_some e
  obtain ⟨xs, e3, e⟩ := bind_some e
  obtain ⟨z, e4, e5⟩ := map_some e
  cases e5
  obtain ⟨a, us0, h1, h3, h4, h5, h6⟩ := E.ownL (ownL_eq e0)
  refine ⟨.ref a, h1, .inl ⟨rfl, us0, SqL.of h4⟩, B, ρ, p1.1, p1.2, E, e1, fun vs H1 B1 E1 X1 O1 => ?_⟩
  obtain ⟨B2, E2, X2, R2⟩ := frzs_ok E1 O1 e2
  obtain ⟨a', us, g1, g3, g4, g5, g6⟩ := E2.ownL (ownL_eq e3)
  rw [h1] at g1
  cases g1
  refine ⟨a, B2, xs, us, p2.1, z, rfl, E2.same, g4, g5, g6, R2, e4, fun v ws r1 r2 hl => ?_⟩
  obtain ⟨E3, X3⟩ := E2.change (ownL_eq e3) h1 r2 hl
  exact q v _ _ E3 ((X1.trans X2).trans X3) r1
theorem snd_app (g : Good X Φ F Gc N sc k) {i : Nat} {x : Str} {m : ME} {e : Expr} {p ap cp : Pos} (h1 : N[i]? = some x) (h2 : visB sc x = true) (h3 : plainB x = true) (hl : (ap.endLine == cp.line) = true) (hs : noStar e = true) (ha : PA X [e] (tA X.K Φ [m])) :
    PE X (.Call (.Attribute (.Name x p) ("append" : Str) ap) [e] [] cp) (tE X.K Φ (.mut .append i [m])) := by
  obtain ⟨d1, d2, _⟩ := plain_ne h3
  have st := star_cons hs [] X.env
  refine PE.imp (pe_bm PySem.F.plainAttrs_list PySem.F.slot_list_append PySem.F.type_list_append (mt_mut .append) (pe_var (i := i) (by rw [g.hN]; exact h1) (by rw [g.hsc]; exact vis_of h2) d1 d2) ha rfl (by rw [st]; rfl) hl st rfl) mut_key
theorem snd_popAt (g : Good X Φ F Gc N sc k) {i : Nat} {x : Str} {m : ME} {e : Expr} {p ap cp : Pos} (h1 : N[i]? = some x) (h2 : visB sc x = true) (h3 : plainB x = true) (hl : (ap.endLine == cp.line) = true) (hs : noStar e = true) (ha : PA X [e] (tA X.K Φ [m])) :
    PE X (.Call (.Attribute (.Name x p) ("pop" : Str) ap) [e] [] cp) (tE X.K Φ (.mut .popAt i [m])) := by
  obtain ⟨d1, d2, _⟩ := plain_ne h3
  have st := star_cons hs [] X.env
  refine PE.imp (pe_bm PySem.F.plainAttrs_list PySem.F.slot_list_pop PySem.F.type_list_pop (mt_mut .popAt) (pe_var (i := i) (by rw [g.hN]; exact h1) (by rw [g.hsc]; exact vis_of h2) d1 d2) ha rfl (by rw [st]; rfl) hl st rfl) mut_key
theorem mut_key0 {m : Mut} {i : Nat} : ∀ σ H Q, tE X.K Φ (.mut m i []) σ H Q → (tVar i) σ H fun x H1 => tyV X.K "list" x H1 ∧ rMut X.K m x [] H1 Q := by
  intro σ H Q h
  obtain ⟨v, h1, h2, B, ρ, rs, ρ', E, e, q⟩ := mut_key σ H Q h
  rw [evEs] at e
  cases e
  exact ⟨v, h1, h2, q [] H B E .refl .nil⟩
theorem snd_pop (g : Good X Φ F Gc N sc k) {i : Nat} {x : Str} {p ap cp : Pos} (h1 : N[i]? = some x) (h2 : visB sc x = true) (h3 : plainB x = true) (hl : (ap.endLine == cp.line) = true) :
    PE X (.Call (.Attribute (.Name x p) ("pop" : Str) ap) [] [] cp) (tE X.K Φ (.mut .pop i [])) := by
  obtain ⟨d1, d2, _⟩ := plain_ne h3
  exact PE.imp (pe_bm0 PySem.F.plainAttrs_list PySem.F.slot_list_pop PySem.F.type_list_pop (mt_mut .pop) (pe_var (i := i) (by rw [g.hN]; exact h1) (by rw [g.hsc]; exact vis_of h2) d1 d2) rfl hl) mut_key0
theorem snd_clear (g : Good X Φ F Gc N sc k) {i : Nat} {x : Str} {p ap cp : Pos} (h1 : N[i]? = some x) (h2 : visB sc x = true) (h3 : plainB x = true) (hl : (ap.endLine == cp.line) = true) :
    PE X (.Call (.Attribute (.Name x p) ("clear" : Str) ap) [] [] cp) (tE X.K Φ (.mut .clear i [])) := by
  obtain ⟨d1, d2, _⟩ := plain_ne h3
  exact PE.imp (pe_bm0 PySem.F.plainAttrs_list PySem.F.slot_list_clear PySem.F.type_list_clear (mt_mut .clear) (pe_var (i := i) (by rw [g.hN]; exact h1) (by rw [g.hsc]; exact vis_of h2) d1 d2) rfl hl) mut_key0
end
end ML
set_option Elab.async false
set_option linter.all false
set_option autoImplicit false
set_option maxRecDepth 100000
set_option maxHeartbeats 4000000
/-! MLenum: enumerate over a tuple. -/
namespace ML
open PySem L2
section
open PySem.Spec PyProof.Rows
/-- enumerate's object at the start -/
abbrev enum0 (it : Addr) : Obj := { cls := .type "enumerate", data := .fields #[.none, .bool false, .ref it, rawInt 0, .none, .none] }
theorem enum_new {v : Value} {o : Obj} {G : Heap → Prop} (B : Begins v o G) :
    Meets (Builtin.«enumerate.__new__» ⟨[.type "enumerate", v], []⟩) (fun _ R s => G s.heap ∧ R (.ok (.ret (.ref (s.heap.push o).objs.size))) { s with heap := (s.heap.push o).push (enum0 s.heap.objs.size) }) :=
  .of_wp fun prog w A R s ⟨g0, h⟩ => by
    obtain ⟨hp, g, d, tk, os⟩ := s
    have sub := sub_enumerate
    have start : ∀ {A' : Around} {E Q : Value → Shared → Prop}, Q (.ref hp.objs.size) ⟨hp.push o, g, d, tk, os⟩ → wpAny (model prog w) A' (pyIter v) Q E ⟨hp, g, d, tk, os⟩ := fun q => B.iter prog w _ _ ⟨hp, g, d, tk, os⟩ _ g0 q
    wp_walk using start
    refine wpAny_stack_any fun st => wpAny_pure ?_
    split
    · rename_i c _ _ _ _ _
      cases (c == Value.type "enumerate") <;> (wp_walk using start; exact ⟨_, rfl, h⟩)
    · wp_walk using start
      exact ⟨_, rfl, h⟩
variable {prog : Program} {w : World} {A : Around} {E : Value → Shared → Prop} {s : Shared}
theorem call_enum {v : Value} {o : Obj} {G : Heap → Prop} {Q : Value → Shared → Prop} (B : Begins v o G) (g0 : G s.heap)
    (h : ∀ hp, IsEnum hp (s.heap.objs.size + 1) s.heap.objs.size 0 .none → hp.get? s.heap.objs.size = some o → (∀ b u, s.heap.get? b = some u → hp.get? b = some u) → Q (.ref (s.heap.objs.size + 1)) { s with heap := hp }) :
    wpAny (model prog w) A (call (.type "enumerate") [v]) Q E s := by
  refine callType_new F.called_enumerate (by decide) (F.typeCall_enumerate_1 _) (F.newCall_enumerate_1 _) (fun obj => F.args_object_init_2 obj _) F.entry_enumerate_new (enum_new B) ⟨g0, ?_⟩
  have sz : (s.heap.push o).objs.size = s.heap.objs.size + 1 := Heap.size_push ..
  show _ ∧ _
  rw [sz]
  have at1 : IsEnum ((s.heap.push o).push (enum0 s.heap.objs.size)) (s.heap.objs.size + 1) s.heap.objs.size 0 .none := by
    have q := Heap.get?_push_size (s.heap.push o) (o := enum0 s.heap.objs.size) rfl
    rw [sz] at q
    exact q
  exact ⟨⟨_, at1, rfl⟩, h _ at1 (Heap.get?_push_of_some _ (Heap.get?_push_size _ B.free)) fun b u x => Heap.get?_push_of_some _ (Heap.get?_push_of_some _ x)⟩
end
/-- the tuple at a, each item in a new pair -/
def IteT [Wd] (K : PySem.W.Frag) (a : Addr) (n : Nat) : It :=
  ⟨fun i H => i < n ∧ ∃ (xs : List V) (x : V), SqT K H a xs ∧ xs[i]? = some x, fun i H v H' => ∃ T x, v = .ref T ∧ H T = none ∧ H' = upd H T (.tup [.int (i : Nat), x]) ∧ ∀ xs, SqT K H a xs → xs[i]? = some x, fun i H => n ≤ i ∧ ∃ xs : List V, SqT K H a xs ∧ xs.length = n⟩
/-- how the two records of an enumerate over the tuple at a look ahead of turn i -/
structure Counted (a e it n : Nat) (i : Nat) (h : Heap) : Prop where
  bound : i ≤ n
  top : ∃ old, IsEnum h e it ((i : Nat) : Int) old
  under : h.IsTupleIter it a i
  ne : e ≠ it
  na : a ≠ it
  ae : a ≠ e
theorem two {b e it : Addr} (m : b ∈ [e, it]) : b = e ∨ b = it := by simpa using m
theorem not_two {b e it : Addr} (m : b ∉ [e, it]) : b ≠ e ∧ b ≠ it := by simpa [not_or] using m
section
variable [Wd] {X : Cx} {pins : List (Addr × Obj)} {σ : L2.St} {H : Hp} {s : Shared} {a e it n i : Nat} {E : Value → Shared → Prop}
theorem counted_next {elts : List Expr} {kk : Nat} {tpos : Pos} (I : L2.Inv X pins σ H s) (calm : X.calm = true) (fr : ∀ b ∈ [e, it], FpOk X pins H b) (c : Counted a e it n i s.heap) (go : (IteT X.K a n).go i H) :
    wpAny (model X.prog X.w) X.A (pyNext (.ref e)) (fun r s1 => ∃ u, r = some u ∧ wpAny (model X.prog X.w) X.A (letOwnedTupleGo (.Tuple elts kk tpos) (.ref e) u) (fun _ s2 => ∃ x H', L2.Inv X pins σ H' s2 ∧ RelV x u ∧ (IteT X.K a n).yld i H x H' ∧ Counted a e it n (i + 1) s2.heap ∧ ∀ b ∈ [e, it], H' b = none) E s1) E s := by
  obtain ⟨-, ⟨old, top⟩, under, ne, na, ae⟩ := c
  obtain ⟨more, xs, x, sq, at_x⟩ := go
  obtain ⟨its, rs, tup, -⟩ := I.tuple sq
  obtain ⟨u, at_u, ru⟩ := rs.get at_x
  have at_u' : its.toArray[i]? = some u := by simpa using at_u
  have room : i < its.toArray.size := (Array.getElem?_eq_some_iff.mp at_u').1
  have le : e < s.heap.objs.size := Heap.lt_size top
  have li : it < s.heap.objs.size := under.elim fun _ q => Heap.lt_size q.1
  have draws := Draws.tuple (prog := X.prog) (w := X.w) (A := X.A.in1) (I.ok.hd calm) it a na its.toArray
  have apart : e ∉ [it, a] := by simp [ne, Ne.symm ae]
  apply wpAny_pyNext_enum_itemD draws top ⟨under, tup⟩ room ne apart
  rintro y h1 tk at_y out ⟨under1, -⟩ pair _ old1
  cases Option.some.inj (at_y.symm.trans at_u')
  refine ⟨_, rfl, wpAny_letOwnedTupleGo_enum (s := { s with heap := h1, toks := tk + 1 }) out fun h2 top2 old2 => ?_⟩
  generalize hT : s.heap.objs.size = T at *
  have laid : h2.get? T = some { cls := .type "tuple", data := .seq #[.int i tk, u] } := by rw [old2.2 T (Nat.ne_of_gt le)]; exact pair
  have ok : ObjOk X.prog X.w (upd H T (.tup [.int (i : Nat), x])) h2 T (.tup [.int (i : Nat), x]) := ⟨(by decide : 2 ≤ sizeLine), _, .cons ⟨tk, rfl⟩ (.cons ru .nil), _, laid, rfl, _, rfl⟩
  have I2 : L2.Inv X pins σ _ { s with heap := h2, toks := tk + 1 } := I.turnedNew (fun b v m q => (old2.2 b (not_two m).1).trans (old1 b v (not_two m).1 (not_two m).2 q)) fr (Nat.le_of_eq hT) ok
  have next : ((i + 1 : Nat) : Int) = (i : Int) + 1 := rfl
  refine ⟨.ref T, _, I2, rfl, ⟨T, x, rfl, I.hok.fresh (Nat.le_of_eq hT), rfl, fun ys q => I.tuple_inj q sq ▸ at_x⟩, ⟨more, ⟨_, next ▸ top2⟩, under1.at fun o q => (old2.2 it ne.symm).trans q, ne, na, ae⟩, fun b m => ?_⟩
  have other : b ≠ T := by
    rcases two m with z | z
    · exact z ▸ Nat.ne_of_lt le
    · exact z ▸ Nat.ne_of_lt li
  exact (upd_ne other).trans (fr b m).1
theorem counted_last (I : L2.Inv X pins σ H s) (calm : X.calm = true) (fr : ∀ b ∈ [e, it], FpOk X pins H b) (c : Counted a e it n i s.heap) (stop : (IteT X.K a n).stop i H) :
    wpAny (model X.prog X.w) X.A (pyNext (.ref e)) (fun r s1 => r = none ∧ L2.Inv X pins σ H s1) E s := by
  obtain ⟨le, ⟨old, top⟩, under, ne, na, ae⟩ := c
  obtain ⟨ge, xs, sq, len⟩ := stop
  obtain ⟨its, rs, tup, -⟩ := I.tuple sq
  have all : i = its.toArray.size := by rw [List.size_toArray, ← rs.length, len]; exact Nat.le_antisymm le ge
  subst all
  have draws := Draws.tuple (prog := X.prog) (w := X.w) (A := X.A.in1) (I.ok.hd calm) it a na its.toArray
  exact wpAny_pyNext_enum_endD draws top ⟨under, tup⟩ fun h' ext => ⟨rfl, I.turnedL (t' := s.toks) (ch := [e, it]) (fun b v m q => ext b v (not_two m).2 q) fr⟩
end
theorem turn_enumT [Wd] {P : Program} {w : World} {K : PySem.W.Frag} {elts : List Expr} {kk : Nat} {tpos : Pos} (a e it : Addr) (n : Nat) : Turn P w K (.Tuple elts kk tpos) (IteT K a n) [e, it] e (Counted a e it n) where
  mem := List.mem_cons_self
  obj _ _ c b m := by
    rcases two m with rfl | rfl
    · exact c.top.elim fun _ q => ⟨_, q, nofun⟩
    · obtain ⟨o, q, -, look⟩ := c.under
      exact ⟨o, q, look ▸ nofun⟩
  keep _ _ _ c k := { c with top := c.top.imp fun _ q => k e List.mem_cons_self _ q, under := c.under.at fun o q => k it (List.mem_cons_of_mem _ List.mem_cons_self) o q }
  item _ p q r calm _ _ _ _ _ _ I fr c go := by cases p; cases q; cases r; exact counted_next I calm fr c go
  done _ p q r calm _ _ _ _ _ _ I fr c stop := by cases p; cases q; cases r; exact counted_last I calm fr c stop
  self _ _ _ _ _ c h := c.top.elim fun _ q => wpAny_pyIter_enum q h
/-- enumerate(x), x a tuple -/
def iEnumT [Wd] (K : PySem.W.Frag) (ta : TA) : TI := fun σ H R => ta σ H fun vs H1 => ∃ a xs, vs = [.ref a] ∧ SqT K H1 a xs ∧ R (IteT K a xs.length) H1
open PySem.Spec PyProof.Rows in
theorem pi_enumT [Wd] {X : Cx} {e : Expr} {ta : TA} {p pos tpos : Pos} {elts : List Expr} {kk : Nat} (hg : Gl X "enumerate") (hm : X.mg "enumerate" = none) (ha : PA X [e] ta) (hs : starEach [e] X.env = [(false, eval e X.env)]) :
    PI X (.Tuple elts kk tpos) (.Call (.Name "enumerate" p) [e] [] pos) (iEnumT X.K ta) where
  run pins s σ H R I h := by
    refine Call_ (ld_blt I hg hm PyProof.Rows.boot_enumerate (PyProof.Rows.callWith_type1 (thn (ha.run pos pins s σ H _ I h) ?_) hs rfl))
    rintro us s1 ⟨_, H1, I1, r1, a, xs, rfl, sq, q⟩
    rw [Vals.ref1 r1]
    obtain ⟨its, -, tup, -⟩ := I1.tuple sq
    have low : a < s1.heap.objs.size := tup.elim fun _ z => Heap.lt_size z.1
    refine call_enum (begins_tuple a its.toArray) tup fun h1 top under old => wpAny_pyIter_enum top ?_
    have fresh : ∀ b ∈ [s1.heap.objs.size + 1, s1.heap.objs.size], FpOk X pins H1 b := fun b m => by
      have above : s1.heap.objs.size ≤ b := (two m).elim (fun z => z ▸ Nat.le_succ _) fun z => Nat.le_of_eq z.symm
      exact I1.fpOk above (I1.hok.fresh above)
    generalize s1.heap.objs.size = m at *
    exact ⟨m + 1, [m + 1, m], _, _, H1, rfl, I1.kept (t' := s1.toks) old, turn_enumT a (m + 1) m xs.length, ⟨Nat.zero_le _, ⟨.none, top⟩, ⟨_, under, rfl, rfl⟩, Nat.succ_ne_self m, Nat.ne_of_lt low, Nat.ne_of_lt (Nat.lt_succ_of_lt low)⟩, fresh, q⟩
end ML
set_option Elab.async false
set_option linter.all false
set_option autoImplicit false
set_option maxRecDepth 100000
set_option maxHeartbeats 4000000
/-! MLdit: walks over dicts with tuple keys: their keys, their pairs. -/
namespace ML
open PySem L2
section
variable [Wd]
/-- the keys -/
def ItdK (d : Addr) (kvs : List (List L2.Key × Addr × V)) (ep : Nat) : It :=
  ⟨fun i H => H d = some (DicAt d kvs ep) ∧ i < kvs.length, fun i H x H' => H' = H ∧ ∃ p, kvs[i]? = some p ∧ x = .ref p.2.1, fun i H => H d = some (DicAt d kvs ep) ∧ kvs.length ≤ i⟩
/-- the pairs -/
def ItdI (d : Addr) (kvs : List (List L2.Key × Addr × V)) (ep : Nat) : It :=
  ⟨fun i H => H d = some (DicAt d kvs ep) ∧ i < kvs.length, fun i H x H' => ∃ T p, kvs[i]? = some p ∧ x = .ref T ∧ H T = none ∧ H' = upd H T (.tup [.ref p.2.1, p.2.2]), fun i H => H d = some (DicAt d kvs ep) ∧ kvs.length ≤ i⟩
variable {X : Cx} {pins : List (Addr × Obj)} {σ : L2.St} {H : Hp} {s : Shared} {d : Addr} {kvs : List (List Key × Addr × V)} {ep : Nat}
/-- two lists side by side: what stands on one side has its like on the other -/
theorem paired_at {α β : Type} {F : α → β → Prop} {l : List α} {m : List β} (p : Paired F l m) : ∀ {i : Nat} {a : α}, l[i]? = some a → ∃ b, m[i]? = some b ∧ F a b := by
  induction p with
  | nil => intro i a e; simp at e
  | cons h _ ih =>
    intro i a e
    cases i with
    | zero => exact ⟨_, rfl, by simp at e; exact e ▸ h⟩
    | succ j => exact ih e
/-- what the heap tells of a dict -/
theorem dic_raw (I : Inv X pins σ H s) (hd : H d = some (DicAt d kvs ep)) : ∃ es : Array DictEntry, s.heap.DictRaw d es ep ∧ es.size = kvs.length ∧ (d == sysModules) = false ∧ kvs.length ≤ sizeLine ∧
    ∀ (i : Nat) (h : i < es.size) p, kvs[i]? = some p → es[i].key = .ref p.2.1 ∧ RelV p.2.2 es[i].val := by
  obtain ⟨y, z, xs, pr, o, es, q1, q2, q3, q4, q5⟩ := (I.hok d _ hd).1
  have l1 : kvs.length = xs.length := Paired.length pr
  have l2 : es.size = xs.length := by rw [← Array.length_toList, q4, List.length_map]
  refine ⟨es, ⟨o, q1, q2, q3⟩, l2.trans l1.symm, y, z, fun i h p hp => ?_⟩
  obtain ⟨q, h1, -, h3, h4⟩ := paired_at pr hp
  have at_i : es.toList[i]? = some (entryOfKey (tupleKind (mixKind Wd.P Wd.w)) q) := by simp only [q4, List.getElem?_map, h1, Option.map_some]
  have here : es[i] = entryOfKey (tupleKind (mixKind Wd.P Wd.w)) q := by simpa [h] using at_i
  exact here ▸ ⟨congrArg Value.ref h3.symm, h4⟩

/-! a walk whose whole state is one record -/
/-- the record at `it` looks as St says ahead of turn i -/
abbrev Lone (it : Addr) (St : Nat → Obj → Prop) (i : Nat) (h : Heap) : Prop := ∃ o, h.get? it = some o ∧ St i o
theorem lone_obj {it : Addr} {St : Nat → Obj → Prop} (nc : ∀ i o, St i o → ∀ v, o.data ≠ .cell v) (i : Nat) (h : Heap) (a : Lone it St i h) (b : Addr) (m : b ∈ [it]) : ∃ o, h.get? b = some o ∧ ∀ v, o.data ≠ .cell v := by
  cases List.mem_singleton.mp m
  exact a.imp fun o q => ⟨q.1, nc i o q.2⟩
theorem lone_keep {it : Addr} {St : Nat → Obj → Prop} (i : Nat) (h h' : Heap) (a : Lone it St i h) (k : ∀ b ∈ [it], ∀ o, h.get? b = some o → h'.get? b = some o) : Lone it St i h' :=
  a.imp fun o q => ⟨k it (List.mem_singleton.mpr rfl) o q.1, q.2⟩
theorem off_one {b it : Addr} (m : b ∉ [it]) : b ≠ it := fun z => m (List.mem_singleton.mpr z)

/-- how a walk over keys looks -/
def KeySt (d : Addr) (n ep : Nat) (i : Nat) (o : Obj) : Prop := o.cls = .type "dict_keyiterator" ∧ o.data = .fields #[.ref d, .int i 0, .int n 0, .int ep 0]
/-- .. over pairs -/
def PairSt (d : Addr) (n ep : Nat) (i : Nat) (o : Obj) : Prop := ∃ k v : Value, o = { cls := .type "dict_itemiterator", dict := none, data := .fields #[.none, .bool false, .ref d, .int i 0, .int n 0, .int ep 0, k, v], slots := #[] }
theorem KeySt.plain {n : Nat} (i : Nat) (o : Obj) (h : KeySt d n ep i o) (v : Option Value) : o.data ≠ .cell v := by rw [h.2]; exact nofun
theorem PairSt.plain {n : Nat} (i : Nat) (o : Obj) (h : PairSt d n ep i o) (v : Option Value) : o.data ≠ .cell v := by
  obtain ⟨_, _, rfl⟩ := h
  exact nofun
/-- a further turn, as Turn wants it told -/
def Further (X : Cx) (pins : List (Addr × Obj)) (σ : L2.St) (H : Hp) (tg : Expr) (J : It) (it : Addr) (St : Nat → Obj → Prop) (i : Nat) (E : Value → Shared → Prop) (r : Option Value) (s1 : Shared) : Prop :=
  ∃ u, r = some u ∧ wpAny (model X.prog X.w) X.A (letOwnedTupleGo tg (.ref it) u) (fun _ s2 => ∃ x H', Inv X pins σ H' s2 ∧ RelV x u ∧ J.yld i H x H' ∧ Lone it St (i + 1) s2.heap ∧ ∀ b ∈ [it], H' b = none) E s1
section
variable {it : Addr} {i : Nat} {E : Value → Shared → Prop}
theorem key_next {tg : Expr} (I : Inv X pins σ H s) (fr : ∀ b ∈ [it], FpOk X pins H b) (a : Lone it (KeySt d kvs.length ep) i s.heap) (go : (ItdK d kvs ep).go i H) :
    wpAny (model X.prog X.w) X.A (pyNext (.ref it)) (Further X pins σ H tg (ItdK d kvs ep) it (KeySt d kvs.length ep) i E) E s := by
  obtain ⟨es, raw, size, -, -, entry⟩ := dic_raw I go.1
  have more : i < kvs.length := go.2
  have at_i : kvs[i]? = some kvs[i] := List.getElem?_eq_getElem more
  apply wpAny_pyNext_keys_item_raw (i := i) (size ▸ a) raw (size ▸ go.2)
  intro h' next others
  obtain ⟨o, o1, o2, o3⟩ := id next
  have I' : Inv X pins σ H { s with heap := h' } := I.turnedL (t' := s.toks) (fun b _ m e => (others.2 b (off_one m)).trans e) fr
  exact ⟨_, rfl, go_of (s := { s with heap := h' }) o1 o2 o3 (by decide) ⟨.ref kvs[i].2.1, H, I', (entry i (size ▸ go.2) _ at_i).1, ⟨rfl, _, at_i, rfl⟩, size ▸ next, fun b m => (fr b m).1⟩⟩
theorem key_last (I : Inv X pins σ H s) (calm : X.calm = true) (fr : ∀ b ∈ [it], FpOk X pins H b) (a : Lone it (KeySt d kvs.length ep) i s.heap) (stop : (ItdK d kvs ep).stop i H) :
    wpAny (model X.prog X.w) X.A (pyNext (.ref it)) (fun r s1 => r = none ∧ Inv X pins σ H s1) E s := by
  obtain ⟨es, raw, size, -, -, -⟩ := dic_raw I stop.1
  exact wpAny_pyNext_keys_end_raw (i := i) (I.ok.hd calm) (size ▸ a) raw (size ▸ stop.2) fun h' ext => ⟨rfl, I.turnedL (t' := s.toks) (fun b v m e => ext b v (off_one m) e) fr⟩
theorem pair_next {elts : List Expr} {kk : Nat} {tpos : Pos} (I : Inv X pins σ H s) (fr : ∀ b ∈ [it], FpOk X pins H b) (a : Lone it (PairSt d kvs.length ep) i s.heap) (go : (ItdI d kvs ep).go i H) :
    wpAny (model X.prog X.w) X.A (pyNext (.ref it)) (Further X pins σ H (.Tuple elts kk tpos) (ItdI d kvs ep) it (PairSt d kvs.length ep) i E) E s := by
  obtain ⟨es, raw, size, -, -, entry⟩ := dic_raw I go.1
  have more : i < kvs.length := go.2
  have at_i : kvs[i]? = some kvs[i] := List.getElem?_eq_getElem more
  obtain ⟨rk, rv⟩ := entry i (size ▸ go.2) _ at_i
  obtain ⟨_, rec, k, v, rfl⟩ := a
  have below := Heap.lt_size rec
  rw [← size] at rec
  apply wpAny_pyNext_items_item_raw rec raw (size ▸ go.2)
  intro h' out pair _ others
  refine ⟨_, rfl, wpAny_letOwnedTupleGo_items (s := { s with heap := h' }) out fun h'' rec' others' => ?_⟩
  generalize hT : s.heap.objs.size = T at *
  have laid : h''.get? T = some { cls := .type "tuple", data := .seq #[es[i].key, es[i].val] } := by rw [others'.2 T (Nat.ne_of_gt below)]; exact pair
  have ok : ObjOk X.prog X.w (upd H T (.tup [.ref kvs[i].2.1, kvs[i].2.2])) h'' T (.tup [.ref kvs[i].2.1, kvs[i].2.2]) :=
    ⟨(by decide : 2 ≤ sizeLine), _, .cons rk (.cons rv .nil), _, laid, rfl, _, rfl⟩
  have I' : Inv X pins σ _ { s with heap := h'' } := I.turnedNew (t' := s.toks) (fun b v m e => (others'.2 b (off_one m)).trans (others b v (off_one m) e)) fr (Nat.le_of_eq hT) ok
  refine ⟨.ref T, _, I', rfl, ⟨T, _, at_i, rfl, I.hok.fresh (Nat.le_of_eq hT), rfl⟩, ⟨_, rec', es[i].key, es[i].val, by simp only [size]⟩, fun b m => ?_⟩
  cases List.mem_singleton.mp m
  rw [upd_ne (Nat.ne_of_lt below)]
  exact (fr _ m).1
theorem pair_last (I : Inv X pins σ H s) (calm : X.calm = true) (fr : ∀ b ∈ [it], FpOk X pins H b) (a : Lone it (PairSt d kvs.length ep) i s.heap) (stop : (ItdI d kvs ep).stop i H) :
    wpAny (model X.prog X.w) X.A (pyNext (.ref it)) (fun r s1 => r = none ∧ Inv X pins σ H s1) E s := by
  obtain ⟨es, raw, size, -, -, -⟩ := dic_raw I stop.1
  obtain ⟨_, rec, k, v, rfl⟩ := a
  rw [← size] at rec
  exact wpAny_pyNext_items_end_raw (I.ok.hd calm) rec raw (size ▸ stop.2) fun h' ext => ⟨rfl, I.turnedL (t' := s.toks) (fun b v m e => ext b v (off_one m) e) fr⟩
end
theorem turn_dK {P : Program} {w : World} {K : PySem.W.Frag} {tg : Expr} (it : Addr) : Turn P w K tg (ItdK d kvs ep) [it] it (Lone it (KeySt d kvs.length ep)) :=
  ⟨List.mem_singleton.mpr rfl, lone_obj KeySt.plain, lone_keep, fun _ p q r _ _ _ _ _ _ _ I fr a go => by cases p; cases q; cases r; exact key_next I fr a go,
    fun _ p q r calm _ _ _ _ _ _ I fr a stop => by cases p; cases q; cases r; exact key_last I calm fr a stop, fun _ _ _ _ _ a q => wpAny_pyIter_keyiter a q⟩
theorem turn_dI {P : Program} {w : World} {K : PySem.W.Frag} {elts : List Expr} {kk : Nat} {tpos : Pos} (it : Addr) : Turn P w K (.Tuple elts kk tpos) (ItdI d kvs ep) [it] it (Lone it (PairSt d kvs.length ep)) :=
  ⟨List.mem_singleton.mpr rfl, lone_obj PairSt.plain, lone_keep, fun _ p q r _ _ _ _ _ _ _ I fr a go => by cases p; cases q; cases r; exact pair_next I fr a go,
    fun _ p q r calm _ _ _ _ _ _ I fr a stop => by cases p; cases q; cases r; exact pair_last I calm fr a stop, fun _ _ _ _ _ a q => by obtain ⟨_, e, _, _, rfl⟩ := a; exact PySem.W.kcp_self e q⟩

def iDK (td : TE) : TI := fun σ H R => td σ H fun x H1 => ∃ d kvs ep, x = .ref d ∧ H1 d = some (DicAt d kvs ep) ∧ R (ItdK d kvs ep) H1
def iDI (td : TE) : TI := fun σ H R => td σ H fun x H1 => ∃ d kvs ep, x = .ref d ∧ H1 d = some (DicAt d kvs ep) ∧ R (ItdI d kvs ep) H1
theorem pi_dK {tg e : Expr} {td : TE} (he : PE X e td) : PI X tg e (iDK td) where
  run pins s σ H R I h := by
    refine thn (he.run pins s σ H _ I h) ?_
    rintro u s1 ⟨_, H1, I1, ru, d, kvs, ep, rfl, hd, q⟩
    cases ru
    obtain ⟨es, raw, size, ns, -, -⟩ := dic_raw I1 hd
    exact wpAny_pyIter_dict_raw ns raw (pi_one (tk := s1.toks) I1 _ (turn_dK _) ⟨_, Heap.get?_push_size _ rfl, rfl, by rw [size]; rfl⟩ q)
/-- e.items() where e is a dict told by its entries: a view is laid -/
theorem view_of {e : Expr} {apos cpos : Pos} {Q E : Value → Shared → Prop} (hbase : attributeBase e "items" X.env (eval e X.env) = eval e X.env) (hline : (apos.endLine == cpos.line) = true)
    (h : wpAny (model X.prog X.w) X.A (eval e X.env) (fun v s1 => ∃ d es ep, v = .ref d ∧ s1.heap.DictRaw d es ep ∧ (d == sysModules) = false ∧ Q (.ref s1.heap.objs.size) { s1 with heap := s1.heap.push { cls := .type "dict_items", data := .fields #[.ref d] } }) E s) :
    wpAny (model X.prog X.w) X.A (eval (.Call (.Attribute e "items" apos) [] [] cpos) X.env) Q E s := by
  apply wpAny_Call_method (T := "dict") hbase rfl hline F.plainAttrs_dict F.slot_dict_items F.type_dict_items
  refine thn h ?_
  rintro _ s1 ⟨d, es, ep, rfl, raw, ns, q⟩
  have bare : ∀ a, Value.ref d = .ref a → ∃ ob, s1.heap.get? a = some ob ∧ ob.dict = none := by
    rintro _ ⟨⟩
    exact raw.imp fun o r => ⟨r.1, r.2.1.2.1⟩
  exact ⟨raw.typeIs, bare, method_meetsIn F.slot_dict_items F.entry_dict_items rfl (PySem.evalArgs_none ⟨rfl, raw.typeIs, F.args_dict_items_1 _, _, meets_dict_items_raw d ns, ⟨es, ep, raw⟩, q⟩)⟩
theorem pi_dI {elts : List Expr} {kk : Nat} {tpos : Pos} {e : Expr} {td : TE} {apos cpos : Pos} (he : PE X e td) (hbase : attributeBase e "items" X.env (eval e X.env) = eval e X.env := by rfl) (hline : (apos.endLine == cpos.line) = true := by rfl) :
    PI X (.Tuple elts kk tpos) (.Call (.Attribute e "items" apos) [] [] cpos) (iDI td) where
  run pins s σ H R I h := by
    refine view_of hbase hline (thn (he.run pins s σ H _ I h) ?_)
    rintro _ s1 ⟨_, H1, I1, ru, d, kvs, ep, rfl, hd, q⟩
    cases ru
    obtain ⟨es, raw, size, ns, -, -⟩ := dic_raw I1 hd
    refine ⟨d, es, ep, rfl, raw, ns, ?_⟩
    have old : ∀ b o, s1.heap.get? b = some o → (s1.heap.push { cls := .type "dict_items", data := .fields #[.ref d] }).get? b = some o := fun _ _ e => Heap.get?_push_of_some _ e
    have I2 := I1.kept (t' := s1.toks) old
    refine wpAny_pyIter_items_raw (d := d) ⟨_, Heap.get?_push_size _ rfl, rfl, rfl⟩ (raw.at (old d)) (pi_one (tk := s1.toks) I2 _ (turn_dI _) ⟨_, Heap.get?_push_size _ rfl, .none, .none, ?_⟩ q)
    rw [size]

    rfl
end
end ML
set_option Elab.async false
set_option linter.all false
set_option autoImplicit false
set_option maxRecDepth 100000
set_option maxHeartbeats 4000000
/-! MLcomp: what is walked; comprehensions; every expression. -/
namespace ML
open PySem L2

/-- the iterator gives these items, while the frozen part B stands -/
structure Walks [Wd] (K : PySem.W.Frag) (J : It) (B : Hp) (ds : List D) : Prop where
  goes : ∀ i H, Same B H → i < ds.length → J.go i H
  stops : ∀ H, Same B H → J.stop ds.length H
  yields : ∀ i H x H', Same B H → i < ds.length → J.yld i H x H' → ∃ d, ds[i]? = some d ∧
    ((H' = H ∧ Rep K B x d) ∨ ∃ T o, H T = none ∧ H' = upd H T o ∧ ∀ B1, Same B B1 → B1 T = none → Rep K (upd B1 T o) x d)
def tI [Wd] (K : PySem.W.Frag) (Φ : Nat → List D → Option Sv) (k : ItK) (src : List ME) : TI := fun σ H R => ∃ B ρ rs ρ1 ds ρ2 items, EnvOk K B H ρ σ ∧ evEs Φ src ρ = some (rs, ρ1) ∧ frzs ρ1 rs = some (ds, ρ2) ∧ itF k ds = some items ∧
  ∀ J H' B', EnvOk K B' H' ρ2 σ → Ext B H (OwnS ρ σ) B' H' (OwnS ρ2 σ) → items.length ≤ LINE → Walks K J B' items → R J H'

section
variable [Wd] {K : PySem.W.Frag} {B : Hp}
theorem walks_list {a : Addr} {vs : List V} {ds : List D} (h : B a = some (.lst vs)) (r : Reps K B vs ds) : Walks K (Itl K a) B ds where
  goes := fun i H s hi => by
    obtain ⟨v, h1, _⟩ := r.get (List.getElem?_eq_getElem hi)
    exact ⟨vs, v, SqL.of (s _ _ h), h1⟩
  stops := fun H s => ⟨vs, SqL.of (s _ _ h), by rw [r.length]; exact Nat.le_refl _⟩
  yields := fun i H x H' s hi y => by
    obtain ⟨v, h1, h2⟩ := r.get (List.getElem?_eq_getElem hi)
    have q := y.2 vs (SqL.of (s _ _ h))
    rw [h1] at q
    cases q
    exact ⟨_, List.getElem?_eq_getElem hi, .inl ⟨y.1, h2⟩⟩
theorem walks_tup {a : Addr} {vs : List V} {ds : List D} (h : SqT K B a vs) (r : Reps K B vs ds) : Walks K (Itt K a) B ds where
  goes := fun i H s hi => by
    obtain ⟨v, h1, _⟩ := r.get (List.getElem?_eq_getElem hi)
    exact ⟨vs, v, same_sqT s h, h1⟩
  stops := fun H s => ⟨vs, same_sqT s h, by rw [r.length]; exact Nat.le_refl _⟩
  yields := fun i H x H' s hi y => by
    obtain ⟨v, h1, h2⟩ := r.get (List.getElem?_eq_getElem hi)
    have q := y.2 vs (same_sqT s h)
    rw [h1] at q
    cases q
    exact ⟨_, List.getElem?_eq_getElem hi, .inl ⟨y.1, h2⟩⟩
theorem rangeD_get {a : Int} {n i : Nat} (h : i < n) : (rangeD a n)[i]? = some (.int (a + (i : Int))) := by
  unfold rangeD
  rw [List.getElem?_map, List.getElem?_range h]
  rfl
theorem rangeD_length {a : Int} {n : Nat} : (rangeD a n).length = n := by
  unfold rangeD
  rw [List.length_map, List.length_range]
theorem walks_range {a : Int} {n : Nat} : Walks K (Itr a n) B (rangeD a n) where
  goes := fun i H _ hi => by rw [rangeD_length] at hi; exact hi
  stops := fun H _ => by rw [rangeD_length]; exact Nat.le_refl n
  yields := fun i H x H' _ hi y => by
    rw [rangeD_length] at hi
    obtain ⟨y1, y2⟩ := y
    exact ⟨_, rangeD_get hi, .inl ⟨y1, by rw [y2]; exact .int _⟩⟩
theorem walks_str {z : Str} : Walks K (Its z) B (z.cps.toList.map fun c => D.str ⟨#[c]⟩) where
  goes := fun i H _ hi => by
    rw [List.length_map] at hi
    exact hi
  stops := fun H _ => by rw [List.length_map]; exact Nat.le_refl _
  yields := fun i H x H' _ hi y => by
    obtain ⟨y1, c, y2, y3⟩ := y
    refine ⟨.str ⟨#[c]⟩, ?_, .inl ⟨y1, by rw [y3]; exact .str _⟩⟩
    rw [List.getElem?_map, Array.getElem?_toList, y2]
    rfl
theorem walks_rev {a : Addr} {vs : List V} {ds : List D} (h : B a = some (.lst vs)) (r : Reps K B vs ds) : Walks K (Itv K a vs.length) B ds.reverse where
  goes := fun i H s hi => by
    rw [List.length_reverse, ← r.length] at hi
    exact ⟨hi, vs, vs[vs.length - 1 - i]'(by omega), SqL.of (s _ _ h), List.getElem?_eq_getElem (by omega)⟩
  stops := fun H s => by
    rw [List.length_reverse, ← r.length]
    exact Nat.le_refl _
  yields := fun i H x H' s hi y => by
    have hi' : i < ds.length := by rw [List.length_reverse] at hi; exact hi
    have q := y.2 vs (SqL.of (s _ _ h))
    rw [r.length] at q
    obtain ⟨d, h1, h2⟩ := r.getV q
    exact ⟨d, by rw [List.getElem?_reverse hi']; exact h1, .inl ⟨y.1, h2⟩⟩
theorem walks_enum {a : Addr} {vs : List V} {ds : List D} (h : B a = some (.lst vs)) (r : Reps K B vs ds) : Walks K (Ite K a) B ((List.range ds.length).zipWith (fun (i : Nat) (d : D) => D.tup [.int (i : Int), d]) ds) where
  goes := fun i H s hi => by
    rw [List.length_zipWith, List.length_range, Nat.min_self] at hi
    obtain ⟨v, h1, _⟩ := r.get (List.getElem?_eq_getElem hi)
    exact ⟨vs, v, SqL.of (s _ _ h), h1⟩
  stops := fun H s => by
    rw [List.length_zipWith, List.length_range, Nat.min_self]
    exact ⟨vs, SqL.of (s _ _ h), by rw [r.length]; exact Nat.le_refl _⟩
  yields := fun i H x H' s hi y => by
    rw [List.length_zipWith, List.length_range, Nat.min_self] at hi
    obtain ⟨T, w, y1, y2, y3, y4⟩ := y
    obtain ⟨v, h1, h2⟩ := r.get (List.getElem?_eq_getElem hi)
    have q := y4 vs (SqL.of (s _ _ h))
    rw [h1] at q
    cases q
    refine ⟨.tup [.int (i : Int), ds[i]], ?_, .inr ⟨T, _, y2, y3, fun B1 sm hT => ?_⟩⟩
    · rw [List.getElem?_zipWith, List.getElem?_range hi, List.getElem?_eq_getElem hi]
    · rw [y1]
      exact .tup (SqT.of upd_same) (.cons (.int _) (.cons (Rep.mono (sm.trans (same_into hT)) _ _ h2) .nil)) (by show 2 ≤ 16777216; decide)
theorem walks_enumT {a : Addr} {vs : List V} {ds : List D} (h : SqT K B a vs) (r : Reps K B vs ds) : Walks K (IteT K a vs.length) B ((List.range ds.length).zipWith (fun (i : Nat) (d : D) => D.tup [.int (i : Int), d]) ds) where
  goes := fun i H s hi => by
    rw [List.length_zipWith, List.length_range, Nat.min_self] at hi
    obtain ⟨v, h1, _⟩ := r.get (List.getElem?_eq_getElem hi)
    exact ⟨by rw [r.length]; exact hi, vs, v, same_sqT s h, h1⟩
  stops := fun H s => by
    rw [List.length_zipWith, List.length_range, Nat.min_self]
    exact ⟨by rw [r.length]; exact Nat.le_refl _, vs, same_sqT s h, rfl⟩
  yields := fun i H x H' s hi y => by
    rw [List.length_zipWith, List.length_range, Nat.min_self] at hi
    obtain ⟨T, w, y1, y2, y3, y4⟩ := y
    obtain ⟨v, h1, h2⟩ := r.get (List.getElem?_eq_getElem hi)
    have q := y4 vs (same_sqT s h)
    rw [h1] at q
    cases q
    refine ⟨.tup [.int (i : Int), ds[i]], ?_, .inr ⟨T, _, y2, y3, fun B1 sm hT => ?_⟩⟩
    · rw [List.getElem?_zipWith, List.getElem?_range hi, List.getElem?_eq_getElem hi]
    · rw [y1]
      exact .tup (SqT.of upd_same) (.cons (.int _) (.cons (Rep.mono (sm.trans (same_into hT)) _ _ h2) .nil)) (by show 2 ≤ 16777216; decide)
theorem walks_zip {a b : Addr} {vs ws : List V} {ds es : List D} (h : B a = some (.lst vs)) (h' : B b = some (.lst ws)) (r : Reps K B vs ds) (r' : Reps K B ws es) (hl : ds.length = es.length) : Walks K (Itz K a b) B (ds.zipWith (fun x y => D.tup [x, y]) es) where
  goes := fun i H s hi => by
    rw [List.length_zipWith, hl, Nat.min_self] at hi
    obtain ⟨v, h1, _⟩ := r.get (List.getElem?_eq_getElem (by omega : i < ds.length))
    obtain ⟨w, h2, _⟩ := r'.get (List.getElem?_eq_getElem hi)
    exact ⟨vs, ws, v, w, SqL.of (s _ _ h), SqL.of (s _ _ h'), h1, h2⟩
  stops := fun H s => by
    rw [List.length_zipWith, hl, Nat.min_self]
    exact ⟨vs, ws, SqL.of (s _ _ h), SqL.of (s _ _ h'), .inr (by rw [r'.length]; exact Nat.le_refl _)⟩
  yields := fun i H x H' s hi y => by
    rw [List.length_zipWith, hl, Nat.min_self] at hi
    have hi2 : i < ds.length := by omega
    obtain ⟨T, w, w', y1, y2, y3, y4, y5⟩ := y
    obtain ⟨v, h1, h2⟩ := r.get (List.getElem?_eq_getElem hi2)
    obtain ⟨u, g1, g2⟩ := r'.get (List.getElem?_eq_getElem hi)
    have q := y4 vs (SqL.of (s _ _ h))
    rw [h1] at q
    cases q
    have q := y5 ws (SqL.of (s _ _ h'))
    rw [g1] at q
    cases q
    refine ⟨.tup [ds[i], es[i]], ?_, .inr ⟨T, _, y2, y3, fun B1 sm hT => ?_⟩⟩
    · rw [List.getElem?_zipWith, List.getElem?_eq_getElem hi2, List.getElem?_eq_getElem hi]
    · rw [y1]
      exact .tup (SqT.of upd_same) (.cons (Rep.mono (sm.trans (same_into hT)) _ _ h2) (.cons (Rep.mono (sm.trans (same_into hT)) _ _ g2) .nil)) (by show 2 ≤ 16777216; decide)
theorem walks_zipT {a b : Addr} {vs ws : List V} {ds es : List D} (h : SqT K B a vs) (h' : SqT K B b ws) (r : Reps K B vs ds) (r' : Reps K B ws es) (hl : ds.length = es.length) : Walks K (RZ.ItzT K a b) B (ds.zipWith (fun x y => D.tup [x, y]) es) where
  goes := fun i H s hi => by
    rw [List.length_zipWith, hl, Nat.min_self] at hi
    obtain ⟨v, h1, _⟩ := r.get (List.getElem?_eq_getElem (by omega : i < ds.length))
    obtain ⟨w, h2, _⟩ := r'.get (List.getElem?_eq_getElem hi)
    exact ⟨vs, ws, v, w, same_sqT s h, same_sqT s h', h1, h2⟩
  stops := fun H s => by
    rw [List.length_zipWith, hl, Nat.min_self]
    exact ⟨vs, ws, same_sqT s h, same_sqT s h', .inr (by rw [r'.length]; exact Nat.le_refl _)⟩
  yields := fun i H x H' s hi y => by
    rw [List.length_zipWith, hl, Nat.min_self] at hi
    have hi2 : i < ds.length := by omega
    obtain ⟨T, w, w', y1, y2, y3, y4, y5⟩ := y
    obtain ⟨v, h1, h2⟩ := r.get (List.getElem?_eq_getElem hi2)
    obtain ⟨u, g1, g2⟩ := r'.get (List.getElem?_eq_getElem hi)
    have q := y4 vs (same_sqT s h)
    rw [h1] at q
    cases q
    have q := y5 ws (same_sqT s h')
    rw [g1] at q
    cases q
    refine ⟨.tup [ds[i], es[i]], ?_, .inr ⟨T, _, y2, y3, fun B1 sm hT => ?_⟩⟩
    · rw [List.getElem?_zipWith, List.getElem?_eq_getElem hi2, List.getElem?_eq_getElem hi]
    · rw [y1]
      exact .tup (SqT.of upd_same) (.cons (Rep.mono (sm.trans (same_into hT)) _ _ h2) (.cons (Rep.mono (sm.trans (same_into hT)) _ _ g2) .nil)) (by show 2 ≤ 16777216; decide)
end

section
variable [Wd] {K : PySem.W.Frag} {B : Hp} {d : Addr} {kvs : List (List Key × Addr × V)} {ep : Nat} {es : List (List Key × D)}
theorem dic_at (h1 : kvs.map (·.1) = es.map (·.1)) {i : Nat} (hi : i < es.length) : ∃ p, kvs[i]? = some p ∧ p.1 = es[i].1 := by
  have hl : kvs.length = es.length := by have := congrArg List.length h1; rwa [List.length_map, List.length_map] at this
  refine ⟨kvs[i], List.getElem?_eq_getElem (by omega), ?_⟩
  have e := congrArg (fun l : List (List Key) => l[i]?) h1
  simp only [List.getElem?_map, List.getElem?_eq_getElem hi, List.getElem?_eq_getElem (show i < kvs.length by omega), Option.map_some] at e
  exact Option.some.inj e
theorem walks_dK (h : B d = some (DicAt d kvs ep)) (h1 : kvs.map (·.1) = es.map (·.1)) (h2 : ∀ p ∈ kvs, SqT K B p.2.1 (p.1.map kV)) (hz : ∀ e ∈ es, e.1.length ≤ LINE) : Walks K (ItdK d kvs ep) B (es.map fun e => .tup (e.1.map keyD)) where
  goes := fun i H s hi => by
    rw [List.length_map] at hi
    have hl : kvs.length = es.length := by have := congrArg List.length h1; rwa [List.length_map, List.length_map] at this
    exact ⟨s _ _ h, by omega⟩
  stops := fun H s => by
    rw [List.length_map]
    have hl : kvs.length = es.length := by have := congrArg List.length h1; rwa [List.length_map, List.length_map] at this
    exact ⟨s _ _ h, by omega⟩
  yields := fun i H x H' s hi y => by
    rw [List.length_map] at hi
    obtain ⟨p, p1, p2⟩ := dic_at h1 hi
    obtain ⟨y1, p', y2, y3⟩ := y
    rw [p1] at y2
    cases y2
    refine ⟨.tup (es[i].1.map keyD), by rw [List.getElem?_map, List.getElem?_eq_getElem hi]; rfl, .inl ⟨y1, ?_⟩⟩
    rw [y3, ← p2]
    exact .tup (h2 p (List.mem_of_getElem? p1)) (keys_reps _) (by rw [List.length_map, p2]; exact hz _ (List.getElem_mem hi))
theorem walks_dI (h : B d = some (DicAt d kvs ep)) (h1 : kvs.map (·.1) = es.map (·.1)) (h2 : ∀ p ∈ kvs, SqT K B p.2.1 (p.1.map kV)) (h3 : Reps K B (kvs.map (·.2.2)) (es.map (·.2))) (hz : ∀ e ∈ es, e.1.length ≤ LINE) :
    Walks K (ItdI d kvs ep) B (es.map fun e => .tup [.tup (e.1.map keyD), e.2]) where
  goes := fun i H s hi => by
    rw [List.length_map] at hi
    have hl : kvs.length = es.length := by have := congrArg List.length h1; rwa [List.length_map, List.length_map] at this
    exact ⟨s _ _ h, by omega⟩
  stops := fun H s => by
    rw [List.length_map]
    have hl : kvs.length = es.length := by have := congrArg List.length h1; rwa [List.length_map, List.length_map] at this
    exact ⟨s _ _ h, by omega⟩
  yields := fun i H x H' s hi y => by
    rw [List.length_map] at hi
    obtain ⟨p, p1, p2⟩ := dic_at h1 hi
    obtain ⟨T, p', y2, y3, y4, y5⟩ := y
    rw [p1] at y2
    cases y2
    obtain ⟨v, g1, g2⟩ := h3.get (i := i) (d := es[i].2) (by rw [List.getElem?_map, List.getElem?_eq_getElem hi]; rfl)
    rw [List.getElem?_map, p1] at g1
    cases g1
    refine ⟨.tup [.tup (es[i].1.map keyD), es[i].2], by rw [List.getElem?_map, List.getElem?_eq_getElem hi]; rfl, .inr ⟨T, _, y4, y5, fun B1 sm hT => ?_⟩⟩
    have s2 := sm.trans (same_into (o := .tup [.ref p.2.1, p.2.2]) hT)
    rw [y3, ← p2]
    exact .tup (SqT.of upd_same) (.cons (.tup (same_sqT s2 (h2 p (List.mem_of_getElem? p1))) (keys_reps _) (by rw [List.length_map, p2]; exact hz _ (List.getElem_mem hi))) (.cons (Rep.mono s2 _ _ g2) .nil)) (by show 2 ≤ 16777216; decide)
end

section
variable [Wd] {X : Cx} {Φ : Nat → List D → Option Sv} {F : List (Str × Nat)} {Gc : List (Str × D)} {N : List Str} {sc : Scope} {k : Nat}
theorem it_ev1 {m : ME} {ρ ρ1 : ML.Env} {rs : List Rv} (e : evEs Φ [m] ρ = some (rs, ρ1)) : ∃ r, evE Φ m ρ = some (r, ρ1) ∧ rs = [r] := by
  rw [evEs] at e
  obtain ⟨p1, f1, f2⟩ := bind_some e
  obtain ⟨p2, f3, f4⟩ := bind_some f2
  rw [evEs] at f3
  cases f3
  cases f4
  exact ⟨p1.1, f1, rfl⟩
theorem it_op1 [Wd] {K : PySem.W.Frag} {B H B1 H1 : Hp} {O : Addr → Prop} {σ : L2.St} {v : V} {r : Rv} {ρ1 ρ2 : ML.Env} {ds : List D} (E1 : EnvOk K B1 H1 ρ1 σ) (X1 : Ext B H O B1 H1 (OwnS ρ1 σ)) (R1 : RvOk K B1 H1 H ρ1 σ r v) (e2 : frzs ρ1 [r] = some (ds, ρ2)) :
    ∃ B2 d, EnvOk K B2 H1 ρ2 σ ∧ Ext B H O B2 H1 (OwnS ρ2 σ) ∧ Rep K B2 v d ∧ ds = [d] := by
  obtain ⟨B1', E1', X1', O1⟩ := op_of E1 X1 R1
  obtain ⟨B2, E2, X2, R2⟩ := frzs_ok E1' (OpOks.cons O1 .nil) e2
  cases R2 with
  | cons a t => cases t; exact ⟨B2, _, E2, X1'.trans X2, a, rfl⟩
theorem frz1_len {ρ ρ2 : ML.Env} {r : Rv} {ds : List D} (e : frzs ρ [r] = some (ds, ρ2)) : ∃ d, ds = [d] := by
  rw [frzs] at e
  obtain ⟨p, _, e⟩ := bind_some e
  obtain ⟨q, e2, e⟩ := bind_some e
  rw [frzs] at e2
  cases e2
  cases e
  exact ⟨_, rfl⟩
/-- one source that is walked itself -/
theorem snd_itSeq {tg e : Expr} {m : ME} (h : PE X e (tE X.K Φ m)) : PI X tg e (tI X.K Φ .seq [m]) := by
  refine ⟨fun pins s σ H R I ⟨B, ρ, rs, ρ1, ds, ρ2, items, E, e1, e2, e3, q⟩ => ?_⟩
  obtain ⟨r, f1, rfl⟩ := it_ev1 e1
  obtain ⟨d, rfl⟩ := frz1_len e2
  cases d with
  | lst xs =>
    cases e3
    refine (pi_list h).run pins s σ H R I ⟨B, ρ, r, ρ1, E, f1, fun v H1 B1 E1 X1 R1 => ?_⟩
    obtain ⟨B2, d, E2, X2, R2, ed⟩ := it_op1 E1 X1 R1 e2
    cases ed
    cases R2 with
    | lst h1 h2 h3 => exact ⟨_, rfl, ⟨_, SqL.of (E2.same _ _ h1)⟩, q _ _ _ E2 X2 h3 (walks_list h1 h2)⟩
  | tup xs =>
    cases e3
    refine (pi_tup h).run pins s σ H R I ⟨B, ρ, r, ρ1, E, f1, fun v H1 B1 E1 X1 R1 => ?_⟩
    obtain ⟨B2, d, E2, X2, R2, ed⟩ := it_op1 E1 X1 R1 e2
    cases ed
    cases R2 with
    | tup h1 h2 h3 => exact ⟨_, rfl, ⟨_, same_sqT E2.same h1⟩, q _ _ _ E2 X2 h3 (walks_tup h1 h2)⟩
  | str z =>
    have e3 : (if z.length ≤ LINE then some (z.cps.toList.map fun c => D.str ⟨#[c]⟩) else none) = some items := e3
    split at e3
    · rename_i hz
      cases e3
      refine (pi_str h).run pins s σ H R I ⟨B, ρ, r, ρ1, E, f1, fun v H1 B1 E1 X1 R1 => ?_⟩
      obtain ⟨B2, d, E2, X2, R2, ed⟩ := it_op1 E1 X1 R1 e2
      cases ed
      cases R2
      exact ⟨z, rfl, q _ _ _ E2 X2 (by rw [List.length_map]; exact hz) walks_str⟩
    · cases e3
  | non => cases e3
  | bl _ => cases e3
  | int _ => cases e3
  | scr _ => cases e3
  | dK _ => cases e3
  | obj _ _ => cases e3
  | exc _ => cases e3
  | dT es =>
    have e3 : (if (decide (es.length ≤ LINE) && es.all fun e => decide (e.1.length ≤ LINE)) = true then some (es.map fun e => D.tup (e.1.map keyD)) else none) = some items := e3
    split at e3
    · rename_i hz
      cases e3
      simp only [Bool.and_eq_true, decide_eq_true_eq, List.all_eq_true] at hz
      refine (pi_dK h).run pins s σ H R I ⟨B, ρ, r, ρ1, E, f1, fun v H1 B1 E1 X1 R1 => ?_⟩
      obtain ⟨B2, d, E2, X2, R2, ed⟩ := it_op1 E1 X1 R1 e2
      cases ed
      cases R2 with
      | dT h1 h2 h3 h4 => exact ⟨_, _, _, rfl, E2.same _ _ h1, q _ _ _ E2 X2 (by rw [List.length_map]; exact hz.1) (walks_dK h1 h2 h3 hz.2)⟩
    · cases e3
/-- d.items() -/
theorem snd_itIt {elts : List Expr} {kk : Nat} {tpos : Pos} {x : Str} {px ap cp : Pos} {m : ME} (hl : (ap.endLine == cp.line) = true) (h : PE X (.Name x px) (tE X.K Φ m)) : PI X (.Tuple elts kk tpos) (.Call (.Attribute (.Name x px) ("items" : Str) ap) [] [] cp) (tI X.K Φ .items [m]) := by
  refine ⟨fun pins s σ H R I ⟨B, ρ, rs, ρ1, ds, ρ2, items, E, e1, e2, e3, q⟩ => ?_⟩
  obtain ⟨r, f1, rfl⟩ := it_ev1 e1
  obtain ⟨d, rfl⟩ := frz1_len e2
  cases d with
  | dT es =>
    have e3 : (if (decide (es.length ≤ LINE) && es.all fun e => decide (e.1.length ≤ LINE)) = true then some (es.map fun e => D.tup [.tup (e.1.map keyD), e.2]) else none) = some items := e3
    split at e3
    · rename_i hz
      cases e3
      simp only [Bool.and_eq_true, decide_eq_true_eq, List.all_eq_true] at hz
      refine (pi_dI h rfl hl).run pins s σ H R I ⟨B, ρ, r, ρ1, E, f1, fun v H1 B1 E1 X1 R1 => ?_⟩
      obtain ⟨B2, d, E2, X2, R2, ed⟩ := it_op1 E1 X1 R1 e2
      cases ed
      cases R2 with
      | dT h1 h2 h3 h4 => exact ⟨_, _, _, rfl, E2.same _ _ h1, q _ _ _ E2 X2 (by rw [List.length_map]; exact hz.1) (walks_dI h1 h2 h3 h4 hz.2)⟩
    · cases e3
  | _ => cases e3
theorem Good.blt (g : Good X Φ F Gc N sc k) {x : Str} {u : Value} (hF : F.lookup x = none) (hG : (Gc.lookup x).isNone = true) (hb : bootBuiltins x = some u) (hx : x ∈ bltNames := by decide +kernel) : X.mg x = none :=
  g.bl _ hF (Option.isNone_iff_eq_none.mp hG) hx
theorem snd_itR1 (g : Good X Φ F Gc N sc k) {tg e : Expr} {m : ME} {p pos : Pos} (hF : F.lookup ("range" : Str) = none) (hG : (Gc.lookup ("range" : Str)).isNone = true) (hg : gloB sc ("range" : Str) = true) (hs : noStar e = true) (h : PE X e (tE X.K Φ m)) :
    PI X tg (.Call (.Name ("range" : Str) p) [e] [] pos) (tI X.K Φ .rng1 [m]) := by
  have hm : X.mg ("range" : Str) = none := g.blt hF hG PyProof.Rows.boot_range
  refine ⟨fun pins s σ H R I ⟨B, ρ, rs, ρ1, ds, ρ2, items, E, e1, e2, e3, q⟩ => ?_⟩
  obtain ⟨r, f1, rfl⟩ := it_ev1 e1
  obtain ⟨d, rfl⟩ := frz1_len e2
  cases d with
  | int n =>
    have e3 : (if -(2 ^ 62) ≤ n ∧ n ≤ 16777216 then some (rangeD 0 n.toNat) else none) = some items := e3
    split at e3
    · rename_i hz
      cases e3
      refine (pi_range1 (g.gl_ok hg) hm (snd_cons hs h snd_nil) (star_cons hs _ _)).run pins s σ H R I ⟨B, ρ, [r], ρ1, E, e1, fun vs H1 B1 E1 X1 O1 => ?_⟩
      obtain ⟨B2, E2, X2, R2⟩ := frzs_ok E1 O1 e2
      cases R2 with
      | cons a t =>
        cases t
        cases a
        exact ⟨n, rfl, hz.1, by omega, q _ _ _ E2 (X1.trans X2) (by rw [rangeD_length]; show _ ≤ 16777216; omega) walks_range⟩
    · cases e3
  | _ => cases e3
theorem snd_itR2 (g : Good X Φ F Gc N sc k) {tg e e' : Expr} {m m' : ME} {p pos : Pos} (hF : F.lookup ("range" : Str) = none) (hG : (Gc.lookup ("range" : Str)).isNone = true) (hg : gloB sc ("range" : Str) = true) (hs : noStar e = true) (hs' : noStar e' = true) (h : PE X e (tE X.K Φ m)) (h' : PE X e' (tE X.K Φ m')) :
    PI X tg (.Call (.Name ("range" : Str) p) [e, e'] [] pos) (tI X.K Φ .rng2 [m, m']) := by
  have hm : X.mg ("range" : Str) = none := g.blt hF hG PyProof.Rows.boot_range
  refine ⟨fun pins s σ H R I ⟨B, ρ, rs, ρ1, ds, ρ2, items, E, e1, e2, e3, q⟩ => ?_⟩
  have key := (pi_range2 (tg := tg) (g.gl_ok hg) hm (snd_cons hs h (snd_cons hs' h' snd_nil)) (by rw [star_cons hs, star_cons hs']; rfl) (by rw [star_cons hs']; rfl) (p := p) (pos := pos)).run pins s σ H R I
  have e3' : ∃ a b, ds = [.int a, .int b] ∧ (-(2 ^ 62) ≤ a ∧ a < 2 ^ 62 ∧ -(2 ^ 62) ≤ b ∧ b < 2 ^ 62 ∧ b - a ≤ 16777216) ∧ items = rangeD a (b - a).toNat := by
    unfold itF at e3
    split at e3
    all_goals first
      | (rename_i hk; cases hk)
      | skip
    all_goals first
      | (cases e3; done)
      | skip
    unfold itR2 at e3
    split at e3
    · split at e3
      · rename_i hz
        cases e3
        exact ⟨_, _, rfl, hz, rfl⟩
      · cases e3
    · cases e3
  obtain ⟨a, b, rfl, hz, rfl⟩ := e3'
  refine key ⟨B, ρ, rs, ρ1, E, e1, fun vs H1 B1 E1 X1 O1 => ?_⟩
  obtain ⟨B2, E2, X2, R2⟩ := frzs_ok E1 O1 e2
  cases R2 with
  | cons a t =>
    cases t with
    | cons b t =>
      cases t
      cases a
      cases b
      exact ⟨_, _, rfl, ⟨hz.1, hz.2.1, hz.2.2.1, hz.2.2.2.1⟩, q _ _ _ E2 (X1.trans X2) (by rw [rangeD_length]; show _ ≤ 16777216; omega) walks_range⟩
theorem snd_itRev (g : Good X Φ F Gc N sc k) {tg e : Expr} {m : ME} {p pos : Pos} (hF : F.lookup ("reversed" : Str) = none) (hG : (Gc.lookup ("reversed" : Str)).isNone = true) (hg : gloB sc ("reversed" : Str) = true) (hs : noStar e = true) (h : PE X e (tE X.K Φ m)) :
    PI X tg (.Call (.Name ("reversed" : Str) p) [e] [] pos) (tI X.K Φ .rev [m]) := by
  have hm : X.mg ("reversed" : Str) = none := g.blt hF hG PyProof.Rows.boot_reversed
  refine ⟨fun pins s σ H R I ⟨B, ρ, rs, ρ1, ds, ρ2, items, E, e1, e2, e3, q⟩ => ?_⟩
  obtain ⟨r, f1, rfl⟩ := it_ev1 e1
  obtain ⟨d, rfl⟩ := frz1_len e2
  cases d with
  | lst xs =>
    cases e3
    refine (RT.pi_revA (g.gl_ok hg) hm h (star_cons hs _ _)).run pins s σ H R I ⟨B, ρ, r, ρ1, E, f1, fun v H1 B1 E1 X1 R1 => ?_⟩
    obtain ⟨B2, d, E2, X2, R2, ed⟩ := it_op1 E1 X1 R1 e2
    cases ed
    cases R2 with
    | lst h1 h2 h3 => exact ⟨_, _, rfl, .inl ⟨SqL.of (E2.same _ _ h1), q _ _ _ E2 X2 (by rw [List.length_reverse]; exact h3) (walks_rev h1 h2)⟩⟩
  | _ => cases e3
theorem snd_itEn (g : Good X Φ F Gc N sc k) {elts : List Expr} {kk : Nat} {tpos : Pos} {e : Expr} {m : ME} {p pos : Pos} (hF : F.lookup ("enumerate" : Str) = none) (hG : (Gc.lookup ("enumerate" : Str)).isNone = true) (hg : gloB sc ("enumerate" : Str) = true) (hs : noStar e = true) (h : PE X e (tE X.K Φ m)) :
    PI X (.Tuple elts kk tpos) (.Call (.Name ("enumerate" : Str) p) [e] [] pos) (tI X.K Φ .enum [m]) := by
  have hm : X.mg ("enumerate" : Str) = none := g.blt hF hG PyProof.Rows.boot_enumerate
  refine ⟨fun pins s σ H R I ⟨B, ρ, rs, ρ1, ds, ρ2, items, E, e1, e2, e3, q⟩ => ?_⟩
  obtain ⟨r, f1, rfl⟩ := it_ev1 e1
  obtain ⟨d, rfl⟩ := frz1_len e2
  cases d with
  | lst xs =>
    cases e3
    refine (pi_enum (g.gl_ok hg) hm (snd_cons hs h snd_nil) (star_cons hs _ _)).run pins s σ H R I ⟨B, ρ, [r], ρ1, E, e1, fun vs H1 B1 E1 X1 O1 => ?_⟩
    obtain ⟨B2, E2, X2, R2⟩ := frzs_ok E1 O1 e2
    cases R2 with
    | cons a t =>
      cases t
      cases a with
      | lst h1 h2 h3 => exact ⟨_, _, rfl, SqL.of (E2.same _ _ h1), q _ _ _ E2 (X1.trans X2) (by rw [List.length_zipWith, List.length_range, Nat.min_self]; exact h3) (walks_enum h1 h2)⟩
  | tup xs =>
    cases e3
    refine (pi_enumT (g.gl_ok hg) hm (snd_cons hs h snd_nil) (star_cons hs _ _)).run pins s σ H R I ⟨B, ρ, [r], ρ1, E, e1, fun vs H1 B1 E1 X1 O1 => ?_⟩
    obtain ⟨B2, E2, X2, R2⟩ := frzs_ok E1 O1 e2
    cases R2 with
    | cons a t =>
      cases t
      cases a with
      | tup h1 h2 h3 => exact ⟨_, _, rfl, same_sqT E2.same h1, q _ _ _ E2 (X1.trans X2) (by rw [List.length_zipWith, List.length_range, Nat.min_self]; exact h3) (walks_enumT h1 h2)⟩
  | _ => cases e3
theorem snd_itZ (g : Good X Φ F Gc N sc k) {elts : List Expr} {kk : Nat} {tpos : Pos} {e e' : Expr} {m m' : ME} {p pos : Pos} (hF : F.lookup ("zip" : Str) = none) (hG : (Gc.lookup ("zip" : Str)).isNone = true) (hg : gloB sc ("zip" : Str) = true) (hs : noStar e = true) (hs' : noStar e' = true) (h : PE X e (tE X.K Φ m)) (h' : PE X e' (tE X.K Φ m')) :
    PI X (.Tuple elts kk tpos) (.Call (.Name ("zip" : Str) p) [e, e'] [] pos) (tI X.K Φ .zip [m, m']) := by
  have hm : X.mg ("zip" : Str) = none := g.blt hF hG PyProof.Rows.boot_zip
  refine ⟨fun pins s σ H R I ⟨B, ρ, rs, ρ1, ds, ρ2, items, E, e1, e2, e3, q⟩ => ?_⟩
  have key := (RZ.pi_zipA (elts := elts) (kk := kk) (tpos := tpos) (g.gl_ok hg) hm (snd_cons hs h (snd_cons hs' h' snd_nil)) (star_cons hs _ _) (by rw [star_cons hs']; rfl) (p := p) (pos := pos)).run pins s σ H R I
  have e3' : ∃ xs ys, (ds = [.lst xs, .lst ys] ∨ ds = [.tup xs, .tup ys]) ∧ xs.length = ys.length ∧ items = xs.zipWith (fun a b => D.tup [a, b]) ys := by
    unfold itF at e3
    split at e3
    all_goals first
      | (rename_i hk; cases hk)
      | skip
    all_goals first
      | (cases e3; done)
      | skip
    unfold itZ at e3
    split at e3
    · split at e3
      · rename_i hz
        cases e3
        exact ⟨_, _, .inl rfl, hz, rfl⟩
      · cases e3
    · split at e3
      · rename_i hz
        cases e3
        exact ⟨_, _, .inr rfl, hz, rfl⟩
      · cases e3
    · cases e3
  obtain ⟨xs, ys, hd, hz, rfl⟩ := e3'
  refine key ⟨B, ρ, rs, ρ1, E, e1, fun vs H1 B1 E1 X1 O1 => ?_⟩
  obtain ⟨B2, E2, X2, R2⟩ := frzs_ok E1 O1 e2
  rcases hd with rfl | rfl
  · cases R2 with
    | cons a t =>
      cases t with
      | cons b t =>
        cases t
        cases a with
        | lst h1 h2 h3 =>
          cases b with
          | lst g1 g2 g3 =>
            exact ⟨_, _, _, _, rfl, .inl ⟨SqL.of (E2.same _ _ h1), SqL.of (E2.same _ _ g1), q _ _ _ E2 (X1.trans X2) (by rw [List.length_zipWith, hz, Nat.min_self]; exact g3) (walks_zip h1 g1 h2 g2 hz)⟩⟩
  · cases R2 with
    | cons a t =>
      cases t with
      | cons b t =>
        cases t
        cases a with
        | tup h1 h2 h3 =>
          cases b with
          | tup g1 g2 g3 =>
            exact ⟨_, _, _, _, rfl, .inr ⟨same_sqT E2.same h1, same_sqT E2.same g1, q _ _ _ E2 (X1.trans X2) (by rw [List.length_zipWith, hz, Nat.min_self]; exact g3) (walks_zipT h1 g1 h2 g2 hz)⟩⟩
end
end ML
set_option Elab.async false
set_option linter.all false
set_option autoImplicit false
set_option maxRecDepth 100000
set_option maxHeartbeats 4000000
/-! MLlc: comprehensions, and every expression. -/
namespace ML
open PySem L2

/-! ### slots of a block -/
theorem wipe_get (σ : L2.St) : ∀ (vs : List Nat) (j : Nat), (wipe σ vs)[j]? = if j ∈ vs then (σ[j]?).map (fun _ => none) else σ[j]?
  | [], j => by simp [wipe]
  | v :: vs, j => by
    unfold wipe
    by_cases e : v = j
    · subst e
      rw [List.getElem?_set_self', wipe_get σ vs v, if_pos List.mem_cons_self]
      split
      · cases σ[v]? <;> rfl
      · cases σ[v]? <;> rfl
    · rw [List.getElem?_set_ne e, wipe_get σ vs j]
      have : (j ∈ v :: vs) = (j ∈ vs) := by simp [Ne.symm e]
      simp only [this]
theorem wipe_set {σ : L2.St} {vs : List Nat} {i : Nat} {x : Option V} (h : i ∈ vs) : wipe (σ.set i x) vs = wipe σ vs := by
  apply List.ext_getElem?
  intro j
  rw [wipe_get, wipe_get]
  by_cases e : i = j
  · subst e
    rw [if_pos h, if_pos h, List.getElem?_set_self']
    cases σ[i]? <;> rfl
  · rw [List.getElem?_set_ne e]
theorem kill_get : ∀ (vs : List Nat) (ρ : ML.Env) (j : Nat), (kill ρ vs)[j]? = if j ∈ vs then (ρ[j]?).map (fun _ => Sv.no) else ρ[j]?
  | [], ρ, j => by simp [kill]
  | v :: vs, ρ, j => by
    unfold kill
    rw [kill_get vs (ρ.set v .no) j]
    by_cases e : v = j
    · subst e
      rw [List.getElem?_set_self', if_pos List.mem_cons_self]
      split
      · cases ρ[v]? <;> rfl
      · cases ρ[v]? <;> rfl
    · rw [List.getElem?_set_ne e]
      have : (j ∈ v :: vs) = (j ∈ vs) := by simp [Ne.symm e]
      simp only [this]
theorem kill_of {vs : List Nat} {ρ : ML.Env} {j : Nat} {s : Sv} (h : (kill ρ vs)[j]? = some s) (hs : s ≠ .no) : j ∉ vs ∧ ρ[j]? = some s := by
  rw [kill_get] at h
  split at h
  · cases e : ρ[j]? with
    | none => rw [e] at h; cases h
    | some z => rw [e] at h; cases h; exact absurd rfl hs
  · rename_i hn
    exact ⟨hn, h⟩
theorem kill_length : ∀ (vs : List Nat) (ρ : ML.Env), (kill ρ vs).length = ρ.length
  | [], _ => rfl
  | v :: vs, ρ => by unfold kill; rw [kill_length vs, List.length_set]
section
variable [Wd] {K : PySem.W.Frag} {B H B' H' : Hp} {ρ : ML.Env} {σ : L2.St} {vs : List Nat} {D : Addr} {o : HO}
theorem EnvOk.wipe (E : EnvOk K B H ρ σ) : EnvOk K B H (ML.kill ρ vs) (L2.wipe σ vs) ∧ ∀ a, OwnS (ML.kill ρ vs) (L2.wipe σ vs) a → OwnS ρ σ a := by
  have sg : ∀ {j : Nat} {v : V}, (L2.wipe σ vs)[j]? = some (some v) → σ[j]? = some (some v) := fun h => (wipe_some h).1
  have gs : ∀ {j : Nat}, j ∉ vs → (L2.wipe σ vs)[j]? = σ[j]? := fun h => by rw [wipe_get, if_neg h]
  refine ⟨⟨E.same, fun i d h => ?_, fun i d h => ?_, fun i j d e a h1 h2 h3 h4 => ?_, by rw [kill_length, wipe_length]; exact E.len⟩, fun a ⟨i, d, h1, h2⟩ => ?_⟩
  · obtain ⟨hn, q⟩ := kill_of h (fun z => by cases z)
    rw [gs hn]
    exact E.fro i d q
  · obtain ⟨hn, q⟩ := kill_of h (fun z => by cases z)
    rw [gs hn]
    exact E.own i d q
  · obtain ⟨_, q1⟩ := kill_of h1 (fun z => by cases z)
    obtain ⟨_, q2⟩ := kill_of h2 (fun z => by cases z)
    exact E.apart i j d e a q1 q2 (sg h3) (sg h4)
  · obtain ⟨_, q1⟩ := kill_of h1 (fun z => by cases z)
    exact ⟨i, d, q1, sg h2⟩
theorem EnvOk.unwipe (E : EnvOk K B H ρ (L2.wipe σ vs)) : EnvOk K B H ρ σ ∧ ∀ a, OwnS ρ σ a → OwnS ρ (L2.wipe σ vs) a := by
  have sg : ∀ {j : Nat} {v : V}, (L2.wipe σ vs)[j]? = some (some v) → σ[j]? = some (some v) := fun h => (wipe_some h).1
  have up : ∀ {i : Nat} {d : D} {a : Addr}, ρ[i]? = some (.own d) → σ[i]? = some (some (.ref a)) → (L2.wipe σ vs)[i]? = some (some (.ref a)) := by
    intro i d a h1 h2
    obtain ⟨b, q1, _⟩ := E.own i d h1
    have := sg q1
    rw [h2] at this
    cases this
    exact q1
  refine ⟨⟨E.same, fun i d h => ?_, fun i d h => ?_, fun i j d e a h1 h2 h3 h4 => ?_, by rw [E.len, wipe_length]⟩, fun a ⟨i, d, h1, h2⟩ => ⟨i, d, h1, up h1 h2⟩⟩
  · obtain ⟨v, q1, q2⟩ := E.fro i d h
    exact ⟨v, sg q1, q2⟩
  · obtain ⟨v, q1, q2⟩ := E.own i d h
    exact ⟨v, sg q1, q2⟩
  · exact E.apart i j d e a h1 h2 (up h1 h3) (up h2 h4)
theorem EnvOk.other (E : EnvOk K B H ρ σ) (hB : B D = none) (hO : ¬ OwnS ρ σ D) : EnvOk K B (upd H D o) ρ σ := by
  refine ⟨fun b u h => ?_, E.fro, fun i d h => ?_, E.apart, E.len⟩
  · rw [upd_ne (ne_of_none h hB)]
    exact E.same b u h
  · obtain ⟨a, q1, us, q3, q4, qc⟩ := E.own i d h
    refine ⟨a, q1, us, q3, ?_, qc⟩
    rw [upd_ne]
    · exact q4
    · rintro rfl
      exact hO ⟨i, d, h, q1⟩
theorem Ext.other {O O' : Addr → Prop} (x : Ext B H O B' H' O') (h : H D = none) : Ext B H O B' (upd H' D o) O' := by
  refine ⟨x.b, fun a u q n => ?_, fun a q => ?_, x.own, x.base⟩
  · rw [upd_ne (ne_of_none q h)]
    exact x.keep a u q n
  · by_cases e : a = D
    · subst e; exact h
    · rw [upd_ne e] at q
      exact x.tr a q
end

/-! ### targets -/
def gNames : List Nat → TGs
  | [] => gNil
  | i :: is => gCons (gName i) (gNames is)
def tgG [Wd] (K : PySem.W.Frag) : Tg → TG
  | .one i => gName i
  | .many is => gTup K is.length (gNames is)
section
variable [Wd] {K : PySem.W.Frag} {B H : Hp}
theorem names_ok {Q : L2.St → Hp → Prop} : ∀ {is : List Nat} {vs : List V} {ds : List D} {ρ ρ' : ML.Env} {σ : L2.St}, EnvOk K B H ρ σ → Reps K B vs ds → bindT ρ is ds = some ρ' →
    (∀ σ', EnvOk K B H ρ' σ' → (∀ a, OwnS ρ' σ' a → OwnS ρ σ a) → (∀ ws : List Nat, (∀ i ∈ is, i ∈ ws) → wipe σ' ws = wipe σ ws) → Q σ' H) → gNames is vs σ H Q
  | [], vs, [], ρ, ρ', σ, E, r, h, k => by
    cases r
    cases h
    exact ⟨rfl, k σ E (fun _ q => q) fun _ _ => rfl⟩
  | i :: is, vs, d :: ds, ρ, ρ', σ, E, r, h, k => by
    cases r with
    | cons a t =>
      rename_i v vs
      obtain ⟨E1, s1⟩ := E.setF (i := i) a
      refine ⟨_, _, rfl, names_ok E1 t h fun σ' E' s' w' => k σ' E' (fun b q => s1 b (s' b q)) fun ws hw => ?_⟩
      rw [w' ws fun j hj => hw j (List.mem_cons_of_mem _ hj)]
      exact wipe_set (hw i List.mem_cons_self)
  | [], _, _ :: _, _, _, _, _, _, h, _ => by cases h
  | _ :: _, _, [], _, _, _, _, _, h, _ => by cases h
theorem bindT_len : ∀ {is : List Nat} {ds : List D} {ρ ρ' : ML.Env}, bindT ρ is ds = some ρ' → ds.length = is.length
  | [], [], _, _, _ => rfl
  | i :: is, d :: ds, ρ, ρ', h => by
    rw [List.length_cons, List.length_cons, bindT_len (is := is) (ds := ds) h]
  | [], _ :: _, _, _, h => by cases h
  | _ :: _, [], _, _, h => by cases h
theorem tg_ok {Q : L2.St → Hp → Prop} {tg : Tg} {v : V} {d : D} {ρ ρ' : ML.Env} {σ : L2.St} (E : EnvOk K B H ρ σ) (r : Rep K B v d) (h : bind ρ tg d = some ρ')
    (k : ∀ σ', EnvOk K B H ρ' σ' → (∀ a, OwnS ρ' σ' a → OwnS ρ σ a) → (∀ ws : List Nat, (∀ i ∈ tg.slots, i ∈ ws) → wipe σ' ws = wipe σ ws) → Q σ' H) : tgG K tg v σ H Q := by
  cases tg with
  | one i =>
    cases h
    obtain ⟨E1, s1⟩ := E.setF (i := i) r
    exact k _ E1 s1 fun ws hw => wipe_set (hw i (List.mem_singleton.mpr rfl))
  | many is =>
    cases d with
    | tup ds =>
      cases r with
      | tup h1 h2 h3 =>
        refine ⟨_, _, rfl, same_sqT E.same h1, ?_, names_ok E h2 h k⟩
        rw [h2.length]
        exact bindT_len h
    | _ => cases h
end
section
variable [Wd] {X : Cx} {Φ : Nat → List D → Option Sv} {F : List (Str × Nat)} {Gc : List (Str × D)} {N : List Str} {sc : Scope} {k : Nat}
theorem name_pg {i : Nat} {e : Expr} {ns : List (Str × NameKind)} (hN : X.N = N) (nd : N.Nodup) (h : okName N ns i e = true) (hx : ∀ x, locB ns x = true → L2.Loc X.env.scope x ∧ (X.fn x = true ∨ X.env.scope.names.lookup x = some .local)) : PG X e (gName i) := by
  cases e with
  | Name x p =>
    simp only [okName, Bool.and_eq_true, decide_eq_true_eq] at h
    obtain ⟨h1, h2⟩ := hx x h.2
    exact pg_name (by rw [hN]; exact nd) (by rw [hN]; exact h.1) h1 h2
  | _ => simp [okName] at h
theorem names_pg {ns : List (Str × NameKind)} (hN : X.N = N) (nd : N.Nodup) (hx : ∀ x, locB ns x = true → L2.Loc X.env.scope x ∧ (X.fn x = true ∨ X.env.scope.names.lookup x = some .local)) :
    ∀ {is : List Nat} {es : List Expr}, okNames N ns is es = true → PGs X es (gNames is)
  | [], [], _ => pgs_nil
  | i :: is, e :: es, h => by
    simp only [okNames, Bool.and_eq_true] at h
    cases e with
    | Name x p => exact pgs_cons (name_pg hN nd h.1 hx) (names_pg hN nd hx h.2)
    | _ => simp [okName] at h
  | [], _ :: _, h => by simp [okNames] at h
  | _ :: _, [], h => by simp [okNames] at h
theorem names_len {ns : List (Str × NameKind)} : ∀ {is : List Nat} {es : List Expr}, okNames N ns is es = true → es.length = is.length
  | [], [], _ => rfl
  | i :: is, e :: es, h => by
    simp only [okNames, Bool.and_eq_true] at h
    rw [List.length_cons, List.length_cons, names_len h.2]
  | [], _ :: _, h => by simp [okNames] at h
  | _ :: _, [], h => by simp [okNames] at h
theorem names_plain {ns : List (Str × NameKind)} : ∀ {is : List Nat} {es : List Expr}, okNames N ns is es = true → ∀ e ∈ es, ∃ x p, e = .Name x p
  | [], [], _, _, h => nomatch h
  | i :: is, e :: es, h, e', he => by
    simp only [okNames, Bool.and_eq_true] at h
    rcases List.mem_cons.mp he with rfl | he
    · cases e' with
      | Name x p => exact ⟨x, p, rfl⟩
      | _ => simp [okName] at h
    · exact names_plain h.2 e' he
  | [], _ :: _, h, _, _ => by simp [okNames] at h
  | _ :: _, [], h, _, _ => by simp [okNames] at h
theorem each_names {ns : List (Str × NameKind)} (env : PySem.Env) : ∀ {is : List Nat} {es : List Expr}, okNames N ns is es = true → (assignEach es env).length = is.length ∧ (assignEach es env).findIdx? (·.1) = none
  | [], [], _ => ⟨rfl, rfl⟩
  | i :: is, e :: es, h => by
    simp only [okNames, Bool.and_eq_true] at h
    cases e with
    | Name x p =>
      obtain ⟨h1, h2⟩ := each_names env h.2
      have e : assignEach (.Name x p :: es) env = (false, assign (.Name x p) env) :: assignEach es env := rfl
      rw [e]
      refine ⟨by rw [List.length_cons, List.length_cons, h1], ?_⟩
      rw [List.findIdx?_cons, h2]
      rfl
    | _ => simp [okName] at h
  | [], _ :: _, h => by simp [okNames] at h
  | _ :: _, [], h => by simp [okNames] at h
theorem tg_pg {tg : Tg} {e : Expr} {ns : List (Str × NameKind)} (hc : X.calm = true) (hN : X.N = N) (nd : N.Nodup) (h : okTg N ns tg e = true) (hx : ∀ x, locB ns x = true → L2.Loc X.env.scope x ∧ (X.fn x = true ∨ X.env.scope.names.lookup x = some .local)) : PG X e (tgG X.K tg) := by
  cases tg with
  | one i =>
    have h : okName N ns i e = true := by cases e <;> exact h
    exact name_pg hN nd h hx
  | many is =>
    cases e with
    | Tuple es j p =>
      have h : okNames N ns is es = true := h
      obtain ⟨h1, h2⟩ := each_names X.env h
      exact pg_tup hc (names_pg hN nd hx h) h1 h2
    | _ => simp [okTg] at h
theorem ownOf_slots {vs : List Nat} : (ownOf N vs).map (·.2) = vs := by
  unfold ownOf
  rw [List.map_map]
  exact (List.map_congr_left fun _ _ => rfl).trans (List.map_id' vs)
theorem blk_good {vs : List Nat} {scope : Scope} (g : Good X Φ F Gc N sc k) (h : L2.blkC N sc scope (ownOf N vs) = true) (s : Shared) (H : Hp) (C : Addr) (cl : List (Str × Addr)) (fp : List Addr) :
    Good (X.blk s H scope (compEnvC scope cl C X.env) fp) Φ F Gc N (L2.relS scope sc) k where
  calm := g.calm
  hN := g.hN
  nd := g.nd
  hsc := by rw [← g.hsc]; rfl
  kind := (blkOk_by h).kind
  room := g.room
  hP := g.hP
  hw := g.hw
  hM := g.hM
  bl := g.bl
  fn := g.fn
  cl := g.cl
  mt := g.mt
  na := g.na
  er := g.er
  xc := g.xc
  cc := g.cc
  gd := g.gd
  gl := g.gl
theorem blk_tg {scope : Scope} {tg : Tg} {e : Expr} (g : Good X Φ F Gc N sc k) (h : okTg N scope.names tg e = true) (s : Shared) (H : Hp) (C : Addr) (cl : List (Str × Addr)) (fp : List Addr) :
    PG (X.blk s H scope (compEnvC scope cl C X.env) fp) e (tgG X.K tg) := by
  refine tg_pg (X := X.blk s H scope (compEnvC scope cl C X.env) fp) g.calm g.hN g.nd h fun x hx => ?_
  unfold locB at hx
  have keep : ∀ kd : NameKind, kd ≠ .free → scope.names.lookup x = some kd → (L2.relS scope X.env.scope).names.lookup x = some kd := fun kd hk e => lookup_relS_keep hk e
  split at hx
  · rename_i e1
    have e2 := keep .local (by decide) e1
    exact ⟨.inl e2, .inr e2⟩
  · rename_i e1
    have e2 := keep .cell (by decide) e1
    refine ⟨.inr e2, .inl ?_⟩
    show (scope.names.lookup x == some .cell) = true
    rw [e1]
    rfl
  · cases hx

/-! ### the comprehension -/
theorem snd_comp (g : Good X Φ F Gc N sc k) {elt : ME} {tg : Tg} {vs : List Nat} {kd : ItK} {src conds : List ME} {el t it : Expr} {ifs : List Expr} {scope : Scope} {pos : Pos}
    {te : TE} (hb : L2.blkC N sc scope (ownOf N vs) = true) (hsl : tg.slots.all (fun i => decide (i ∈ vs)) = true) (htg : okTg N scope.names tg t = true) (hte : ∀ σ H Q, tE X.K Φ elt σ H Q → te σ H Q) :
    ∀ σ H Q, tE X.K Φ (.comp elt tg vs kd src conds) σ H Q → tLc (tI X.K Φ kd src) (tgG X.K tg) (tC1 X.K Φ conds) te ((ownOf N vs).map (·.2)) σ H Q := by
  intro σ H Q ⟨B, ρ, r, ρ', E, e, q⟩
  rw [ownOf_slots]
  rw [evE] at e
  obtain ⟨p, e1, e⟩ := bind_some e
  obtain ⟨pq, e2, e⟩ := bind_some e
  obtain ⟨items, e3, e⟩ := bind_some e
  obtain ⟨t, e4, e⟩ := bind_some e
  cases e
  refine ⟨B, ρ, p.1, p.2, pq.1, pq.2, items, E, e1, e2, e3, fun J H1 B1 E1 X1 hl W => ?_⟩
  intro D hD
  obtain ⟨Ew, Ow⟩ := E1.wipe (vs := vs)
  obtain ⟨El, Xl⟩ := Ew.laid (o := .lst []) hD
  generalize hbody : cmpB tg vs (evC Φ conds) (evE Φ elt) (.it _) (.it _) = body at e4
  refine ⟨fun i m H2 => m = items.length - i ∧ i ≤ items.length ∧ ∃ B2 ρ2 acc dacc rest, EnvOk X.K B2 H2 ρ2 (wipe σ vs) ∧ Ext B1 H1 (OwnS (kill pq.2 vs) (wipe σ vs)) B2 H2 (OwnS ρ2 (wipe σ vs)) ∧
    B2 D = none ∧ ¬ OwnS ρ2 (wipe σ vs) D ∧ H2 D = some (.lst acc) ∧ Reps X.K B2 acc dacc ∧ dacc.length ≤ i ∧ evComp body (items.drop i) ρ2 = some (rest, t.2) ∧ t.1 = dacc ++ rest,
    ⟨items.length, rfl, Nat.zero_le _, B1, _, [], [], t.1, El, Xl, E1.free hD, Ew.notOwn hD, upd_same, .nil, Nat.zero_le _, e4, rfl⟩, ?_⟩
  rintro i m H2 ⟨rfl, hi, B2, ρ2, acc, dacc, rest, E2, X2, hB, hO, hA, hR, hdl, ev, et⟩
  have sm : Same B1 H2 := X2.b.trans E2.same
  by_cases hlt : i < items.length
  · right
    refine ⟨W.goes i H2 sm hlt, _, fun H' h => ⟨items.length - (i + 1), by omega, h⟩, fun x H3 y => ?_⟩
    rw [List.drop_eq_getElem_cons hlt] at ev
    rw [evComp] at ev
    obtain ⟨pb, f1, ev⟩ := bind_some ev
    obtain ⟨qb, f2, ev⟩ := bind_some ev
    obtain ⟨er, e5⟩ := Prod.mk.inj (Option.some.inj ev)
    have f2 : evComp body (items.drop (i + 1)) pb.2 = some (qb.1, t.2) := by rw [f2, ← e5]
    subst er
    obtain ⟨d, hd, alt⟩ := W.yields i H2 x H3 sm hlt y
    rw [List.getElem?_eq_getElem hlt] at hd
    cases hd
    have step1 : ∃ B3, EnvOk X.K B3 H3 ρ2 (wipe σ vs) ∧ Ext B2 H2 (OwnS ρ2 (wipe σ vs)) B3 H3 (OwnS ρ2 (wipe σ vs)) ∧ Rep X.K B3 x items[i] := by
      rcases alt with ⟨rfl, hr⟩ | ⟨T, o, hT, rfl, hr⟩
      · exact ⟨B2, E2, .refl, Rep.mono X2.b _ _ hr⟩
      · obtain ⟨E3, X3⟩ := E2.laidF (o := o) hT
        exact ⟨_, E3, X3, hr B2 X2.b (E2.free hT)⟩
    obtain ⟨B3, E3, X3, R3⟩ := step1
    rw [← hbody] at f1
    obtain ⟨ρ3, g1, f1⟩ := bind_some f1
    obtain ⟨c, g2, f1⟩ := bind_some f1
    refine tg_ok E3 R3 g1 fun σ2 E4 sub hw => ?_
    have hws : wipe σ2 vs = wipe σ vs := by
      rw [hw vs fun j hj => by simpa using List.all_eq_true.mp hsl j hj]
      apply List.ext_getElem?
      intro j
      rw [wipe_get, wipe_get]
      split
      · cases σ[j]? <;> rfl
      · rfl
    refine ⟨hws, B3, ρ3, c.1, c.2, E4, g2, fun H5 B5 E5 X5 => ?_⟩
    have X35 : Ext B2 H2 (OwnS ρ2 (wipe σ vs)) B5 H5 (OwnS c.2 σ2) := (X3.less sub).trans X5
    -- what is known of D behind a further run
    have known : ∀ {B7 H7 : Hp} {O7 : Addr → Prop}, Ext B2 H2 (OwnS ρ2 (wipe σ vs)) B7 H7 O7 → B7 D = none ∧ ¬ O7 D ∧ H7 D = some (.lst acc) := by
      intro B7 H7 O7 Y
      refine ⟨?_, fun z => ?_, Y.keep D _ hA hO⟩
      · cases eb : B7 D with
        | none => rfl
        | some u =>
          rcases Y.base D u eb with z | z | z
          · rw [hB] at z; cases z
          · rw [hA] at z; cases z
          · exact absurd z hO
      · rcases Y.own D z with w | w
        · exact hO w
        · rw [hA] at w; cases w
    cases hc : c.1 with
    | true =>
      rw [hc, if_pos rfl] at f1
      dsimp only
      rw [if_pos rfl]
      obtain ⟨ee, g3, f1⟩ := bind_some f1
      obtain ⟨z, g4, f1⟩ := bind_some f1
      cases f1
      refine hte _ _ _ ⟨B5, c.2, ee.1, ee.2, E5, g3, fun y H6 B6 E6 X6 R6 => ?_⟩
      obtain ⟨B6', E6', X6', O6⟩ := op_of E6 X6 R6
      obtain ⟨B7, E7, X7, R7⟩ := frz_ok E6' O6 g4
      have XX := (X35.trans X6').trans X7
      obtain ⟨k1, k2, k3⟩ := known XX
      refine ⟨acc, k3, ?_, ?_⟩
      · rw [hR.length, ← line_eq]
        omega
      · obtain ⟨E8, O8⟩ := E7.wipe (vs := vs)
        rw [hws] at E8 O8
        refine ⟨rfl, hlt, B7, _, _, dacc ++ [z.1], qb.1, E8.other k1 (fun w => k2 (O8 _ w)), ((X2.trans XX).less O8).other hD, k1, fun w => k2 (O8 _ w), upd_same,
          (Reps.mono XX.b _ _ hR).append (.cons R7 .nil), ?_, f2, ?_⟩
        · rw [List.length_append, List.length_singleton]; omega
        · rw [et]; simp
    | false =>
      rw [hc, if_neg (by decide)] at f1
      dsimp only
      rw [if_neg (by decide)]
      cases f1
      obtain ⟨k1, k2, k3⟩ := known X35
      obtain ⟨E8, O8⟩ := E5.wipe (vs := vs)
      rw [hws] at E8 O8
      exact ⟨rfl, hlt, B5, _, acc, dacc, qb.1, E8, (X2.trans X35).less O8, k1, fun w => k2 (O8 _ w), k3, Reps.mono X35.b _ _ hR, Nat.le_succ_of_le hdl, f2, by rw [et]; simp⟩
  · left
    have ei : i = items.length := by omega
    subst ei
    rw [List.drop_length, evComp] at ev
    cases ev
    refine ⟨W.stops H2 sm, ?_⟩
    obtain ⟨E9, O9⟩ := E2.unwipe
    have X9 := ((X1.less Ow).trans X2).less O9
    refine q (.ref D) H2 B2 E9 X9 ⟨D, rfl, by rw [et, List.append_nil]; exact .ofL hB hA hR (by omega), X1.tr D hD, fun w => hO (O9 D w)⟩
end
end ML
set_option Elab.async false
set_option linter.all false
set_option autoImplicit false
set_option maxRecDepth 100000
set_option maxHeartbeats 4000000
/-! MLset: the set of a list of ints, sorted and measured. -/
namespace ML
open PySem L2
section
open PySem.Spec PyProof.Rows
variable {P : Program} {w : World} {A : Around} {E : Value → Shared → Prop} {s : Shared}
/-- an empty set's object -/
abbrev emptySet (w : World) : Obj := { cls := .type "set", dict := none, data := .set #[] 0 (.fresh 0 0 (!w.params.followText "set-order")) }
/-- what stands behind set(list) -/
def SetMade (w : World) (s : Shared) (ks : List Int) (Q : Value → Shared → Prop) : Prop :=
  ∀ (hp : Heap) (tk c : Nat), SetR w hp s.heap.objs.size (fun j => decide (j ∈ ks)) c → c ≤ ks.length →
    (∀ b o, s.heap.get? b = some o → hp.get? b = some o) → Q (.ref s.heap.objs.size) { s with heap := hp, toks := tk }
theorem ints_get {its : Array Value} {ks : List Int} (h : IntsAre its.toList ks) (e : its.size = ks.length) (i : Nat) (v : Value) (hv : its[i]? = some v) : ∃ k t, ks[i]? = some k ∧ v = .int k t := by
  have lt : i < ks.length := e ▸ (Array.getElem?_eq_some_iff.mp hv).1
  have ek := List.getElem?_eq_getElem lt
  obtain ⟨t, q⟩ := h.int_at i v (by rw [Array.getElem?_toList] <;> exact hv)
  rw [List.getD_eq_getElem?_getD, ek] at q
  exact ⟨_, t, ek, q⟩
set_option maxHeartbeats 8000000 in
theorem set_of_list {L : Addr} {its : Array Value} (ks : List Int) {Q : Value → Shared → Prop} (hh : A.handled = none) (hL : s.heap.IsList L its) (hi : IntsAre its.toList ks) (hb : ks.length + 1 < scanBound) (k : SetMade w s ks Q) :
    wpAny (model P w) A (call (.type "set") [.ref L]) Q E s := by
  have esz : its.size = ks.length := by
    have q := hi.length
    rwa [Array.length_toList] at q
  obtain ⟨_, _, tMro⟩ := F.called_set.mro
  have tMade := F.called_set.made
  have tSub := F.called_set.sub
  have tNot := F.called_set.notType
  have tCan := F.called_set.canCreate
  have tCall := F.typeCall_set_1 (.ref L)
  refine wpAny_call (codeAny_of_tree (wpAny_pure ⟨Code.quiet_builtin _ (by decide +kernel), codeAny_builtin F.entry_type_call ?_⟩))
  rw [Around.under_plain (weight_type_call_type "set" [.ref L] []) rfl]
  repeat (any_goals (first | assumption | wp_step))
  refine codeAny_mono (code_set_led1 (.ref L) (E := E) (Q₁ := fun o s1 => o = .ref s.heap.objs.size ∧ s1 = { s with heap := s.heap.push (emptySet w) }) ⟨rfl, rfl⟩) fun r s1 hr => ?_
  rcases r with e | f
  · exact hr
  cases f with
  | ret o =>
    obtain ⟨rfl, rfl⟩ := hr
    have newS : (s.heap.push (emptySet w)).get? s.heap.objs.size = some (emptySet w) := Heap.get?_push_size _ rfl
    have isT : Shared.TypeIs { s with heap := s.heap.push (emptySet w) } (.ref s.heap.objs.size) "set" := ⟨_, newS, rfl⟩
    have iLook := F.called_set.init.lookup
    have iBind := F.called_set.init.bind (.ref s.heap.objs.size)
    repeat (any_goals (first | assumption | wp_step))
    refine codeAny_mono (codeAny_call_builtin (R := wants (fun r s2 => r = .none ∧ ∃ hp tk c, s2 = { s with heap := hp, toks := tk } ∧ SetR w hp s.heap.objs.size (fun j => decide (j ∈ ks)) c ∧ c ≤ ks.length ∧ (∀ b o, s.heap.get? b = some o → hp.get? b = some o)) E)
      F.called_set.init.plain F.entry_set_init (check_set_init_1 isT ?_)) fun r2 s2 hr2 => ?_
    · obtain ⟨⟨oc, od, oda, osl⟩, h1, h2, nl, h3⟩ := hL
      simp only at h2 h3
      subst h2
      subst h3
      have old := Heap.get?_push_of_some (emptySet w) h1
      have lt := Heap.lt_size h1
      have u1 := F.sub_list_set
      have u2 := F.sub_list_frozenset
      have u3 : (Value.type "list" == Value.type "dict") = false := by decide
      have isl : (s.heap.push (emptySet w)).IsList L its := ⟨_, old, rfl, nl, rfl⟩
      unfold Builtin.«set.__init__» noKeywords Builtin.Frozenset.updateFrom
      generalize hPI : pyIter = PI
      wp_walk
      subst hPI
      have z1 : (s.heap.push (emptySet w)).objs.size = s.heap.objs.size + 1 := Heap.size_push ..
      have far : L ≠ (s.heap.push (emptySet w)).objs.size := by
        rw [z1]
        exact Nat.ne_of_lt (Nat.lt_succ_of_lt lt)
      have apart : s.heap.objs.size ∉ [(s.heap.push (emptySet w)).objs.size, L] := by
        rw [z1]
        intro m
        rcases List.mem_cons.mp m with m | m
        · exact absurd m (Nat.ne_of_lt (Nat.lt_succ_self _))
        · exact absurd (List.mem_singleton.mp m) (Nat.ne_of_gt lt)
      refine wpAny_pyIter_list isl (wpAny_bind (wpAny_runValue ?_))
      refine set_update_ints ((Walks.list (by simp [hh]) _ L far its).toS) s.heap.objs.size apart ks esz hb (ints_get hi esz) its.size 0 _ rfl (Nat.zero_le _) ⟨⟨_, Heap.get?_push_size _ rfl, rfl, rfl⟩, isl.push _⟩ ⟨0, Nat.le_refl 0, setR_new_at (Heap.get?_push_of_some _ newS)⟩ fun s3 c hm hc hS => ?_
      obtain ⟨hp, g, d, tk, os⟩ := s3
      obtain rfl : g = s.gens := hm.gens
      obtain rfl : d = s.drawn := hm.drawn
      obtain rfl : os = s.os := hm.os
      rw [esz] at hc
      refine wpAny_pure (wpAny_pure ⟨rfl, hp, tk, c, rfl, hS, hc, fun b o e => ?_⟩)
      have lb := Heap.lt_size e
      refine hm.heap b o (fun m => ?_) (Heap.get?_push_of_some _ (Heap.get?_push_of_some _ e))
      rcases List.mem_cons.mp m with m | m
      · exact absurd m (Nat.ne_of_lt lb)
      · have q := List.mem_singleton.mp m
        rw [z1] at q
        exact absurd q (Nat.ne_of_lt (Nat.lt_succ_of_lt lb))
    · rcases r2 with e | f2
      · exact hr2
      cases f2 with
      | ret r =>
        obtain ⟨rfl, hp, tk, c, rfl, q1, q2, q3⟩ := hr2
        repeat (any_goals (first | assumption | wp_step))
        exact k _ _ _ q1 q2 q3
      | _ => exact hr2.elim
  | _ => exact hr.elim
end
/-! ### in order, each once -/
theorem mem_insU {x k : Int} : ∀ {l : List Int}, k ∈ insU x l ↔ k = x ∨ k ∈ l
  | [] => by simp [insU]
  | y :: ys => by
    unfold insU
    split
    · simp
    · split
      · rename_i h
        subst h
        simp
      · rw [List.mem_cons, mem_insU (l := ys), List.mem_cons]
        constructor
        · rintro (h | h | h) <;> simp [h]
        · rintro (h | h | h) <;> simp [h]
theorem mem_sortU {k : Int} : ∀ {l : List Int}, k ∈ sortU l ↔ k ∈ l
  | [] => by simp [sortU]
  | x :: xs => by rw [sortU, mem_insU, mem_sortU (l := xs), List.mem_cons]
theorem insU_rises {x : Int} : ∀ {l : List Int}, l.Pairwise (· < ·) → (insU x l).Pairwise (· < ·)
  | [], _ => by simp [insU]
  | y :: ys, h => by
    obtain ⟨h1, h2⟩ := List.pairwise_cons.mp h
    unfold insU
    split
    · rename_i c
      refine List.pairwise_cons.mpr ⟨fun z hz => ?_, h⟩
      rcases List.mem_cons.mp hz with e | e
      · subst e
        exact c
      · exact Int.lt_trans c (h1 z e)
    · split
      · exact h
      · rename_i c1 c2
        refine List.pairwise_cons.mpr ⟨fun z hz => ?_, insU_rises h2⟩
        rcases mem_insU.mp hz with e | e
        · omega
        · exact h1 z e
theorem sortU_rises : ∀ (l : List Int), (sortU l).Pairwise (· < ·)
  | [] => List.Pairwise.nil
  | x :: xs => insU_rises (sortU_rises xs)
theorem rises_eq : ∀ {l m : List Int}, l.Pairwise (· < ·) → m.Pairwise (· < ·) → (∀ k, k ∈ l ↔ k ∈ m) → l = m
  | [], [], _, _, _ => rfl
  | [], y :: m, _, _, h => absurd ((h y).mpr List.mem_cons_self) List.not_mem_nil
  | x :: l, [], _, _, h => absurd ((h x).mp List.mem_cons_self) List.not_mem_nil
  | x :: l, y :: m, p, q, h => by
    obtain ⟨p1, p2⟩ := List.pairwise_cons.mp p
    obtain ⟨q1, q2⟩ := List.pairwise_cons.mp q
    have e : x = y := by
      rcases List.mem_cons.mp ((h x).mp List.mem_cons_self) with e | e
      · exact e
      · rcases List.mem_cons.mp ((h y).mpr List.mem_cons_self) with e' | e'
        · exact e'.symm
        · have := q1 x e
          have := p1 y e'
          omega
    subst e
    congr 1
    refine rises_eq p2 q2 fun k => ⟨fun hk => ?_, fun hk => ?_⟩
    · rcases List.mem_cons.mp ((h k).mp (List.mem_cons_of_mem _ hk)) with e | e
      · have := p1 k hk
        omega
      · exact e
    · rcases List.mem_cons.mp ((h k).mpr (List.mem_cons_of_mem _ hk)) with e | e
      · have := q1 k hk
        omega
      · exact e
theorem rises_nodup {l : List Int} (h : l.Pairwise (· < ·)) : l.Nodup := h.imp fun {a b} c e => by omega
theorem count_sortU {l ks : List Int} (n : l.Nodup) (h : ∀ k, decide (k ∈ ks) = true ↔ k ∈ l) : l.length = (sortU ks).length := by
  have p : l.Perm (sortU ks) := (List.perm_ext_iff_of_nodup n (rises_nodup (sortU_rises ks))).mpr fun k => by rw [mem_sortU, ← h k, decide_eq_true_eq]
  exact p.length_eq
theorem setR_count {w : World} {h : Heap} {a : Addr} {ks : List Int} {c : Nat} (R : SetR w h a (fun j => decide (j ∈ ks)) c) : c = (sortU ks).length := by
  obtain ⟨o, es, ep, t, h1, h2, h3, h4, h5, h6, h7, h8, h9, h10⟩ := R
  rw [← h9, ← count_sortU h5 h6, List.length_map, Array.length_toList]
section
variable [Wd] {X : Cx}
def rSetI [Wd] (K : PySem.W.Frag) (w : World) : List V → Hp → VK → Prop := fun xs H Q => ∃ (a : Addr) (ks : List Int), xs = [V.ref a] ∧ (SqL K H a (ks.map V.int) ∨ SqT K H a (ks.map V.int)) ∧ ks.length ≤ 1000 ∧
  ∀ p, H p = none → Q (.ref p) (upd H p (SetO w p (fun j => decide (j ∈ ks)) (sortU ks).length))
theorem cr_setI (hc : X.calm = true) : CallR X (.type "set") (rSetI X.K X.w) := by
  intro pins s σ H xs us Q I r h
  obtain ⟨a, ks, rfl, hs, hl, q⟩ := h
  rw [Vals.ref1 r]
  have fin : ∀ (hp : Heap) (tk c : Nat), SetR X.w hp s.heap.objs.size (fun j => decide (j ∈ ks)) c → c ≤ ks.length → (∀ b o, s.heap.get? b = some o → hp.get? b = some o) → EP X pins σ Q (.ref s.heap.objs.size) { s with heap := hp, toks := tk } := fun hp tk c R _ hk => by
    rw [setR_count R] at R
    exact ⟨.ref _, _, I.laid hk (Nat.le_refl _) (setO_new R), rfl, q _ (I.hok.fresh (Nat.le_refl _))⟩
  have hb : ks.length + 1 < scanBound := by unfold scanBound; omega
  rcases hs with hs | hs
  · obtain ⟨its, rv, pl, hz⟩ := I.list hs
    exact set_of_list ks (I.ok.hd hc) pl.isList (by simpa using rv.ints) hb fin
  · obtain ⟨its, rv, pl, hz⟩ := I.tuple hs
    exact call_set_tupI ks (I.ok.hd hc) (show s.heap.IsTuple a its.toArray from pl) (by simpa using rv.ints) hb fin
/-- the length of a set of ints -/
def rLenSet (w : World) : List V → Hp → VK → Prop := fun xs H Q => ∃ (a : Addr) (S : Int → Bool) (n : Nat), xs = [V.ref a] ∧ H a = some (SetO w a S n) ∧ Q (.int n) H
theorem cr_lenSet : CallR X (.builtin "len") (rLenSet X.w) := by
  intro pins s σ H xs us Q I r h
  obtain ⟨a, S, n, rfl, ha, q⟩ := h
  rw [Vals.ref1 r]
  obtain ⟨o, es, ep, t, h1, h2, h3, h4, h5, h6, h7, h8, h9, h10⟩ := setO_get I ha
  refine PySem.call_len_set h1 h2 h3 h8 (by unfold PySem.scanBound at h7; omega) ⟨.int n, H, I.tok _, ⟨_, by rw [h9]⟩, q⟩
end
end ML
set_option Elab.async false
set_option linter.all false
set_option autoImplicit false
set_option maxRecDepth 100000
set_option maxHeartbeats 4000000
/-! MLtset: the set of a list of rows of ints, sorted. -/
namespace ML
open PySem L2
theorem lexI_self : ∀ a : List Int, lexI a a = false
  | [] => rfl
  | x :: xs => by rw [lexI, if_pos rfl, lexI_self xs]
theorem lexI_trans : ∀ {a b c : List Int}, lexI a b = true → lexI b c = true → lexI a c = true
  | [], [], _, h, _ => by cases h
  | [], _ :: _, [], _, h => by cases h
  | [], _ :: _, _ :: _, _, _ => rfl
  | _ :: _, [], _, h, _ => by cases h
  | _ :: _, _ :: _, [], _, h => by cases h
  | x :: xs, y :: ys, z :: zs, h1, h2 => by
    rw [lexI] at h1 h2 ⊢
    by_cases e1 : x = y
    · rw [if_pos e1] at h1
      subst e1
      by_cases e2 : x = z
      · rw [if_pos e2] at h2 ⊢
        exact lexI_trans h1 h2
      · rw [if_neg e2] at h2 ⊢
        exact h2
    · rw [if_neg e1] at h1
      have h1 := of_decide_eq_true h1
      by_cases e2 : y = z
      · subst e2
        rw [if_neg e1]
        exact decide_eq_true h1
      · rw [if_neg e2] at h2
        have h2 := of_decide_eq_true h2
        rw [if_neg (by omega)]
        exact decide_eq_true (by omega)
theorem lexI_total : ∀ {a b : List Int}, a ≠ b → lexI a b = false → lexI b a = true
  | [], [], h, _ => absurd rfl h
  | [], _ :: _, _, h => by cases h
  | _ :: _, [], _, _ => rfl
  | x :: a, y :: b, h, e => by
    rw [lexI] at e ⊢
    by_cases z : x = y
    · subst z
      rw [if_pos rfl] at e ⊢
      exact lexI_total (fun q => h (by rw [q])) e
    · rw [if_neg z, decide_eq_false_iff_not] at e
      rw [if_neg (by omega), decide_eq_true_eq]
      omega
theorem mem_insR {x y : List Int} : ∀ {l : List (List Int)}, y ∈ insR x l ↔ y = x ∨ y ∈ l
  | [] => by simp [insR]
  | z :: l => by
    unfold insR
    split
    · rename_i e
      subst e
      simp
    · split
      · simp
      · rw [List.mem_cons, mem_insR (l := l), List.mem_cons]
        constructor
        · rintro (h | h | h)
          · exact .inr (.inl h)
          · exact .inl h
          · exact .inr (.inr h)
        · rintro (h | h | h)
          · exact .inr (.inl h)
          · exact .inl h
          · exact .inr (.inr h)
theorem mem_sortR {y : List Int} : ∀ {l : List (List Int)}, y ∈ sortR l ↔ y ∈ l
  | [] => Iff.rfl
  | x :: l => by rw [sortR, mem_insR, mem_sortR, List.mem_cons]
theorem insR_rises {x : List Int} : ∀ {l : List (List Int)}, (l.Pairwise fun a b => lexI a b = true) → (insR x l).Pairwise fun a b => lexI a b = true
  | [], _ => List.pairwise_singleton _ _
  | y :: l, h => by
    obtain ⟨h1, h2⟩ := List.pairwise_cons.mp h
    unfold insR
    split
    · exact h
    · rename_i ne
      split
      · rename_i lt
        refine List.pairwise_cons.mpr ⟨fun z hz => ?_, h⟩
        rcases List.mem_cons.mp hz with rfl | hz
        · exact lt
        · exact lexI_trans lt (h1 z hz)
      · rename_i nl
        refine List.pairwise_cons.mpr ⟨fun z hz => ?_, insR_rises h2⟩
        rcases mem_insR.mp hz with rfl | hz
        · exact lexI_total ne (Bool.eq_false_iff.mpr nl)
        · exact h1 z hz
theorem sortR_rises : ∀ l : List (List Int), (sortR l).Pairwise fun a b => lexI a b = true
  | [] => List.Pairwise.nil
  | x :: l => insR_rises (sortR_rises l)
/-- rows that rise are what their members are -/
theorem rows_eq : ∀ {a b : List (List Int)}, (a.Pairwise fun x y => lexI x y = true) → (b.Pairwise fun x y => lexI x y = true) → (∀ x, x ∈ a ↔ x ∈ b) → a = b
  | [], [], _, _, _ => rfl
  | [], y :: b, _, _, h => by have := (h y).mpr List.mem_cons_self; cases this
  | x :: a, [], _, _, h => by have := (h x).mp List.mem_cons_self; cases this
  | x :: a, y :: b, ha, hb, h => by
    obtain ⟨a1, a2⟩ := List.pairwise_cons.mp ha
    obtain ⟨b1, b2⟩ := List.pairwise_cons.mp hb
    have e : x = y := by
      rcases List.mem_cons.mp ((h x).mp List.mem_cons_self) with e | hx
      · exact e
      · rcases List.mem_cons.mp ((h y).mpr List.mem_cons_self) with e | hy
        · exact e.symm
        · have q3 := lexI_trans (b1 x hx) (a1 y hy)
          rw [lexI_self] at q3
          cases q3
    subst e
    rw [rows_eq a2 b2 fun z => ?_]
    constructor
    · intro hz
      rcases List.mem_cons.mp ((h z).mp (List.mem_cons_of_mem _ hz)) with q | q
      · subst q
        have := a1 z hz
        rw [lexI_self] at this
        cases this
      · exact q
    · intro hz
      rcases List.mem_cons.mp ((h z).mpr (List.mem_cons_of_mem _ hz)) with q | q
      · subst q
        have := b1 z hz
        rw [lexI_self] at this
        cases this
      · exact q
theorem sortR_len : ∀ l : List (List Int), (sortR l).length ≤ l.length
  | [] => Nat.le_refl _
  | x :: l => by
    have h := sortR_len l
    have ins : ∀ m : List (List Int), (insR x m).length ≤ m.length + 1 := fun m => by
      induction m with
      | nil => simp [insR]
      | cons y m ih =>
        unfold insR
        split
        · simp
        · split
          · simp
          · rw [List.length_cons, List.length_cons]; omega
    have := ins (sortR l)
    rw [sortR, List.length_cons]
    omega
/-! ### codes -/
theorem code_bd : ∀ (a : List Int), TS.Bd 64 a → 0 ≤ TS.code 64 a ∧ TS.code 64 a < 64 ^ a.length
  | [], _ => by simp [TS.code]
  | x :: a, h => by
    have hx := h x List.mem_cons_self
    obtain ⟨h1, h2⟩ := code_bd a fun y hy => h y (List.mem_cons_of_mem _ hy)
    have e : TS.code 64 (x :: a) = x * 64 ^ a.length + TS.code 64 a := rfl
    have p : (0 : Int) < 64 ^ a.length := Int.pow_pos (by decide)
    have e2 : (64 : Int) ^ (x :: a).length = 64 * 64 ^ a.length := by rw [List.length_cons, Int.pow_succ, Int.mul_comm]
    rw [e, e2]
    have m1 : 0 ≤ x * 64 ^ a.length := Int.mul_nonneg hx.1 (Int.le_of_lt p)
    have m2 : (x + 1) * 64 ^ a.length ≤ 64 * 64 ^ a.length := Int.mul_le_mul_of_nonneg_right (by omega) (Int.le_of_lt p)
    rw [Int.add_mul, Int.one_mul] at m2
    omega
theorem code_lex : ∀ (a b : List Int), a.length = b.length → TS.Bd 64 a → TS.Bd 64 b → TS.code 64 a ≤ TS.code 64 b → a ≠ b → lexI a b = true
  | [], [], _, _, _, _, h => absurd rfl h
  | [], _ :: _, h, _, _, _, _ => by simp at h
  | _ :: _, [], h, _, _, _, _ => by simp at h
  | x :: a, y :: b, hl, ha, hb, h, ne => by
    have hl' : a.length = b.length := by simpa using hl
    have ha' : TS.Bd 64 a := fun z hz => ha z (List.mem_cons_of_mem _ hz)
    have hb' : TS.Bd 64 b := fun z hz => hb z (List.mem_cons_of_mem _ hz)
    obtain ⟨a1, a2⟩ := code_bd a ha'
    obtain ⟨b1, b2⟩ := code_bd b hb'
    have e1 : TS.code 64 (x :: a) = x * 64 ^ a.length + TS.code 64 a := rfl
    have e2 : TS.code 64 (y :: b) = y * 64 ^ b.length + TS.code 64 b := rfl
    rw [e1, e2, hl'] at h
    rw [hl'] at a2
    rw [lexI]
    by_cases e : x = y
    · subst e
      rw [if_pos rfl]
      exact code_lex a b hl' ha' hb' (by omega) fun q => ne (by rw [q])
    · rw [if_neg e, decide_eq_true_eq]
      refine Int.lt_of_not_ge fun z => ?_
      have p : (0 : Int) < 64 ^ b.length := Int.pow_pos (by decide)
      have m : (y + 1) * 64 ^ b.length ≤ x * 64 ^ b.length := Int.mul_le_mul_of_nonneg_right (by omega) (Int.le_of_lt p)
      rw [Int.add_mul, Int.one_mul] at m
      omega
/-! ### rows in the heap -/
section
variable [Wd] {K : PySem.W.Frag} {B : Hp}
theorem rows_at : ∀ {xs : List ML.D} {vs : List V} {rs : List (List Int)}, Reps K B vs xs → D.rows xs = some rs → ∃ ks : List (Addr × List Int), vs = ks.map (fun p => V.ref p.1) ∧ rs = ks.map (·.2) ∧ ∀ p ∈ ks, SqT K B p.1 (p.2.map V.int) ∧ p.2.length ≤ LINE
  | [], _, _, .nil, e => by
    cases e
    exact ⟨[], rfl, rfl, fun p hp => nomatch hp⟩
  | .tup ys :: xs, _, rs, .cons a t, e => by
    rw [D.rows] at e
    obtain ⟨y, e1, e⟩ := bind_some e
    obtain ⟨r, e2, e3⟩ := map_some e
    obtain ⟨ks, h1, h2, h3⟩ := rows_at t e2
    cases a with
    | tup a1 a2 a3 =>
      rename_i adr us
      rw [D.ints_eq e1] at a2 a3
      rw [a2.of_ints] at a1
      refine ⟨(adr, y) :: ks, by rw [h1]; rfl, by rw [← e3, h2]; rfl, fun p hp => ?_⟩
      rcases List.mem_cons.mp hp with rfl | hp
      · exact ⟨a1, by simpa using a3⟩
      · exact h3 p hp
  | .non :: _, _, _, _, e => by cases e
  | .bl _ :: _, _, _, _, e => by cases e
  | .int _ :: _, _, _, _, e => by cases e
  | .str _ :: _, _, _, _, e => by cases e
  | .lst _ :: _, _, _, _, e => by cases e
  | .scr _ :: _, _, _, _, e => by cases e
  | .dK _ :: _, _, _, _, e => by cases e
  | .dT _ :: _, _, _, _, e => by cases e
theorem rows_reps : ∀ {L : List (Addr × List Int)}, (∀ p ∈ L, SqT K B p.1 (p.2.map V.int) ∧ p.2.length ≤ LINE) → Reps K B (L.map fun p => V.ref p.1) ((L.map (·.2)).map fun r => ML.D.tup (r.map D.int))
  | [], _ => .nil
  | p :: L, h => .cons (.tup (h p List.mem_cons_self).1 (Reps.ints _) (by rw [List.length_map]; exact (h p List.mem_cons_self).2)) (rows_reps fun q hq => h q (List.mem_cons_of_mem _ hq))
end
section
variable [Wd] {X : Cx}
/-- sorted(set), of the empty tuple or of nothing -/
def rSortedV [Wd] (K : PySem.W.Frag) (P : Program) (w : World) : List V → Hp → VK → Prop := fun vs H Q => ∃ (a : Addr) (L : List (Addr × List Int)), vs = [V.ref a] ∧ H a = some (SetTO P w a L) ∧ (∀ p ∈ L, SqT K H p.1 (p.2.map V.int)) ∧ (∀ p ∈ L, p.2 = []) ∧
  ∀ p, (L.map (·.2)).Nodup → L.length < 64 → H p = none → Q (.ref p) (upd H p (.lst (L.map fun q => V.ref q.1)))
theorem cr_sortedV (hc : X.calm = true) (hu : X.A.units + 64 < cLine) : CallR X (.builtin "sorted") (rSortedV X.K X.prog X.w) := by
  intro pins s σ H vs us Q I r h
  obtain ⟨a, L, rfl, ha, hk, hV, q⟩ := h
  have R0 : SetT0 X.prog X.w s.heap a L := (I.hok a _ ha).1
  obtain ⟨es, ep, t, R⟩ := R0.full fun p hp => I.isT (hk p hp)
  rw [Vals.ref1 r]
  refine sorted_setV R (I.ok.hd hc) hu hV fun s' p c k g o hp hg => ?_
  have hfew := R.few
  have hn : H p = none := I.hok.fresh hp
  have hv : Vals (L.map fun q => V.ref q.1) (L.map fun q => Value.ref q.1) := vals_of_refs L
  have hlen : (L.map fun q => V.ref q.1).length ≤ sizeLine := by rw [List.length_map, sizeLine_eq]; omega
  have J : Inv X pins σ (upd H p (.lst (L.map fun q => V.ref q.1))) { s with heap := s'.heap, gens := s'.gens, drawn := s'.drawn, toks := s'.toks } :=
    I.call (ch := []) (Un.laid k hp hn) (I.hok.laid k hp ⟨hlen, _, c, hv, hg⟩) (by rw [g]; exact I.bare) (fun _ z => nomatch z)
  have e : s' = { s with heap := s'.heap, gens := s'.gens, drawn := s'.drawn, toks := s'.toks } := by
    cases s'
    cases s
    cases o
    rfl
  rw [e]
  exact ⟨.ref p, _, J, rfl, q p R.nd hfew hn⟩
end
end ML
set_option Elab.async false
set_option linter.all false
set_option autoImplicit false
set_option maxRecDepth 100000
set_option maxHeartbeats 4000000
/-! MLrev: list(reversed(l)), l a list. -/
namespace ML
open PySem L2 PyProof.Rows
section
variable {prog : Program} {w : World} {A : Around} {E : Value → Shared → Prop} {s : Shared}
/-- the list at S takes in what a list's backward iterator gives -/
theorem ext_back {R : Result → Shared → Prop} {S j l : Addr} {xs : Array Value} {c₀ : Nat} {res : Value} (hh : A.handled = none) (hj : s.heap.IsRevIter j l ((xs.size : Int) - 1)) (hl : s.heap.IsList l xs) (hlj : l ≠ j) (hSj : S ≠ j) (hSl : S ≠ l) (hn : xs.size ≤ sizeLine)
    (hS : s.heap.get? S = some { cls := .type "list", data := .seq #[] c₀ })
    (hR : ∀ (s' : Shared) (acc : Array Value) (c' : Nat), s' = { s with heap := s'.heap, toks := s'.toks } → (∀ b o, b ≠ S → b ≠ j → s.heap.get? b = some o → s'.heap.get? b = some o) → s'.heap.get? S = some { cls := .type "list", dict := none, data := .seq acc c', slots := #[] } →
      ItemsOf (fun i v => xs[xs.size - 1 - i]? = some v) acc xs.size → R (.ok (.ret res)) s') :
    wpAny (model prog w) A.in1 (Builtin.List.listExtendWith (.ref S) (.ref j) res) (fun fin s' => match fin with | .done f => R (.ok f) s' | .again c' => c'.quiet = true ∧ codeAny (model prog w) A c' R s') (fun e s' => R (.error e) s') s := by
  have W := (Walks.listRev (prog := prog) (w := w) (A := A.in1) hh j l hlj xs).toS
  have hT : s.TypeIs (.ref j) "list_reverseiterator" := hj.typeIs
  have apart : S ∉ [j, l] := by simp [hSj, hSl]
  have same : Builtin.List.listSameRef (.ref S) (.ref j) = false := by simp [Builtin.List.listSameRef, hSj]
  unfold Builtin.List.listExtendWith
  apply wpAny_bind
  refine wpAny_typeOf hT ?_
  rw [if_neg (by rw [same]; decide)]
  apply wpAny_bind
  refine wpAny_pyIter_revIter hj ?_
  apply wpAny_bind
  refine wpAny_holding ?_
  unfold Builtin.List.listLengthHint
  refine wpAny_bind (wpAny_specialOf hT RT.nolen_lri ?_)
  show wpAny _ A.in1 (specialOf (.ref j) (Str.ofString "__length_hint__") >>= _) _ _ _
  refine wpAny_bind (wpAny_specialOf hT RT.hint_lri ?_)
  generalize hid : ("list_reverseiterator.__length_hint__" : String) = nm
  wp_delta
  rw [show splitId nm = some ("list_reverseiterator", "__length_hint__") from by subst hid; decide +kernel]
  subst hid
  apply wpAny_bind
  refine wpAny_isInstance (b := true) hT (by rw [isSubtype_type]; kernel_rfl) ?_
  refine wpAny_pure ?_
  first
    | rw [if_neg (by decide)]
    | skip
  have e0 : ((xs.size : Nat) : Int) - 1 - ((0 : Nat) : Int) = (xs.size : Int) - 1 := by omega
  have st0 : ∀ {s1 : Shared}, s1.heap.IsRevIter j l ((xs.size : Int) - 1) → s1.heap.IsList l xs → 0 ≤ xs.size ∧ s1.heap.IsRevIter j l (((xs.size : Nat) : Int) - 1 - ((0 : Nat) : Int)) ∧ s1.heap.IsList l xs := fun a b => ⟨Nat.zero_le _, by rw [e0]; exact a, b⟩
  first
    | exact wpAny_pure ⟨plainId_quiet F.plain_extend_loop _, codeAny_extend_loopS W hn _ apart _ xs.size 0 _ _ _ rfl (Nat.zero_le _) (st0 hj hl) hS (ItemsOf.nil _) fun s' acc' c' hm hS' hacc =>
        hR s' acc' c' (Moved.eq_with hm) (fun b o hb hbj e => hm.heap b o (fun hmem => by
          rcases List.mem_cons.mp hmem with e' | hmem
          · exact hb e'
          · exact hbj (List.mem_singleton.mp hmem)) e) hS' hacc⟩
/-- list(it), it a list's backward iterator -/
theorem list_of_back {Q : Value → Shared → Prop} {j l : Addr} {xs : Array Value} (hh : A.handled = none) (hj : s.heap.IsRevIter j l ((xs.size : Int) - 1)) (hl : s.heap.IsList l xs) (hlj : l ≠ j) (hn : xs.size ≤ sizeLine)
    (hQ : ∀ (s' : Shared) (acc : Array Value) (c' : Nat), s' = { s with heap := s'.heap, toks := s'.toks } → (∀ b o, b ≠ j → s.heap.get? b = some o → s'.heap.get? b = some o) → s'.heap.get? s.heap.objs.size = some { cls := .type "list", dict := none, data := .seq acc c', slots := #[] } →
      ItemsOf (fun i v => xs[xs.size - 1 - i]? = some v) acc xs.size → Q (.ref s.heap.objs.size) s') :
    wpAny (model prog w) A (call (.type "list") [.ref j]) Q E s := by
  obtain ⟨oj, hoj, _⟩ := id hj
  obtain ⟨ol, hol, _⟩ := id hl
  have nj : s.heap.objs.size ≠ j := Nat.ne_of_gt (Heap.lt_size hoj)
  have nl : s.heap.objs.size ≠ l := Nat.ne_of_gt (Heap.lt_size hol)
  refine callType_codes (Q₁ := fun obj s₁ => obj = .ref s.heap.objs.size ∧ s₁ = { s with heap := s.heap.push { cls := .type "list", data := .seq #[] } }) F.called_list (F.typeCall_list_1 _) F.entry_list_init (code_list_new _ ⟨rfl, rfl⟩) fun obj s₁ h₁ => ?_
  obtain ⟨rfl, rfl⟩ := h₁
  have at0 : (s.heap.push { cls := .type "list", data := .seq #[] }).get? s.heap.objs.size = some { cls := .type "list", data := .seq #[] } := Heap.get?_push_size _ rfl
  refine ⟨⟨_, at0, rfl⟩, F.args_list_init_2 _ _, ?_⟩
  show wpAny _ _ (do let old ← Builtin.List.listItems (.ref s.heap.objs.size); Builtin.List.listUpdate (.ref s.heap.objs.size) (fun _ => #[]); letGo old.toList.reverse; Builtin.List.listExtendWith (.ref s.heap.objs.size) (.ref j) .none) _ _ _
  apply wpAny_bind
  unfold Builtin.List.listItems
  refine wpAny_bind (wpAny_seqItems at0 rfl (wpAny_pure ?_))
  show wpAny _ _ (updateSeq s.heap.objs.size (fun _ => #[]) >>= fun _ => letGo (#[] : Array Value).toList.reverse >>= fun _ => Builtin.List.listExtendWith (.ref s.heap.objs.size) (.ref j) .none) _ _ _
  apply wpAny_bind
  refine wpAny_updateSeq at0 rfl ?_
  have at1 := Heap.get?_update_self (Obj.mapSeq (fun _ => (#[] : Array Value))) at0 rfl
  have oth : ∀ b o, b ≠ s.heap.objs.size → s.heap.get? b = some o → ((s.heap.push { cls := .type "list", data := .seq #[] }).update s.heap.objs.size (Obj.mapSeq (fun _ => (#[] : Array Value)))).get? b = some o := fun b o hb e => by
    rw [Heap.get?_update_other _ _ (Ne.symm hb)]
    exact Heap.get?_push_of_some _ e
  refine wpAny_bind (wpAny_letGo ?_)
  refine ext_back (A := A.in1) hh (hj.at fun o e => oth j o (Ne.symm nj) e) (by obtain ⟨o, e, r⟩ := id hl; exact ⟨o, oth l o (Ne.symm nl) e, r⟩) hlj nj nl hn at1 fun s' acc c' es k g it => ⟨rfl, hQ s' acc c' es (fun b o hb e => k b o (Nat.ne_of_lt (Heap.lt_size e)) hb (oth b o (Nat.ne_of_lt (Heap.lt_size e)) e)) g it⟩
end
def tListRev [Wd] (K : PySem.W.Frag) (te : TE) : TE := fun σ H Q => te σ H fun v H1 => ∃ (a : Addr) (xs : List V), v = .ref a ∧ SqL K H1 a xs ∧ ∀ q, H1 q = none → Q (.ref q) (upd H1 q (.lst xs.reverse))
/-- the call of list on the call of reversed, where the latter's argument gives a list -/
theorem pe_listRev [Wd] {X : Cx} {e : Expr} {te : TE} {p p2 pos pos2 : Pos} (hc : X.calm = true) (hg : Gl X "list") (hm : X.mg "list" = none) (hg2 : Gl X "reversed") (hm2 : X.mg "reversed" = none) (he : PE X e te)
    (hs : starEach [e] X.env = (false, eval e X.env) :: starEach [] X.env)
    (hs2 : starEach [Expr.Call (.Name "reversed" p2) [e] [] pos2] X.env = [(false, eval (Expr.Call (.Name "reversed" p2) [e] [] pos2) X.env)] := by rfl) :
    PE X (.Call (.Name "list" p) [.Call (.Name "reversed" p2) [e] [] pos2] [] pos) (tListRev X.K te) where
  run pins s σ H Q I h := by
    refine Call_ (ld_blt I hg hm boot_list (PyProof.Rows.callWith_type1 (args_cons ?_ hs2) hs2 rfl))
    refine Call_ (ld_blt I hg2 hm2 PyProof.Rows.boot_reversed (PyProof.Rows.callWith_type1 (args_cons ?_ hs) hs rfl))
    refine thn (he.run pins s σ H _ I h) ?_
    rintro _ s1 ⟨_, H1, I1, ru, a, xs, rfl, sq, q⟩
    cases ru
    apply args_nil
    obtain ⟨its, rs, pl, hz⟩ := I1.list sq
    apply call_reversed_list pl.isList
    apply args_nil
    have low : a < s1.heap.objs.size := pl.lt
    have fit : its.toArray.size ≤ sizeLine := by simpa [← rs.length] using hz
    generalize es2 : ({ s1 with heap := s1.heap.push (revObj a ((its.toArray.size : Int) - 1)) } : Shared) = s2
    have top2 : s2.heap.objs.size = s1.heap.objs.size + 1 := by rw [← es2, size_push']
    have I2 : L2.Inv X pins σ H1 s2 := es2 ▸ I1.kept (t' := s1.toks) fun _ _ e => Heap.get?_push_of_some _ e
    have iter : s2.heap.IsRevIter s1.heap.objs.size a ((its.toArray.size : Int) - 1) := by rw [← es2]; exact ⟨_, Heap.get?_push_size _ rfl, rfl, rfl⟩
    have src : s2.heap.IsList a its.toArray := by rw [← es2]; exact pl.isList.push _
    refine list_of_back (I2.ok.hd hc) iter src (Nat.ne_of_lt low) fit fun s3 acc c es3 old got items => ?_
    have below : s1.heap.objs.size < s2.heap.objs.size := by rw [top2]; exact Nat.lt_succ_self _
    have none2 : H1 s2.heap.objs.size = none := I2.hok.fresh (Nat.le_refl _)
    generalize eT : s2.heap.objs.size = T at *
    have laid : L2.Inv X pins σ (upd H1 T (.lst xs.reverse)) { s2 with heap := s2.heap.push { cls := .type "list", dict := none, data := .seq acc c, slots := #[] } } := by
      refine I2.laid (t' := s2.toks) (fun _ _ e => Heap.get?_push_of_some _ e) (Nat.le_of_eq eT) ⟨by rw [List.length_reverse]; exact hz, acc.toList, c, RT.vals_rev rs items, ?_⟩
      rw [← eT, Array.toArray_toList]
      exact Heap.get?_push_size _ rfl
    have fr : ∀ b ∈ [s1.heap.objs.size], FpOk X pins (upd H1 T (.lst xs.reverse)) b := fun b m => by
      cases List.mem_singleton.mp m
      exact I1.fpOk (Nat.le_refl _) ((upd_ne (Nat.ne_of_lt below)).trans (I1.hok.fresh (Nat.le_refl _)))
    have I3 := laid.turnedL (t' := s3.toks) (h' := s3.heap) (ch := [s1.heap.objs.size]) (fun b o m e => by
      have off : b ≠ s1.heap.objs.size := fun z => m (List.mem_singleton.mpr z)
      by_cases z : b = T
      · cases z
        have e' := (Heap.get?_push_size s2.heap (o := { cls := .type "list", dict := none, data := .seq acc c, slots := #[] }) rfl).symm.trans (eT ▸ e)
        cases e'
        exact got
      · exact old b o off ((Heap.get?_push_ne _ _ _ (eT ▸ z)).symm.trans e)) fr
    refine ⟨.ref T, _, ?_, rfl, q T none2⟩
    rw [es3]
    exact I3
end ML
set_option Elab.async false
set_option linter.all false
set_option autoImplicit false
set_option maxRecDepth 100000
set_option maxHeartbeats 4000000
/-! MLfus: two calls read as one: sorted(set(x)), len(set(x)), tuple(range(n)), list(range(n)). -/
namespace ML
open PySem L2
section
variable [Wd] {X : Cx} {Φ : Nat → List ML.D → Option Sv} {F : List (Str × Nat)} {Gc : List (Str × ML.D)} {N : List Str} {sc : Scope} {k : Nat}
theorem blt_ok {x : Str} (h : bltOk F Gc sc x = true) : F.lookup x = none ∧ (Gc.lookup x).isNone = true ∧ gloB sc x = true := by
  unfold bltOk at h
  simp only [Bool.and_eq_true, decide_eq_true_eq] at h
  exact ⟨h.1.1, h.1.2, h.2⟩
/-- what is handed to the inner call -/
theorem one_arg_at [Wd] {K : PySem.W.Frag} {q : Fus} {m : ME} {σ : St} {H : Hp} {Q : VK} (h : tE K Φ (.fus q [m]) σ H Q) :
    ∃ x s, fusF q [x] = some s ∧ tA K Φ [m] σ H fun vs H1 => ∃ v B1 ρ1, vs = [v] ∧ EnvOk K B1 H1 ρ1 σ ∧ Rep1 K B1 H1 v x ∧ ∀ B2 H2 v' H3 B3, EnvOk K B2 H2 ρ1 σ → Ext B1 H1 (OwnS ρ1 σ) B2 H2 (OwnS ρ1 σ) → New K B2 H2 s v' H3 B3 → Q v' H3 := by
  obtain ⟨B, ρ, r, ρ', E, e, k⟩ := h
  rw [evE] at e
  obtain ⟨p, e1, e⟩ := bind_some e
  obtain ⟨ds, e2, e⟩ := bind_some e
  obtain ⟨s, e3, e⟩ := bind_some e
  obtain ⟨r', e4, e5⟩ := map_some e
  cases e5
  have e1' := e1
  rw [evEs] at e1'
  obtain ⟨p1, f1, e1'⟩ := bind_some e1'
  obtain ⟨p2, f2, e1'⟩ := bind_some e1'
  rw [evEs] at f2
  cases f2
  cases e1'
  have e2' := e2
  rw [conts] at e2'
  obtain ⟨x, g1, e2'⟩ := bind_some e2'
  obtain ⟨xs, g2, e2'⟩ := bind_some e2'
  rw [conts] at g2
  cases g2
  cases e2'
  refine ⟨x, s, e3, B, ρ, _, _, E, e1, fun vs H1 B1 E1 X1 O1 => ?_⟩
  have c := conts_ok E1 O1 e2
  obtain ⟨v, rfl, r1⟩ := paired1 c
  refine ⟨v, B1, _, rfl, E1, r1, fun B2 H2 v' H3 B3 E2 X2 n => ?_⟩
  obtain ⟨E4, X4, r4, f', R4⟩ := n.ok E2 (X1.trans X2)
  rw [e4] at f'
  cases f'
  exact k v' H3 B3 E4 X4 R4
theorem one_arg_of [Wd] {K : PySem.W.Frag} {q : Fus} {m : ME} {σ : St} {H : Hp} {Q : VK} (h : tE K Φ (.fus q [m]) σ H Q) :
    tA K Φ [m] σ H fun vs H1 => ∃ v B1 x s ρ1, vs = [v] ∧ EnvOk K B1 H1 ρ1 σ ∧ Rep1 K B1 H1 v x ∧ fusF q [x] = some s ∧ ∀ B2 H2 v' H3 B3, EnvOk K B2 H2 ρ1 σ → Ext B1 H1 (OwnS ρ1 σ) B2 H2 (OwnS ρ1 σ) → New K B2 H2 s v' H3 B3 → Q v' H3 := by
  obtain ⟨x, s, e, B, ρ, rs, ρ', E, e1, k⟩ := one_arg_at h
  refine ⟨B, ρ, rs, ρ', E, e1, fun vs H1 B1 E1 X1 O1 => ?_⟩
  obtain ⟨v, B2, ρ2, h1, h2, h3, h4⟩ := k vs H1 B1 E1 X1 O1
  exact ⟨v, B2, x, s, ρ2, h1, h2, h3, e, h4⟩
theorem PE.or {e : Expr} {t t' : TE} (h : PE X e t) (h' : PE X e t') : PE X e fun σ H Q => t σ H Q ∨ t' σ H Q := ⟨fun pins s σ H Q I q => q.elim (h.run pins s σ H Q I) (h'.run pins s σ H Q I)⟩
theorem tA_mono [Wd] {K : PySem.W.Frag} {ms : List ME} {σ : St} {H : Hp} {Q Q' : List V → Hp → Prop} (h : tA K Φ ms σ H Q) (f : ∀ vs H', Q vs H' → Q' vs H') : tA K Φ ms σ H Q' := by
  obtain ⟨B, ρ, rs, ρ', E, e, q⟩ := h
  exact ⟨B, ρ, rs, ρ', E, e, fun vs H' B' E' X' O' => f _ _ (q vs H' B' E' X' O')⟩
/-- the items of a list or a tuple, ints all -/
theorem items_ints [Wd] {K : PySem.W.Frag} {B H : Hp} {v : V} {d : ML.D} {xs : List ML.D} {ks : List Int} (sm : Same B H) (r : Rep1 K B H v d) (e : d.items = some xs) (i : D.ints xs = some ks) :
    ∃ a, v = .ref a ∧ (SqL K H a (ks.map V.int) ∨ SqT K H a (ks.map V.int)) ∧ ks.length ≤ LINE := by
  cases d with
  | lst ys =>
    cases e
    obtain ⟨a, vs, rfl, ha, q1, l1⟩ := r.lst sm
    rw [D.ints_eq i] at q1 l1
    rw [q1.of_ints] at ha
    exact ⟨a, rfl, .inl (SqL.of ha), by simpa using l1⟩
  | tup ys =>
    cases e
    obtain ⟨a, vs, rfl, ha, q1, l1⟩ := r.tup sm
    rw [D.ints_eq i] at q1 l1
    rw [q1.of_ints] at ha
    exact ⟨a, rfl, .inr ha, by simpa using l1⟩
  | _ => cases e
theorem snd_sortedSet (g : Good X Φ F Gc N sc k) {m : ME} {y : Expr} {p1 p2 pos pos2 : Pos} (h1 : bltOk F Gc sc "sorted" = true) (h2 : bltOk F Gc sc "set" = true) (hs : noStar y = true) (ha : PA X [y] (tA X.K Φ [m])) :
    PE X (.Call (.Name "sorted" p1) [.Call (.Name "set" p2) [y] [] pos2] [] pos) (tE X.K Φ (.fus .sortedSet [m])) := by
  obtain ⟨a1, a2, a3⟩ := blt_ok h1
  obtain ⟨b1, b2, b3⟩ := blt_ok h2
  have m1 : X.mg "sorted" = none := g.bl _ a1 (Option.isNone_iff_eq_none.mp a2) (by decide +kernel)
  have m2 : X.mg "set" = none := g.bl _ b1 (Option.isNone_iff_eq_none.mp b2) (by decide +kernel)
  have inner : PE X (.Call (.Name "set" p2) [y] [] pos2) (tCB (rSetI X.K X.w) (tA X.K Φ [m])) := pe_callTy (cr_setI g.calm) (g.gl_ok b3) m2 (by decide +kernel) ha (by decide +kernel) (by decide +kernel) (star_cons hs _ _) (by rfl)
  have outer : PE X (.Call (.Name "sorted" p1) [.Call (.Name "set" p2) [y] [] pos2] [] pos) (tCB (rSortedSet X.w) (tCons (tCB (rSetI X.K X.w) (tA X.K Φ [m])) tNil)) :=
    pe_callB (cr_sortedSet g.calm) (g.gl_ok a3) m1 (by decide +kernel) (pa_cons inner pa_nil (star_cons rfl _ _)) (by decide +kernel) (by decide +kernel) (star_cons rfl _ _) (by rfl)
  have innerT : PE X (.Call (.Name "set" p2) [y] [] pos2) (tCB (rSetOfT X.K X.prog X.w) (tA X.K Φ [m])) := pe_callTy (cr_setOfT g.calm g.hu) (g.gl_ok b3) m2 (by decide +kernel) ha (by decide +kernel) (by decide +kernel) (star_cons hs _ _) (by rfl)
  have outerT : PE X (.Call (.Name "sorted" p1) [.Call (.Name "set" p2) [y] [] pos2] [] pos) (tCB (rSortedT X.K X.prog X.w) (tCons (tCB (rSetOfT X.K X.prog X.w) (tA X.K Φ [m])) tNil)) :=
    pe_callB (cr_sortedT g.calm) (g.gl_ok a3) m1 (by decide +kernel) (pa_cons innerT pa_nil (star_cons rfl _ _)) (by decide +kernel) (by decide +kernel) (star_cons rfl _ _) (by rfl)
  have outerV : PE X (.Call (.Name "sorted" p1) [.Call (.Name "set" p2) [y] [] pos2] [] pos) (tCB (rSortedV X.K X.prog X.w) (tCons (tCB (rSetOfT X.K X.prog X.w) (tA X.K Φ [m])) tNil)) :=
    pe_callB (cr_sortedV g.calm g.hu) (g.gl_ok a3) m1 (by decide +kernel) (pa_cons innerT pa_nil (star_cons rfl _ _)) (by decide +kernel) (by decide +kernel) (star_cons rfl _ _) (by rfl)
  refine PE.imp (PE.or outer (PE.or outerT outerV)) fun σ H Q h => ?_
  obtain ⟨x, s, e, h⟩ := one_arg_at h
  rw [fusF] at e
  obtain ⟨xs, e1, e⟩ := bind_some e
  unfold orI at e
  split at e
  · rename_i ks e2
    left
    dsimp only at e
    split at e
    · rename_i hl
      cases e
      refine tA_mono h fun vs H1 hv => ?_
      obtain ⟨v, B1, ρ1, rfl, E1, r1, q⟩ := hv
      obtain ⟨a, rfl, hq, _⟩ := items_ints E1.same r1 e1 e2
      refine ⟨a, ks, rfl, hq, hl.1, fun p hp => ?_⟩
      obtain ⟨E2, X2⟩ := E1.laid (o := SetO X.w p (fun j => decide (j ∈ ks)) (sortU ks).length) hp
      refine ⟨p, _, _, rfl, upd_same, hl.2, fun ns' p' w1 w2 w3 hp' => ?_⟩
      have e3 : ns' = sortU ks := rises_eq w1 (sortU_rises ks) fun j => by rw [w2, mem_sortU, decide_eq_true_eq]
      subst e3
      exact q _ _ _ _ _ E2 X2 (.own hp' (Reps.ints _) (by rw [List.length_map]; exact Nat.le_trans (Nat.le_of_lt hl.2) (by decide)))
    · cases e
  · right
    cases x with
    | lst ys =>
      cases e1
      rw [sortS] at e
      obtain ⟨rs, e2, e⟩ := bind_some e
      split at e
      · rename_i hl
        cases e
        have ins : ∀ {B1 H1 : Hp} {a : Addr} {vs : List V}, Same B1 H1 → H1 a = some (.lst vs) → Reps X.K B1 vs xs → ∃ ks : List (Addr × List Int), vs = ks.map (fun p => V.ref p.1) ∧ rs = ks.map (·.2) ∧ (∀ p ∈ ks, SqT X.K B1 p.1 (p.2.map V.int) ∧ p.2.length ≤ LINE) ∧ SqL X.K H1 a (ks.map fun p => V.ref p.1) := fun sm ha hr => by
          obtain ⟨ks, h1, h2, h3⟩ := rows_at hr e2
          refine ⟨ks, h1, h2, h3, ?_⟩
          rw [← h1]
          exact SqL.of ha
        have fin : ∀ {ks L L' : List (Addr × List Int)} {B2 H2 : Hp} {p : Addr}, rs = ks.map (·.2) → (∀ p ∈ ks, SqT X.K B2 p.1 (p.2.map V.int) ∧ p.2.length ≤ LINE) → (∀ p ∈ L, p ∈ ks) → (∀ p ∈ ks, p.2 ∈ L.map (·.2)) → L'.Perm L → ((L'.map (·.2)).Pairwise fun a b => lexI a b = true) → H2 p = none →
            New X.K B2 H2 (.own (.lst ((sortR rs).map fun r => .tup (r.map D.int)))) (.ref p) (upd H2 p (.lst (L'.map fun q => V.ref q.1))) B2 := fun {ks L L' B2 H2 p} z1 z2 z3 z4 z5 z6 hp => by
          have e3 : L'.map (·.2) = sortR rs := rows_eq z6 (sortR_rises rs) fun r => by
            rw [mem_sortR, z1]
            constructor
            · intro hr
              obtain ⟨q, hq, rfl⟩ := List.mem_map.mp hr
              exact List.mem_map.mpr ⟨q, z3 q (z5.mem_iff.mp hq), rfl⟩
            · intro hr
              obtain ⟨q, hq, rfl⟩ := List.mem_map.mp hr
              exact (z5.map (·.2)).mem_iff.mpr (z4 q hq)
          rw [← e3]
          refine .own hp (rows_reps fun q hq => z2 q (z3 q (z5.mem_iff.mp hq))) ?_
          rw [e3, List.length_map]
          exact Nat.le_trans (sortR_len rs) (Nat.le_trans (Nat.le_of_lt hl.1) (by decide))
        rcases Bool.or_eq_true _ _ |>.mp hl.2 with hz | hz
        · right
          refine tA_mono h fun vs H1 hv => ?_
          obtain ⟨v, B1, ρ1, rfl, E1, r1, q⟩ := hv
          obtain ⟨a, us, rfl, ha, hr, hln⟩ := r1.lst E1.same
          obtain ⟨ks, k1, k2, k3, k4⟩ := ins E1.same ha hr
          refine ⟨a, ks, rfl, k4, fun p hp => same_sqT E1.same (k3 p hp).1, by have := hl.1; rw [k2, List.length_map] at this; exact this, fun p L hp z1 z2 => ?_⟩
          obtain ⟨E2, X2⟩ := E1.laid (o := SetTO X.prog X.w p L) hp
          have void : ∀ p ∈ L, p.2 = [] := fun p hp => by
            have := List.all_eq_true.mp hz p.2 (by rw [k2]; exact List.mem_map.mpr ⟨p, z1 p hp, rfl⟩)
            exact List.isEmpty_iff.mp this
          refine ⟨p, L, rfl, upd_same, fun q hq => same_sqT E2.same (k3 q (z1 q hq)).1, void, fun p' nd _ hp' => ?_⟩
          refine q _ _ _ _ _ E2 X2 (fin k2 k3 z1 z2 (List.Perm.refl L) ?_ hp')
          cases L with
          | nil => exact .nil
          | cons p0 L =>
            cases L with
            | nil => exact List.pairwise_singleton _ _
            | cons q0 L =>
              rw [List.map_cons, List.map_cons, void p0 List.mem_cons_self, void q0 (List.mem_cons_of_mem _ List.mem_cons_self)] at nd
              exact absurd List.mem_cons_self (List.nodup_cons.mp nd).1
        · left
          refine tA_mono h fun vs H1 hv => ?_
          obtain ⟨v, B1, ρ1, rfl, E1, r1, q⟩ := hv
          obtain ⟨a, us, rfl, ha, hr, hln⟩ := r1.lst E1.same
          obtain ⟨ks, k1, k2, k3, k4⟩ := ins E1.same ha hr
          refine ⟨a, ks, rfl, k4, fun p hp => same_sqT E1.same (k3 p hp).1, by have := hl.1; rw [k2, List.length_map] at this; exact this, fun p L hp z1 z2 => ?_⟩
          obtain ⟨E2, X2⟩ := E1.laid (o := SetTO X.prog X.w p L) hp
          have each : ∀ p ∈ L, p.2.length = (rs.headD []).length ∧ p.2 ≠ [] ∧ TS.Bd 64 p.2 := fun p hp => by
            have := List.all_eq_true.mp hz p.2 (by rw [k2]; exact List.mem_map.mpr ⟨p, z1 p hp, rfl⟩)
            simp only [Bool.and_eq_true, decide_eq_true_eq, Bool.not_eq_true'] at this
            refine ⟨this.1.1, fun z => by rw [z] at this; simp at this, fun m hm => ?_⟩
            have := List.all_eq_true.mp this.2 m hm
            simpa using this
          by_cases hd : 1 ≤ (rs.headD []).length
          · refine ⟨p, L, _, 64, rfl, upd_same, fun q hq => same_sqT E2.same (k3 q (z1 q hq)).1, hd, fun q hq => ⟨(each q hq).1, (each q hq).2.2⟩, fun L' p' pm nd _ pw hp' => ?_⟩
            refine q _ _ _ _ _ E2 X2 (fin k2 k3 z1 z2 pm ?_ hp')
            rw [List.pairwise_map]
            rw [List.nodup_iff_pairwise_ne, List.pairwise_map] at nd
            refine (pw.and nd).imp_of_mem fun {u v} hu hv h => ?_
            have eu := each u (pm.mem_iff.mp hu)
            have ev := each v (pm.mem_iff.mp hv)
            exact code_lex _ _ (eu.1.trans ev.1.symm) eu.2.2 ev.2.2 h.1 h.2
          · refine ⟨p, L, 1, 64, rfl, upd_same, fun q hq => same_sqT E2.same (k3 q (z1 q hq)).1, Nat.le_refl _, fun q hq => ?_, fun L' p' pm nd _ pw hp' => ?_⟩
            · have z := each q hq
              have : q.2.length = 0 := by omega
              exact absurd (List.length_eq_zero_iff.mp this) z.2.1
            · have void : L = [] := by
                cases L with
                | nil => rfl
                | cons q0 L =>
                  have z := each q0 List.mem_cons_self
                  have : q0.2.length = 0 := by omega
                  exact absurd (List.length_eq_zero_iff.mp this) z.2.1
              subst void
              refine q _ _ _ _ _ E2 X2 (fin k2 k3 z1 z2 pm ?_ hp')
              rw [pm.eq_nil]
              exact .nil
      · cases e
    | _ => first | (cases e; done) | (cases e1; done)
theorem snd_lenSet (g : Good X Φ F Gc N sc k) {m : ME} {y : Expr} {p1 p2 pos pos2 : Pos} (h1 : bltOk F Gc sc "len" = true) (h2 : bltOk F Gc sc "set" = true) (hs : noStar y = true) (ha : PA X [y] (tA X.K Φ [m])) :
    PE X (.Call (.Name "len" p1) [.Call (.Name "set" p2) [y] [] pos2] [] pos) (tE X.K Φ (.fus .lenSet [m])) := by
  obtain ⟨a1, a2, a3⟩ := blt_ok h1
  obtain ⟨b1, b2, b3⟩ := blt_ok h2
  have m1 : X.mg "len" = none := g.bl _ a1 (Option.isNone_iff_eq_none.mp a2) (by decide +kernel)
  have m2 : X.mg "set" = none := g.bl _ b1 (Option.isNone_iff_eq_none.mp b2) (by decide +kernel)
  have inner : PE X (.Call (.Name "set" p2) [y] [] pos2) (tCB (rSetI X.K X.w) (tA X.K Φ [m])) := pe_callTy (cr_setI g.calm) (g.gl_ok b3) m2 (by decide +kernel) ha (by decide +kernel) (by decide +kernel) (star_cons hs _ _) (by rfl)
  have outer : PE X (.Call (.Name "len" p1) [.Call (.Name "set" p2) [y] [] pos2] [] pos) (tCB (rLenSet X.w) (tCons (tCB (rSetI X.K X.w) (tA X.K Φ [m])) tNil)) :=
    pe_callB cr_lenSet (g.gl_ok a3) m1 (by decide +kernel) (pa_cons inner pa_nil (star_cons rfl _ _)) (by decide +kernel) (by decide +kernel) (star_cons rfl _ _) (by rfl)
  refine PE.imp outer fun σ H Q h => ?_
  refine tA_mono (one_arg_of h) fun vs H1 hv => ?_
  obtain ⟨v, B1, x, s, ρ1, rfl, E1, r1, e, q⟩ := hv
  rw [fusF] at e
  obtain ⟨xs, e1, e⟩ := bind_some e
  obtain ⟨ks, e2, e⟩ := bind_some e
  split at e
  · rename_i hl
    cases e
    obtain ⟨a, rfl, hq, _⟩ := items_ints E1.same r1 e1 e2
    refine ⟨a, ks, rfl, hq, hl, fun p hp => ?_⟩
    obtain ⟨E2, X2⟩ := E1.laid (o := SetO X.w p (fun j => decide (j ∈ ks)) (sortU ks).length) hp
    exact ⟨p, _, _, rfl, upd_same, q _ _ _ _ _ E2 X2 (.old (.int _))⟩
  · cases e
theorem rgV_eq (n : Int) : rgV 0 n = ((List.range n.toNat).map fun (i : Nat) => (0 + (i : Int))).map V.int := by
  unfold rgV
  rw [List.map_map, Int.sub_zero]
  rfl
theorem rangeD_eq (n : Nat) : rangeD 0 n = ((List.range n).map fun (i : Nat) => (0 + (i : Int))).map D.int := by
  unfold rangeD
  rw [List.map_map]
  rfl
/-- the one argument by itself -/
theorem one_of [Wd] {K : PySem.W.Frag} {q : Fus} {m : ME} {σ : St} {H : Hp} {Q : VK} (h : tE K Φ (.fus q [m]) σ H Q) :
    tE K Φ m σ H fun v H1 => ∃ B1 x s ρ1, EnvOk K B1 H1 ρ1 σ ∧ Rep1 K B1 H1 v x ∧ fusF q [x] = some s ∧ ∀ v' H3 B3, New K B1 H1 s v' H3 B3 → Q v' H3 := by
  obtain ⟨B, ρ, r, ρ', E, e, k⟩ := h
  rw [evE] at e
  obtain ⟨p, e1, e⟩ := bind_some e
  obtain ⟨ds, e2, e⟩ := bind_some e
  obtain ⟨s, e3, e⟩ := bind_some e
  obtain ⟨r', e4, e5⟩ := map_some e
  cases e5
  rw [evEs] at e1
  obtain ⟨p1, f1, e1⟩ := bind_some e1
  obtain ⟨p2, f2, e1⟩ := bind_some e1
  rw [evEs] at f2
  cases f2
  cases e1
  rw [conts] at e2
  obtain ⟨x, g1, e2⟩ := bind_some e2
  obtain ⟨xs, g2, e2⟩ := bind_some e2
  rw [conts] at g2
  cases g2
  cases e2
  refine ⟨B, ρ, p1.1, p1.2, E, f1, fun v H1 B1 E1 X1 R1 => ?_⟩
  obtain ⟨B2, E2, X2, O2⟩ := op_of E1 X1 R1
  refine ⟨B2, x, s, p1.2, E2, cont_ok E2 O2 g1, e3, fun v' H3 B3 n => ?_⟩
  obtain ⟨E4, X4, r4, f', R4⟩ := n.ok E2 X2
  rw [e4] at f'
  cases f'
  exact k v' H3 B3 E4 X4 R4
theorem tE_mono [Wd] {K : PySem.W.Frag} {m : ME} {σ : St} {H : Hp} {Q Q' : VK} (h : tE K Φ m σ H Q) (f : ∀ v H', Q v H' → Q' v H') : tE K Φ m σ H Q' := by
  obtain ⟨B, ρ, rs, ρ', E, e, q⟩ := h
  exact ⟨B, ρ, rs, ρ', E, e, fun v H' B' E' X' O' => f _ _ (q v H' B' E' X' O')⟩
theorem fus_lr {x : ML.D} {s : Sv} (h : fusF .listRange [x] = some s) : ∃ n : Int, x = .int n ∧ 0 ≤ n ∧ n ≤ 16777216 ∧ s = .own (.lst (rangeD 0 n.toNat)) := by
  cases x with
  | int n =>
    rw [fusF] at h
    split at h
    · rename_i hn
      cases h
      exact ⟨n, rfl, hn.1, hn.2, rfl⟩
    · cases h
  | _ => cases h
theorem fus_tr {x : ML.D} {s : Sv} (h : fusF .tupRange [x] = some s) : ∃ n : Int, x = .int n ∧ 0 ≤ n ∧ n ≤ 16777216 ∧ s = .fro (.tup (rangeD 0 n.toNat)) := by
  cases x with
  | int n =>
    rw [fusF] at h
    split at h
    · rename_i hn
      cases h
      exact ⟨n, rfl, hn.1, hn.2, rfl⟩
    · cases h
  | _ => cases h
theorem rangeD_len (n : Int) (h : n ≤ 16777216) : (rangeD 0 n.toNat).length ≤ LINE := by
  show _ ≤ 16777216
  rw [rangeD_eq, List.length_map, List.length_map, List.length_range]
  omega
theorem snd_range (g : Good X Φ F Gc N sc k) {q : Fus} {nm : Str} {m : ME} {y : Expr} {p1 p2 pos pos2 : Pos} (h1 : bltOk F Gc sc nm = true) (h2 : bltOk F Gc sc "range" = true) (hs : noStar y = true) (ha : PE X y (tE X.K Φ m)) (hq : (q = .listRange ∧ nm = "list") ∨ (q = .tupRange ∧ nm = "tuple")) :
    PE X (.Call (.Name nm p1) [.Call (.Name "range" p2) [y] [] pos2] [] pos) (tE X.K Φ (.fus q [m])) := by
  obtain ⟨a1, a2, a3⟩ := blt_ok h1
  obtain ⟨b1, b2, b3⟩ := blt_ok h2
  have m2 : X.mg "range" = none := g.bl _ b1 (Option.isNone_iff_eq_none.mp b2) (by decide +kernel)
  have inner : PRg X (.Call (.Name "range" p2) [y] [] pos2) (tRg1 (tE X.K Φ m)) := prg_1 (g.gl_ok b3) m2 ha (star_cons hs _ _)
  rcases hq with ⟨rfl, rfl⟩ | ⟨rfl, rfl⟩
  · have m1 : X.mg "list" = none := g.bl _ a1 (Option.isNone_iff_eq_none.mp a2) (by decide +kernel)
    refine PE.imp (pe_listRg g.calm (g.gl_ok a3) m1 inner (star_cons rfl _ _)) fun σ H Q h => ?_
    refine tE_mono (one_of h) fun v H1 hv => ?_
    obtain ⟨B1, x, s, ρ1, E1, r1, e, q⟩ := hv
    obtain ⟨n, rfl, n0, n1, rfl⟩ := fus_lr e
    refine ⟨n, r1.int, RgOk.of_le (by decide) n1 (by decide) n0, fun p hp => ?_⟩
    rw [rgV_eq]
    exact q _ _ _ (.own hp (by rw [rangeD_eq]; exact Reps.ints _) (rangeD_len n n1))
  · have m1 : X.mg "tuple" = none := g.bl _ a1 (Option.isNone_iff_eq_none.mp a2) (by decide +kernel)
    refine PE.imp (pe_tupRg g.calm (g.gl_ok a3) m1 inner (star_cons rfl _ _)) fun σ H Q h => ?_
    refine tE_mono (one_of h) fun v H1 hv => ?_
    obtain ⟨B1, x, s, ρ1, E1, r1, e, q⟩ := hv
    obtain ⟨n, rfl, n0, n1, rfl⟩ := fus_tr e
    refine ⟨n, r1.int, RgOk.of_le (by decide) n1 (by decide) n0, fun p hp => ?_⟩
    rw [rgV_eq]
    exact q _ _ _ (newTup E1.same hp (by rw [rangeD_eq]; exact Reps.ints _) (rangeD_len n n1))
theorem fus_rv {x : ML.D} {s : Sv} (h : fusF .listRev [x] = some s) : ∃ xs, x = .lst xs ∧ s = .own (.lst xs.reverse) := by
  unfold fusF at h
  split at h <;> first | cases h | skip
  all_goals first
    | exact ⟨_, rfl, rfl⟩
    | (rename_i e2; cases e2; exact ⟨_, rfl, rfl⟩)
    | (rename_i e1 e2; cases e1)
theorem snd_listRev (g : Good X Φ F Gc N sc k) {m : ME} {y : Expr} {p1 p2 pos pos2 : Pos} (h1 : bltOk F Gc sc "list" = true) (h2 : bltOk F Gc sc "reversed" = true) (hs : noStar y = true) (ha : PE X y (tE X.K Φ m)) :
    PE X (.Call (.Name "list" p1) [.Call (.Name "reversed" p2) [y] [] pos2] [] pos) (tE X.K Φ (.fus .listRev [m])) := by
  obtain ⟨a1, a2, a3⟩ := blt_ok h1
  obtain ⟨b1, b2, b3⟩ := blt_ok h2
  have m1 : X.mg "list" = none := g.bl _ a1 (Option.isNone_iff_eq_none.mp a2) (by decide +kernel)
  have m2 : X.mg "reversed" = none := g.bl _ b1 (Option.isNone_iff_eq_none.mp b2) (by decide +kernel)
  refine PE.imp (pe_listRev g.calm (g.gl_ok a3) m1 (g.gl_ok b3) m2 ha (star_cons hs _ _)) fun σ H Q h => ?_
  refine tE_mono (one_of h) fun v H1 hv => ?_
  obtain ⟨B1, x, s, ρ1, E1, r1, e, q⟩ := hv
  obtain ⟨xs, rfl, rfl⟩ := fus_rv e
  obtain ⟨a, vs, rfl, hq, rs, hl⟩ := r1.lst E1.same
  exact ⟨a, vs, rfl, SqL.of hq, fun p hp => q _ _ _ (.own hp rs.reverse (by rw [List.length_reverse]; exact hl))⟩
end
end ML
set_option Elab.async false
set_option linter.all false
set_option autoImplicit false
set_option maxRecDepth 100000
set_option maxHeartbeats 4000000
/-! MLback: x[::-1]. -/
namespace ML
open PySem L2
section
open PySem.Spec PyProof.Rows
/-- the sign -1 as a step -/
abbrev stepB (k : Nat) (p1 p2 : Pos) : Expr := .UnaryOp .USub (.Constant (.int 1) k p1) p2
theorem strBack_picked (z : Str) (t t' : Tok) : sliceMade z t none none (some (-1, t')) = .str ⟨z.cps.toList.reverse.toArray⟩ := by
  unfold sliceMade slicePicked Builtin.Str.strSliceIndices
  simp only [Option.map_some, Option.map_none, Option.getD_some]
  have e : ((-1 : Int) == 1) = false := by decide
  have e2 : ¬ ((-1 : Int) > 0) := by decide
  rw [e, Bool.false_and, if_neg Bool.false_ne_true, if_neg e2, if_neg e2]
  show Made.str ⟨((PySem.sliceRange ((z.cps.size : Int) - 1) (-1) (-1)).filterMap fun x => z.cps[x]?).toArray⟩ = _
  rw [PySem.W.krv_sliceRange, PySem.W.krv_range, List.filterMap_reverse, PySem.W.krv_all]
section
variable {prog : Program} {w : World} {A : Around} {E : Value → Shared → Prop} {s : Shared}
theorem places_back (n : Nat) : Builtin.Slice.slicePlaces ((n : Int) - 1) (-1) (-1) = n := by
  unfold Builtin.Slice.slicePlaces
  have e2 : ¬ ((-1 : Int) > 0) := by decide
  rw [if_neg e2]
  have e3 : -(-1 : Int) = 1 := by decide
  rw [e3]
  split
  · rw [Int.ediv_one]
    omega
  · omega
theorem applied_back {sl : Addr} {tk : Tok} {n : Nat} {Q : Int × Int × Nat → Shared → Prop} (hs : s.heap.IsSliceOf sl .none .none (.int (-1) tk)) (h : Q ((n : Int) - 1, -1, n) s) :
    wpAny (model prog w) A (Builtin.Slice.sliceApplied (.ref sl) (pure (n : Int))) Q E s := by
  obtain ⟨os, hos, hcs, hds⟩ := id hs
  unfold Builtin.Slice.sliceApplied Builtin.Slice.sliceFields
  refine wpAny_bind (wpAny_bind (wpAny_field hos hds (x := .none) rfl (wpAny_bind (wpAny_field hos hds (x := .none) rfl (wpAny_bind (wpAny_field hos hds (x := .int (-1) tk) rfl (wpAny_pure ?_)))))))
  refine wpAny_bind (PyProof.Rows.slicePart_int ?_)
  show wpAny _ _ (if ((-1 : Int) == 0) = true then _ else _) _ _ s
  rw [if_neg (by decide)]
  refine wpAny_bind (PyProof.Rows.slicePart_none (wpAny_bind (PyProof.Rows.slicePart_none (wpAny_bind (wpAny_pure ?_)))))
  have ea : Builtin.Slice.sliceAdjust none none (-1) (n : Int) = ((n : Int) - 1, -1) := rfl
  show wpAny _ _ (match Builtin.Slice.sliceAdjust none none (-1) (n : Int) with | (lo, hi) => pure (lo, (-1 : Int), Builtin.Slice.slicePlaces lo hi (-1))) _ _ s
  rw [ea]
  show wpAny _ _ (pure ((n : Int) - 1, (-1 : Int), Builtin.Slice.slicePlaces ((n : Int) - 1) (-1) (-1))) _ _ s
  rw [places_back]
  exact wpAny_pure h
theorem pick_back (xs : Array Value) : ((List.range xs.size).filterMap fun (m : Nat) => xs[((xs.size : Int) - 1 + (m : Int) * (-1)).toNat]?).toArray = xs.toList.reverse.toArray := by
  have e : ((List.range xs.size).filterMap fun (m : Nat) => xs[((xs.size : Int) - 1 + (m : Int) * (-1)).toNat]?) = ((List.range xs.size).map fun k => xs.size - 1 - k).filterMap fun x => xs[x]? := by
    rw [List.filterMap_map]
    congr 1
    funext m
    have : ((xs.size : Int) - 1 + (m : Int) * (-1)).toNat = xs.size - 1 - m := by omega
    rw [this]
    rfl
  rw [e, PySem.W.krv_range, List.filterMap_reverse, PySem.W.krv_all]
theorem getItem_tuple_back {t sl : Addr} {tk : Tok} {items : Array Value} {Q : Value → Shared → Prop} (ht : IsTup s.heap t items) (hs : s.heap.IsSliceOf sl .none .none (.int (-1) tk))
    (h : Q (.ref s.heap.objs.size) { s with heap := s.heap.push { cls := .type "tuple", data := .seq items.toList.reverse.toArray } }) (hz : items.size ≤ sizeLine) : wpAny (model prog w) A (getItem (.ref t) (.ref sl)) Q E s := by
  have fits : sizeOk (.seq items.toList.reverse.toArray) := by
    show items.toList.reverse.toArray.size ≤ sizeLine
    rw [List.size_toArray, List.length_reverse, Array.length_toList]
    exact hz
  obtain ⟨os, hos, hcs, hds⟩ := id hs
  have isS : s.TypeIs (.ref sl) "slice" := ⟨os, hos, hcs⟩
  unfold getItem
  try with_reducible refine wpAny_holding ?_
  first | refine wpAny_bind (wpAny_pure ?_) | skip
  refine wpAny_bind (wpAny_sequenceKey ht.typeIs (by decide) (wpAny_bind (wpAny_callSpecial?_slot (name := Str.ofString "__getitem__") ht.typeIs PyProof.Rows.slot_tuple_getitem
    (wpAny_call_entry PyProof.Rows.slot_tuple_getitem ht.typeIs entry_tuple_getitem ?_ (args_tuple_getitem _ _)))))
  show wpAny _ _ (Builtin.Tuple.tupleItemsOf (.ref t) >>= _) _ _ s
  refine wpAny_bind (tupleItemsOf_ ht (wpAny_bind (wpAny_typeOf isS ?_)))
  rw [if_pos (by decide)]
  refine wpAny_bind (applied_back hs ?_)
  have no : ¬ (((items.size : Int) - 1 == 0 && (-1 : Int) == 1 && items.size == items.size) = true) := by
    intro q
    rw [Bool.and_eq_true, Bool.and_eq_true] at q
    exact absurd q.1.2 (by decide)
  show wpAny _ _ (if ((items.size : Int) - 1 == 0 && (-1 : Int) == 1 && items.size == items.size) = true then _ else _) _ _ s
  rw [if_neg no, pick_back]
  first
    | exact wpAny_bind (m := Builtin.Tuple.tupleExact _) (wpAny_newObj_type (wpAny_pure ⟨_, rfl, wpAny_pure h⟩) fits)
    | exact wpAny_bind (m := Builtin.Tuple.tupleExact _) (wpAny_newObj_type (wpAny_bind (wpAny_pure (wpAny_pure ⟨_, rfl, wpAny_pure h⟩))) fits)
    | exact wpAny_bind (wpAny_bind (m := Builtin.Tuple.tupleExact _) (wpAny_newObj_type (wpAny_pure (wpAny_pure ⟨_, rfl, wpAny_pure h⟩)) fits))
    | exact wpAny_bind (wpAny_bind (m := Builtin.Tuple.tupleExact _) (wpAny_newObj_type (wpAny_pure ⟨_, rfl, wpAny_pure h⟩) fits))
end
section
variable [Wd] {X : Cx}
/-- [::-1] of a text or a tuple (of a list: the library's tRevL) -/
def tBack [Wd] (K : PySem.W.Frag) (te : TE) : TE := fun σ H Q => te σ H fun x H1 => (∃ z : Str, x = .str z ∧ z.length ≤ sizeLine ∧ Q (.str ⟨z.cps.toList.reverse.toArray⟩) H1) ∨
  (∃ (a : Addr) (xs : List V), x = .ref a ∧ SqT K H1 a xs ∧ ∀ p, H1 p = none → Q (.ref p) (upd H1 p (.tup xs.reverse)))
/-- the slice itself -/
theorem slice_back {pins : List (Addr × Obj)} {σ : L2.St} {H : Hp} {s : Shared} {k : Nat} {p1 p2 p3 : Pos} (I : L2.Inv X pins σ H s) :
    wpAny (model X.prog X.w) X.A (eval (.Slice none none (some (stepB k p1 p2)) p3) X.env) (fun v s' => ∃ sl tk, v = .ref sl ∧ L2.Inv X pins σ H s' ∧ s'.heap.IsSliceOf sl .none .none (.int (-1) tk)) X.xe s := by
  have step : PO X (some (stepB k p1 p2)) (tPart (tUn (rU fun i => .int (-i)) (tC (.int 1)))) := po_some (pe_un un_neg pe_int)
  apply wpAny_Slice
  apply wpAny_evalPart_none
  apply wpAny_evalPart_none
  refine thn (step.run pins s σ H (fun o H' => o = some (-1) ∧ H' = H) I ⟨1, rfl, -1, rfl, rfl, rfl⟩) ?_
  rintro _ s' ⟨_, _, I', part, rfl, rfl⟩
  cases part with
  | int _ tk => exact ⟨_, tk, rfl, I'.kept (t' := s'.toks) fun _ _ e => Heap.get?_push_of_some _ e, Heap.IsSliceOf.new _ _ _ _⟩
theorem pe_back {e : Expr} {te : TE} {k : Nat} {p1 p2 p3 pos : Pos} (he : PE X e te) : PE X (.Subscript e (.Slice none none (some (stepB k p1 p2)) p3) pos) (tBack X.K te) where
  run pins s σ H Q I h := by
    refine Subscript_ (thn (he.run pins s σ H _ I h) ?_)
    rintro v s1 ⟨x, H1, I1, rx, q⟩
    refine thn (slice_back I1) ?_
    rintro _ s2 ⟨sl, tk, rfl, I2, isl⟩
    rcases q with ⟨z, rfl, hz, q⟩ | ⟨a, xs, rfl, hx, q⟩
    · obtain ⟨t, rfl⟩ := rx
      have short : z.cps.toList.reverse.toArray.size ≤ sizeLine := by simpa [Str.length] using hz
      apply tail_any (ops := [.str z t, .ref sl]) (typeIs_str _ z t) F.slot_str_getitem.lookup _ (by with_unfolding_all rfl)
      apply wpAny_getItem_str_slice (l := none) (u := none) (st := some (-1, tk)) isl rfl
      rw [strBack_picked]
      exact ⟨short, .str ⟨z.cps.toList.reverse.toArray⟩, H1, I2.tok _, ⟨_, rfl⟩, q⟩
    · cases rx
      obtain ⟨its, rs, tup, hz⟩ := I2.tuple hx
      have hz' : xs.reverse.length ≤ sizeLine := by rw [List.length_reverse]; exact hz
      apply tail_any (ops := [.ref a, .ref sl]) tup.typeIs PyProof.Rows.slot_tuple_getitem.lookup _ (by with_unfolding_all rfl)
      apply getItem_tuple_back tup isl _ (by rw [List.size_toArray, ← rs.length]; exact hz)
      exact ⟨.ref _, _, I2.laid (t' := s2.toks) (o := .tup xs.reverse) (fun _ _ e => Heap.get?_push_of_some _ e) (Nat.le_refl _) ⟨hz', _, rs.reverse, IsTup.new _ _⟩, rfl, q _ (I2.hok.fresh (Nat.le_refl _))⟩
end
end
section
variable [Wd] {X : Cx} {Φ : Nat → List ML.D → Option Sv}
theorem PE.eith {e : Expr} {t t' : TE} (h : PE X e t) (h' : PE X e t') : PE X e (fun σ H Q => t σ H Q ∨ t' σ H Q) where
  run pins s σ H Q I q := q.elim (h.run pins s σ H Q I) (h'.run pins s σ H Q I)
theorem snd_back {a : ME} {e : Expr} {kc : Nat} {p1 p2 p3 pos : Pos} (ha : PE X e (tE X.K Φ a)) : PE X (.Subscript e (.Slice none none (some (stepB kc p1 p2)) p3) pos) (tE X.K Φ (.back a)) := by
  refine PE.imp (PE.eith (pe_back ha) (pe_revL ha)) fun σ H Q ⟨B, ρ, r, ρ', E, e, q⟩ => ?_
  rw [evE] at e
  obtain ⟨p, e1, e⟩ := bind_some e
  obtain ⟨x, e2, e⟩ := bind_some e
  obtain ⟨s, e3, e⟩ := bind_some e
  obtain ⟨r', e4, e5⟩ := map_some e
  cases e5
  have ends : ∀ (R : V → Hp → Prop), (∀ v H1 B2, Same B2 H1 → Rep1 X.K B2 H1 v x → (∀ z H4 B4, New X.K B2 H1 s z H4 B4 → Q z H4) → R v H1) → tE X.K Φ a σ H R := fun R h => ⟨B, ρ, p.1, p.2, E, e1, fun v H1 B1 E1 X1 R1 => by
    obtain ⟨B2, E2, X2, O2⟩ := op_of E1 X1 R1
    refine h v H1 B2 E2.same (cont_ok E2 O2 e2) fun z H4 B4 n => ?_
    obtain ⟨E4, X4, r4, f', R4⟩ := n.ok E2 X2
    rw [e4] at f'
    cases f'
    exact q _ _ _ E4 X4 R4⟩
  cases x with
  | str z =>
    rw [backop] at e3
    split at e3
    · rename_i hz
      cases e3
      exact .inl (ends _ fun v H1 B2 sm c fin => .inl ⟨z, c.str, by rw [← line_eq]; exact hz, fin _ _ _ (.old (.str _))⟩)
    · cases e3
  | tup xs =>
    cases e3
    refine .inl (ends _ fun v H1 B2 sm c fin => ?_)
    obtain ⟨b, vs, rfl, hb, q1, l1⟩ := c.tup sm
    exact .inr ⟨b, vs, rfl, hb, fun p hp => fin _ _ _ (newTup sm hp q1.reverse (by rw [List.length_reverse]; exact l1))⟩
  | lst xs =>
    cases e3
    refine .inr (ends _ fun v H1 B2 sm c fin => ?_)
    obtain ⟨b, vs, rfl, hb, q1, l1⟩ := c.lst sm
    exact ⟨b, vs, rfl, SqL.of hb, fun p hp => fin _ _ _ (.own hp q1.reverse (by rw [List.length_reverse]; exact l1))⟩
  | _ => cases e3
end
end ML
set_option Elab.async false
set_option linter.all false
set_option autoImplicit false
set_option maxRecDepth 100000
set_option maxHeartbeats 4000000
/-! MLkey: min and sorted by a key that one of the text's own defs tells. -/
namespace ML
open PySem L2
section
variable [Wd] {X : Cx} {pins : List (Addr × Obj)} {σ : St} {B H : Hp} {s : Shared} {φ : List ML.D → Option Sv} {k : Nat} {f : Addr} {fd : FuncData} {ps : List Str}
/-- the key of one item is asked for, a call further in -/
theorem key_call {A : Around} (Fo : FnOk X.prog X.w X.K X.mg X.base (L2.CX X.prog X.w) k f fd ps (spF X.K φ ps.length)) (hA : A = X.A.in1 ∨ A = X.A.in1.in1) (hr : Room (k + 2) X.A) (hb : Binds X.K fd ps []) (h1 : ps.length = 1) (I : Inv X pins σ H s) (sm : Same B H) {v : Value} {w : V} {d kd : ML.D} (rv : RelV w v) (rp : Rep X.K B w d) (e : φ [d] = some (.fro kd)) {Q E : Value → Shared → Prop}
    (q : ∀ u s1 wk H1 B1, Inv X pins σ H1 s1 → Same B1 H1 → Ext B H (fun _ => False) B1 H1 (fun _ => False) → RelV wk u → Rep X.K B1 wk kd → (∀ b o, s.heap.get? b = some o → H b = none → b ≠ X.env.locals → b ∉ X.fs → s1.heap.get? b = some o ∧ H1 b = none) → s1.os = s.os → Q u s1) :
    wpAny (model X.prog X.w) A (call (.ref f) [v]) Q E s := by
  have r2 : Vals [w] [v] := .cons rv .nil
  have hl : ([v] ++ []).length = ps.length := by rw [h1]; rfl
  have hsp : spF X.K φ ps.length [w] H (fun u H1 => ∃ B1, Same B1 H1 ∧ Ext B H (fun _ => False) B1 H1 (fun _ => False) ∧ Rep X.K B1 u kd) E0 :=
    ⟨by rw [h1]; rfl, B, [d], _, sm, .cons rp .nil, e, fun u H1 B1 sm1 Y R => ⟨B1, sm1, Y, R⟩⟩
  have env : Env0 X.prog X.w X.K X.mg X.base A X.stack s H := by
    rcases hA with rfl | rfl
    · exact I.env0.in1
    · exact I.env0.in1.in1
  have room : Room k A := by
    rcases hA with rfl | rfl
    · exact (hr.mono (Nat.le_succ (k + 1))).in1
    · exact hr.in1.in1
  refine wpAny_call (codeAny_mono (Fo.run A X.stack s H ⟨[v], []⟩ [v] [w] _ E0 room env (by
    have := hb s [v] I.kIn hl
    rwa [List.append_nil] at this) r2 hsp) fun r s' hq => ?_)
  cases r with
  | error e =>
    obtain ⟨_, _, _, _, _, _, _, _, _, _, _, _, z⟩ := hq
    exact z.elim
  | ok fl =>
    cases fl with
    | ret u =>
      obtain ⟨wk, H1, os, bare, un, hok, r, B1, sm1, Y, R⟩ := hq
      have I1 : Inv X pins σ H1 s' := I.call' os un hok bare (fun _ z => nomatch z)
      refine q u s' wk H1 B1 I1 sm1 Y r R (fun b o eo hn hL hf => ?_) os
      have nb : b ∉ frs X.stack := fun z => by
        rcases List.mem_cons.mp (I.stkSub b z) with z | z
        · exact hL z
        · exact hf z
      exact ⟨un.keep b o eo hn nb (fun z => nomatch z), un.free b o eo hn (fun z => nomatch z)⟩
    | next => exact False.elim hq
    | brk => exact False.elim hq
    | cont => exact False.elim hq
/-- where the walk stands -/
structure KAt [Wd] (X : Cx) (pins : List (Addr × Obj)) (σ : St) (B H : Hp) (S it l : Addr) (j : Nat) (s : Shared) (H' B' : Hp) : Prop where
  inv : Inv X pins σ H' s
  same : Same B' H'
  ext : Ext B H (fun _ => False) B' H' (fun _ => False)
  fS : FpOk X pins H' S
  fI : FpOk X pins H' it
  iter : s.heap.IsListIter it l j
variable {S it l : Addr} {j : Nat} {H' B' : Hp}
theorem FpOk.at {b : Addr} {H1 : Hp} (h : FpOk X pins H b) (hn : H1 b = none) : FpOk X pins H1 b := ⟨hn, h.2⟩
theorem KAt.touch (a : KAt X pins σ B H S it l j s H' B') {h' : Heap} {t' : Nat} (k : ∀ b o, b ≠ S → s.heap.get? b = some o → h'.get? b = some o) (ne : S ≠ it) : KAt X pins σ B H S it l j { s with heap := h', toks := t' } H' B' := by
  obtain ⟨f0, f1, f2, f3, f4, f5⟩ := a.fS
  exact ⟨a.inv.turned k f0 f1 f3 f4 f5, a.same, a.ext, a.fS, a.fI, a.iter.at fun o e => k it o (Ne.symm ne) e⟩
theorem KAt.walk (a : KAt X pins σ B H S it l j s H' B') {h' : Heap} (k : ∀ b o, b ≠ it → s.heap.get? b = some o → h'.get? b = some o) (hi : h'.IsListIter it l (j + 1)) : KAt X pins σ B H S it l (j + 1) { s with heap := h' } H' B' := by
  obtain ⟨f0, f1, f2, f3, f4, f5⟩ := a.fI
  exact ⟨a.inv.turned (t' := s.toks) k f0 f1 f3 f4 f5, a.same, a.ext, a.fS, a.fI, hi⟩
theorem ext_go {B0 H0 B1 H1 B2 H2 : Hp} (x : Ext B0 H0 (fun _ => False) B1 H1 (fun _ => False)) (y : Ext B1 H1 (fun _ => False) B2 H2 (fun _ => False)) : Ext B0 H0 (fun _ => False) B2 H2 (fun _ => False) := x.trans y
theorem keysOf_len : ∀ {xs ks : List ML.D}, keysOf φ xs = some ks → ks.length = xs.length
  | [], ks, h => by cases h; rfl
  | x :: xs, ks, h => by
    rw [keysOf] at h
    obtain ⟨_, _, h⟩ := bind_some h
    obtain ⟨_, _, h⟩ := bind_some h
    obtain ⟨r, h1, h2⟩ := map_some h
    cases h2
    rw [List.length_cons, List.length_cons, keysOf_len h1]
theorem keysOf_cons {x : ML.D} {xs ks : List ML.D} (h : keysOf φ (x :: xs) = some ks) : ∃ kd r, φ [x] = some (.fro kd) ∧ keysOf φ xs = some r ∧ ks = kd :: r := by
  rw [keysOf] at h
  obtain ⟨sv, h1, h⟩ := bind_some h
  obtain ⟨kd, h2, h⟩ := bind_some h
  obtain ⟨r, h3, h4⟩ := map_some h
  cases sv <;> cases h2
  exact ⟨kd, r, h1, h3, h4.symm⟩
/-- what is asked of the keys -/
structure KeysOk (ks : List ML.D) : Prop where
  ok : ∀ a ∈ ks, D.okd 40 a = true
  nn : ∀ a ∈ ks, D.nonN a = true
  al : ∀ a ∈ ks, ∀ b ∈ ks, D.alike a b = true
theorem KeysOk.sub {as bs : List ML.D} (h : KeysOk as) (k : ∀ a ∈ bs, a ∈ as) : KeysOk bs := ⟨fun a m => h.ok a (k a m), fun a m => h.nn a (k a m), fun a m b m' => h.al a (k a m) b (k b m')⟩
theorem key_lt {A : Around} {u u' : Value} {a b : V} {x y : ML.D} {E Q : Value → Shared → Prop} (I : Inv X pins σ H s) (sm : Same B H) (hu : A.units + 60 < cLine) (ra : RelV a u) (rb : RelV b u') (pa : Rep X.K B a x) (pb : Rep X.K B b y) (ox : D.okd 40 x = true) (oy : D.okd 40 y = true) (nx : D.nonN x = true) (al : D.alike x y = true)
    (q : Q (.bool (D.lt x y)) s) : wpAny (model X.prog X.w) A (richCompare .Lt u u') Q E s := by
  obtain ⟨as, rx⟩ := Dp.reads I x.py a u (dp_of _ _ _ ox (Rep.mono sm _ _ pa)) ra
  obtain ⟨bs, ry⟩ := Dp.reads I y.py b u' (dp_of _ _ _ oy (Rep.mono sm _ _ pb)) rb
  have dx := (canLay_of _ _ ox).2
  rw [← lt_py x y 40 40 ox oy al] at q
  refine PySem.W.lt_data rx ry (alike_py x y 40 40 ox oy al) (fun z => ?_) (by have := Nat.min_le_left x.py.depth y.py.depth; omega) q
  cases x <;> simp_all [D.nonN, D.py, D.okd]
abbrev pairL (u v : Value) (c : Nat) : Obj := { cls := .type "list", dict := none, data := .seq #[u, v] c, slots := #[] }
/-- min's own loop -/
theorem min_go (Fo : FnOk X.prog X.w X.K X.mg X.base (L2.CX X.prog X.w) k f fd ps (spF X.K φ ps.length)) (hr : Room (k + 2) X.A) (hb : Binds X.K fd ps []) (h1 : ps.length = 1) (hc : X.calm = true) {vs : List V} {xs : List ML.D} {it : Addr} (hl : H l = some (.lst vs)) (hv : Reps X.K B vs xs) (ne : S ≠ it)
    (kw : List (Str × Value)) {R : Result → Shared → Prop} :
    ∀ (rest rks : List ML.D) (j : Nat) (s : Shared) (H' B' : Hp) (x kx : ML.D) (u ku : Value) (w wk : V) (c : Nat), xs.drop j = rest → keysOf φ rest = some rks → KeysOk (kx :: rks) → KAt X pins σ B H S it l j s H' B' → s.heap.get? S = some (pairL u ku c) →
    RelV w u → Rep X.K B' w x → RelV wk ku → Rep X.K B' wk kx →
    (∀ v s' w' H1 B1, Inv X pins σ H1 s' → Same B1 H1 → Ext B H (fun _ => False) B1 H1 (fun _ => False) → RelV w' v → Rep X.K B1 w' (leastK x kx rest rks) → R (.ok (.ret v)) s') →
    codeAny (model X.prog X.w) X.A (.builtin "min.loop" ⟨[.ref it, .ref f, .ref S], kw⟩) R s := by
  intro rest
  have nm : (toString "min" ++ toString ".loop" : String) = "min.loop" := by decide
  have un : X.A.units + 100 < cLine := by have := hr.un; omega
  induction rest with
  | nil =>
    intro rks j s H' B' x kx u ku w wk c hd hk ok a hS ru pu rk pk hR
    cases hk
    obtain ⟨its, rv, pl, hz⟩ := a.inv.list (SqL.of (a.ext.keep _ _ hl fun z => z))
    have hlen : its.length ≤ j := by
      rw [← rv.length, hv.length]
      exact List.drop_eq_nil_iff.mp hd
    refine codeAny_builtin F.entry_min_loop ?_
    rw [Around.under_plainId F.plain_min_loop _]
    show wpAny _ X.A.in1 (seqItems? (.ref S) >>= _) _ _ s
    refine wpAny_bind (wpAny_seqItems hS rfl ?_)
    show wpAny _ X.A.in1 (tryCatch (pyNext (.ref it)) _ >>= _) _ _ s
    refine wpAny_bind (wpAny_tryCatch (wpAny_pyNext_list_end (a.inv.ok.hd hc) a.iter pl.isList (by simpa using hlen) fun h2 k2 => ?_))
    have keep2 : ∀ b o, b ≠ it → s.heap.get? b = some o → h2.get? b = some o := fun b o hb e => k2 b o hb e
    have hS2 := keep2 S _ ne hS
    show wpAny _ X.A.in1 (updateSeq S (fun _ => #[]) >>= _) _ _ _
    refine wpAny_bind (wpAny_updateSeq hS2 rfl (wpAny_bind (wpAny_letGo (wpAny_pure ?_))))
    obtain ⟨f0, f1, f2, f3, f4, f5⟩ := a.fI
    have I2 : Inv X pins σ H' { s with heap := h2 } := a.inv.turned (t' := s.toks) keep2 f0 f1 f3 f4 f5
    obtain ⟨g0, g1, g2, g3, g4, g5⟩ := a.fS
    have I3 := I2.turned (t' := s.toks) (h' := h2.update S (Obj.mapSeq fun _ => #[])) (fun b o hb e => (Heap.get?_update_other _ _ (Ne.symm hb)).trans e) g0 g1 g3 g4 g5
    exact hR u _ w H' B' I3 a.same a.ext ru pu
  | cons y rest ih =>
    intro rks j s H' B' x kx u ku w wk c hd hk ok a hS ru pu rk pk hR
    obtain ⟨kd, r, hy, hr', rfl⟩ := keysOf_cons hk
    have hj : j < xs.length := by
      rcases Nat.lt_or_ge j xs.length with h | h
      · exact h
      · rw [List.drop_of_length_le h] at hd; cases hd
    have ey : xs[j]? = some y := by
      have := congrArg List.head? hd
      rwa [List.head?_drop] at this
    have hd' : xs.drop (j + 1) = rest := by
      have := congrArg List.tail hd
      rwa [List.tail_drop] at this
    obtain ⟨wy, ewy, pwy⟩ := hv.get ey
    obtain ⟨its, rv, pl, hz⟩ := a.inv.list (SqL.of (a.ext.keep _ _ hl fun z => z))
    obtain ⟨vy, evy, rvy⟩ := rv.get ewy
    refine codeAny_builtin F.entry_min_loop ?_
    rw [Around.under_plainId F.plain_min_loop _]
    show wpAny _ X.A.in1 (seqItems? (.ref S) >>= _) _ _ s
    refine wpAny_bind (wpAny_seqItems hS rfl ?_)
    show wpAny _ X.A.in1 (tryCatch (pyNext (.ref it)) _ >>= _) _ _ s
    refine wpAny_bind (wpAny_tryCatch (wpAny_pyNext_list_item a.iter pl.isList (x := vy) (by simpa using evy) fun h2 i2 k2 => ?_))
    have keep2 : ∀ b o, b ≠ it → s.heap.get? b = some o → h2.get? b = some o := fun b o hb e => (k2.2 b hb).trans e
    have hS2 := keep2 S _ ne hS
    have a2 := a.walk keep2 i2
    show wpAny _ X.A.in1 (tryCatch (holding [vy] (call (.ref f) [vy])) _ >>= _) _ _ _
    refine wpAny_bind (wpAny_tryCatch (wpAny_holding (key_call Fo (.inl rfl) hr hb h1 a2.inv a2.same rvy (Rep.mono a2.ext.b _ _ pwy) hy fun ky s3 wky H3 B3 I3 sm3 X3 rky pky keep3 os3 => ?_)))
    have fS := a2.fS
    have fI := a2.fI
    obtain ⟨hS3, nS3⟩ := keep3 S _ hS2 fS.1 fS.2.1 fS.2.2.1
    have it3 : s3.heap.IsListIter it l (j + 1) := a2.iter.at fun o e => (keep3 it o e fI.1 fI.2.1 fI.2.2.1).1
    have nI3 : H3 it = none := by
      obtain ⟨o, e, _⟩ := a2.iter
      exact (keep3 it o e fI.1 fI.2.1 fI.2.2.1).2
    have a3 : KAt X pins σ B H S it l (j + 1) s3 H3 B3 := ⟨I3, sm3, ext_go a2.ext X3, ⟨nS3, fS.2⟩, ⟨nI3, fI.2⟩, it3⟩
    have mk : kd ∈ kx :: kd :: r := List.mem_cons_of_mem _ List.mem_cons_self
    have mx : kx ∈ kx :: kd :: r := List.mem_cons_self
    show wpAny _ X.A.in1 (tryCatch (holding [vy, ky] (richCompare .Lt ky ku >>= _)) _ >>= _) _ _ _
    refine wpAny_bind (wpAny_tryCatch (wpAny_holding (wpAny_bind (key_lt I3 sm3 (by show X.A.units + 1 + 60 < cLine; omega) rky rk pky (Rep.mono X3.b _ _ pk) (ok.ok _ mk) (ok.ok _ mx) (ok.nn _ mk) (ok.al _ mk _ mx) ?_))))
    refine wpAny_bind (wpAny_holding (wpAny_truthy_bool ?_))
    refine wpAny_bind (wpAny_letGo (wpAny_pure ?_))
    cases hb' : D.lt kd kx with
    | true =>
      simp only [if_true]
      refine wpAny_bind (wpAny_updateSeq hS3 rfl (wpAny_bind (wpAny_letGo ?_)))
      rw [nm]
      refine wpAny_pure ⟨plainId_quiet F.plain_min_loop _, ih r (j + 1) _ H3 B3 y kd vy ky wy wky _ hd' hr' (ok.sub fun z hz => List.mem_cons_of_mem _ hz) (a3.touch (t' := s3.toks) (h' := s3.heap.update S (Obj.mapSeq fun _ => #[vy, ky])) (fun b o hb e => (Heap.get?_update_other _ _ (Ne.symm hb)).trans e) ne)
        (Heap.get?_update_self _ hS3 rfl) rvy (Rep.mono X3.b _ _ (Rep.mono a2.ext.b _ _ pwy)) rky pky fun v s' w' H1 B1 q1 q2 q3 q4 q5 => hR v s' w' H1 B1 q1 q2 q3 q4 (by rw [leastK, hb', if_pos rfl]; exact q5)⟩
    | false =>
      simp only [Bool.false_eq_true, if_false]
      refine wpAny_bind (wpAny_letGo ?_)
      rw [nm]
      exact wpAny_pure ⟨plainId_quiet F.plain_min_loop _, ih r (j + 1) _ H3 B3 x kx u ku w wk c hd' hr' (ok.sub fun z hz => by
          rcases List.mem_cons.mp hz with z1 | z1
          · exact z1 ▸ List.mem_cons_self
          · exact List.mem_cons_of_mem _ (List.mem_cons_of_mem _ z1)) a3 hS3 ru (Rep.mono X3.b _ _ pu) rk (Rep.mono X3.b _ _ pk) fun v s' w' H1 B1 q1 q2 q3 q4 q5 => hR v s' w' H1 B1 q1 q2 q3 q4 (by rw [leastK, hb', if_neg (by decide)]; exact q5)⟩
/-- what is asked of the call: the list, the def of the keys; what it gives -/
def rKey [Wd] (K : PySem.W.Frag) (q : KeyQ) (f : Addr) (φ : List ML.D → Option Sv) : List V → List V → Hp → VK → Prop := fun xs zs H Q => zs = [.ref f] ∧ ∃ B a d s, xs = [.ref a] ∧ Same B H ∧ Rep K B (.ref a) d ∧ keyF φ q d = some s ∧
  ∀ v H1 B1 H' B', Same B1 H1 → Ext B H (fun _ => False) B1 H1 (fun _ => False) → New K B1 H1 s v H' B' → Q v H'
theorem cr_minKey (Fo : FnOk X.prog X.w X.K X.mg X.base (L2.CX X.prog X.w) k f fd ps (spF X.K φ ps.length)) (hr : Room (k + 2) X.A) (hb : Binds X.K fd ps []) (h1 : ps.length = 1) (hc : X.calm = true) : CallRK X (.builtin "min") [Str.ofString "key"] (rKey X.K .min f φ) := by
  intro pins s σ H xs zs us ws Q I r rz h
  obtain ⟨rfl, B, l, d, sv, rfl, sm, rp, e, q⟩ := h
  obtain rfl := Vals.ref1 r
  obtain rfl := Vals.ref1 rz
  have un : X.A.units + 100 < cLine := by have := hr.un; omega
  cases d with
  | lst ds =>
    rw [keyF] at e
    obtain ⟨ks, e1, e⟩ := bind_some e
    cases rp with
    | lst hl hv hz =>
      rename_i vs
      cases ds with
      | nil => cases ks <;> cases e
      | cons x ds =>
        obtain ⟨kx, r', hx, hr', rfl⟩ := keysOf_cons e1
        rw [minK] at e
        split at e
        · rename_i ok
          cases e
          simp only [Bool.and_eq_true] at ok
          have kok : KeysOk (kx :: r') := ⟨okds_mem ok.1.1, fun a ha => List.all_eq_true.mp ok.1.2 a ha, alikeAll_mem ok.2⟩
          have nm : (toString "min" ++ toString ".loop" : String) = "min.loop" := by decide
          have hlH : H l = some (.lst vs) := sm _ _ hl
          obtain ⟨its, rv, pl, hz'⟩ := I.list (SqL.of hlH)
          obtain ⟨w0, ew0, pw0⟩ := hv.get (i := 0) (d := x) rfl
          obtain ⟨v0, ev0, rv0⟩ := rv.get ew0
          refine PyProof.Rows.kmk_tree F.kind_min F.plain_min F.entry_min (PyProof.Rows.kmk_min_key _ _) ?_
          show wpAny _ X.A.in1 (Builtin.Builtins.bindParams "min" ["key", "default"] 0 ⟨[], [(Str.ofString "key", .ref f)]⟩ >>= _) _ _ s
          refine wpAny_bind (wpAny_of_eq (show Builtin.Builtins.bindParams "min" ["key", "default"] 0 ⟨[], [(Str.ofString "key", .ref f)]⟩ = pure [some (.ref f), none] from rfl) (wpAny_bind (wpAny_pure ?_)))
          refine wpAny_bind (wpAny_pyIter_list pl.isList (wpAny_bind (wpAny_newObj_type ?_)))
          have lt0 : l < s.heap.objs.size := by
            obtain ⟨o, ho, _⟩ := pl.isList
            exact Heap.lt_size ho
          have I1 : Inv X pins σ H { s with heap := s.heap.push { cls := .type "list_iterator", data := .fields #[.ref l, .int 0 0] } } := I.kept (t' := s.toks) fun b o e => Heap.get?_push_of_some _ e
          have sz1 : (s.heap.push { cls := .type "list_iterator", data := .fields #[.ref l, .int 0 0] }).objs.size = s.heap.objs.size + 1 := Heap.size_push ..
          have f_it : FpOk X pins H s.heap.objs.size := I.fpOk (Nat.le_refl _) (I.hok.fresh (Nat.le_refl _))
          have f_S : FpOk X pins H (s.heap.objs.size + 1) := I.fpOk (Nat.le_succ _) (I.hok.fresh (Nat.le_succ _))
          rw [nm, sz1]
          refine wpAny_pure ⟨plainId_quiet F.plain_min_loop _, ?_⟩
          -- the first item
          have I2 : Inv X pins σ H { s with heap := (s.heap.push { cls := .type "list_iterator", data := .fields #[.ref l, .int 0 0] }).push { cls := .type "list", data := .seq #[] 0 } } := I1.kept (t' := s.toks) fun b o e => Heap.get?_push_of_some _ e
          have hS : ((s.heap.push { cls := .type "list_iterator", data := .fields #[.ref l, .int 0 0] }).push { cls := .type "list", data := .seq #[] 0 }).get? (s.heap.objs.size + 1) = some { cls := .type "list", data := .seq #[] 0 } := by
            rw [← sz1]
            exact Heap.get?_push_size _ rfl
          have hI : ((s.heap.push { cls := .type "list_iterator", data := .fields #[.ref l, .int 0 0] }).push { cls := .type "list", data := .seq #[] 0 }).IsListIter s.heap.objs.size l 0 :=
            ⟨_, Heap.get?_push_of_some _ (Heap.get?_push_size _ rfl), rfl, rfl⟩
          have a0 : KAt X pins σ B H (s.heap.objs.size + 1) s.heap.objs.size l 0 { s with heap := (s.heap.push { cls := .type "list_iterator", data := .fields #[.ref l, .int 0 0] }).push { cls := .type "list", data := .seq #[] 0 } } H B :=
            ⟨I2, sm, .refl, f_S, f_it, hI⟩
          generalize hs0 : ({ s with heap := (s.heap.push { cls := .type "list_iterator", data := .fields #[.ref l, .int 0 0] }).push { cls := .type "list", data := .seq #[] 0 } } : Shared) = s0 at a0
          have hS0 : s0.heap.get? (s.heap.objs.size + 1) = some { cls := .type "list", data := .seq #[] 0 } := by rw [← hs0]; exact hS
          have goal0 : codeAny (model X.prog X.w) X.A (.builtin "min.loop" ⟨[.ref s.heap.objs.size, .ref f, .ref (s.heap.objs.size + 1)], []⟩) (fun r s' => match r with
              | .ok (.ret v) => EP X pins σ Q v s'
              | .ok _ => False
              | .error e => X.xe e s') s0 := by
            obtain ⟨its', rv', pl', _⟩ := a0.inv.list (SqL.of hlH)
            obtain ⟨v0', ev0', rv0'⟩ := rv'.get ew0
            have ne : s.heap.objs.size + 1 ≠ s.heap.objs.size := Nat.succ_ne_self _
            refine codeAny_builtin F.entry_min_loop ?_
            rw [Around.under_plainId F.plain_min_loop _]
            show wpAny _ X.A.in1 (seqItems? (.ref (s.heap.objs.size + 1)) >>= _) _ _ s0
            refine wpAny_bind (wpAny_seqItems hS0 rfl ?_)
            show wpAny _ X.A.in1 (tryCatch (pyNext (.ref s.heap.objs.size)) _ >>= _) _ _ s0
            refine wpAny_bind (wpAny_tryCatch (wpAny_pyNext_list_item a0.iter pl'.isList (x := v0') (by simpa using ev0') fun h2 i2 k2 => ?_))
            have keep2 : ∀ b o, b ≠ s.heap.objs.size → s0.heap.get? b = some o → h2.get? b = some o := fun b o hb e => (k2.2 b hb).trans e
            have hS2 := keep2 _ _ ne hS0
            have a2 := a0.walk keep2 i2
            show wpAny _ X.A.in1 (tryCatch (holding [v0'] (call (.ref f) [v0'])) _ >>= _) _ _ _
            refine wpAny_bind (wpAny_tryCatch (wpAny_holding (key_call Fo (.inl rfl) hr hb h1 a2.inv a2.same rv0' pw0 hx fun ky s3 wky H3 B3 I3 sm3 X3 rky pky keep3 os3 => ?_)))
            obtain ⟨hS3, nS3⟩ := keep3 _ _ hS2 f_S.1 f_S.2.1 f_S.2.2.1
            have it3 : s3.heap.IsListIter s.heap.objs.size l (0 + 1) := a2.iter.at fun o e => (keep3 _ o e f_it.1 f_it.2.1 f_it.2.2.1).1
            have nI3 : H3 s.heap.objs.size = none := by
              obtain ⟨o, e, _⟩ := a2.iter
              exact (keep3 _ o e f_it.1 f_it.2.1 f_it.2.2.1).2
            have a3 : KAt X pins σ B H (s.heap.objs.size + 1) s.heap.objs.size l (0 + 1) s3 H3 B3 := ⟨I3, sm3, ext_go a2.ext X3, ⟨nS3, f_S.2⟩, ⟨nI3, f_it.2⟩, it3⟩
            show wpAny _ X.A.in1 (updateSeq (s.heap.objs.size + 1) (fun _ => #[v0', ky]) >>= _) _ _ _
            refine wpAny_bind (wpAny_updateSeq hS3 rfl ?_)
            rw [nm]
            refine wpAny_pure ⟨plainId_quiet F.plain_min_loop _, ?_⟩
            refine min_go Fo hr hb h1 hc hlH hv ne _ ds r' (0 + 1) _ H3 B3 x kx v0' ky w0 wky _ rfl hr' kok (a3.touch (t' := s3.toks) (h' := s3.heap.update (s.heap.objs.size + 1) (Obj.mapSeq fun _ => #[v0', ky])) (fun b o hb e => (Heap.get?_update_other _ _ (Ne.symm hb)).trans e) ne)
              (Heap.get?_update_self _ hS3 rfl) rv0' (Rep.mono X3.b _ _ pw0) rky pky fun v s' w' H1 B1 q1 q2 q3 q4 q5 => ?_
            exact ⟨w', H1, q1, q4, q _ _ _ _ _ q2 q3 (.old q5)⟩
          refine codeAny_mono goal0 fun r s' hr => ?_
          cases r with
          | error e => exact hr
          | ok fl =>
            cases fl with
            | ret v => exact hr
            | _ => exact hr.elim
        · cases e
  | _ => cases e
end
end ML
set_option Elab.async false
set_option linter.all false
set_option autoImplicit false
set_option maxRecDepth 100000
set_option maxHeartbeats 4000000
/-! MLkys: sorted by a key that one of the text's own defs tells. -/
namespace ML
open PySem L2 PySem.W
section
variable [Wd] {X : Cx} {pins : List (Addr × Obj)} {σ : St} {B H : Hp} {s : Shared} {φ : List ML.D → Option Sv} {k : Nat} {f : Addr} {fd : FuncData} {ps : List Str}
/-- two records of ours have turned, and the second one is tracked now as a list -/
theorem Inv.taken (I : Inv X pins σ H s) {kS a : Addr} {h' : Heap} {t' : Nat} {vs : List V} {its : List Value} {c : Nat} (fk : FpOk X pins H kS) (fa : FpOk X pins H a) (kp : ∀ b o, b ≠ a → b ≠ kS → s.heap.get? b = some o → h'.get? b = some o)
    (ha : h'.get? a = some { cls := .type "list", data := .seq its.toArray c }) (rv : Vals vs its) (hz : vs.length ≤ sizeLine) : Inv X pins σ (upd H a (.lst vs)) { s with heap := h', toks := t' } := by
  have out : ∀ b, b ∉ [kS, a] → b ≠ a ∧ b ≠ kS := fun b hb => by
    simp only [List.mem_cons, List.not_mem_nil, or_false, not_or] at hb
    exact ⟨hb.2, hb.1⟩
  have not_a : ∀ b u, H b = some u → b ≠ a := fun b u e z => by rw [z, fa.1] at e; cases e
  have not_k : ∀ b u, H b = some u → b ≠ kS := fun b u e z => by rw [z, fk.1] at e; cases e
  refine I.step (g' := s.gens) (d' := s.drawn) (ch := [kS, a]) (fun b hb => ?_) (fun b o _ _ hc e _ => kp b o (out b hc).1 (out b hc).2 e) (fun b o _ _ hc e _ => ⟨o.slots, kp b o (out b hc).1 (out b hc).2 e⟩)
    (fun b o hc _ n => by rw [upd_ne (out b hc).1]; exact n) (fun b o hc e => ⟨o, kp b o (out b hc).1 (out b hc).2 e⟩) (fun b xs e => by rw [upd_ne (not_a b _ e)]; exact e) (fun b o u e => by rw [upd_ne (not_a b _ e)]; exact e)
    (fun b ps e => ⟨#[], by rw [upd_ne (not_a b _ e), e]; simp⟩) (fun m hm => ?_) (fun b u e => ?_) I.bare
  · rcases List.mem_cons.mp hb with e | e
    · subst e
      exact ⟨fk.2.2.2.1, fk.2.1, fk.2.2.2.2.1, fk.2.2.2.2.2⟩
    · obtain rfl := List.mem_singleton.mp e
      exact ⟨fa.2.2.2.1, fa.2.1, fa.2.2.2.2.1, fa.2.2.2.2.2⟩
  · obtain ⟨o, es, ep, ho, r⟩ := hm
    exact ⟨o, es, ep, kp _ o (Ne.symm fa.2.1) (Ne.symm fk.2.1) ho, r⟩
  · by_cases hb : b = a
    · subst hb
      rw [upd_same] at e
      cases e
      exact ⟨hz, its, c, rv, ha⟩
    · rw [upd_ne hb] at e
      refine (I.hok b u e).stay (fun d v hd q => kp d v ?_ ?_ q) (fun d q => by rw [upd_ne (not_a d _ q)]; exact q) (fun d xs q => by rw [upd_ne (not_a d _ q)]; exact q)
      · rcases hd with rfl | hd
        · exact hb
        · exact not_a d _ hd
      · rcases hd with rfl | hd
        · exact not_k _ _ e
        · exact not_k d _ hd
theorem keysOf_at : ∀ {xs ks : List ML.D} {i : Nat} {x : ML.D}, keysOf φ xs = some ks → xs[i]? = some x → ∃ kd, ks[i]? = some kd ∧ φ [x] = some (.fro kd)
  | [], _, i, _, _, h => by simp at h
  | y :: xs, ks, 0, x, e, h => by
    obtain ⟨kd, r, e1, _, rfl⟩ := keysOf_cons e
    rw [List.getElem?_cons_zero] at h
    cases h
    exact ⟨kd, rfl, e1⟩
  | y :: xs, ks, i + 1, x, e, h => by
    obtain ⟨kd, r, _, e2, rfl⟩ := keysOf_cons e
    rw [List.getElem?_cons_succ] at h
    rw [List.getElem?_cons_succ]
    exact keysOf_at e2 h
theorem each_zip : ∀ {vs : List V} {us : List Value} {xs ks : List ML.D}, Vals vs us → Reps X.K B vs xs → ks.length = xs.length → PySem.W.EachIs (fun (v : Value) (p : ML.D × ML.D) => ∃ w, RelV w v ∧ Rep X.K B w p.1) us (xs.zip ks)
  | _, _, _, [], .nil, .nil, _ => .nil
  | _, _, _, [], .cons _ _, .cons _ _, h => by simp at h
  | _, _, _, _ :: _, .nil, .nil, h => by simp at h
  | _, _, _, _ :: ks, .cons r t, .cons a b, h => .cons ⟨_, r, a⟩ (each_zip t b (by simpa using h))
theorem each_fst : ∀ {us : List Value} {qs : List (ML.D × ML.D)}, PySem.W.EachIs (fun (v : Value) (p : ML.D × ML.D) => ∃ w, RelV w v ∧ Rep X.K B w p.1) us qs → ∃ vs, Vals vs us ∧ Reps X.K B vs (qs.map (·.1))
  | _, _, .nil => ⟨[], .nil, .nil⟩
  | _, _, .cons ⟨w, r, a⟩ t => by
    obtain ⟨vs, h1, h2⟩ := each_fst t
    exact ⟨w :: vs, .cons r h1, .cons a h2⟩
theorem zip_map_py {xs ks : List ML.D} (h : ks.length = xs.length) : (xs.zip ks).map (fun p => p.2.py) = ks.map ML.D.py := by
  have : (xs.zip ks).map (·.2) = ks := List.map_snd_zip (by omega)
  have e : (xs.zip ks).map (fun p => p.2.py) = ((xs.zip ks).map (·.2)).map ML.D.py := by rw [List.map_map]; rfl
  rw [e, this]
theorem sortK_eq {xs ks : List ML.D} (ho : ML.D.okds 40 ks = true) (hal : alikeAll ks = true) : ((xs.zip ks).mergeSort (PySem.W.dataLe false fun p => p.2.py)).map (·.1) = sortK xs ks := by
  unfold sortK
  have := List.map_mergeSort (r := PySem.W.dataLe false fun p : ML.D × ML.D => p.2.py) (s := fun a b : ML.D × ML.D => !ML.D.lt b.2 a.2) (f := id) (l := xs.zip ks) (fun a ha b hb => by
    have ma := (List.of_mem_zip (a := a.1) (b := a.2) ha).2
    have mb := (List.of_mem_zip (a := b.1) (b := b.2) hb).2
    rw [PySem.W.dataLe_eq]
    show (!PySem.W.dataLt b.2.py a.2.py) = _
    rw [lt_py b.2 a.2 40 40 (okds_mem ho _ mb) (okds_mem ho _ ma) (alikeAll_mem hal _ mb _ ma)]
    rfl)
  rw [List.map_id, List.map_id] at this
  rw [this]
/-- list.sort(key=f) of a list of ours, that is tracked behind it -/
theorem sort_key {A : Around} (Fo : FnOk X.prog X.w X.K X.mg X.base (L2.CX X.prog X.w) k f fd ps (spF X.K φ ps.length)) (hA : A = X.A.in1 ∨ A = X.A.in1.in1) (hr : Room (k + 2) X.A) (hb : Binds X.K fd ps []) (h1 : ps.length = 1) (I : Inv X pins σ H s) (sm : Same B H) {a : Addr} {n : Nat} {its : List Value} {vs : List V} {xs ks : List ML.D}
    (fa : FpOk X pins H a) (ho : s.heap.get? a = some (PyProof.Rows.seqObj "list" its.toArray n)) (rv : Vals vs its) (hv : Reps X.K B vs xs) (hz : vs.length ≤ sizeLine) (hk : keysOf φ xs = some ks) (ok : ML.D.okds 40 ks = true) (full : ks.all ML.D.full = true) (hal : alikeAll ks = true) {E : Value → Shared → Prop} {P : PySem.Fin → Shared → Prop}
    (q : ∀ s' vs' H1 B1, Inv X pins σ (upd H1 a (.lst vs')) s' → H1 a = none → Same B1 H1 → Ext B H (fun _ => False) B1 H1 (fun _ => False) → Reps X.K B1 vs' (sortK xs ks) → P (.done (.ret .none)) s') :
    wpAny (model X.prog X.w) A (Builtin.«list.sort» ⟨[.ref a], [(Str.ofString "key", .ref f)]⟩) P E s := by
  have un : A.units + 60 < cLine := by
    have := hr.un
    rcases hA with rfl | rfl
    · show X.A.units + 1 + 60 < cLine; omega
    · show X.A.units + 1 + 1 + 60 < cLine; omega
  have hzi : its.length ≤ sizeLine := by rw [← rv.length]; exact hz
  have lt_a : a < s.heap.objs.size := Heap.lt_size ho
  rw [PyProof.Rows.ksk_t1]
  unfold PyProof.Rows.ksk_tree
  refine wpAny_bind (PyProof.Rows.listItems_at ho rfl ?_)
  refine wpAny_bind (PyProof.Rows.listUpdate_at ho rfl ?_ (by rw [List.size_toArray]; exact hzi) (Nat.zero_le _))
  obtain ⟨e1, ho1⟩ : ∃ e1, (s.heap.update a (Obj.mapSeq fun _ => (#[] : Array Value))).get? a = some (PyProof.Rows.seqObj "list" #[] e1) := ⟨_, PyProof.Rows.get?_update_seq ho fun _ => #[]⟩
  refine wpAny_bind (PyProof.Rows.seqEpoch_at ho1 rfl ?_)
  refine wpAny_bind (wpAny_newTuple ?_ (by show its.length ≤ _; exact hzi))
  refine wpAny_bind (wpAny_newList ?_ (Nat.zero_le _))
  refine wpAny_holding ?_
  obtain ⟨f0, f1, f2, f3, f4, f5⟩ := fa
  have I1 : Inv X pins σ H { s with heap := s.heap.update a (Obj.mapSeq fun _ => (#[] : Array Value)) } := I.turned (t' := s.toks) (fun b o hb e => (Heap.get?_update_other _ _ (Ne.symm hb)).trans e) f0 f1 f3 f4 f5
  have I2 : Inv X pins σ H { s with heap := ((s.heap.update a (Obj.mapSeq fun _ => (#[] : Array Value))).push (PyProof.Rows.seqObj "tuple" its.toArray 0)).push (PyProof.Rows.seqObj "list" #[] 0) } := I1.kept (t' := s.toks) fun b o e => Heap.get?_push_of_some _ (Heap.get?_push_of_some _ e)
  have sz : ((s.heap.update a (Obj.mapSeq fun _ => (#[] : Array Value))).push (PyProof.Rows.seqObj "tuple" its.toArray 0)).objs.size = s.heap.objs.size + 1 := by rw [PyProof.Rows.size_push', Heap.size_update]
  have hkS : (((s.heap.update a (Obj.mapSeq fun _ => (#[] : Array Value))).push (PyProof.Rows.seqObj "tuple" its.toArray 0)).push (PyProof.Rows.seqObj "list" #[] 0)).get? (s.heap.objs.size + 1) = some (PyProof.Rows.seqObj "list" #[] 0) := by
    rw [← sz]
    exact Heap.get?_push_size _ rfl
  have ha2 : (((s.heap.update a (Obj.mapSeq fun _ => (#[] : Array Value))).push (PyProof.Rows.seqObj "tuple" its.toArray 0)).push (PyProof.Rows.seqObj "list" #[] 0)).get? a = some (PyProof.Rows.seqObj "list" #[] e1) := Heap.get?_push_of_some _ (Heap.get?_push_of_some _ ho1)
  have fS : FpOk X pins H (s.heap.objs.size + 1) := I.fpOk (Nat.le_succ _) (I.hok.fresh (Nat.le_succ _))
  have ne : a ≠ s.heap.objs.size + 1 := Nat.ne_of_lt (Nat.lt_succ_of_lt lt_a)
  have hlen := keysOf_len hk
  have hlx : xs.length = its.length := by rw [← hv.length, rv.length]
  show wpAny (model X.prog X.w) A (PyProof.Rows.ksk_rest a (.ref f) false its.toArray e1 (.ref (_ : Heap).objs.size)) P E _
  rw [sz]
  generalize hs2 : ({ s with heap := ((s.heap.update a (Obj.mapSeq fun _ => (#[] : Array Value))).push (PyProof.Rows.seqObj "tuple" its.toArray 0)).push (PyProof.Rows.seqObj "list" #[] 0) } : Shared) = s2 at I2
  have hkS' : s2.heap.get? (s.heap.objs.size + 1) = some (PyProof.Rows.seqObj "list" #[] 0) := by rw [← hs2]; exact hkS
  have ha2' : s2.heap.get? a = some (PyProof.Rows.seqObj "list" #[] e1) := by rw [← hs2]; exact ha2
  generalize hkey : s.heap.objs.size + 1 = kS at hkS' fS ne
  unfold PyProof.Rows.ksk_rest
  refine wpAny_bind (wpAny_rule ?_)
  first
    | rw [List.forIn_toArray]
    | (rw [← Array.forIn_toList]; simp only [List.toList_toArray])
    | rw [← Array.forIn_toList]
  refine wpAny_bind (PyProof.Rows.ksk_fold (fun i s' => ∃ (H' B' : Hp) (wks : List V) (kA : Array Value) (e : Nat), Inv X pins σ H' s' ∧ Same B' H' ∧ Ext B H (fun _ => False) B' H' (fun _ => False) ∧ H' a = none ∧ H' kS = none ∧ s'.heap.get? kS = some (PyProof.Rows.seqObj "list" kA e) ∧
      s'.heap.get? a = some (PyProof.Rows.seqObj "list" #[] e1) ∧ Vals wks kA.toList ∧ Reps X.K B' wks (ks.take i)) its 0 s2 ⟨H, B, [], #[], 0, I2, sm, .refl, f0, fS.1, hkS', ha2', .nil, by rw [List.take_zero]; exact .nil⟩ ?step ?done)
  case step =>
    rintro j x s' hx ⟨H', B', wks, kA, e, I', sm', X', na, nk, hk', ha', rk, pk⟩
    simp only [Nat.zero_add] at pk ⊢
    obtain ⟨wx, ewx, rx⟩ : ∃ w, vs[j]? = some w ∧ RelV w x := by
      have hlt : j < its.length := (List.getElem?_eq_some_iff.mp hx).1
      obtain ⟨u, g1, g2⟩ := rv.get (List.getElem?_eq_getElem (l := vs) (i := j) (by rw [rv.length]; exact hlt))
      rw [hx] at g1
      cases g1
      exact ⟨_, List.getElem?_eq_getElem (by rw [rv.length]; exact hlt), g2⟩
    obtain ⟨d, ed, pd⟩ := hv.getV ewx
    obtain ⟨kd, ekd, hφ⟩ := keysOf_at hk ed
    refine wpAny_bind (wpAny_attempt (key_call Fo hA hr hb h1 I' sm' rx (Rep.mono X'.b _ _ pd) hφ fun u s3 wk H3 B3 I3 sm3 X3 ru pu keep3 os3 => ?_))
    try dsimp only
    obtain ⟨hk3, nk3⟩ := keep3 kS _ hk' nk fS.2.1 fS.2.2.1
    obtain ⟨ha3, na3⟩ := keep3 a _ ha' na f1 f2
    have hz' : kA.size ≤ its.length := by
      have h2 : wks.length = kA.size := by rw [rk.length, Array.length_toList]
      have h3 : wks.length = min j ks.length := by rw [pk.length, List.length_take]
      have h4 : ks.length = its.length := hlen.trans hlx
      rw [← h2, h3, h4]
      exact Nat.min_le_right _ _
    have szp : (kA.push u).size ≤ sizeLine + 1 := by rw [Array.size_push]; omega
    refine wpAny_bind (PyProof.Rows.listUpdate_at hk3 rfl ?_ (Nat.le_trans hz' hzi) szp)
    obtain ⟨c2, hc2⟩ : ∃ c2, (s3.heap.update kS (Obj.mapSeq (·.push u))).get? kS = some (PyProof.Rows.seqObj "list" (kA.push u) c2) := ⟨_, PyProof.Rows.get?_update_seq hk3 (·.push u)⟩
    have other : ∀ b o, b ≠ kS → s3.heap.get? b = some o → (s3.heap.update kS (Obj.mapSeq (·.push u))).get? b = some o := fun b o hb e => (Heap.get?_update_other _ _ (Ne.symm hb)).trans e
    have I4 := I3.turned (t' := s3.toks) (h' := s3.heap.update kS (Obj.mapSeq (·.push u))) other nk3 fS.2.1 fS.2.2.2.1 fS.2.2.2.2.1 fS.2.2.2.2.2
    have ek : ks.take (j + 1) = ks.take j ++ [kd] := by rw [List.take_add_one, ekd]; rfl
    refine wpAny_pure ⟨rfl, H3, B3, wks ++ [wk], kA.push u, c2, I4, sm3, ext_go X' X3, na3, nk3, hc2, other a _ ne ha3, ?_, ?_⟩
    · rw [Array.toList_push]
      exact rk.append (.cons ru .nil)
    · rw [ek]
      exact (Reps.mono X3.b _ _ pk).append (.cons pu .nil)
  case done =>
    rintro s' ⟨H', B', wks, kA, e, I', sm', X', na, nk, hk', ha', rk, pk⟩
    have full' : ks.take (0 + its.length) = ks := List.take_of_length_le (by omega)
    rw [full'] at pk
    have er : PySem.W.EachIs (fun v d => ∃ as, Reads s'.heap v d as) kA.toList (ks.map ML.D.py) := PySem.W.each_map ML.D.py (each_reads I' sm' ok (each_rep rk pk))
    have sk : PySem.W.Sortable (ks.map ML.D.py) := .inl fun d hd => by
      obtain ⟨b, hb, rfl⟩ := List.mem_map.mp hd
      have := List.all_eq_true.mp full b hb
      cases b with
      | tup ys =>
        cases ys with
        | nil => simp [ML.D.full] at this
        | cons y ys => exact ⟨_, _, rfl⟩
      | _ => simp [ML.D.full] at this
    have hal' := alikeAll_py ok hal
    have S := PySem.W.SortsAt.data (prog := X.prog) (w := X.w) (A := A) (s := s') er hal' sk (fun d hd => by
      obtain ⟨b, hb, rfl⟩ := List.mem_map.mp hd
      have := (canLay_of _ _ (okds_mem ok b hb)).2
      omega)
    have hsz : kA.size = its.length := by
      have h2 : wks.length = kA.size := by rw [rk.length, Array.length_toList]
      rw [← h2, pk.length, hlen, hlx]
    try dsimp only
    refine wpAny_bind (PyProof.Rows.listItems_at hk' rfl ?_)
    have kp : PySem.W.KeepsBut a (PySem.W.hideAll s'.heap [kS]) s'.heap := fun b o _ e => PySem.W.of_hideAll [kS] e
    refine PySem.W.keyH_end (κ := PySem.W.dataKind s'.heap (ks.map ML.D.py)) (h₁ := PySem.W.hideAll s'.heap [kS]) kp (PySem.W.hideAll_none [kS] List.mem_cons_self) hk' ha' (Ne.symm ne) S hsz hzi fun h3 tk3 c3 k3 n3 => ?_
    have ko : PySem.W.KeyedOut false ((xs.zip ks).map fun p => p.2.py) its (PySem.W.sortVals (PySem.W.dataKind s'.heap (ks.map ML.D.py)) false kA.toList its) := by
      rw [zip_map_py hlen]
      exact ⟨s'.heap, kA.toList, hal', rfl, er⟩
    have eo := PySem.W.keyedOut_each (fun p : ML.D × ML.D => p.2.py) ko (each_zip rv hv hlen)
    obtain ⟨vs', w1, w2⟩ := each_fst eo
    rw [sortK_eq ok hal] at w2
    have hz3 : vs'.length ≤ sizeLine := by
      rw [w1.length, PySem.W.sortVals_length false (by rw [Array.length_toList]; exact hsz)]
      exact hzi
    have J := Inv.taken (t' := tk3) (h' := h3) I' (kS := kS) (a := a) (vs := vs') ⟨nk, fS.2⟩ ⟨na, f1, f2, f3, f4, f5⟩ (fun b o hb hc e => k3 b o hb (PySem.W.hideAll_get [kS] e (by simpa using hc))) n3 w1 hz3
    exact q _ vs' H' B' J na sm' X' (Reps.mono X'.b _ _ w2)
theorem sortK_len (xs ks : List ML.D) (h : ks.length = xs.length) : (sortK xs ks).length = xs.length := by
  unfold sortK
  rw [List.length_map, List.length_mergeSort, List.length_zip, h, Nat.min_self]
theorem cr_sortKey (Fo : FnOk X.prog X.w X.K X.mg X.base (L2.CX X.prog X.w) k f fd ps (spF X.K φ ps.length)) (hr : Room (k + 2) X.A) (hb : Binds X.K fd ps []) (h1 : ps.length = 1) : CallRK X (.builtin "sorted") [Str.ofString "key"] (rKey X.K .sorted f φ) := by
  intro pins s σ H xs zs us ws Q I r rz h
  obtain ⟨rfl, B, l, d, sv, rfl, sm, rp, e, q⟩ := h
  obtain rfl := Vals.ref1 r
  obtain rfl := Vals.ref1 rz
  cases d with
  | lst ds =>
    rw [keyF] at e
    obtain ⟨ks, e1, e⟩ := bind_some e
    split at e
    · rename_i ok
      cases e
      simp only [Bool.and_eq_true] at ok
      replace ok := ok.1
      cases rp with
      | lst hl hv hzl =>
        obtain ⟨its, rv, pl, hz⟩ := I.list (SqL.of (sm _ _ hl))
        have hzi : its.length ≤ sizeLine := by rw [← rv.length]; exact hz
        refine PySem.W.sorted_of_sort pl.isList hzi (PyProof.Rows.ksk_s1 _ _) (fun _ => PyProof.Rows.ksk_l1 _ _) fun E' => ?_
        have I1 : Inv X pins σ H { s with heap := PySem.W.copyHeap s.heap its } := I.kept (t' := s.toks) fun b o e => PySem.W.copyHeap_old e
        refine sort_key Fo (.inr rfl) hr hb h1 I1 sm (I.fpOk (Nat.le_succ _) (I.hok.fresh (Nat.le_succ _))) (PySem.W.copyHeap_at s.heap its) rv hv hz e1 ok.1.1 ok.1.2 ok.2 fun s' vs' H1 B1 J na sm1 X1 rp' => ⟨rfl, ?_⟩
        exact ⟨.ref _, _, J, rfl, q _ _ _ _ _ sm1 X1 (.own na rp' (by rw [sortK_len _ _ (keysOf_len e1)]; exact hzl))⟩
    · cases e
  | _ => cases e
end
section
variable [Wd] {X : Cx} {Φ : Nat → List ML.D → Option Sv} {F : List (Str × Nat)} {Gc : List (Str × ML.D)} {N : List Str} {sc : Scope} {k : Nat}
/-- the name of a def, as a value -/
theorem pe_def (g : Good X Φ F Gc N sc k) {z : Str} {f : Addr} {p : Pos} (hg : gloB sc z = true) (hp : plainB z = true) (hm : X.mg z = some (.ref f)) : PE X (.Name z p) (tC (.ref f)) := by
  obtain ⟨d1, d2, d3⟩ := plain_ne hp
  exact pe_glob (g.gl_ok hg) hm rfl d1
theorem blt_ok' {x : Str} (h : bltOk F Gc sc x = true) : F.lookup x = none ∧ (Gc.lookup x).isNone = true ∧ gloB sc x = true := by
  unfold bltOk at h
  simp only [Bool.and_eq_true, decide_eq_true_eq] at h
  exact ⟨h.1.1, h.1.2, h.2⟩
/-- some key was told -/
theorem keyF_some {φ : List ML.D → Option Sv} {q : KeyQ} {d : ML.D} {s : Sv} (h : keyF φ q d = some s) : ∃ x kd, φ [x] = some kd := by
  cases d with
  | lst ds =>
    cases ds with
    | nil => cases q <;> simp [keyF, keysOf, minK, Option.bnd] at h
    | cons x ds =>
      cases q <;> rw [keyF] at h <;> obtain ⟨ks, e, _⟩ := bind_some h <;> obtain ⟨kd, r, e1, _⟩ := keysOf_cons e <;> exact ⟨x, _, e1⟩
  | _ => cases q <;> cases h
theorem snd_keyf (g : Good X Φ F Gc N sc k) {q : KeyQ} {f : Nat} {m : ME} {y : Expr} {z : Str} {p p2 pos kp : Pos} (h1 : bltOk F Gc sc q.name = true) (hf : F.lookup z = some f) (hi : ioPos f = none) (hg : gloB sc z = true) (hp : plainB z = true) (hs : noStar y = true) (ha : PE X y (tE X.K Φ m)) :
    PE X (.Call (.Name q.name p) [y] [⟨some ("key" : Str), .Name z p2, kp⟩] pos) (tE X.K Φ (.keyf q f m)) := by
  obtain ⟨a, fd, ps, hm, hk, hb, Fo, hl⟩ := g.fn z f hp hf
  rw [spG_none hi] at Fo
  obtain ⟨a1, a2, a3⟩ := blt_ok' h1
  have m1 : X.mg q.name = none := g.bl _ a1 (Option.isNone_iff_eq_none.mp a2) (by cases q <;> decide +kernel)
  have pk : PK X [⟨some ("key" : Str), .Name z p2, kp⟩] (tCons (tC (.ref a)) tNil) := pk_cons (pe_def g hg hp hm) pk_nil
  have pa : PA X [y] (tCons (tE X.K Φ m) tNil) := pa_cons ha pa_nil (star_cons hs _ _)
  have st := star_cons hs [] X.env
  by_cases hps : ps.length = 1
  · have pe : PE X (.Call (.Name q.name p) [y] [⟨some ("key" : Str), .Name z p2, kp⟩] pos) (tCKw (rKey X.K q a (Φ f)) (tCons (tE X.K Φ m) tNil) (tCons (tC (.ref a)) tNil)) := by
      cases q
      · exact pe_callBK (cr_minKey Fo g.room hb hps g.calm) (g.gl_ok a3) m1 (by decide +kernel) pa pk (by decide +kernel) (by decide +kernel) (by rw [st]; rfl) (by rw [st]; rfl)
      · exact pe_callBK (cr_sortKey Fo g.room hb hps) (g.gl_ok a3) m1 (by decide +kernel) pa pk (by decide +kernel) (by decide +kernel) (by rw [st]; rfl) (by rw [st]; rfl)
    refine PE.imp pe fun σ H Q ⟨B, ρ, r, ρ', E, e, k⟩ => ?_
    rw [evE] at e
    obtain ⟨p1, e1, e⟩ := bind_some e
    obtain ⟨z1, e2, e⟩ := bind_some e
    obtain ⟨s, e3, e⟩ := bind_some e
    obtain ⟨r', e4, e5⟩ := map_some e
    cases e5
    refine ⟨B, ρ, p1.1, p1.2, E, e1, fun v H1 B1 E1 X1 R1 => ?_⟩
    obtain ⟨B1', E1', X1', O1⟩ := op_of E1 X1 R1
    obtain ⟨B2, E2, X2, rp⟩ := frz_ok E1' O1 e2
    obtain ⟨d, ρ2⟩ := z1
    refine ⟨rfl, B2, ?_⟩
    cases d with
    | lst ds =>
      cases rp with
      | lst h2 h3 h4 =>
        refine ⟨_, _, s, rfl, E2.same, .lst h2 h3 h4, e3, fun u H3 B3 H4 B4 sm3 X3 n => ?_⟩
        obtain ⟨E3, X3'⟩ := E2.call sm3 X3
        obtain ⟨E4, X4, r4, f', R4⟩ := n.ok E3 ((X1'.trans X2).trans X3')
        rw [e4] at f'
        cases f'
        exact k u H4 B4 E4 X4 R4
    | _ => cases q <;> cases e3
  · refine ⟨fun pins s σ H Q I ⟨B, ρ, r, ρ', E, e, k⟩ => ?_⟩
    rw [evE] at e
    obtain ⟨p1, e1, e⟩ := bind_some e
    obtain ⟨z1, e2, e⟩ := bind_some e
    obtain ⟨s, e3, e⟩ := bind_some e
    obtain ⟨x, kd, e4⟩ := keyF_some e3
    exact absurd (hl _ _ e4).symm hps
end
end ML
set_option Elab.async false
set_option linter.all false
set_option autoImplicit false
set_option maxRecDepth 100000
set_option maxHeartbeats 4000000
/-! MLdct: the displays of dicts. -/
namespace ML
open PySem L2
section
variable [Wd] {X : Cx}
theorem emp_ok {P : Program} {w : World} {H : Hp} (hP : P = Wd.P) (hw : w = Wd.w) (h : Heap) (hb : sysModules < h.objs.size) : ObjOk P w H (h.push { cls := .type "dict", data := .dict #[] }) h.objs.size (DicAt h.objs.size [] 0) := by
  subst hP hw
  refine ⟨⟨beq_eq_false_iff_ne.mpr (Ne.symm (Nat.ne_of_lt hb)), Nat.zero_le _, [], .nil, _, #[], Heap.get?_push_size _ rfl, ⟨rfl, rfl, rfl⟩, rfl, rfl, List.nodup_nil⟩, ⟨_, Heap.get?_push_size _ rfl⟩, fun h1 h2 p k => ?_⟩
  obtain ⟨a1, a2, xs', a3, o', es2, b1, b2⟩ := p
  exact ⟨a1, a2, xs', a3, o', es2, k _ b1, b2⟩
def tDic0 : TE := fun _ H Q => ∀ p, H p = none → Q (.ref p) (upd H p (DicAt p [] 0))
theorem pe_dic0 {pos : Pos} (hP : X.prog = Wd.P) (hw : X.w = Wd.w) : PE X (.Dict [] [] pos) tDic0 := ⟨fun pins s σ H Q I h =>
  wpAny_Dict_empty ⟨.ref s.heap.objs.size, _, I.laid (a := s.heap.objs.size) (o := DicAt s.heap.objs.size [] 0) (t' := s.toks) (fun _ _ q => Heap.get?_push_of_some _ q) (Nat.le_refl _) (emp_ok hP hw s.heap I.big), rfl, h _ (I.hok.fresh (Nat.le_refl _))⟩⟩
/-- {k: v}, k a tuple -/
def tDic1 (K : PySem.W.Frag) (tk tv : TE) : TE := fun σ H Q => ∀ p, H p = none → tk σ (upd H p (DicAt p [] 0)) fun x H1 => tv σ H1 fun y H2 =>
  ∃ b ks, x = .ref b ∧ H2 p = some (DicAt p [] 0) ∧ SqT K H2 b (ks.map kV) ∧ ∀ ep, Q (.ref p) (upd H2 p (DicAt p [(ks, b, y)] ep))
theorem pe_dic1 (hP : X.prog = Wd.P) (hw : X.w = Wd.w) (hu : X.A.units < cLine) {k v : Expr} {pos : Pos} {tk tv : TE} (hk : PE X k tk) (hv : PE X v tv) : PE X (.Dict [some k] [v] pos) (tDic1 X.K tk tv) := by
  refine ⟨fun pins s σ H Q I h => ?_⟩
  rw [arm_eval_Dict, zip_pairTrees [some k] [v] X.env pos rfl rfl, dictDisplay_pairs _ (by simp [pairTrees]) (by simp [pairTrees])]
  have fr := I.hok.fresh (Nat.le_refl _)
  have I0 := I.laid (a := s.heap.objs.size) (o := DicAt s.heap.objs.size [] 0) (t' := s.toks) (fun _ _ q => Heap.get?_push_of_some _ q) (Nat.le_refl _) (emp_ok hP hw s.heap I.big)
  refine wpAny_bind (wpAny_standAt (wpAny_bind (wpAny_subDictH (knd := tupleKind (mixKind X.prog X.w)) (Q := fun d s' => wpAny (model X.prog X.w) X.A (pure (Value.ref d)) (EP X pins σ Q) X.xe s') hu (by simp [pairTrees]) ?_)))
  refine pairTrees_cons_walk (thn (hk.run pins _ σ _ _ I0 (h _ fr)) fun u s1 ⟨x, H1, I1, rx, q1⟩ => thn (hv.run pins s1 σ H1 _ I1 q1) fun u2 s2 ⟨y, H2, I2, ry, b, ks, ex, hp, hb, q2⟩ => pairTrees_nil_walk ?_)
  subst ex
  obtain rfl : u = Value.ref b := rx
  obtain ⟨xs, row, dd, hs, _⟩ := dic_open (es := []) hP hw I2 (Same.refl _) hp rfl (fun p hp => nomatch hp) .nil
  cases row
  refine ⟨[(ks, b, u2)], ⟨rfl, rfl, key_is I2 hb, trivial⟩, dd, fun h' tk dd' sb => wpAny_pure ?_⟩
  have dd' : h'.DictOfH (tupleKind (mixKind X.prog X.w)) s.heap.objs.size [(ks, b, u2)] := dd'
  have he : ∃ q, h'.get? s.heap.objs.size = some q := by
    obtain ⟨ob, _, _, h, _⟩ := dd'
    exact ⟨ob, h⟩
  obtain ⟨ep, ok⟩ := dic_ok hP hw hs (kvs := [(ks, b, y)]) (Nat.succ_le_of_lt (by rw [← line_eq]; decide)) (.cons ⟨rfl, rfl, ry⟩ .nil) dd'
  exact ⟨.ref s.heap.objs.size, _, d_write I2 (by rw [hp]; exact True.intro) sb he (ok _), rfl, q2 ep⟩
end
section
variable [Wd] {X : Cx} {Φ : Nat → List D → Option Sv} {F : List (Str × Nat)} {Gc : List (Str × D)} {N : List Str} {sc : Scope} {k : Nat}
/-- an object that is no slot's is written -/
theorem EnvOk.write {K : PySem.W.Frag} {B H : Hp} {ρ : Env} {σ : L2.St} {p : Addr} {o : HO} (E : EnvOk K B H ρ σ) (hB : B p = none) (hn : ¬ OwnS ρ σ p) : EnvOk K B (upd H p o) ρ σ where
  same := fun b u e => by rw [upd_ne (ne_of_none e hB)]; exact E.same b u e
  fro := E.fro
  own := fun i d h => by
    obtain ⟨a, h1, u, h3, h4, c⟩ := E.own i d h
    refine ⟨a, h1, u, h3, ?_, c⟩
    rw [upd_ne]
    · exact h4
    · rintro rfl
      exact hn ⟨i, d, h, h1⟩
  apart := E.apart
  len := E.len
theorem snd_dct0 (g : Good X Φ F Gc N sc k) {t : Bool} {pos : Pos} : PE X (.Dict [] [] pos) (tE X.K Φ (.dct t [])) := by
  have fin : ∀ {σ : L2.St} {H B : Hp} {ρ : Env} {Q : VK} {d : D} {p : Addr} {o : HO}, EnvOk X.K B H ρ σ → H p = none → Cell X.K B p o d →
      (∀ v H' B', EnvOk X.K B' H' ρ σ → Ext B H (OwnS ρ σ) B' H' (OwnS ρ σ) → RvOk X.K B' H' H ρ σ (.own d) v → Q v H') → Q (.ref p) (upd H p o) := by
    intro σ H B ρ Q d p o E hp c q
    obtain ⟨E1, X1⟩ := E.laid (o := o) hp
    exact q _ _ _ E1 X1 ⟨p, rfl, ⟨o, E.free hp, upd_same, c⟩, hp, E.notOwn hp⟩
  cases t with
  | false =>
    refine PE.imp pe_dnewK fun σ H Q ⟨B, ρ, r, ρ', E, e, q⟩ p hp => ?_
    have e : some (Rv.own (.dK []), ρ) = some (r, ρ') := by
      rw [← e, evE, evEs]
      rfl
    cases e
    exact fin E hp (.dK rfl .nil) q
  | true =>
    refine PE.imp (pe_dic0 g.hP g.hw) fun σ H Q ⟨B, ρ, r, ρ', E, e, q⟩ p hp => ?_
    have e : some (Rv.own (.dT []), ρ) = some (r, ρ') := by
      rw [← e, evE, evEs]
      rfl
    cases e
    exact fin E hp (.dT rfl (fun p hp => nomatch hp) .nil) q
theorem snd_dct1 (g : Good X Φ F Gc N sc k) {mk mv : ME} {a b : Expr} {pos : Pos} (ha : PE X a (tE X.K Φ mk)) (hb : PE X b (tE X.K Φ mv)) : PE X (.Dict [some a] [b] pos) (tE X.K Φ (.dct true [mk, mv])) := by
  refine PE.imp (pe_dic1 g.hP g.hw (by have := g.hu; omega) ha hb) fun σ H Q ⟨B, ρ, r, ρ', E, e, q⟩ p hp => ?_
  rw [evE] at e
  obtain ⟨p1, e1, e⟩ := bind_some e
  obtain ⟨p2, e2, e⟩ := bind_some e
  obtain ⟨d, e3, e4⟩ := map_some e
  cases e4
  rw [evEs] at e1
  obtain ⟨pk, f1, e1⟩ := bind_some e1
  obtain ⟨p3, f2, e1⟩ := bind_some e1
  cases e1
  rw [evEs] at f2
  obtain ⟨pv, f3, f2⟩ := bind_some f2
  rw [evEs] at f2
  cases f2
  obtain ⟨E0, X0⟩ := E.laid (o := DicAt p [] 0) hp
  refine ⟨B, ρ, pk.1, pk.2, E0, f1, fun x H1 B1 E1 X1 R1 => ?_⟩
  obtain ⟨B1', E1', X1', O1⟩ := op_of E1 X1 R1
  refine ⟨B1', pk.2, pv.1, pv.2, E1', f3, fun y H2 B2 E2 X2 R2 => ?_⟩
  obtain ⟨B2', E2', X2', O2⟩ := op_of E2 X2 R2
  obtain ⟨B3, E3, X3, R3⟩ := frzs_ok E2' (.cons (O1.mono X2'.b) (.cons O2 .nil)) e2
  have XT := (X1'.trans X2').trans X3
  have hnp : ¬ OwnS ρ σ p := E.notOwn hp
  have h2 : H2 p = some (DicAt p [] 0) := XT.keep p _ upd_same hnp
  have hB : B3 p = none := by
    cases z : B3 p with
    | none => rfl
    | some u =>
      rcases XT.base p u z with y | y | y
      · rw [E.free hp] at y; cases y
      · rw [upd_same] at y; cases y
      · exact absurd y hnp
  have hn' : ¬ OwnS p2.2 σ p := fun z => by
    rcases XT.own p z with y | y
    · exact hnp y
    · rw [upd_same] at y; cases y
  obtain ⟨ds, ρ'⟩ := p2
  dsimp only at e3 R3 E3 XT hn' q ⊢
  cases R3 with
  | @cons _ _ kd _ rk R3 =>
    cases R3 with
    | @cons _ _ vd _ rv R3 =>
      cases R3
      have e3 : dput (.dT []) kd vd = some d := e3
      cases kd with
      | tup ks0 =>
        have e3 : ((asKeys ks0).bnd fun k => if ([] : List (List Key × D)).length < LINE then some (D.dT (putD [] k vd)) else none) = some d := e3
        obtain ⟨ks, hk, e3⟩ := bind_some e3
        rw [if_pos (by decide)] at e3
        cases e3
        obtain ⟨b', rfl, hb'⟩ := Rep1.keyT (H := H2) (.fro rk) hk
        refine ⟨b', ks, rfl, h2, same_sqT E3.same hb', fun ep => ?_⟩
        have XX := X0.trans XT
        refine q _ _ _ (E3.write hB hn') ⟨XX.b, fun a o h n => ?_, fun a h => ?_, XX.own, XX.base⟩ ⟨p, rfl, ⟨_, hB, upd_same, .dT rfl (fun w hw => ?_) (.cons rv .nil)⟩, hp, hn'⟩
        · rw [upd_ne (fun y => by rw [y, hp] at h; cases h)]
          exact XX.keep a o h n
        · by_cases y : a = p
          · rw [y]; exact hp
          · rw [upd_ne y] at h; exact XX.tr a h
        · rw [List.mem_singleton.mp hw]; exact hb'
      | _ => cases e3
end
end ML
set_option Elab.async false
set_option linter.all false
set_option autoImplicit false
set_option maxRecDepth 100000
set_option maxHeartbeats 4000000
/-! MLkeyd: sorted(d.keys(), key=f). -/
namespace ML
section
open PySem PySem.W PySem.Calls PyProof.Rows
variable {prog : Program} {w : World} {A : Around} {E : Value → Shared → Prop} {s : Shared} {T : String} {r d : Addr} {n : Nat} {P : Nat → Value → Prop} {OK : Heap → Prop}
/-- sorted(r, ..) where r gives its items by a source: the items stand in a new list, which list.sort then has -/
theorem sorted_src {kw : List (Str × Value)} {Q : Value → Shared → Prop} (K : KdlSrc prog w T r d n P OK) (hh : A.handled = none) (hok : OK s.heap) (hn : n ≤ sizeLine) (ha1 : argsOk "sorted" ⟨[.ref r], kw⟩) (ha2 : ∀ x, argsOk "list.sort" ⟨[.ref x], kw⟩)
    (body : ∀ (E' : Value → Shared → Prop) (h' : Heap) (tk : Nat) (acc : Array Value), (∀ b o, s.heap.get? b = some o → h'.get? b = some o) → ItemsOf P acc n →
      wpAny (model prog w) A.in1.in1 (Builtin.«list.sort» ⟨[.ref h'.objs.size], kw⟩) (fun f s' => f = .done (.ret .none) ∧ Q (.ref h'.objs.size) s') E' { s with heap := h'.push { cls := .type "list", data := .seq acc.toList.toArray }, toks := tk }) :
    wpAny (model prog w) A (call (.builtin "sorted") [.ref r] kw) Q E s := by
  apply call_function_entry_kw kind_sorted plain_sorted entry_sorted ha1
  unfold Builtin.«sorted»
  apply wpAny_bind (m := checkCount "sorted" 1 1 _)
  apply wpAny_pure
  apply wpAny_bind
  apply kdu_collect (A := A.in1) K hh hok hn
  intro h' tk acc old items
  have fit : acc.toList.length ≤ sizeLine := by simpa [items.1] using hn
  apply wpAny_bind
  apply wpAny_newList _ fit
  apply wpAny_bind
  refine wpAny_holding (wpAny_call_entry_kw slot_list_sort ⟨_, Heap.get?_push_size _ rfl, rfl⟩ entry_list_sort ?_ (ha2 _))
  refine wpAny_mono (body _ h' tk acc old items) ?_ fun _ _ raised => raised
  rintro _ s' ⟨rfl, q⟩
  exact ⟨_, rfl, wpAny_pure ⟨_, rfl, q⟩⟩
end
open PySem L2 PySem.W
/-- a view of a dict's keys -/
def keysO (p d : Addr) : HO := .ext fun h => KdlKeysView h p d
theorem keysO_ok {P : Program} {w : World} {H : Hp} {h : Heap} {p d : Addr} (e : h.get? p = some { cls := .type "dict_keys", data := .fields #[.ref d] }) : ObjOk P w H h p (keysO p d) :=
  ⟨⟨_, e, rfl, rfl⟩, ⟨_, e⟩, fun h1 h2 x k => let ⟨o, ho, r⟩ := x; ⟨o, k o ho, r⟩⟩
section
variable [Wd] {X : Cx} {φ : List ML.D → Option Sv} {k : Nat} {f : Addr} {fd : FuncData} {ps : List Str}
def tKeysV (K : PySem.W.Frag) (to : TE) : TE := fun σ H Q => to σ H fun x H1 => ∃ B es a, x = .ref a ∧ Same B H1 ∧ Rep K B x (.dT es) ∧ ∀ p, H1 p = none → Q (.ref p) (upd H1 p (keysO p a))
theorem pe_keysV (hP : X.prog = Wd.P) (hw : X.w = Wd.w) {o : Expr} {to : TE} {apos cpos : Pos} (ho : PE X o to)
    (hbase : attributeBase o "keys" X.env (eval o X.env) = eval o X.env := by rfl) (hline : (apos.endLine == cpos.line) = true := by rfl) : PE X (.Call (.Attribute o "keys" apos) [] [] cpos) (tKeysV X.K to) := by
  refine ⟨fun pins s σ H Q I h => ?_⟩
  refine wpAny_Call_method0_late hbase hline (thn (ho.run pins s σ H _ I h) fun v s1 ⟨x, H1, I1, r1, B, es, a, ex, sm, rp, q1⟩ => ?_)
  subst ex
  obtain rfl : v = Value.ref a := r1
  obtain ⟨a', kvs, _, e, ha, h1, h2, h3⟩ := Rep1.dic (H := H1) sm (.fro rp)
  cases e
  obtain ⟨xs, row, dd, hs, hz⟩ := dic_open hP hw I1 sm ha h1 h2 h3
  obtain ⟨ob, es', ep, ho', hx, hdat, _⟩ := id dd
  refine ⟨"dict", "dict.keys", F.plainAttrs_dict, F.slot_dict_keys, F.type_dict_keys, dd.typeIs, fun b e => by cases e; exact ⟨ob, ho', hx.2.1⟩, Calls.callWith_builtin rfl (PySem.evalArgs_none ?_)⟩
  refine call_meetsIn F.slot_dict_keys dd.typeIs F.entry_dict_keys (F.args_dict_keys_1 _) (meets_dict_keys_raw a hs) ⟨⟨es', ep, ob, ho', hx, hdat⟩, ?_⟩
  have hf : H1 s1.heap.objs.size = none := I1.hok.fresh (Nat.le_refl _)
  exact ⟨.ref s1.heap.objs.size, _, I1.laid (t' := s1.toks) (fun b u e => Heap.get?_push_of_some _ e) (Nat.le_refl _) (keysO_ok (Heap.get?_push_size _ rfl)), rfl, q1 _ hf⟩
theorem drow_vals {pins : List (Addr × Obj)} {σ : L2.St} {H B : Hp} {s : Shared} (I : Inv X pins σ H s) (sm : Same B H) : ∀ {es : List (List Key × ML.D)} {xs : List (List Key × Addr × Value)}, DRow X.K B es xs → Vals (xs.map fun x => V.ref x.2.1) (xs.map fun x => Value.ref x.2.1) ∧ Reps X.K B (xs.map fun x => V.ref x.2.1) (es.map fun e => .tup (e.1.map keyD))
  | _, _, .nil => ⟨.nil, .nil⟩
  | _, _, .cons (k := k) a _ _ t => by
    obtain ⟨h1, h2⟩ := drow_vals I sm t
    obtain ⟨_, _, _, hz⟩ := I.tuple (same_sqT sm a)
    refine ⟨.cons rfl h1, .cons (.tup a (keys_reps k) ?_) h2⟩
    rw [List.length_map] at hz ⊢
    rw [line_eq]
    exact hz
/-- sorted(view, key=f) -/
def rKeyD (K : PySem.W.Frag) (f : Addr) (φ : List ML.D → Option Sv) : List V → List V → Hp → VK → Prop := fun xs zs H Q => zs = [.ref f] ∧ ∃ B p a es s, xs = [.ref p] ∧ Same B H ∧ H p = some (keysO p a) ∧ Rep K B (.ref a) (.dT es) ∧ keyF φ .sorted (keysD es) = some s ∧
  ∀ v H1 B1 H' B', Same B1 H1 → Ext B H (fun _ => False) B1 H1 (fun _ => False) → New K B1 H1 s v H' B' → Q v H'
theorem cr_keyD (hc : X.calm = true) (hP : X.prog = Wd.P) (hw : X.w = Wd.w) (Fo : FnOk X.prog X.w X.K X.mg X.base (L2.CX X.prog X.w) k f fd ps (spF X.K φ ps.length)) (hr : Room (k + 2) X.A) (hb : Binds X.K fd ps []) (h1 : ps.length = 1) : CallRK X (.builtin "sorted") [Str.ofString "key"] (rKeyD X.K f φ) := by
  intro pins s σ H xs zs us ws Q I r rz h
  obtain ⟨rfl, B, p, a, es, sv, rfl, sm, hp, rp, e, q⟩ := h
  obtain rfl := Vals.ref1 r
  obtain rfl := Vals.ref1 rz
  obtain ⟨a', kvs, _, ea, ha, h1', h2, h3⟩ := Rep1.dic (H := H) sm (.fro rp)
  cases ea
  obtain ⟨xs, row, dd, hs, hz⟩ := dic_open hP hw I sm ha h1' h2 h3
  obtain ⟨ob, es', ep, ho', hx, hdat, hes, _⟩ := id dd
  have view : KdlKeysView s.heap p a := (show ObjOk X.prog X.w H s.heap p (keysO p a) from I.hok p _ hp).1
  unfold keysD at e
  rw [keyF] at e
  obtain ⟨ks, e1, e⟩ := bind_some e
  split at e
  · rename_i ok
    cases e
    simp only [Bool.and_eq_true] at ok
    replace ok := ok.1
    have hlx : xs.length = es.length := row.length
    have hsz : es'.size = xs.length := size_of_entries hes
    have hn : es'.size ≤ sizeLine := by rw [hsz, hlx]; exact hz
    refine sorted_src (KdlSrc.rawKeys (r := p) (d := a) (es := es') (ep := ep)) (I.ok.hd hc) ⟨view, ob, ho', hx, hdat⟩ hn (PyProof.Rows.ksk_s1 _ _) (fun _ => PyProof.Rows.ksk_l1 _ _) fun E' h' tk acc hk hacc => ?_
    have eacc : acc.toList = xs.map fun x => Value.ref x.2.1 := by
      apply List.ext_getElem?
      intro j
      by_cases hj : j < es'.size
      · have hja : j < acc.size := by rw [hacc.1]; exact hj
        obtain ⟨hi, ev⟩ := hacc.2 j acc[j] (Array.getElem?_eq_getElem hja)
        have en := entry_at hes j
        have hjx : j < xs.length := by omega
        rw [Array.getElem?_eq_getElem hi, List.getElem?_eq_getElem hjx, Option.map_some] at en
        have en := Option.some.inj en
        rw [Array.getElem?_toList, Array.getElem?_eq_getElem hja, List.getElem?_map, List.getElem?_eq_getElem hjx, Option.map_some, ev, en]
        rfl
      · rw [List.getElem?_eq_none (by rw [Array.length_toList, hacc.1]; omega), List.getElem?_eq_none (by rw [List.length_map]; omega)]
    obtain ⟨rv, rr⟩ := drow_vals I sm row
    have I1 : Inv X pins σ H { s with heap := h', toks := tk } := I.kept (t' := tk) hk
    have I2 : Inv X pins σ H { s with heap := h'.push { cls := .type "list", data := .seq acc.toList.toArray }, toks := tk } := I1.kept (t' := tk) fun b o e => Heap.get?_push_of_some _ e
    have fr : H h'.objs.size = none := I1.hok.fresh (Nat.le_refl _)
    have fp : FpOk X pins H h'.objs.size := I1.fpOk (Nat.le_refl _) fr
    have ob' : (h'.push { cls := .type "list", data := .seq acc.toList.toArray }).get? h'.objs.size = some (PyProof.Rows.seqObj "list" (xs.map fun x => Value.ref x.2.1).toArray 0) := by
      rw [← eacc]
      exact Heap.get?_push_size _ rfl
    refine sort_key Fo (.inr rfl) hr hb h1 I2 sm fp ob' rv rr (by rw [List.length_map, hlx]; exact hz) e1 ok.1.1 ok.1.2 ok.2 fun s' vs' H1 B1 J na sm1 X1 rp' => ⟨rfl, ?_⟩
    exact ⟨.ref _, _, J, rfl, q _ _ _ _ _ sm1 X1 (.own na rp' (by rw [sortK_len _ _ (keysOf_len e1), List.length_map, line_eq]; exact hz))⟩
  · cases e
end
section
variable [Wd] {X : Cx} {Φ : Nat → List D → Option Sv} {F : List (Str × Nat)} {Gc : List (Str × D)} {N : List Str} {sc : Scope} {k : Nat}
theorem snd_keyd (g : Good X Φ F Gc N sc k) {f : Nat} {m : ME} {y z : Str} {py ap cp p p2 pos kp : Pos} (h1 : bltOk F Gc sc "sorted" = true) (hf : F.lookup z = some f) (hi : ioPos f = none) (hg : gloB sc z = true) (hp : plainB z = true) (hl' : (ap.endLine == cp.line) = true) (ha : PE X (.Name y py) (tE X.K Φ m)) :
    PE X (.Call (.Name "sorted" p) [.Call (.Attribute (.Name y py) "keys" ap) [] [] cp] [⟨some ("key" : Str), .Name z p2, kp⟩] pos) (tE X.K Φ (.keyd f m)) := by
  obtain ⟨a, fd, ps, hm, hk, hb, Fo, hl⟩ := g.fn z f hp hf
  rw [spG_none hi] at Fo
  obtain ⟨a1, a2, a3⟩ := blt_ok' h1
  have m1 : X.mg "sorted" = none := g.bl _ a1 (Option.isNone_iff_eq_none.mp a2) (by decide +kernel)
  have pk : PK X [⟨some ("key" : Str), .Name z p2, kp⟩] (tCons (tC (.ref a)) tNil) := pk_cons (pe_def g hg hp hm) pk_nil
  have pv := pe_keysV g.hP g.hw (apos := ap) (cpos := cp) ha rfl hl'
  have pa : PA X [.Call (.Attribute (.Name y py) "keys" ap) [] [] cp] (tCons (tKeysV X.K (tE X.K Φ m)) tNil) := pa_cons pv pa_nil (star_cons rfl _ _)
  have st := star_cons (e := .Call (.Attribute (.Name y py) "keys" ap) [] [] cp) rfl [] X.env
  by_cases hps : ps.length = 1
  · have pe : PE X (.Call (.Name "sorted" p) [.Call (.Attribute (.Name y py) "keys" ap) [] [] cp] [⟨some ("key" : Str), .Name z p2, kp⟩] pos) (tCKw (rKeyD X.K a (Φ f)) (tCons (tKeysV X.K (tE X.K Φ m)) tNil) (tCons (tC (.ref a)) tNil)) :=
      pe_callBK (cr_keyD g.calm g.hP g.hw Fo g.room hb hps) (g.gl_ok a3) m1 (by decide +kernel) pa pk (by decide +kernel) (by decide +kernel) (by rw [st]; rfl) (by rw [st]; rfl)
    refine PE.imp pe fun σ H Q ⟨B, ρ, r, ρ', E, e, k⟩ => ?_
    rw [evE] at e
    obtain ⟨p1, e1, e⟩ := bind_some e
    obtain ⟨z1, e2, e⟩ := bind_some e
    obtain ⟨d, e3, e⟩ := bind_some e
    obtain ⟨s, e4, e⟩ := bind_some e
    obtain ⟨r', e5, e6⟩ := map_some e
    cases e6
    refine ⟨B, ρ, p1.1, p1.2, E, e1, fun v H1 B1 E1 X1 R1 => ?_⟩
    obtain ⟨B1', E1', X1', O1⟩ := op_of E1 X1 R1
    obtain ⟨B2, E2, X2, rp⟩ := frz_ok E1' O1 e2
    obtain ⟨dd, ρ2⟩ := z1
    dsimp only at e3
    cases dd with
    | dT es =>
      cases e3
      have rp0 := rp
      cases rp with
      | dT h2 h3 h4 h5 =>
        refine ⟨B2, es, _, rfl, E2.same, rp0, fun q hq => ⟨rfl, ?_⟩⟩
        obtain ⟨E3, X3⟩ := E2.laid (o := keysO q _) hq
        refine ⟨B2, q, _, es, s, rfl, E3.same, upd_same, rp0, e4, fun u H3 B3 H4 B4 sm3 X4 n => ?_⟩
        obtain ⟨E4, X4'⟩ := E3.call sm3 X4
        obtain ⟨E5, X5, r4, f', R4⟩ := n.ok E4 (((X1'.trans X2).trans X3).trans X4')
        rw [e5] at f'
        cases f'
        exact k u H4 B4 E5 X5 R4
    | _ => cases e3
  · refine ⟨fun pins s σ H Q I ⟨B, ρ, r, ρ', E, e, k⟩ => ?_⟩
    rw [evE] at e
    obtain ⟨p1, e1, e⟩ := bind_some e
    obtain ⟨z1, e2, e⟩ := bind_some e
    obtain ⟨d, e3, e⟩ := bind_some e
    obtain ⟨s, e4, e⟩ := bind_some e
    obtain ⟨x, kd, e5⟩ := keyF_some e4
    exact absurd (hl _ _ e5).symm hps
end
end ML
set_option Elab.async false
set_option linter.all false
set_option autoImplicit false
set_option maxRecDepth 100000
set_option maxHeartbeats 4000000
/-! MLlzip: list(zip(a, b)), a and b lists: a new tuple at each turn. -/
namespace ML
section
open PySem PySem.W
theorem zip_no_len : typeLookup (.type "zip") "__len__" = pure none := am_miss_of_fast (by decide +kernel)
theorem zip_no_hint : typeLookup (.type "zip") "__length_hint__" = pure none := am_miss_of_fast (by decide +kernel)
variable {prog : Program} {w : World} {A : Around} {E : Value → Shared → Prop} {s : Shared} {z TI TO i1 i2 l1 l2 S : Addr} {xs ys : Array Value}
theorem neHi {a b c : Nat} (h : a < b) (h2 : b ≤ c) : c ≠ a := by omega
theorem neLo {a b c : Nat} (h : a < b) (h2 : b ≤ c) : a ≠ c := by omega
/-- a zip of two lists ahead of turn i; the tuples of the turns behind it lie side by side from b on -/
structure ZipAt (z TI TO i1 i2 l1 l2 : Addr) (xs ys : Array Value) (b i : Nat) (h : Heap) : Prop where
  size : h.objs.size = b + i
  it1 : h.IsListIter i1 l1 i
  it2 : h.IsListIter i2 l2 i
  src1 : h.IsList l1 xs
  src2 : h.IsList l2 ys
  args : IsPair h TI (.ref i1) (.ref i2)
  made : ∀ j, j < i → ∃ x y, xs[j]? = some x ∧ ys[j]? = some y ∧ IsPair h (b + j) x y
  own : (i = 0 ∧ IsZip h z TI TO .none ∧ ∃ u v, IsPair h TO u v) ∨ (0 < i ∧ ∃ f, IsZipHeld h z TI TO b f)
/-- all that the zip is made of lies ahead of b -/
structure Ahead (z TI TO i1 i2 l1 l2 b : Nat) : Prop where
  z : z < b
  TI : TI < b
  TO : TO < b
  i1 : i1 < b
  i2 : i2 < b
  l1 : l1 < b
  l2 : l2 < b
/-- a turn: what it leaves of the heap -/
theorem ZipAt.step {b i : Nat} {h g : Heap} {x y : Value} (D : ZipApart z TI TO i1 i2 l1 l2) (L : Ahead z TI TO i1 i2 l1 l2 b) (st : ZipAt z TI TO i1 i2 l1 l2 xs ys b i h) (ex : xs[i]? = some x) (ey : ys[i]? = some y)
    (kp : ∀ c o, c ≠ z → c ≠ TO → c ≠ i1 → c ≠ i2 → h.get? c = some o → g.get? c = some o) (n1 : g.IsListIter i1 l1 (i + 1)) (n2 : g.IsListIter i2 l2 (i + 1)) (pr : IsPair g (b + i) x y) (sz : g.objs.size = b + i + 1)
    (ow : ∃ f, IsZipHeld g z TI TO b f) : ZipAt z TI TO i1 i2 l1 l2 xs ys b (i + 1) g where
  size := sz
  it1 := n1
  it2 := n2
  src1 := st.src1.at fun o => kp l1 o D.l1z D.l1TO D.l1i1 D.l1i2
  src2 := st.src2.at fun o => kp l2 o D.l2z D.l2TO D.l2i1 D.l2i2
  args := kp TI _ D.TIz D.TITO D.TIi1 D.TIi2 st.args
  made j hj := by
    by_cases e : j = i
    · subst e
      exact ⟨x, y, ex, ey, pr⟩
    · obtain ⟨u, v, q1, q2, q3⟩ := st.made j (by omega)
      have far := Nat.le_add_right b j
      exact ⟨u, v, q1, q2, kp (b + j) _ (neHi L.z far) (neHi L.TO far) (neHi L.i1 far) (neHi L.i2 far) q3⟩
  own := .inr ⟨i.succ_pos, ow⟩
/-- the next tuple of the zip comes to lie at the heap's end -/
theorem ZipAt.next {b i : Nat} {x y : Value} {Q : Option Value → Shared → Prop} (D : ZipApart z TI TO i1 i2 l1 l2) (L : Ahead z TI TO i1 i2 l1 l2 b) (st : ZipAt z TI TO i1 i2 l1 l2 xs ys b i s.heap) (ex : xs[i]? = some x) (ey : ys[i]? = some y)
    (k : ∀ g, ZipAt z TI TO i1 i2 l1 l2 xs ys b (i + 1) g → (∀ c o, c ≠ z → c ≠ TO → c ≠ i1 → c ≠ i2 → s.heap.get? c = some o → g.get? c = some o) → Q (some (.ref (b + i))) { s with heap := g }) : wpAny (model prog w) A (pyNext (.ref z)) Q E s := by
  rcases st.own with ⟨i0, oz, u, v, ot⟩ | ⟨ip, f, oz⟩
  · apply wpAny_pyNext_zip_item D oz st.args ot st.it1 st.it2 st.src1 st.src2 ex ey
    intro g a1 _ a3 a4 a5 a6 a7
    rw [st.size] at a1 a5 a6 ⊢
    exact k g (st.step D L ex ey a7 a3 a4 a5 a6 ⟨false, by subst i0; exact a1⟩) a7
  · obtain ⟨u, v, _, _, first⟩ := st.made 0 ip
    apply wpAny_pyNext_zip_item_held D oz first st.args st.it1 st.it2 st.src1 st.src2 ex ey
    intro g a1 a3 a4 a5 a6 a7
    rw [st.size] at a5 a6 ⊢
    have a8 : ∀ c o, c ≠ z → c ≠ TO → c ≠ i1 → c ≠ i2 → s.heap.get? c = some o → g.get? c = some o := fun c o m1 _ m3 m4 => a7 c o m1 m3 m4
    exact k g (st.step D L ex ey a8 a3 a4 a5 a6 ⟨true, a1⟩) a8
theorem ZipAt.out {b i : Nat} {Q : Option Value → Shared → Prop} (hh : A.handled = none) (D : ZipApart z TI TO i1 i2 l1 l2) (st : ZipAt z TI TO i1 i2 l1 l2 xs ys b i s.heap) (ex : xs[i]? = none)
    (k : ∀ g, (∀ c o, c ≠ z → c ≠ TO → c ≠ i1 → c ≠ i2 → s.heap.get? c = some o → g.get? c = some o) → Q none { s with heap := g }) : wpAny (model prog w) A (pyNext (.ref z)) Q E s := by
  rcases st.own with ⟨_, oz, u, v, ot⟩ | ⟨ip, f, oz⟩
  · exact wpAny_pyNext_zip_end hh D oz st.args ot st.it1 st.it2 st.src1 st.src2 (.inl ex) k
  · obtain ⟨u, v, _, _, first⟩ := st.made 0 ip
    exact wpAny_pyNext_zip_end_held hh D oz first st.args st.it1 st.it2 st.src1 st.src2 (.inl ex) fun g a => k g fun c o m1 _ m3 m4 => a c o m1 m3 m4
/-- a change elsewhere -/
theorem ZipAt.aside {b i : Nat} {h g : Heap} (L : Ahead z TI TO i1 i2 l1 l2 S) (hb : S < b) (st : ZipAt z TI TO i1 i2 l1 l2 xs ys b i h) (sz : g.objs.size = h.objs.size) (kp : ∀ c o, c ≠ S → h.get? c = some o → g.get? c = some o) : ZipAt z TI TO i1 i2 l1 l2 xs ys b i g := by
  have n (c : Nat) (hc : c < S) : c ≠ S := neLo hc (Nat.le_refl S)
  refine ⟨sz.trans st.size, st.it1.at fun o => kp i1 o (n _ L.i1), st.it2.at fun o => kp i2 o (n _ L.i2), st.src1.at fun o => kp l1 o (n _ L.l1), st.src2.at fun o => kp l2 o (n _ L.l2), kp TI _ (n _ L.TI) st.args, ?_, ?_⟩
  · intro j hj
    obtain ⟨u, v, q1, q2, q3⟩ := st.made j hj
    exact ⟨u, v, q1, q2, kp (b + j) _ (neHi hb (Nat.le_add_right b j)) q3⟩
  · rcases st.own with ⟨e, oz, u, v, ot⟩ | ⟨e, f, oz⟩
    · exact .inl ⟨e, kp z _ (n _ L.z) oz, u, v, kp TO _ (n _ L.TO) ot⟩
    · exact .inr ⟨e, f, kp z _ (n _ L.z) oz⟩
/-- the list at S, and what lies in it -/
def Holds (h : Heap) (S : Addr) (vs : List Value) : Prop := ∃ a c, h.get? S = some { cls := .type "list", dict := none, data := .seq a c, slots := #[] } ∧ a.toList = vs
/-- the refs of n addresses side by side -/
def row (b n : Nat) : List Value := (List.range' b n).map Value.ref
theorem row_next (b n : Nat) : row b (n + 1) = row b n ++ [.ref (b + n)] := by
  unfold row
  rw [List.range'_concat, List.map_append, Nat.one_mul]
  rfl
/-- what list(zip) ends in -/
def Zipped (s : Shared) (z TO i1 i2 S : Addr) (xs ys : Array Value) (b : Nat) (g : Heap) : Prop :=
  (∀ c o, c ≠ S → c ≠ z → c ≠ TO → c ≠ i1 → c ≠ i2 → s.heap.get? c = some o → g.get? c = some o) ∧ Holds g S (row b xs.size) ∧ ∀ j, j < xs.size → ∃ x y, xs[j]? = some x ∧ ys[j]? = some y ∧ IsPair g (b + j) x y
theorem zip_fills {R : Result → Shared → Prop} {b : Nat} (hh : A.handled = none) (D : ZipApart z TI TO i1 i2 l1 l2) (L : Ahead z TI TO i1 i2 l1 l2 S) (hb : S < b) (hxy : xs.size = ys.size) (hn : xs.size ≤ sizeLine) (res : Value)
    (fin : ∀ g tk, Zipped s z TO i1 i2 S xs ys b g → R (.ok (.ret res)) { s with heap := g, toks := tk }) : ∀ (left i : Nat) (h : Heap) (tk : Nat), i + left = xs.size → ZipAt z TI TO i1 i2 l1 l2 xs ys b i h → Holds h S (row b i) →
      (∀ c o, c ≠ S → c ≠ z → c ≠ TO → c ≠ i1 → c ≠ i2 → s.heap.get? c = some o → h.get? c = some o) → codeAny (model prog w) A (.builtin "list.extend.loop" ⟨[.ref S, .ref z, res], []⟩) R { s with heap := h, toks := tk } := by
  have Lb : Ahead z TI TO i1 i2 l1 l2 b := ⟨Nat.lt_trans L.z hb, Nat.lt_trans L.TI hb, Nat.lt_trans L.TO hb, Nat.lt_trans L.i1 hb, Nat.lt_trans L.i2 hb, Nat.lt_trans L.l1 hb, Nat.lt_trans L.l2 hb⟩
  have away (c : Nat) (hc : S ≤ c) : c ≠ z ∧ c ≠ TO ∧ c ≠ i1 ∧ c ≠ i2 := ⟨neHi L.z hc, neHi L.TO hc, neHi L.i1 hc, neHi L.i2 hc⟩
  intro left
  induction left with
  | zero =>
    intro i h tk hl st hv hk
    obtain rfl : i = xs.size := by omega
    apply codeAny_builtin PySem.F.entry_extend_loop
    rw [PySem.Around.under_plainId PySem.F.plain_extend_loop]
    apply wpAny_bind (m := pyNext (.ref z))
    apply ZipAt.out (s := { s with heap := h, toks := tk }) (A := A.in1) hh D st (by simp)
    intro g kg
    apply wpAny_pure
    apply fin g tk
    have tr (c : Nat) (hc : S ≤ c) (o : Obj) : h.get? c = some o → g.get? c = some o := let ⟨m1, m2, m3, m4⟩ := away c hc; kg c o m1 m2 m3 m4
    obtain ⟨a, c, q, r⟩ := hv
    refine ⟨fun c o m0 m1 m2 m3 m4 e => kg c o m1 m2 m3 m4 (hk c o m0 m1 m2 m3 m4 e), ⟨a, c, tr S (Nat.le_refl S) _ q, r⟩, fun j hj => ?_⟩
    obtain ⟨u, v, q1, q2, q3⟩ := st.made j hj
    exact ⟨u, v, q1, q2, tr (b + j) (Nat.le_trans (Nat.le_of_lt hb) (Nat.le_add_right b j)) _ q3⟩
  | succ left ih =>
    intro i h tk hl st hv hk
    have b1 : i < xs.size := by omega
    have b2 : i < ys.size := by omega
    apply codeAny_builtin PySem.F.entry_extend_loop
    rw [PySem.Around.under_plainId PySem.F.plain_extend_loop]
    apply wpAny_bind (m := pyNext (.ref z))
    apply ZipAt.next (s := { s with heap := h, toks := tk }) (A := A.in1) D Lb st (Array.getElem?_eq_getElem b1) (Array.getElem?_eq_getElem b2)
    intro g sg kg
    obtain ⟨a, c, q, r⟩ := hv
    obtain ⟨m1, m2, m3, m4⟩ := away S (Nat.le_refl S)
    have q' := kg S _ m1 m2 m3 m4 q
    have len : a.size = i := by
      have := congrArg List.length r
      simpa [row] using this
    have there (c : Nat) (o : Obj) (m : c ≠ S) (e : g.get? c = some o) : (g.update S (Obj.mapSeq (·.push (.ref (b + i))))).get? c = some o := by rw [Heap.get?_update_other _ _ (Ne.symm m)]; exact e
    apply wpAny_bind (m := updateSeq S (·.push (.ref (b + i))))
    apply wpAny_updateSeq q' rfl (hz := by omega) (_hz' := by rw [Array.size_push]; omega)
    apply wpAny_pure
    refine ⟨plainId_quiet PySem.F.plain_extend_loop _, ih (i + 1) _ tk (by omega) (sg.aside L hb (Heap.size_update ..) fun c o m e => there c o m e) ⟨_, _, Heap.get?_update_self _ q' rfl, ?_⟩ fun c o m0 m1 m2 m3 m4 e => there c o m0 (kg c o m1 m2 m3 m4 (hk c o m0 m1 m2 m3 m4 e))⟩
    rw [row_next, ← r, Array.toList_push]
/-- list(z), z a zip of two lists of one length -/
theorem zip_lists {Q : Value → Shared → Prop} (hh : A.handled = none) (D : ZipApart z TI TO i1 i2 l1 l2) (L : Ahead z TI TO i1 i2 l1 l2 s.heap.objs.size) (oz : IsZip s.heap z TI TO .none) (oa : IsPair s.heap TI (.ref i1) (.ref i2)) (ot : ∃ u v, IsPair s.heap TO u v)
    (h1 : s.heap.IsListIter i1 l1 0) (h2 : s.heap.IsListIter i2 l2 0) (s1 : s.heap.IsList l1 xs) (s2 : s.heap.IsList l2 ys) (hxy : xs.size = ys.size) (hn : xs.size ≤ sizeLine)
    (k : ∀ g tk, Zipped s z TO i1 i2 s.heap.objs.size xs ys (s.heap.objs.size + 1) g → Q (.ref s.heap.objs.size) { s with heap := g, toks := tk }) : wpAny (model prog w) A (call (.type "list") [.ref z]) Q E s := by
  generalize eS : s.heap.objs.size = S at *
  let bare : Obj := { cls := .type "list", data := .seq #[] }
  -- what every change of the new list leaves
  have same {h : Heap} (hs : h.objs.size = S + 1) (hk : ∀ c o, c ≠ S → s.heap.get? c = some o → h.get? c = some o) : ZipAt z TI TO i1 i2 l1 l2 xs ys (S + 1) 0 h := by
    have n (c : Nat) (hc : c < S) : c ≠ S := neLo hc (Nat.le_refl S)
    obtain ⟨u, v, ot⟩ := ot
    exact ⟨hs, h1.at fun o => hk i1 o (n _ L.i1), h2.at fun o => hk i2 o (n _ L.i2), s1.at fun o => hk l1 o (n _ L.l1), s2.at fun o => hk l2 o (n _ L.l2), hk TI _ (n _ L.TI) oa, fun j hj => absurd hj (Nat.not_lt_zero j), .inl ⟨rfl, hk z _ (n _ L.z) oz, u, v, hk TO _ (n _ L.TO) ot⟩⟩
  have up {h : Heap} (f : Array Value → Array Value) (hk : ∀ c o, c ≠ S → s.heap.get? c = some o → h.get? c = some o) : ∀ c o, c ≠ S → s.heap.get? c = some o → (h.update S (Obj.mapSeq f)).get? c = some o := fun c o m e => by
    rw [Heap.get?_update_other _ _ (Ne.symm m)]
    exact hk c o m e
  apply callType_codes (Q₁ := fun x t => x = .ref S ∧ t = { s with heap := s.heap.push bare }) PySem.F.called_list (PySem.F.typeCall_list_1 _) PySem.F.entry_list_init
  · exact code_list_new _ ⟨by rw [eS], rfl⟩
  rintro _ _ ⟨rfl, rfl⟩
  have p0 : (s.heap.push bare).get? S = some bare := by rw [← eS]; exact Heap.get?_push_size _ rfl
  have k0 : ∀ c o, c ≠ S → s.heap.get? c = some o → (s.heap.push bare).get? c = some o := fun c o _ => Heap.get?_push_of_some _
  have z0 : (s.heap.push bare).objs.size = S + 1 := by rw [Heap.size_push, eS]
  refine ⟨⟨_, p0, rfl⟩, PySem.F.args_list_init_2 _ _, ?_⟩
  -- the old items, none
  apply wpAny_bind (m := Builtin.List.listItems (.ref S))
  unfold Builtin.List.listItems
  apply wpAny_bind
  apply wpAny_seqItems p0 rfl
  apply wpAny_pure
  apply wpAny_bind (m := updateSeq S fun _ => #[])
  apply wpAny_updateSeq p0 rfl
  have p1 := Heap.get?_update_self (Obj.mapSeq fun _ => (#[] : Array Value)) p0 rfl
  have k1 := up (fun _ => #[]) k0
  apply wpAny_bind
  apply wpAny_letGo
  -- the zip is asked for its type, for itself and for its length
  have tz {h : Heap} (hk : ∀ c o, c ≠ S → s.heap.get? c = some o → h.get? c = some o) {tk : Nat} : ({ s with heap := h, toks := tk } : Shared).TypeIs (.ref z) "zip" := ⟨_, hk z _ (Nat.ne_of_lt L.z) oz, rfl⟩
  unfold Builtin.List.listExtendWith
  apply wpAny_bind
  apply wpAny_typeOf (tz (tk := s.toks) k1)
  have e1 : Builtin.List.listSameRef (.ref S) (.ref z) = false := by
    have := Nat.ne_of_gt L.z
    simp [Builtin.List.listSameRef, this]
  rw [e1]
  apply wpAny_bind (m := pyIter (.ref z))
  apply wpAny_pyIter_zip (f0 := .none) (k1 z _ (Nat.ne_of_lt L.z) oz)
  apply wpAny_bind
  apply wpAny_holding
  unfold Builtin.List.listLengthHint
  apply wpAny_bind
  apply wpAny_specialOf (tz (tk := s.toks) k1) zip_no_len
  apply wpAny_bind (m := specialOf (.ref z) (Str.ofString "__length_hint__"))
  apply wpAny_specialOf (tz (tk := s.toks) k1) zip_no_hint
  apply wpAny_pure
  apply wpAny_bind (m := rule "list.extend.makes-room")
  apply wpAny_rule
  -- room is made: something is put in and taken out
  apply wpAny_bind (m := updateSeq S (·.push .none) >>= fun _ => updateSeq S (·.pop))
  apply wpAny_bind
  apply wpAny_updateSeq p1 rfl
  have p2 := Heap.get?_update_self (Obj.mapSeq (·.push Value.none)) p1 rfl
  apply wpAny_updateSeq (hz := by seq_fits) p2 rfl
  have p3 := Heap.get?_update_self (Obj.mapSeq (·.pop)) p2 rfl
  have k3 := up (·.pop) (up (·.push .none) k1)
  apply wpAny_pure
  refine ⟨plainId_quiet PySem.F.plain_extend_loop _, zip_fills (s := s) (A := A.in1) hh D L (Nat.lt_succ_self S) hxy hn .none (fun g tk q => ⟨rfl, k g tk q⟩) xs.size 0 _ s.toks (Nat.zero_add _) (same ?_ k3) ⟨_, _, p3, rfl⟩ fun c o m _ _ _ _ => k3 c o m⟩
  rw [Heap.size_update, Heap.size_update, Heap.size_update]
  exact z0
end
end ML
namespace ML
open PySem L2 PySem.W
/-- tuples of two side by side from b on -/
def zipH (H : Hp) (b : Nat) (zs : List (V × V)) : Hp := fun a => if b ≤ a then (match zs[a - b]? with
  | some p => some (.tup [p.1, p.2])
  | none => H a) else H a
theorem zipH_low {H : Hp} {b a : Nat} {zs : List (V × V)} (h : a < b) : zipH H b zs a = H a := if_neg (Nat.not_le.mpr h)
theorem zipH_at {H : Hp} {b j : Nat} {zs : List (V × V)} {p : V × V} (h : zs[j]? = some p) : zipH H b zs (b + j) = some (.tup [p.1, p.2]) := by
  rw [zipH, if_pos (Nat.le_add_right b j), Nat.add_sub_cancel_left, h]
theorem zipH_high {H : Hp} {b a : Nat} {zs : List (V × V)} (h : b + zs.length ≤ a) : zipH H b zs a = H a := by
  rw [zipH, if_pos (by omega), List.getElem?_eq_none (by omega)]
theorem zipH_nil {H : Hp} {b : Nat} : zipH H b [] = H := by
  funext a
  unfold zipH
  split <;> rfl
/-- one more -/
theorem zipH_next {H : Hp} {b : Nat} {zs : List (V × V)} {p : V × V} : zipH H b (zs ++ [p]) = upd (zipH H b zs) (b + zs.length) (.tup [p.1, p.2]) := by
  funext a
  by_cases e : a = b + zs.length
  · subst e
    rw [upd_same]
    exact zipH_at (by simp)
  · rw [upd_ne e]
    rcases Nat.lt_or_ge a b with lt | ge
    · rw [zipH_low lt, zipH_low lt]
    · rcases Nat.lt_or_ge a (b + zs.length) with lt | ge2
      · unfold zipH
        rw [List.getElem?_append_left (by omega)]
      · rw [zipH_high ge2, zipH_high (by rw [List.length_append]; exact Nat.lt_of_le_of_ne ge2 (Ne.symm e))]
theorem backInd {α : Type} {P : List α → Prop} (nil : P []) (one : ∀ l a, P l → P (l ++ [a])) (l : List α) : P l := by
  rw [← List.reverse_reverse l]
  generalize l.reverse = m
  induction m with
  | nil => exact nil
  | cons a m ih =>
    rw [List.reverse_cons]
    exact one _ a ih
def refs (b n : Nat) : List V := (List.range' b n).map V.ref
section
variable {X : Cx} {pins : List (Addr × Obj)} {σ : L2.St} {H : Hp} {s : Shared}
theorem vals_row (b : Nat) : ∀ n, Vals (refs b n) (row b n) := fun n => LiI.vals_refs (List.range' b n)
/-- the list and its tuples are tracked -/
theorem zip_laid {S : Addr} {vs ws : List V} {xs ys : List Value} {g : Heap} {tk : Nat} (I : Inv X pins σ H s) (hS : s.heap.objs.size ≤ S) (rv : Vals vs xs) (rw' : Vals ws ys) (hlen : vs.length = ws.length) (hz : vs.length ≤ sizeLine)
    (hk : ∀ c o, s.heap.get? c = some o → g.get? c = some o) (hl : Holds g S (row (S + 1) vs.length)) (hp : ∀ j, j < vs.length → ∃ x y, xs[j]? = some x ∧ ys[j]? = some y ∧ IsPair g (S + 1 + j) x y) :
    Inv X pins σ (upd (zipH H (S + 1) (vs.zip ws)) S (.lst (refs (S + 1) vs.length))) { s with heap := g, toks := tk } := by
  have lz : (vs.zip ws).length = vs.length := by rw [List.length_zip, ← hlen, Nat.min_self]
  have new (a : Nat) (h : S ≤ a) : H a = none := I.hok.fresh (Nat.le_trans hS h)
  have off (a : Nat) (h : a < S) : upd (zipH H (S + 1) (vs.zip ws)) S (.lst (refs (S + 1) vs.length)) a = H a := by
    rw [upd_ne (Nat.ne_of_lt h), zipH_low (Nat.lt_succ_of_lt h)]
  have old (a : Nat) (u : HO) (h : H a = some u) : upd (zipH H (S + 1) (vs.zip ws)) S (.lst (refs (S + 1) vs.length)) a = some u := by
    rcases Nat.lt_or_ge a S with lt | ge
    · rw [off a lt]
      exact h
    · rw [new a ge] at h
      cases h
  refine I.call' (ch := []) rfl ⟨fun b o q _ _ _ => hk b o q, fun b o q _ _ _ => ⟨o.slots, hk b o q⟩, fun b o q n _ => ?_, fun b o q _ => ⟨o, hk b o q⟩, fun b xs q => old b _ q, fun b o u q => old b _ q, fun b ps q => ⟨#[], by rw [old b _ q]; simp⟩⟩ (fun a u q => ?_) I.bare fun b z => by simp at z
  · rw [off b (Nat.lt_of_lt_of_le (Heap.lt_size q) hS)]
    exact n
  · rcases Nat.lt_trichotomy a S with lt | rfl | gt
    · rw [off a lt] at q
      exact (I.hok a u q).stay (fun d v _ => hk d v) (fun d => old d _) fun d _ => old d _
    · rw [upd_same] at q
      cases q
      obtain ⟨arr, c, g1, g2⟩ := hl
      exact ⟨by rw [refs, List.length_map, List.length_range']; exact hz, row (a + 1) vs.length, c, vals_row _ _, by rw [← g2, Array.toArray_toList]; exact g1⟩
    · rw [upd_ne (Nat.ne_of_gt gt)] at q
      rcases Nat.lt_or_ge a (S + 1 + vs.length) with lt | ge
      · obtain ⟨j, rfl⟩ : ∃ j, a = S + 1 + j := ⟨a - (S + 1), (Nat.add_sub_cancel' gt).symm⟩
        have lj : j < vs.length := Nat.lt_of_add_lt_add_left lt
        obtain ⟨x, y, f1, f2, f3⟩ := hp j lj
        have hj : j < (vs.zip ws).length := by rw [lz]; exact lj
        have ez := List.getElem?_eq_getElem hj
        rw [zipH_at ez] at q
        cases q
        obtain ⟨m1, m2⟩ := List.getElem?_zip_eq_some.mp ez
        obtain ⟨x', n1, n2⟩ := LiI.paired_get rv m1
        obtain ⟨y', n3, n4⟩ := LiI.paired_get rw' m2
        rw [f1] at n1
        rw [f2] at n3
        cases n1
        cases n3
        exact ⟨by show 2 ≤ sizeLine; decide, [x, y], .cons n2 (.cons n4 .nil), ⟨_, f3, rfl, _, rfl⟩⟩
      · rw [zipH_high (by omega), new a (Nat.le_of_lt gt)] at q
        cases q
def tLZ (K : PySem.W.Frag) (ta : TA) : TE := fun σ H Q => ta σ H fun vs H1 => ∃ a b xs ys, vs = [.ref a, .ref b] ∧ SqL K H1 a xs ∧ SqL K H1 b ys ∧ xs.length = ys.length ∧
  ∀ S : Nat, (∀ c, S ≤ c → H1 c = none) → Q (.ref S) (upd (zipH H1 (S + 1) (xs.zip ys)) S (.lst (refs (S + 1) xs.length)))
theorem pe_listZip {e e2 : Expr} {ta : TA} {p p2 pos pos2 : Pos} (hc : X.calm = true) (hg : Gl X "list") (hm : X.mg "list" = none) (hgz : Gl X "zip") (hmz : X.mg "zip" = none) (ha : PA X [e, e2] ta)
    (hs2 : starEach [e, e2] X.env = (false, eval e X.env) :: starEach [e2] X.env) (hpl : (backTo pos2 (starEach [e2] X.env)).any (·.1) = false)
    (hv : bootBuiltins "list" = some (.type "list") := by decide +kernel)
    (hs : starEach [.Call (.Name "zip" p2) [e, e2] [] pos2] X.env = (false, eval (.Call (.Name "zip" p2) [e, e2] [] pos2) X.env) :: starEach [] X.env := by rfl) :
    PE X (.Call (.Name "list" p) [.Call (.Name "zip" p2) [e, e2] [] pos2] [] pos) (tLZ X.K ta) := by
  constructor
  intro pins s σ H Q I h
  apply wpAny_Call_Name_kw
  apply ld_blt I hg hm hv
  refine PyProof.Rows.callWith_type1 ?_ hs rfl
  rw [hs]
  apply Calls.spliced_cons
  refine PyProof.Rows.Call_ ?_
  apply ld_blt I hgz hmz PyProof.Rows.boot_zip
  refine PyProof.Rows.callWith_type1 (thn (ha.run pos2 pins s σ H _ I h) ?_) hs2 hpl
  rintro us t ⟨_, H1, J, rel, a, b, xs, ys, rfl, qx, qy, len, q⟩
  match us, rel with
  | _, .cons ra (.cons rb .nil) =>
    cases ra
    cases rb
    obtain ⟨ix, rx, px, fits⟩ := J.list qx
    obtain ⟨iy, ry, py, _⟩ := J.list qy
    have la := px.lt
    have lb := py.lt
    have nx : ix.length = xs.length := rx.length.symm
    have ny : iy.length = ys.length := ry.length.symm
    apply call_zip_2 px.isList py.isList
    intro h' oz oa ot h1 h2 sz kp
    apply Calls.spliced_nil
    have ah : Ahead (t.heap.objs.size + 4) (t.heap.objs.size + 2) (t.heap.objs.size + 3) t.heap.objs.size (t.heap.objs.size + 1) a b h'.objs.size := by
      rw [sz]
      exact ⟨by omega, by omega, by omega, by omega, by omega, Nat.lt_of_lt_of_le la (Nat.le_add_right _ 5), Nat.lt_of_lt_of_le lb (Nat.le_add_right _ 5)⟩
    apply zip_lists (s := { t with heap := h' }) (J.ok.hd hc) (PySem.W.ktu_apart t.heap.objs.size a b la lb) ah oz oa ⟨_, _, ot⟩ h1 h2 (px.isList.at fun o => kp a o) (py.isList.at fun o => kp b o)
    · simp only [List.size_toArray]
      omega
    · rw [List.size_toArray, nx]
      exact fits
    · rintro g tk ⟨z1, z2, z3⟩
      rw [show ix.toArray.size = xs.length from by rw [List.size_toArray, nx]] at z2 z3
      have all : ∀ c o, t.heap.get? c = some o → g.get? c = some o := fun c o e => by
        have lt := Heap.lt_size e
        exact z1 c o (neLo lt (by rw [sz]; omega)) (neLo lt (by omega)) (neLo lt (by omega)) (neLo lt (by omega)) (neLo lt (by omega)) (kp c o e)
      have far : t.heap.objs.size ≤ h'.objs.size := by rw [sz]; exact Nat.le_add_right _ 5
      have laid := zip_laid (s := t) (tk := tk) J (S := h'.objs.size) far rx ry len fits all z2 fun j hj => by
        obtain ⟨x, y, f1, f2, f3⟩ := z3 j hj
        exact ⟨x, y, by simpa using f1, by simpa using f2, f3⟩
      exact ⟨.ref h'.objs.size, _, laid, rfl, q h'.objs.size fun c hc => J.hok.fresh (Nat.le_trans far hc)⟩
end
section
variable [Wd] {X : Cx} {Φ : Nat → List D → Option Sv} {F : List (Str × Nat)} {Gc : List (Str × D)} {N : List Str} {sc : Scope} {k : Nat}
theorem env_zipH {K : PySem.W.Frag} {ρ : Env} {σ : L2.St} {B H : Hp} {b : Nat} (E : EnvOk K B H ρ σ) (new : ∀ c, b ≤ c → H c = none) (zs : List (V × V)) : EnvOk K (zipH B b zs) (zipH H b zs) ρ σ ∧ Ext B H (OwnS ρ σ) (zipH B b zs) (zipH H b zs) (OwnS ρ σ) := by
  induction zs using ML.backInd with
  | nil =>
    rw [zipH_nil, zipH_nil]
    exact ⟨E, .refl⟩
  | one zs p ih =>
    obtain ⟨E1, X1⟩ := ih
    obtain ⟨E2, X2⟩ := E1.laidF (o := .tup [p.1, p.2]) (p := b + zs.length) (by rw [zipH_high (Nat.le_refl _)]; exact new _ (Nat.le_add_right _ _))
    rw [zipH_next, zipH_next]
    exact ⟨E2, X1.trans X2⟩
theorem reps_zipH {K : PySem.W.Frag} {B : Hp} : ∀ {us ws : List V} {xs ys : List D} {b : Nat}, Reps K B us xs → Reps K B ws ys → us.length = ws.length → (∀ j p, (us.zip ws)[j]? = some p → B (b + j) = some (.tup [p.1, p.2])) →
    Reps K B (refs b us.length) (xs.zipWith (fun a b => D.tup [a, b]) ys)
  | [], _, _, _, _, .nil, _, _, _ => .nil
  | _ :: _, [], _, _, _, _, .nil, h, _ => by cases h
  | u :: us, w :: ws, _, _, b, .cons a t, .cons a' t', h, hp => by
    have h0 := hp 0 (u, w) rfl
    have ht := reps_zipH (b := b + 1) t t' (Nat.succ.inj h) fun j p e => by
      have := hp (j + 1) p e
      rw [Nat.add_assoc, Nat.add_comm 1 j]
      exact this
    exact .cons (.tup (SqT.of h0) (.cons a (.cons a' .nil)) (show 2 ≤ 16777216 by decide)) ht
theorem blt_ok2 {x : Str} (h : bltOk F Gc sc x = true) : F.lookup x = none ∧ (Gc.lookup x).isNone = true ∧ gloB sc x = true := by
  unfold bltOk at h
  simp only [Bool.and_eq_true, decide_eq_true_eq] at h
  exact ⟨h.1.1, h.1.2, h.2⟩
theorem snd_lzip (g : Good X Φ F Gc N sc k) {ms : List ME} {e e2 : Expr} {p p2 pos pos2 : Pos} (h1 : bltOk F Gc sc "list" = true) (h2 : bltOk F Gc sc "zip" = true) (hs1 : noStar e = true) (hs2 : noStar e2 = true) (ha : PA X [e, e2] (tA X.K Φ ms)) :
    PE X (.Call (.Name "list" p) [.Call (.Name "zip" p2) [e, e2] [] pos2] [] pos) (tE X.K Φ (.lzip ms)) := by
  obtain ⟨a1, a2, a3⟩ := blt_ok2 h1
  obtain ⟨b1, b2, b3⟩ := blt_ok2 h2
  have m1 : X.mg "list" = none := g.bl _ a1 (Option.isNone_iff_eq_none.mp a2) (by decide +kernel)
  have m2 : X.mg "zip" = none := g.bl _ b1 (Option.isNone_iff_eq_none.mp b2) (by decide +kernel)
  refine PE.imp (pe_listZip g.calm (g.gl_ok a3) m1 (g.gl_ok b3) m2 ha (star_cons hs1 _ _) (by rw [star_cons hs2]; rfl)) fun σ H Q ⟨B, ρ, r, ρ', E, e, q⟩ => ?_
  rw [evE] at e
  obtain ⟨q1, e1, e⟩ := bind_some e
  obtain ⟨q2, e2, e⟩ := bind_some e
  obtain ⟨ds, e3, e4⟩ := map_some e
  cases e4
  refine ⟨B, ρ, q1.1, q1.2, E, e1, fun vs H1 B1 E1 X1 O1 => ?_⟩
  obtain ⟨B2, E2, X2, R2⟩ := frzs_ok E1 O1 e2
  obtain ⟨d2, ρ2⟩ := q2
  dsimp only at e3 R2 E2 X2 q ⊢
  unfold lzF at e3
  split at e3
  · rename_i xs ys
    split at e3
    · rename_i hlen
      cases e3
      cases R2 with
      | cons ra R2 =>
        cases R2 with
        | cons rb R2 =>
          cases R2
          cases ra with
          | lst ha1 ha2 ha3 =>
            cases rb with
            | lst hb1 hb2 hb3 =>
              rename_i a us b ws
              have hul : us.length = ws.length := by rw [ha2.length, hb2.length]; exact hlen
              refine ⟨a, b, us, ws, rfl, SqL.of (E2.same _ _ ha1), SqL.of (E2.same _ _ hb1), hul, fun S new => ?_⟩
              obtain ⟨E3, X3⟩ := env_zipH (b := S + 1) E2 (fun c hc => new c (by omega)) (us.zip ws)
              have R3 := reps_zipH (b := S + 1) (Reps.mono X3.b _ _ ha2) (Reps.mono X3.b _ _ hb2) hul fun j p e => zipH_at e
              have hp : zipH H1 (S + 1) (us.zip ws) S = none := by rw [zipH_low (Nat.lt_succ_self S)]; exact new S (Nat.le_refl S)
              obtain ⟨E4, X4, r4, f, R4⟩ := (New.own (K := X.K) hp R3 (by rw [List.length_zipWith, hlen, Nat.min_self]; exact hb3)).ok E3 ((X1.trans X2).trans X3)
              cases f
              exact q _ _ _ E4 X4 R4
    · cases e3
  · cases e3
end
end ML
set_option Elab.async false
set_option linter.all false
set_option autoImplicit false
set_option maxRecDepth 100000
set_option maxHeartbeats 4000000
/-! MLobj: own instances: made, their methods. -/
namespace ML
open PySem L2

section
variable {X : Cx}
theorem PE.orr {e : Expr} {t t' : TE} (h : PE X e t) (h' : PE X e t') : PE X e (fun σ H Q => t σ H Q ∨ t' σ H Q) := ⟨fun pins s σ H Q I q => q.elim (h.run pins s σ H Q I) (h'.run pins s σ H Q I)⟩
theorem PE.ex {ι : Type} {P : ι → Prop} {e : Expr} {t : ι → TE} (h : ∀ i, P i → PE X e (t i)) : PE X e (fun σ H Q => ∃ i, P i ∧ t i σ H Q) := ⟨fun pins s σ H Q I ⟨i, hi, q⟩ => (h i hi).run pins s σ H Q I q⟩
theorem PE.no {e : Expr} : PE X e (fun _ _ _ => False) := ⟨fun _ _ _ _ _ _ q => q.elim⟩
theorem PA.orr {e : List Expr} {t t' : TA} (h : PA X e t) (h' : PA X e t') : PA X e (fun σ H Q => t σ H Q ∨ t' σ H Q) := ⟨fun p pins s σ H Q I q => q.elim (h.run p pins s σ H Q I) (h'.run p pins s σ H Q I)⟩
theorem PA.no {e : List Expr} : PA X e (fun _ _ _ => False) := ⟨fun _ _ _ _ _ _ _ q => q.elim⟩
end
/-- o.m(..), where what leaves the method is wished for at the slots -/
def tMt (C : Addr) (m : Str) (sp : Sp) (E : L2.St → XK) (ta : TE) (t : TA) : TE := fun σ H Q => ta σ H fun x H1 => ∃ a dx fs, x = .ref a ∧ H1 a = some (.ins C dx fs) ∧ fs.lookup m = none ∧ t σ H1 fun vs H2 => sp (x :: vs) H2 Q (E σ)
section
variable {X : Cx} {CX : CXT} {k : Nat} {f C : Addr} {fd : FuncData} {ps : List Str} {sp : Sp} {E : L2.St → XK} {x m : Str} {p pos apos : Pos} {e o : Expr} {es : List Expr} {ta : TE} {t : TA} {pl : Sem Bool}
theorem pe_mt1 (he : PE X o ta) (c : Cls X.K C) (hm : Meth X.K C m f) (F : FnOk X.prog X.w X.K X.mg X.base CX k f fd ps sp) (hr : Room k X.A) (hb : Binds X.K fd ps []) (hx : ∀ σ, PassesAt CX X σ (E σ)) (ha : PA X (e :: es) t)
    (hst : starEach (e :: es) X.env = (false, eval e X.env) :: starEach es X.env) (hpl : (backTo pos (starEach es X.env)).any (·.1) = false)
    (ht : eval (.Call (.Attribute o m apos) (e :: es) [] pos) X.env = (do
      let ov ← eval o X.env
      standAt apos.atName
      let (f, first) ← holding [ov] (getMethod ov m pl)
      callWith pos f first (backTo pos (starEach (e :: es) X.env)) (backToKw pos (keywordEach [] X.env)))) :
    PE X (.Call (.Attribute o m apos) (e :: es) [] pos) (tMt C m sp E ta t) := by
  refine ⟨fun pins s σ H Q I h => ?_⟩
  refine PySem.W.methodCall_KW (pl := pl) (thn (he.run pins s σ H _ I h) fun u s1 ⟨x, H1, I1, rx, a, dx, fs, ex, ea, l, q⟩ => ?_) ht
  subst ex
  obtain rfl : u = Value.ref a := rx
  refine getmeth_ok I1 ea c hm l ?_
  refine PySem.W.callWith_K (first := [.ref a]) (h₀ := X.base) I.ok.mod.kin hm.kp (thn (ha.run pos pins s1 σ H1 _ I1 q) fun us s2 ⟨vs, H2, I2, r, q2⟩ => ⟨I2.kIn, ?_⟩) hst hpl
  exact run_fnS (us := .ref a :: us) (vs := .ref a :: vs) F hr hb (hx σ) I2 (.cons rfl r) q2
theorem pe_mt00 (he : PE X o ta) (c : Cls X.K C) (hm : Meth X.K C m f) (F : FnOk X.prog X.w X.K X.mg X.base CX k f fd ps sp) (hr : Room k X.A) (hb : Binds X.K fd ps []) (hx : ∀ σ, PassesAt CX X σ (E σ))
    (ht : eval (.Call (.Attribute o m apos) [] [] pos) X.env = (do
      let ov ← eval o X.env
      standAt apos.atName
      let (f, first) ← holding [ov] (getMethod ov m pl)
      callWith pos f first (backTo pos (starEach [] X.env)) (backToKw pos (keywordEach [] X.env)))) :
    PE X (.Call (.Attribute o m apos) [] [] pos) (tMt C m sp E ta tNil) := by
  refine ⟨fun pins s σ H Q I h => ?_⟩
  refine PySem.W.methodCall_KW (pl := pl) (thn (he.run pins s σ H _ I h) fun u s1 ⟨x, H1, I1, rx, a, dx, fs, ex, ea, l, q⟩ => ?_) ht
  subst ex
  obtain rfl : u = Value.ref a := rx
  refine getmeth_ok I1 ea c hm l ?_
  exact PySem.W.callWith_K0 (first := [.ref a]) I1.kIn hm.kp (run_fnS (us := [.ref a]) (vs := [.ref a]) F hr hb (hx σ) I1 (.cons rfl .nil) q)
end

theorem meth_eval {o : Expr} {m : Str} {apos pos : Pos} {es : List Expr} {env : PySem.Env} (hbase : attributeBase o m env (eval o env) = eval o env) (hst : (backTo pos (starEach es env)).any (·.1) = false) (hl : (apos.endLine == pos.line) = true) (hn : es.length < 30) :
    eval (.Call (.Attribute o m apos) es [] pos) env = (do
      let ov ← eval o env
      standAt apos.atName
      let (f, first) ← holding [ov] (getMethod ov m (do return (← importBound o env).getD true))
      callWith pos f first (backTo pos (starEach es env)) (backToKw pos (keywordEach [] env))) := by
  have hf : methodCallForm (es.length + ([] : List Keyword).length) (backTo pos (starEach es env)) (backToKw pos (keywordEach [] env)) = true := by
    unfold methodCallForm
    rw [Bool.and_eq_true, Bool.and_eq_true]
    refine ⟨⟨List.all_eq_true.mpr fun x hx => ?_, rfl⟩, by simp [keywordEach, backToKw]; omega⟩
    cases h : x.1 with
    | false => rfl
    | true => rw [List.any_eq_true.mpr ⟨x, hx, h⟩] at hst; cases hst
  rw [arm_eval_Call, hbase]
  unfold methodCall calleeOf methodCallPos
  rw [hf, hl]
  simp
theorem recv_base {o : Expr} {m : Str} {env : PySem.Env} (h : recvB o = true) : attributeBase o m env (eval o env) = eval o env := by
  unfold recvB at h
  split at h
  · rfl
  · rfl
  · rfl
  · cases h
section
variable [Wd] {X : Cx} {Φ : Nat → List D → Option Sv} {F : List (Str × Nat)} {Gc : List (Str × D)} {N : List Str} {sc : Scope} {k : Nat}
theorem okEs_plain' {ms : List ME} {es : List Expr} (h : okEs F Gc N sc ms es = true) (pos : Pos) (env : PySem.Env) : (backTo pos (starEach es env)).any (·.1) = false := okEs_plain h pos env
/-- a reading that bears a weaker end -/
def Monot (t : TE) : Prop := ∀ σ H Q Q', (∀ v H', Q v H' → Q' v H') → t σ H Q → t σ H Q'
theorem mon_tE {K : PySem.W.Frag} {m : ME} : Monot (tE K Φ m) := fun σ H Q Q' k ⟨B, ρ, r, ρ', E, e, q⟩ => ⟨B, ρ, r, ρ', E, e, fun v H' B' E' X' R' => k _ _ (q v H' B' E' X' R')⟩
theorem mon_var {i : Nat} : Monot (tVar i) := fun σ H Q Q' k ⟨v, h, q⟩ => ⟨v, h, k _ _ q⟩
/-- the rule of a method's call, of any receiver that the text has -/
theorem pe_mtR {CX : CXT} {f C : Addr} {fd : FuncData} {ps : List Str} {sp : Sp} {E : L2.St → XK} {m : Str} {pos apos : Pos} {o : Expr} {es : List Expr} {ms : List ME} {ta : TE} {t : TA} (hmo : Monot ta) (hr : recvB o = true) (hl : (apos.endLine == pos.line) = true) (hn : es.length < 30) (hok : okEs F Gc N sc ms es = true) (he : PE X o ta) (c : Cls X.K C) (hm : Meth X.K C m f)
    (Fn : FnOk X.prog X.w X.K X.mg X.base CX k f fd ps sp) (hro : Room k X.A) (hb : Binds X.K fd ps []) (hx : ∀ σ, PassesAt CX X σ (E σ)) (ha : PA X es t) (h0 : es = [] → ∀ σ H Q, t σ H Q → tNil σ H Q) : PE X (.Call (.Attribute o m apos) es [] pos) (tMt C m sp E ta t) := by
  have ht := meth_eval (recv_base (m := m) (env := X.env) hr) (okEs_plain hok pos X.env) hl hn
  cases es with
  | nil =>
    exact PE.imp (pe_mt00 he c hm Fn hro hb hx ht) fun σ H Q h => hmo _ _ _ _ (fun v H' ⟨a, dx, fs, h1, h2, h3, h4⟩ => ⟨a, dx, fs, h1, h2, h3, h0 rfl _ _ _ h4⟩) h
  | cons e es =>
    cases ms with
    | nil => simp [okEs] at hok
    | cons m1 ms =>
      unfold okEs at hok
      simp only [Bool.and_eq_true] at hok
      exact pe_mt1 he c hm Fn hro hb hx ha (star_cons hok.1.1 es X.env) (okEs_plain hok.2 pos X.env) ht
/-- what is handed to a def, and what comes back -/
theorem ret_tail [Wd] {K : PySem.W.Frag} {B H B1 H1 B2 : Hp} {ρ ρ1 ρ2 : ML.Env} {σ : L2.St} {s : Sv} {r' : Rv} {Q : VK} {Ex : XK} (E1 : EnvOk K B1 H1 ρ1 σ) (X1 : Ext B H (OwnS ρ σ) B1 H1 (OwnS ρ1 σ)) (E2 : EnvOk K B2 H1 ρ2 σ) (X2 : Ext B1 H1 (OwnS ρ1 σ) B2 H1 (OwnS ρ2 σ)) (e4 : s.rv = some r')
    (q : ∀ v H' B', EnvOk K B' H' (cond s.imm ρ1 ρ2) σ → Ext B H (OwnS ρ σ) B' H' (OwnS (cond s.imm ρ1 ρ2) σ) → RvOk K B' H' H (cond s.imm ρ1 ρ2) σ r' v → Q v H') : RetQ K B2 H1 (fun _ => False) Q Ex s := by
  cases s with
  | no => cases e4
  | io _ _ => cases e4
  | exc _ => cases e4
  | xio _ _ => cases e4
  | fro d =>
    cases e4
    refine fun v H' B' sm Y R => ?_
    by_cases hi : (Sv.fro d).imm = true
    · obtain ⟨B3, E3, X3, m1, m2, m3⟩ := E1.thaw X2 sm Y
      rw [hi, cond_true] at q
      exact q v H' B3 E3 (X1.trans X3) (m1 d v hi R)
    · obtain ⟨E3, X3⟩ := E2.call sm Y
      rw [Bool.eq_false_iff.mpr hi, cond_false] at q
      exact q v H' B' E3 ((X1.trans X2).trans X3) R
  | own d =>
    cases e4
    refine fun v H' B' sm Y R => ?_
    by_cases hi : (Sv.own d).imm = true
    · obtain ⟨B3, E3, X3, m1, m2, m3⟩ := E1.thaw X2 sm Y
      rw [hi, cond_true] at q
      refine q v H' B3 E3 (X1.trans X3) ?_
      cases d with
      | lst ds =>
        obtain ⟨b, h1, ⟨o, g1, g2, gc⟩, h3⟩ := R
        obtain ⟨vs', rfl, g3, g4⟩ := gc.lists
        exact ⟨b, h1, .ofL (m3 _ g1) g2 (m2 ds vs' hi g3) g4, X1.tr _ h3, fun z => E1.notOwn h3 z⟩
      | _ => cases hi
    · obtain ⟨E3, X3⟩ := E2.call sm Y
      rw [Bool.eq_false_iff.mpr hi, cond_false] at q
      refine q v H' B' E3 ((X1.trans X2).trans X3) ?_
      obtain ⟨b, h1, h2, h3⟩ := R
      refine ⟨b, h1, h2, (X1.trans X2).tr _ h3, fun z => ?_⟩
      exact E2.notOwn h3 z
/-- what raises, told by its end -/
def XQ [Wd] (K : PySem.W.Frag) (B H : Hp) (ρ : ML.Env) (σ : L2.St) (x : Str) (ρ' : ML.Env) (W : WX) : Prop := ∀ C H' B', Wd.mg x = some (.ref C) → EnvOk K B' H' ρ' σ → Ext B H (OwnS ρ σ) B' H' (OwnS ρ' σ) → W (.ref C) none σ H'
theorem exc_tail [Wd] {K : PySem.W.Frag} {B H H1 B2 : Hp} {ρ ρ2 : ML.Env} {σ : L2.St} {s : Sv} {x : Str} {Q : VK} {W : WX} (E2 : EnvOk K B2 H1 ρ2 σ) (X2 : Ext B H (OwnS ρ σ) B2 H1 (OwnS ρ2 σ)) (e4 : s.exn = some x)
    (q : XQ K B H ρ σ x ρ2 W) : RetQ K B2 H1 (fun _ => False) Q (WE W σ) s := by
  cases s with
  | exc y =>
    cases e4
    intro C H' B' hC sm Y
    obtain ⟨E3, X3⟩ := E2.call sm Y
    exact q C H' B' hC E3 (X2.trans X3)
  | _ => cases e4
theorem io_tail [Wd] {K : PySem.W.Frag} {B H H1 B2 : Hp} {ρ ρ2 : ML.Env} {σ : L2.St} {s : Sv} {i : Nat} {a : Addr} {d : D} {z : D × D} {Q : VK} {Ex : XK} (E2 : EnvOk K B2 H1 ρ2 σ) (X2 : Ext B H (OwnS ρ σ) B2 H1 (OwnS ρ2 σ)) (hi : ρ2[i]? = some (.own d)) (ha : σ[i]? = some (some (.ref a))) (e4 : s.ioR = some z)
    (q : ∀ v H' B', EnvOk K B' H' (ρ2.set i (.own z.2)) σ → Ext B H (OwnS ρ σ) B' H' (OwnS (ρ2.set i (.own z.2)) σ) → RvOk K B' H' H (ρ2.set i (.own z.2)) σ (.fro z.1) v → Q v H') : RetQ K B2 H1 (fun b => b = a) Q Ex s := by
  cases s with
  | io r d' =>
    cases e4
    refine fun v H' B' sm Y R own => ?_
    obtain ⟨E3, X3⟩ := E2.callIO hi ha sm Y (own a rfl)
    exact q v H' B' E3 (X2.trans X3) R
  | _ => cases e4
theorem iox_tail [Wd] {K : PySem.W.Frag} {B H H1 B2 : Hp} {ρ ρ2 : ML.Env} {σ : L2.St} {s : Sv} {i : Nat} {a : Addr} {d : D} {z : Str × Sv} {Q : VK} {W : WX} (E2 : EnvOk K B2 H1 ρ2 σ) (X2 : Ext B H (OwnS ρ σ) B2 H1 (OwnS ρ2 σ)) (hi : ρ2[i]? = some (.own d)) (ha : σ[i]? = some (some (.ref a))) (e4 : s.exn2 = some z)
    (q : XQ K B H ρ σ z.1 (ρ2.set i z.2) W) : RetQ K B2 H1 (fun b => b = a) Q (WE W σ) s := by
  cases s with
  | exc y =>
    cases e4
    intro C H' B' hC sm Y
    obtain ⟨E3, X3⟩ := E2.callIX hi ha sm Y
    exact q C H' B' hC E3 (X2.trans X3)
  | xio y d' =>
    cases e4
    intro C H' B' hC sm Y own
    obtain ⟨E3, X3⟩ := E2.callIO hi ha sm Y (own a rfl)
    exact q C H' B' hC E3 (X2.trans X3)
  | _ => cases e4
theorem clsF_eq {m : Str} {d : D} {c : Str} (h : clsF m d = some c) : ∃ fs, d = .obj c fs ∧ fs.lookup m = none := by
  unfold clsF at h
  split at h
  · split at h
    · rename_i hn
      cases h
      exact ⟨_, rfl, by simpa using hn⟩
    · cases h
  · cases h
theorem lookup_keys {α β : Type} : ∀ {gs : List (Str × α)} {fs : List (Str × β)} {x : Str}, gs.map (·.1) = fs.map (·.1) → fs.lookup x = none → gs.lookup x = none
  | [], _, _, _, _ => rfl
  | _ :: _, [], _, e, _ => by cases e
  | (y, w) :: gs, (z, e) :: fs, x, h, hl => by
    rw [List.map_cons, List.map_cons] at h
    obtain ⟨h1, h2⟩ := List.cons.inj h
    have h1 : y = z := h1
    subst h1
    rw [List.lookup_cons] at hl ⊢
    split at hl
    · cases hl
    · exact lookup_keys h2 hl
theorem tA_nil {K : PySem.W.Frag} : ∀ σ H Q, tA K Φ [] σ H Q → tNil σ H Q := fun σ H Q ⟨B, ρ, rs, ρ', E, e, q⟩ => by
  rw [evEs] at e
  cases e
  exact q [] H B E .refl .nil
theorem okEs_nil {ms : List ME} {es : List Expr} (h : okEs F Gc N sc ms es = true) (e : es = []) : ms = [] := by
  subst e
  cases ms with
  | nil => rfl
  | cons _ _ => simp [okEs] at h
/-- what the table of a method's defs has been held against -/
def tabOk (F : List (Str × Nat)) (m : Str) (tab : List (Str × Nat)) : Prop := ∀ c f, tab.lookup c = some f → F.lookup (dotN c m) = some f ∧ f ≠ FLD ∧ ioPos f = none ∧ plainB c = true
theorem tabOk_of {m : Str} {tab : List (Str × Nat)} (h : tab.all (fun y => decide (F.lookup (dotN y.1 m) = some y.2) && decide (y.2 ≠ FLD) && decide (ioPos y.2 = none) && plainB y.1) = true) : tabOk F m tab := fun c f e => by
  have : (c, f) ∈ tab := by
    clear h
    induction tab with
    | nil => cases e
    | cons y tab ih =>
      rw [List.lookup_cons] at e
      split at e
      · rename_i hc
        cases e
        rw [beq_iff_eq] at hc
        subst hc
        exact List.mem_cons_self
      · exact List.mem_cons_of_mem _ (ih e)
  have q := List.all_eq_true.mp h _ this
  simp only [Bool.and_eq_true, decide_eq_true_eq] at q
  exact ⟨q.1.1.1, q.1.1.2, q.1.2, q.2⟩
theorem snd_meth (g : Good X Φ F Gc N sc k) {a : ME} {m : Str} {tab : List (Str × Nat)} {ms : List ME} {o : Expr} {es : List Expr} {ap cp : Pos} (hr : recvB o = true) (hl : (ap.endLine == cp.line) = true) (hn : es.length < 30) (ht : tabOk F m tab) (hok : okEs F Gc N sc ms es = true)
    (ho : PE X o (tE X.K Φ a)) (ha : PA X es (tA X.K Φ ms)) : PE X (.Call (.Attribute o m ap) es [] cp) (tE X.K Φ (.meth a m tab ms)) := by
  refine ⟨fun pins s σ H Q I h => ?_⟩
  obtain ⟨B, ρ, r, ρ', E, e, q⟩ := id h
  rw [evE] at e
  obtain ⟨p0, e0, e⟩ := bind_some e
  obtain ⟨d0, e1, e⟩ := bind_some e
  obtain ⟨c, e2, e⟩ := bind_some e
  obtain ⟨f, e3, e⟩ := bind_some e
  obtain ⟨p, e4, e⟩ := bind_some e
  obtain ⟨z, e5, e⟩ := bind_some e
  obtain ⟨s1, e6, e⟩ := bind_some e
  obtain ⟨r1, e7, e8⟩ := map_some e
  cases e8
  obtain ⟨t1, t2, t3, t4⟩ := ht c f e3
  obtain ⟨C, af, fd, ps, hC, hM, _, hb, Fn, hlen⟩ := g.mt c m f t4 t1 t2
  rw [spG_none t3] at Fn
  obtain ⟨fs, rfl, hno⟩ := clsF_eq e2
  refine (pe_mtR (E := fun _ => E0) mon_tE hr hl hn hok ho (g.cl c C hC).2 hM Fn g.rm hb (fun σ pins H s e s' I c => passL pins σ H s e s' I c) ha fun z => ?_).run pins s σ H Q I ?_
  · obtain rfl := okEs_nil hok z
    exact tA_nil
  refine ⟨B, ρ, p0.1, p0.2, E, e0, fun v H1 B1 E1 X1 R1 => ?_⟩
  obtain ⟨B1', E1', X1', O1⟩ := op_of E1 X1 R1
  obtain ⟨a', C', dx, gs, rfl, hH, hC', hk, hr⟩ := (cont_ok E1' O1 e1).obj E1'.same
  rw [hC] at hC'
  cases hC'
  refine ⟨a', dx, gs, rfl, hH, lookup_keys hk hno, B1', p0.2, p.1, p.2, E1', e4, fun vs H2 B2 E2 X2 O2 => ?_⟩
  obtain ⟨B3, E3, X3, R3⟩ := frzs_ok E2 (.cons (O1.mono X2.b) O2) e5
  exact ⟨by rw [R3.length]; exact hlen _ _ e6, B3, z.1, s1, E3.same, R3, e6, ret_tail E2 (X1'.trans X2) E3 X3 e7 q⟩
theorem own_obj [Wd] {K : PySem.W.Frag} {B H : Hp} {a : Addr} {c : Str} {fs : List (Str × D)} (h : OwnAt K B H a (.obj c fs)) : ∃ C dx gs, H a = some (.ins C dx gs) ∧ Wd.cls c = some C ∧ gs.map (·.1) = fs.map (·.1) ∧ Reps K B (gs.map (·.2)) (fs.map (·.2)) := by
  obtain ⟨o, h1, h2, h3⟩ := h
  cases h3 with
  | obj a b c => exact ⟨_, _, _, h2, a, b, c⟩
theorem ownC_eq {ρ : ML.Env} {i : Nat} {d : D} (h : ownC ρ i = some d) : ρ[i]? = some (.own d) := by
  unfold ownC at h
  split at h
  · rename_i e; cases h; exact e
  · cases h
theorem snd_mio (g : Good X Φ F Gc N sc k) {c m : Str} {f i : Nat} {ms : List ME} {x : Str} {es : List Expr} {p ap cp : Pos} (h1 : N[i]? = some x) (h2 : visB sc x = true) (h3 : plainB x = true) (hl : (ap.endLine == cp.line) = true) (hn : es.length < 30) (hF : F.lookup (dotN c m) = some f) (hf : f ≠ FLD) (hi : ioPos f = some 0) (hpc : plainB c = true) (hok : okEs F Gc N sc ms es = true)
    (ha : PA X es (tA X.K Φ ms)) : PE X (.Call (.Attribute (.Name x p) m ap) es [] cp) (tE X.K Φ (.mio c m f i ms)) := by
  obtain ⟨d1, d2, _⟩ := plain_ne h3
  have hv : PE X (.Name x p) (tVar i) := pe_var (i := i) (by rw [g.hN]; exact h1) (by rw [g.hsc]; exact vis_of h2) d1 d2
  obtain ⟨C, af, fd, ps, hC, hM, _, hb, Fn, hlen⟩ := g.mt c m f hpc hF hf
  rw [spG_some hi] at Fn
  refine PE.imp (pe_mtR (E := fun _ => E0) (ta := tVar i) (t := tA X.K Φ ms) mon_var rfl hl hn hok hv (g.cl c C hC).2 hM Fn g.rm hb (fun σ pins H s e s' I c => passL pins σ H s e s' I c) ha fun z => ?_) fun σ H Q ⟨B, ρ, r, ρ', E, e, q⟩ => ?_
  · obtain rfl := okEs_nil hok z
    exact tA_nil
  rw [evE] at e
  obtain ⟨d0, e0, e⟩ := bind_some e
  obtain ⟨c', e1, e⟩ := bind_some e
  have hcf := clsF_eq e1
  obtain ⟨fs, hd0, hno⟩ := hcf
  rw [hd0] at e0
  by_cases hcc : c' = c
  · rw [if_pos hcc] at e
    rw [hcc] at e0
    obtain ⟨p, e4, e⟩ := bind_some e
    obtain ⟨z, e5, e⟩ := bind_some e
    obtain ⟨s1, e6, e⟩ := bind_some e
    obtain ⟨z2, e7, e8⟩ := map_some e
    cases e8
    obtain ⟨a, g1, oa⟩ := E.own i _ (ownC_eq e0)
    obtain ⟨C', dx, gs, hH, hC', hk, _⟩ := own_obj oa
    rw [hC] at hC'
    cases hC'
    refine ⟨.ref a, g1, a, dx, gs, rfl, hH, lookup_keys hk hno, B, ρ, p.1, p.2, E, e4, fun vs H2 B2 E2 X2 O2 => ?_⟩
    obtain ⟨B3, a', d, E3, X3, l, k1, k2, k3, k4, k5⟩ := frzJ_ok E2 (.cons (show OpOk X.K B2 σ (.ali i) (.ref a) from g1) O2) e5
    rw [g1] at k2
    cases k2
    obtain ⟨a', q1, oa3⟩ := E3.own i d k3
    rw [g1] at q1
    cases q1
    refine ⟨by rw [l]; exact hlen _ _ e6, B3, z.1, s1, a, E3.same, l, k1, fun m v e q1 q2 => ?_, e6, io_tail E3 (X2.trans X3) k3 g1 e7 q⟩
    split
    · rename_i hm
      subst hm
      rw [k4] at q2
      cases q2
      exact oa3
    · rename_i hm
      exact k5 m v e q1 q2 hm
  · rw [if_neg hcc] at e; cases e
/-- behind a def that was handed a new thing to be changed -/
theorem EnvOk.callN [Wd] {K : PySem.W.Frag} {B H H1 B' H' : Hp} {ρ : ML.Env} {σ : L2.St} {a : Addr} (E : EnvOk K B H ρ σ) (s1 : Same H H1) (ha : H a = none) (tr : ∀ b, H1 b = none → H b = none) (sm : Same B' H') (Y : Ext B H1 (fun b => b = a) B' H' (fun b => b = a)) :
    EnvOk K B' H' ρ σ ∧ Ext B H (OwnS ρ σ) B' H' (OwnS ρ σ) := by
  refine ⟨⟨sm, fun i d h => ?_, fun i d h => ?_, E.apart, E.len⟩, ⟨Y.b, fun b o h _ => Y.keep b o (s1 _ _ h) (ne_of_none h ha), fun b h => tr b (Y.tr b h), fun _ h => .inl h, fun b u h => ?_⟩⟩
  · obtain ⟨v, h1, h2⟩ := E.fro i d h
    exact ⟨v, h1, Rep.mono Y.b _ _ h2⟩
  · obtain ⟨b, h1, o, h3, h4, c⟩ := E.own i d h
    refine ⟨b, h1, o, ?_, Y.keep _ _ (s1 _ _ h4) (ne_of_none h4 ha), c.mono Y.b⟩
    cases e : B' b with
    | none => rfl
    | some u =>
      rcases Y.base b u e with z | z | z
      · rw [h3] at z; cases z
      · rw [tr b z] at h4; cases h4
      · rw [z, ha] at h4; cases h4
  · rcases Y.base b u h with z | z | z
    · exact .inl z
    · exact .inr (.inl (tr b z))
    · exact .inr (.inl (by rw [z]; exact ha))
theorem snd_make (g : Good X Φ F Gc N sc k) {c : Str} {f : Nat} {ms : List ME} {es : List Expr} {p cp : Pos} (hF : F.lookup (dotN c "__init__") = some f) (hf : f ≠ FLD) (hi : ioPos f = some 0) (hg : gloB sc c = true) (hp : plainB c = true) (hok : okEs F Gc N sc ms es = true)
    (ha : PA X es (tA X.K Φ ms)) : PE X (.Call (.Name c p) es [] cp) (tE X.K Φ (.make c f ms)) := by
  obtain ⟨d1, d2, _⟩ := plain_ne hp
  obtain ⟨C, af, fd, ps, hC, hM, hMk, hb, Fn, hlen⟩ := g.mt c _ f hp hF hf
  have hMk := hMk rfl
  rw [spG_some hi] at Fn
  have hro : Room (k + 1) X.A := g.room.mono (by omega)
  have key : PE X (.Call (.Name c p) es [] cp) (tMake C (spIO X.K 0 (Φ f) ps.length) [] E0 (tA X.K Φ ms)) := by
    cases es with
    | nil =>
      obtain rfl := okEs_nil hok rfl
      exact PE.imp (pe_make0 hMk Fn hro (g.gl_ok hg) (g.cl c C hC).1 hb .nil passL d1) fun σ H Q h => tA_nil _ _ _ h
    | cons e es =>
      cases ms with
      | nil => simp [okEs] at hok
      | cons m1 ms =>
        have hok' := hok
        unfold okEs at hok'
        simp only [Bool.and_eq_true] at hok'
        exact pe_make hMk Fn hro (g.gl_ok hg) (g.cl c C hC).1 hb .nil passL ha d1 (star_cons hok'.1.1 es X.env) (okEs_plain hok'.2 cp X.env)
  refine PE.imp key fun σ H Q ⟨B, ρ, r, ρ', E, e, q⟩ => ?_
  rw [evE] at e
  obtain ⟨p, e4, e⟩ := bind_some e
  obtain ⟨z, e5, e⟩ := bind_some e
  obtain ⟨s1, e6, e⟩ := bind_some e
  obtain ⟨d, e7, e8⟩ := map_some e
  cases e8
  refine ⟨B, ρ, p.1, p.2, E, e4, fun vs H1 B1 E1 X1 O1 x dx hx hdx hne => ?_⟩
  obtain ⟨B2, E2, X2, R2⟩ := frzs_ok E1 O1 e5
  have hx2 : upd H1 dx (.own x) x = none := by rw [upd_ne (Ne.symm hne)]; exact hx
  have sm1 : Same H1 (upd (upd H1 dx (.own x)) x (.ins C dx [])) := (same_into hdx).trans (same_into hx2)
  have bx : B2 x = none := E2.free hx
  have oa : OwnAt X.K B2 (upd (upd H1 dx (.own x)) x (.ins C dx [])) x (.obj c []) := ⟨_, bx, upd_same, .obj hC rfl .nil⟩
  refine ⟨?_, B2, .obj c [] :: z.1, s1, x, E2.same.trans sm1, ?_, rfl, fun m v e q1 q2 => ?_, e6, ?_⟩
  · rw [List.append_nil, List.length_cons, R2.length]
    exact hlen _ _ e6
  · rw [List.append_nil, List.length_cons, List.length_cons, R2.length]
  · rw [List.append_nil] at q1
    cases m with
    | zero =>
      rw [if_pos rfl]
      cases q1; cases q2
      exact oa
    | succ m =>
      rw [if_neg (by omega)]
      rw [List.getElem?_cons_succ] at q1 q2
      obtain ⟨w, h1, h2⟩ := R2.get q2
      rw [q1] at h1
      cases h1
      exact h2
  · cases s1 with
    | io r d' =>
      cases r with
      | non =>
        cases e7
        refine fun v H' B' sm Y R own => ?_
        cases R
        refine ⟨rfl, ?_⟩
        have tr : ∀ b, upd (upd H1 dx (.own x)) x (.ins C dx []) b = none → H1 b = none := fun b hb => by
          by_cases h1 : b = x
          · rw [h1]; exact hx
          · rw [upd_ne h1] at hb
            by_cases h2 : b = dx
            · rw [h2]; exact hdx
            · rw [upd_ne h2] at hb; exact hb
        obtain ⟨E3, X3⟩ := E2.callN sm1 hx tr sm Y
        exact q _ H' B' E3 ((X1.trans X2).trans X3) ⟨x, rfl, own x rfl, X1.tr _ hx, fun z => E2.notOwn hx z⟩
      | _ => cases e7
    | _ => cases e7
end
end ML
set_option Elab.async false
set_option linter.all false
set_option autoImplicit false
set_option maxRecDepth 100000
set_option maxHeartbeats 4000000
/-! MLtxt: methods of texts, list.index, dicts of the module, written dicts, defs read off a class, new things handed in. -/
namespace ML
open PySem L2

theorem recvG_base {o : Expr} {m : Str} {env : PySem.Env} (h : recvG o = true) : attributeBase o m env (eval o env) = eval o env := by
  unfold attributeBase
  split
  · rename_i id p pos
    simp [recvG] at h
  · rfl
theorem recv_str {q : Smt} {x : D} {u : Unit} (hq : q ≠ .index) (h : recvF q x = some u) : ∃ z, x = .str z := by
  unfold recvF at h
  split at h
  · exact absurd rfl hq
  · cases h
  · exact ⟨_, rfl⟩
  · cases h
theorem strsD_eq : ∀ {ds : List D} {zs : List Str}, strsD ds = some zs → ds = zs.map D.str
  | [], zs, h => by cases h; rfl
  | .str x :: r, zs, h => by
    rw [strsD] at h
    obtain ⟨ys, h1, h2⟩ := map_some h
    subst h2
    rw [strsD_eq h1]
    rfl
  | .non :: _, _, h => by cases h
  | .bl _ :: _, _, h => by cases h
  | .int _ :: _, _, h => by cases h
  | .tup _ :: _, _, h => by cases h
  | .lst _ :: _, _, h => by cases h
  | .scr _ :: _, _, h => by cases h
  | .dK _ :: _, _, h => by cases h
  | .dT _ :: _, _, h => by cases h
  | .obj _ _ :: _, _, h => by cases h
  | .exc _ :: _, _, h => by cases h
theorem idxF_spec {y : D} : ∀ {xs : List D} {k j : Nat}, idxF y xs k = some j → k ≤ j ∧ ∃ z, xs[j - k]? = some z ∧ D.eqv z y = true ∧ ∀ m z', m < j - k → xs[m]? = some z' → D.eqv z' y = false
  | [], _, _, h => by cases h
  | x :: xs, k, j, h => by
    rw [idxF] at h
    split at h
    · rename_i hx
      cases h
      exact ⟨Nat.le_refl _, x, by rw [Nat.sub_self]; rfl, hx, fun m z' hm _ => by omega⟩
    · rename_i hx
      obtain ⟨h1, z, h2, h3, h4⟩ := idxF_spec h
      refine ⟨by omega, z, ?_, h3, fun m z' hm hz => ?_⟩
      · rw [show j - k = (j - (k + 1)) + 1 by omega, List.getElem?_cons_succ]
        exact h2
      · cases m with
        | zero => cases hz; simpa using hx
        | succ m =>
          rw [List.getElem?_cons_succ] at hz
          exact h4 m z' (by omega) hz
section
variable [Wd] {K : PySem.W.Frag} {B H : Hp}
theorem reps_strs : ∀ zs : List Str, Reps K B (zs.map V.str) (zs.map D.str)
  | [] => .nil
  | z :: zs => .cons (.str z) (reps_strs zs)
theorem of_strs : ∀ {zs : List Str} {vs : List V}, Reps K B vs (zs.map D.str) → vs = zs.map V.str
  | [], _, h => by cases h; rfl
  | z :: zs, _, h => by
    cases h with
    | cons a t => cases a; rw [of_strs t]; rfl
end
def rSmt [Wd] (K : PySem.W.Frag) (q : Smt) : V → List V → Hp → VK → Prop := fun x ys H Q => ∃ y B dx dy s, ys = [y] ∧ Same B H ∧ Rep1 K B H x dx ∧ Rep1 K B H y dy ∧ smtF q dx dy = some s ∧ ∀ v H' B', New K B H s v H' B' → Q v H'
section
variable [Wd] {X : Cx}
theorem mt_smt_split : MtR X "str.split" (rSmt X.K .split) := by
  intro pins st σ H x xs v us Q I rx rv h
  obtain ⟨y, B, dx, dy, s, rfl, sm, r1, r2, e, k⟩ := h
  unfold smtF at e
  split at e <;> try contradiction
  split at e
  · rename_i hz
    cases e
    exact mt_split pins st σ H _ _ v us Q I rx rv ⟨_, _, r1.str, by rw [r2.str], by simpa using hz.1, by rw [← line_eq]; exact hz.2.1, fun p hp => k _ _ _ (.own hp (reps_strs _) (by rw [List.length_map]; exact hz.2.2))⟩
  · cases e
theorem mt_smt_join : MtR X "str.join" (rSmt X.K .join) := by
  intro pins st σ H x xs v us Q I rx rv h
  obtain ⟨y, B, dx, dy, s, rfl, sm, r1, r2, e, k⟩ := h
  unfold smtF at e
  split at e <;> try contradiction
  obtain ⟨zs, e1, e⟩ := bind_some e
  split at e
  · rename_i hz
    cases e
    obtain ⟨a, vs, rfl, ha, q1, l1⟩ := r2.lst sm
    rw [strsD_eq e1] at q1
    rw [of_strs q1] at ha
    exact mt_join pins st σ H _ _ v us Q I rx rv ⟨_, a, zs, r1.str, rfl, .inl (SqL.of ha), hz, k _ _ _ (.old (.str _))⟩
  · cases e
theorem mt_smt_starts : MtR X "str.startswith" (rSmt X.K .starts) := by
  intro pins st σ H x xs v us Q I rx rv h
  obtain ⟨y, B, dx, dy, s, rfl, sm, r1, r2, e, k⟩ := h
  unfold smtF at e
  split at e <;> try contradiction
  cases e
  exact mt_startswith pins st σ H _ _ v us Q I rx rv ⟨_, _, r1.str, by rw [r2.str], k _ _ _ (.old (.bl _))⟩
theorem mt_smt_part : MtR X "str.partition" (rSmt X.K .part) := by
  intro pins st σ H x xs v us Q I rx rv h
  obtain ⟨y, B, dx, dy, s, rfl, sm, r1, r2, e, k⟩ := h
  unfold smtF at e
  split at e <;> try contradiction
  split at e
  · rename_i hz
    cases e
    exact mt_partition pins st σ H _ _ v us Q I rx rv ⟨_, _, r1.str, by rw [r2.str], by simpa using hz.1, by rw [← line_eq]; exact hz.2, fun p hp => k _ _ _ (newTup sm hp (.cons (.str _) (.cons (.str _) (.cons (.str _) .nil))) (by show 3 ≤ 16777216; decide))⟩
  · cases e
theorem mt_smt_index (hu : X.A.units + 65 < cLine) : MtR X "list.index" (rSmt X.K .index) := by
  intro pins st σ H x xs v us Q I rx rv h
  obtain ⟨y, B, dx, dy, s, rfl, sm, r1, r2, e, k⟩ := h
  obtain ⟨ds, rfl⟩ : ∃ ds, dx = .lst ds := by
    cases dx <;> first | exact ⟨_, rfl⟩ | cases e
  have e : (if D.okd DEEP (.lst ds) && D.okd DEEP dy then (idxF dy ds 0).mpd fun j => Sv.fro (.int j) else none) = some s := e
  split at e
  · rename_i hz
    rw [Bool.and_eq_true] at hz
    obtain ⟨j, e1, e2⟩ := map_some e
    cases e2
    obtain ⟨_, z, g1, g2, g3⟩ := idxF_spec e1
    rw [Nat.sub_zero] at g1 g3
    have f1 := r1.full sm
    have f2 := r2.full sm
    obtain ⟨a, vs, rfl, ha, q1, l1⟩ := r1.lst sm
    have hds : D.okds 39 ds = true := by simpa [D.okd, DEEP] using hz.1
    have okz : ∀ w ∈ ds, D.okd 39 w = true := fun w hw => okds_mem hds w hw
    refine mt_indexD hu pins st σ H _ _ v us Q I rx rv ⟨a, y, dy.py, ds.map D.py, j, z.py, rfl, rfl, ?_, dp_of _ _ _ hz.2 f2, ?_, deep64 hz.2, ?_, ?_, fun m z' hm hz' => ?_, k _ _ _ (.old (.int _))⟩
    · have := dp_of _ _ _ hz.1 f1
      rw [D.py, pys_map] at this
      exact this
    · have := deep64 hz.1
      rw [D.py, pys_map] at this
      exact this
    · rw [List.getElem?_map, g1]; rfl
    · rw [eqv_py _ _ _ _ (okz z (List.mem_of_getElem? g1)) hz.2]; exact g2
    · rw [List.getElem?_map] at hz'
      obtain ⟨w, h1, h2⟩ := Option.map_eq_some_iff.mp hz'
      subst h2
      rw [eqv_py _ _ _ _ (okz w (List.mem_of_getElem? h1)) hz.2]
      exact g3 m w hm h1
  · cases e
end
section
variable [Wd] {X : Cx} {Φ : Nat → List D → Option Sv} {F : List (Str × Nat)} {Gc : List (Str × D)} {N : List Str} {sc : Scope} {k : Nat}
theorem smt_key {q : Smt} {a b : ME} {T : V → Hp → Prop} (hT : ∀ {B H v x u}, Same B H → Rep1 X.K B H v x → recvF q x = some u → T v H) : ∀ σ H Q, tE X.K Φ (.smt q a b) σ H Q → tE X.K Φ a σ H fun x H1 => T x H1 ∧ tE X.K Φ b σ H1 fun y H2 => rSmt X.K q x [y] H2 Q := by
  intro σ H Q ⟨B, ρ, r, ρ', E, e, q⟩
  rw [evE] at e
  obtain ⟨p, e1, e⟩ := bind_some e
  obtain ⟨x0, e2, e⟩ := bind_some e
  obtain ⟨u, e3, e⟩ := bind_some e
  obtain ⟨p2, e4, e⟩ := bind_some e
  obtain ⟨x, e5, e⟩ := bind_some e
  obtain ⟨y, e6, e⟩ := bind_some e
  obtain ⟨s, e7, e⟩ := bind_some e
  obtain ⟨t, e8, e9⟩ := map_some e
  cases e9
  refine ⟨B, ρ, p.1, p.2, E, e1, fun v H1 B1 E1 X1 R1 => ?_⟩
  obtain ⟨B1', E1', X1', O1⟩ := op_of E1 X1 R1
  refine ⟨hT E1'.same (cont_ok E1' O1 e2) e3, B1', p.2, p2.1, p2.2, E1', e4, fun w H2 B2 E2 X2 R2 => ?_⟩
  obtain ⟨B2', E2', X2', O2⟩ := op_of E2 X2 R2
  refine ⟨w, B2', x, y, s, rfl, E2'.same, cont_ok E2' (O1.mono X2'.b) e5, cont_ok E2' O2 e6, e7, fun z H3 B3 n => ?_⟩
  obtain ⟨E3, X3, r3, f, R3⟩ := n.ok E2' (X1'.trans X2')
  rw [e8] at f; cases f
  exact q z H3 B3 E3 X3 R3
theorem snd_smt (g : Good X Φ F Gc N sc k) {q : Smt} {a b : ME} {o y : Expr} {ap cp : Pos} (hr : recvG o = true) (hl : (ap.endLine == cp.line) = true) (hs : noStar y = true) (ha : PE X o (tE X.K Φ a)) (hb : PE X y (tE X.K Φ b)) :
    PE X (.Call (.Attribute o q.name ap) [y] [] cp) (tE X.K Φ (.smt q a b)) := by
  have st := star_cons hs [] X.env
  have str : ∀ q, q ≠ .index → ∀ σ H Q, tE X.K Φ (.smt q a b) σ H Q → tM1 (rSmt X.K q) (tE X.K Φ a) (tE X.K Φ b) σ H Q := fun q hq =>
    smt_key (T := fun v _ => ∃ a, v = .str a) fun _ r e => by
      obtain ⟨z, rfl⟩ := recv_str hq e
      exact ⟨z, r.str⟩
  cases q with
  | split => exact PE.imp (pe_m1 PySem.F.slot_str_split PySem.F.type_str_split mt_smt_split ha hb st (recvG_base hr) hl) (str _ (by decide))
  | join => exact PE.imp (pe_m1 PySem.F.slot_str_join PySem.F.type_str_join mt_smt_join ha hb st (recvG_base hr) hl) (str _ (by decide))
  | starts => exact PE.imp (pe_m1 PySem.F.slot_str_startswith PySem.F.type_str_startswith mt_smt_starts ha hb st (recvG_base hr) hl) (str _ (by decide))
  | part => exact PE.imp (pe_m1 PySem.F.slot_str_partition PySem.F.type_str_partition mt_smt_part ha hb st (recvG_base hr) hl) (str _ (by decide))
  | index =>
    refine PE.imp (pe_bm PySem.F.plainAttrs_list PySem.F.slot_list_index PySem.F.type_list_index (mt_smt_index (by have := g.hu'; omega)) ha (pa_cons hb pa_nil st) (recvG_base hr) (by rw [st]; rfl) hl st rfl) fun σ H Q h => ?_
    exact smt_key (T := fun v H => tyV X.K "list" v H) (fun {B H v x u} sm r e => by
      unfold recvF at e
      split at e
      · obtain ⟨a, vs, rfl, ha, _, _⟩ := r.lst sm
        exact .inl ⟨rfl, vs, SqL.of ha⟩
      · cases e
      · exact absurd rfl (by assumption)
      · cases e) σ H Q h

/-! ### dicts of the module -/
theorem same_enc {e : D} {kvs : List (Str × D)} (h : D.same e (encD kvs) = true) : e = encD kvs := same_eq _ _ h
theorem gd_of (g : Good X Φ F Gc N sc k) {x : Str} {kvs : List (Str × D)} (h : gdB Gc x kvs = true) : GdOk X.K X.w X.mg x kvs := by
  unfold gdB at h
  split at h
  · rename_i e he
    exact g.gd x kvs (by rw [he, same_enc h])
  · cases h
theorem ents_find [Wd] {K : PySem.W.Frag} {z : Str} : ∀ {es : List DictEntry} {kvs : List (Str × D)}, EntsOk K es kvs →
    (match es.find? (·.key.isStr z) with
      | some e => some (some e.val)
      | none => if es.any (·.refKey) then none else some none) = (match kvs.lookup z with
      | some d => es.find? (·.key.isStr z) |>.map fun e => some e.val
      | none => some none) ∧ ∀ d, kvs.lookup z = some d → ∃ e v, es.find? (·.key.isStr z) = some e ∧ RelV v e.val ∧ ∀ H, Rep K H v d
  | [], _, .nil => ⟨rfl, fun _ h => by cases h⟩
  | e :: es, _, .cons (k := k) (t := t) (d := d) (v := v) (kvs := kvs) h1 h2 h3 h4 => by
    obtain ⟨i1, i2⟩ := ents_find (z := z) h4
    have hs : e.key.isStr z = (k == z) := by rw [h1]; rfl
    have hr : e.refKey = false := by unfold DictEntry.refKey; rw [h1]
    rw [List.find?_cons, List.lookup_cons, List.any_cons, hs, hr]
    by_cases hk : k = z
    · subst hk
      simp only [beq_self_eq_true]
      exact ⟨rfl, fun d' hd => by cases hd; exact ⟨e, v, rfl, h2, h3⟩⟩
    · have b1 : (k == z) = false := beq_eq_false_iff_ne.mpr hk
      have b2 : (z == k) = false := beq_eq_false_iff_ne.mpr (Ne.symm hk)
      rw [b1, b2]
      exact ⟨by simpa using i1, i2⟩
theorem gd_ns {x : Str} {kvs : List (Str × D)} (h : GdOk X.K X.w X.mg x kvs) : ∃ a es n, X.mg x = some (.ref a) ∧ KDict X.K X.w a es n ∧ ∀ z, ∃ r, PySem.W.nsIn X.K a z = some r ∧ r.isSome = (kvs.lookup z).isSome ∧ ∀ d, kvs.lookup z = some d → ∃ u v, r = some u ∧ RelV v u ∧ ∀ H, Rep X.K H v d := by
  obtain ⟨a, es, n, h1, h2, h3⟩ := h
  refine ⟨a, es, n, h1, h2, fun z => ?_⟩
  obtain ⟨f1, f2⟩ := ents_find (z := z) h3
  have hn : PySem.W.nsIn X.K a z = (match kvs.lookup z with
      | some d => es.toList.find? (·.key.isStr z) |>.map fun e => some e.val
      | none => some none) := by
    unfold PySem.W.nsIn
    rw [h2.at_]
    exact f1
  cases hl : kvs.lookup z with
  | none =>
    rw [hl] at hn
    exact ⟨none, hn, rfl, fun _ h => by cases h⟩
  | some d =>
    obtain ⟨e, v, g1, g2, g3⟩ := f2 d hl
    rw [hl, g1] at hn
    exact ⟨some e.val, hn, rfl, fun d' hd => by cases hd; exact ⟨e.val, v, rfl, g2, g3⟩⟩
theorem asS_eq {d : D} {z : Str} (h : asS d = some z) : d = .str z := by
  cases d <;> simp [asS] at h
  rw [h]
theorem snd_gdx (g : Good X Φ F Gc N sc k) {x : Str} {kvs : List (Str × D)} {a : ME} {z : Expr} {p pos : Pos} (hg : gloB sc x = true) (hp : plainB x = true) (hs : noSlice z = true) (hd : gdB Gc x kvs = true) (ha : PE X z (tE X.K Φ a)) : PE X (.Subscript (.Name x p) z pos) (tE X.K Φ (.gdx x kvs a)) := by
  obtain ⟨d1, _, _⟩ := plain_ne hp
  obtain ⟨da, es, n, hm, hD, hns⟩ := gd_ns (gd_of g hd)
  refine PE.imp (pe_ix ix_kdict (pe_glob (v := .ref da) (g.gl_ok hg) hm rfl d1) ha (plainIx_of hs)) fun σ H Q ⟨B, ρ, r, ρ', E, e, q⟩ => ?_
  rw [evE] at e
  obtain ⟨p1, e1, e⟩ := bind_some e
  obtain ⟨x0, e2, e⟩ := bind_some e
  obtain ⟨z0, e3, e⟩ := bind_some e
  obtain ⟨d, e4, e5⟩ := map_some e
  cases e5
  refine ⟨B, ρ, p1.1, p1.2, E, e1, fun v H1 B1 E1 X1 R1 => ?_⟩
  obtain ⟨B1', E1', X1', O1⟩ := op_of E1 X1 R1
  have r1 := cont_ok E1' O1 e2
  rw [asS_eq e3] at r1
  obtain ⟨r0, g1, _, g3⟩ := hns z0
  obtain ⟨u, w, rfl, g4, g5⟩ := g3 d e4
  exact ⟨da, z0, w, rfl, r1.str, ⟨es, n, u, hD.at_, hD.lit, g1, g4⟩, q w H1 B1' E1' X1' (g5 B1')⟩
theorem snd_gdin (g : Good X Φ F Gc N sc k) {neg : Bool} {x : Str} {kvs : List (Str × D)} {a : ME} {l : Expr} {p pos : Pos} (hb : behindInMarks (if neg then CmpOp.NotIn else CmpOp.In) (.Name x p) = false) (hg : gloB sc x = true) (hp : plainB x = true) (hd : gdB Gc x kvs = true) (ha : PE X l (tE X.K Φ a)) : PE X (.Compare l [if neg then CmpOp.NotIn else CmpOp.In] [.Name x p] pos) (tE X.K Φ (.gdin neg x kvs a)) := by
  obtain ⟨d1, _, _⟩ := plain_ne hp
  obtain ⟨da, es, n, hm, hD, hns⟩ := gd_ns (gd_of g hd)
  have hn : PE X (.Name x p) (tC (.ref da)) := pe_glob (v := .ref da) (g.gl_ok hg) hm rfl d1
  have key : ∀ (r : R2) (f : Option Value → Bool), (∀ x y H Q, (∃ (z : Str) (r : Option Value), x = .str z ∧ y = .ref da ∧ PySem.W.nsIn X.K da z = some r ∧ Q (.bl (f r)) H) → r x y H Q) → (∀ r : Option Value, f r = if neg then !r.isSome else r.isSome) →
      ∀ σ H Q, tE X.K Φ (.gdin neg x kvs a) σ H Q → tOp r (tE X.K Φ a) (tC (.ref da)) σ H Q := fun r f hr hf σ H Q ⟨B, ρ, r', ρ', E, e, q⟩ => by
    rw [evE] at e
    obtain ⟨p1, e1, e⟩ := bind_some e
    obtain ⟨x0, e2, e⟩ := bind_some e
    obtain ⟨z0, e3, e5⟩ := map_some e
    cases e5
    refine ⟨B, ρ, p1.1, p1.2, E, e1, fun v H1 B1 E1 X1 R1 => ?_⟩
    obtain ⟨B1', E1', X1', O1⟩ := op_of E1 X1 R1
    have r1 := cont_ok E1' O1 e2
    rw [asS_eq e3] at r1
    obtain ⟨r0, g1, g2, _⟩ := hns z0
    refine hr _ _ _ _ ⟨z0, r0, r1.str, rfl, g1, ?_⟩
    rw [hf, g2]
    exact q _ H1 B1' E1' X1' (.bl _)
  cases neg with
  | false => exact PE.imp (pe_cmpR (op_in_kd hD) ha hn hb) (key _ Option.isSome (fun x y H Q h => h) fun r => rfl)
  | true => exact PE.imp (pe_cmpR (op_notIn_kd hD) ha hn hb) (key _ (fun r => !r.isSome) (fun x y H Q h => h) fun r => rfl)
theorem snd_gdinT (g : Good X Φ F Gc N sc k) {neg : Bool} {x : Str} {kvs : List (Str × D)} {a : ME} {l : Expr} {p pos : Pos} (hb : behindInMarks (if neg then CmpOp.NotIn else CmpOp.In) (.Name x p) = false) (hg : gloB sc x = true) (hp : plainB x = true) (hd : gdB Gc x kvs = true) (ha : PE X l (tE X.K Φ a)) : PT X (.Compare l [if neg then CmpOp.NotIn else CmpOp.In] [.Name x p] pos) (tT X.K Φ (.gdin neg x kvs a)) := by
  obtain ⟨d1, _, _⟩ := plain_ne hp
  obtain ⟨da, es, n, hm, hD, hns⟩ := gd_ns (gd_of g hd)
  have hn : PE X (.Name x p) (tC (.ref da)) := pe_glob (v := .ref da) (g.gl_ok hg) hm rfl d1
  have key : ∀ (r : R2) (f : Option Value → Bool), (∀ x y H Q, (∃ (z : Str) (r : Option Value), x = .str z ∧ y = .ref da ∧ PySem.W.nsIn X.K da z = some r ∧ Q (.bl (f r)) H) → r x y H Q) → (∀ r : Option Value, f r = if neg then !r.isSome else r.isSome) →
      ∀ σ H Q, tT X.K Φ (.gdin neg x kvs a) σ H Q → tTest (tOp r (tE X.K Φ a) (tC (.ref da))) σ H Q := fun r f hr hf σ H Q ⟨B, ρ, r', ρ', b, E, e, eb, q⟩ => by
    rw [evE] at e
    obtain ⟨p1, e1, e⟩ := bind_some e
    obtain ⟨x0, e2, e⟩ := bind_some e
    obtain ⟨z0, e3, e5⟩ := map_some e
    cases e5
    cases eb
    refine ⟨B, ρ, p1.1, p1.2, E, e1, fun v H1 B1 E1 X1 R1 => ?_⟩
    obtain ⟨B1', E1', X1', O1⟩ := op_of E1 X1 R1
    have r1 := cont_ok E1' O1 e2
    rw [asS_eq e3] at r1
    obtain ⟨r0, g1, g2, _⟩ := hns z0
    refine hr _ _ _ _ ⟨z0, r0, r1.str, rfl, g1, _, rfl, ?_⟩
    rw [hf, g2]
    exact q H1 B1' E1' X1'
  cases neg with
  | false => exact PT.imp (pt_cmpR (op_in_kd hD) ha hn hb) (key _ Option.isSome (fun x y H Q h => h) fun r => rfl)
  | true => exact PT.imp (pt_cmpR (op_notIn_kd hD) ha hn hb) (key _ (fun r => !r.isSome) (fun x y H Q h => h) fun r => rfl)

/-! ### a written dict of texts -/
theorem merge_nodup {κ : Type} [DecidableEq κ] : ∀ (more acc : List (κ × V)), ((acc.map (·.1)) ++ more.map (·.1)).Nodup → more.foldl (fun acc kv => L2.putK acc kv.1 kv.2) acc = acc ++ more
  | [], acc, _ => by simp
  | kv :: more, acc, h => by
    rw [List.foldl_cons]
    have hk : (acc.any fun p => decide (p.1 = kv.1)) = false := by
      rw [List.any_eq_false]
      intro p hp hz
      have hz := of_decide_eq_true hz
      rw [List.map_cons, List.nodup_append] at h
      exact h.2.2 p.1 (List.mem_map_of_mem hp) kv.1 List.mem_cons_self hz
    have e : L2.putK acc kv.1 kv.2 = acc ++ [(kv.1, kv.2)] := by
      unfold L2.putK
      rw [hk]
      rfl
    rw [e, merge_nodup more _ (by simpa using h)]
    simp
theorem pps_dsp : ∀ {kvs : List (Str × Str)} {ks : List (Option Expr)} {vs : List Expr} {pos : Pos}, dspB kvs ks vs = true → PPs X pos ks vs (kvs.map fun p => (tC (.str p.1), tC (.str p.2))) ∧ ks.all (·.isSome) = true ∧ ks.length = kvs.length ∧ vs.length = kvs.length
  | [], [], [], _, _ => ⟨pps_nil, rfl, rfl, rfl⟩
  | (k1, v1) :: r, some e1 :: ks, e2 :: vs, pos, h => by
    unfold dspB at h
    split at h
    · rename_i heq1 heq2 heq3
      cases heq1
    · rename_i k2 v2 r2 k3 j3 p3 ks3 v3 j4 p4 vs3 heq1 heq2 heq3
      cases heq1; cases heq2; cases heq3
      simp only [Bool.and_eq_true, decide_eq_true_eq] at h
      obtain ⟨⟨rfl, rfl⟩, h3⟩ := h
      obtain ⟨i1, i2, i3, i4⟩ := pps_dsp (pos := pos) h3
      exact ⟨pps_cons pe_str pe_str i1, by rw [List.all_cons, i2]; rfl, by rw [List.length_cons, List.length_cons, i3], by rw [List.length_cons, List.length_cons, i4]⟩
    · cases h
  | [], _ :: _, _, _, h => by simp [dspB] at h
  | [], [], _ :: _, _, h => by simp [dspB] at h
  | _ :: _, [], _, _, h => by simp [dspB] at h
  | _ :: _, none :: _, _, _, h => by simp [dspB] at h
  | _ :: _, some _ :: _, [], _, h => by simp [dspB] at h
theorem pairs_const {σ : L2.St} : ∀ (kvs : List (Str × Str)) (H : Hp) (Q : List (V × V) → Hp → Prop), Q (kvs.map fun p => (V.str p.1, V.str p.2)) H → tPairs (kvs.map fun p => (tC (.str p.1), tC (.str p.2))) σ H Q
  | [], H, Q, h => h
  | p :: r, H, Q, h => pairs_const r H (fun ps H => Q ((.str p.1, .str p.2) :: ps) H) h
theorem snd_dsp (g : Good X Φ F Gc N sc k) {kvs : List (Str × Str)} {ks : List (Option Expr)} {vs : List Expr} {pos : Pos} (hd : dspB kvs ks vs = true) (hn : kvs.isEmpty = false) (hl : kvs.length ≤ 15) (nd : (kvs.map (·.1)).Nodup) : PE X (.Dict ks vs pos) (tE X.K Φ (.dsp kvs)) := by
  obtain ⟨i1, i2, i3, i4⟩ := pps_dsp (X := X) (pos := pos) hd
  have hk : ks ≠ [] := fun z => by
    subst z
    cases kvs with
    | nil => cases hn
    | cons _ _ => cases i3
  refine PE.imp (pe_disp i1 i2 (by rw [i3, i4]) hk (by rw [i3]; exact hl)) fun σ H Q ⟨B, ρ, r, ρ', E, e, q⟩ p hp => ?_
  rw [evE] at e
  cases e
  refine pairs_const kvs _ _ ⟨upd_same, kvs.map fun p => (.inr p.1, .str p.2), by rw [List.map_map]; rfl, by rw [List.length_map]; exact hl, ?_⟩
  have hm : mergeK [] (kvs.map fun p => ((.inr p.1 : L2.Key), V.str p.2)) = kvs.map fun p => (.inr p.1, .str p.2) := by
    unfold mergeK
    rw [merge_nodup]
    · rfl
    · rw [List.map_nil, List.nil_append, List.map_map]
      have : (kvs.map ((fun x => x.1) ∘ fun p => ((.inr p.1 : L2.Key), V.str p.2))) = (kvs.map (·.1)).map Sum.inr := by rw [List.map_map]; rfl
      rw [this]
      exact List.pairwise_map.mpr (List.Pairwise.imp (fun hab z => hab (Sum.inr.inj z)) nd)
  rw [hm, upd_upd]
  have hr : Reps X.K B ((kvs.map fun p => ((.inr p.1 : L2.Key), V.str p.2)).map (·.2)) ((kvs.map fun p => ((.inr p.1 : L2.Key), D.str p.2)).map (·.2)) := by
    rw [List.map_map, List.map_map]
    have := reps_strs (K := X.K) (B := B) (kvs.map (·.2))
    rw [List.map_map, List.map_map] at this
    exact this
  obtain ⟨E3, X3, r3, f, R3⟩ := (New.cell (K := X.K) (d := dspD kvs) hp (.dK (by rw [List.map_map, List.map_map]; rfl) hr)).ok E .refl
  cases f
  exact q _ _ _ E3 X3 R3

/-! ### max(.., default=0) -/
theorem maxD_ints : ∀ (ns : List Int) (n : Int), PySem.W.maxD (.int n) (ns.map PyData.int) = .int (ns.foldl max n)
  | [], n => rfl
  | m :: ns, n => by
    unfold PySem.W.maxD
    rw [List.map_cons, List.foldl_cons, List.foldl_cons]
    have hlt : PySem.W.dataLt (.int n) (.int m) = decide (n < m) := by
      have := lt_py (.int n) (.int m) 40 40 rfl rfl rfl
      exact this
    have ih := maxD_ints ns (max n m)
    unfold PySem.W.maxD at ih
    rw [← ih, hlt]
    congr 1
    by_cases h : n < m
    · rw [decide_eq_true h, if_pos rfl, show max n m = m by omega]
    · rw [decide_eq_false h, if_neg (by decide), show max n m = n by omega]
def rMaxD (K : PySem.W.Frag) : List V → List V → Hp → VK → Prop := fun xs zs H Q => ∃ (a : Addr) (ns : List Int), xs = [.ref a] ∧ zs = [.int 0] ∧ H a = some (.lst (ns.map V.int)) ∧ Q (.int ((maxI ns).getD 0)) H
theorem okds_ints (n : Nat) : ∀ ns : List Int, D.okds n (ns.map D.int) = true
  | [] => by simp [D.okds]
  | x :: ns => by rw [List.map_cons, D.okds, okds_ints n ns]; simp [D.okd]
theorem cr_maxD (hc : X.calm = true) (hu : X.A.units + 64 < cLine) : CallRK X (.builtin "max") ["default"] (rMaxD X.K) := by
  intro pins s σ H xs zs us ws Q I r r' h
  obtain ⟨a, ns, rfl, rfl, ha, q⟩ := h
  obtain ⟨its, rv, hl, hz⟩ := I.list (SqL.of ha)
  rw [Vals.ref1 r]
  cases r' with
  | cons rd rt =>
    rename_i w ws
    cases rt
    have hr : Reps X.K H (ns.map V.int) (ns.map D.int) := Reps.ints ns
    have e := each_rep rv hr
    have er := each_reads I (Same.refl H) (okds_ints 40 ns) e
    obtain ⟨as, ra⟩ := PySem.W.each_readsAll D.py er
    have dl := depths_le (ns.map D.int) (okds_ints 40 ns)
    have hp : (ns.map D.int).map D.py = ns.map PyData.int := by rw [List.map_map]; rfl
    rw [hp] at ra dl
    show wpAny _ _ (call (.builtin "max") [.ref a] [(Str.ofString "default", w)]) _ _ _
    refine PySem.W.max_list_default (xs := ns.map PyData.int) (I.ok.hd hc) hl.isList (by simpa using ra) ⟨fun b hb c hc => ?_, fun b hb => ?_⟩ (by omega) (fun h0 h' tk hk => ?_) fun y ys i v h' tk bs hy hi rm hk => ?_
    · obtain ⟨x, _, rfl⟩ := List.mem_map.mp hb
      obtain ⟨z, _, rfl⟩ := List.mem_map.mp hc
      exact alike_py (.int x) (.int z) 40 40 rfl rfl rfl
    · obtain ⟨x, _, rfl⟩ := List.mem_map.mp hb
      intro z; cases z
    · cases ns with
      | nil => exact ⟨.int 0, H, I.kept hk, rd, q⟩
      | cons _ _ => cases h0
    · cases ns with
      | nil => cases hy
      | cons n ns =>
        rw [List.map_cons] at hy
        obtain ⟨h1, h2⟩ := List.cons.inj hy
        subst h1 h2
        rw [maxD_ints] at rm
        have hi' : its[i]? = some v := by simpa using hi
        obtain ⟨w2, hw, rw'⟩ : ∃ w, ((n :: ns).map V.int)[i]? = some w ∧ RelV w v := by
          have hlt : i < its.length := (List.getElem?_eq_some_iff.mp hi').1
          obtain ⟨u, g1, g2⟩ := rv.get (List.getElem?_eq_getElem (l := (n :: ns).map V.int) (i := i) (by rw [rv.length]; exact hlt))
          rw [hi'] at g1
          cases g1
          exact ⟨_, List.getElem?_eq_getElem (by rw [rv.length]; exact hlt), g2⟩
        rw [List.getElem?_map] at hw
        obtain ⟨m, _, rfl⟩ := Option.map_eq_some_iff.mp hw
        obtain ⟨cs, rd1⟩ := Dp.reads I (.int m) (.int m) v (dp_of 40 (.int m) _ rfl (K := X.K) (H := H) (.int m)) rw'
        have rd' : Reads h' v (.int m) cs := PyProof.Rows.Reads.keeps hk rd1
        have ee := PySem.W.alike_unique _ _ _ _ _ (alike_py (.int m) (.int (ns.foldl max n)) 40 40 rfl rfl rfl) rd' rm
        cases ee
        exact ⟨_, H, I.kept hk, rw', q⟩
theorem snd_maxd (g : Good X Φ F Gc N sc k) {a : ME} {y : Expr} {p pos kp p2 : Pos} {j : Nat} (h1 : bltOk F Gc sc "max" = true) (hs : noStar y = true) (ha : PE X y (tE X.K Φ a)) :
    PE X (.Call (.Name "max" p) [y] [⟨some ("default" : Str), .Constant (.int 0) j p2, kp⟩] pos) (tE X.K Φ (.maxd a)) := by
  obtain ⟨a1, a2, a3⟩ := blt_ok' h1
  have m1 : X.mg "max" = none := g.bl _ a1 (Option.isNone_iff_eq_none.mp a2) (by decide +kernel)
  have st := star_cons hs [] X.env
  refine PE.imp (pe_callBK (cr_maxD g.calm g.hu) (g.gl_ok a3) m1 (by decide +kernel) (pa_cons ha pa_nil st) (pk_cons (pe_int (j := j)) pk_nil) (by decide +kernel) (by decide +kernel) (by rw [st]; rfl) (by rw [st]; rfl)) fun σ H Q ⟨B, ρ, r, ρ', E, e, q⟩ => ?_
  rw [evE] at e
  obtain ⟨p1, e1, e⟩ := bind_some e
  obtain ⟨x0, e2, e⟩ := bind_some e
  obtain ⟨d, e3, e5⟩ := map_some e
  cases e5
  refine ⟨B, ρ, p1.1, p1.2, E, e1, fun v H1 B1 E1 X1 R1 => ?_⟩
  obtain ⟨B1', E1', X1', O1⟩ := op_of E1 X1 R1
  have r1 := cont_ok E1' O1 e2
  unfold maxD0 at e3
  split at e3
  · obtain ⟨ns, e4, e5⟩ := map_some e3
    obtain ⟨a', vs, rfl, hv, q1, l1⟩ := r1.lst E1'.same
    rw [D.ints_eq e4] at q1
    rw [q1.of_ints] at hv
    refine ⟨a', ns, rfl, rfl, hv, q _ H1 B1' E1' X1' ?_⟩
    rw [← e5]
    cases h : maxI ns <;> exact .int _
  · cases e3

/-! ### a def read off a class -/
theorem pe_cc {CX : CXT} (g : Good X Φ F Gc N sc k) {c m : Str} {C a : Addr} {fd : FuncData} {ps : List Str} {sp : Sp} {E : L2.St → XK} {p ap cp : Pos} {es : List Expr} {ms : List ME} {t : TA} (hg : gloB sc c = true) (hp : plainB c = true) (hm : X.mg c = some (.ref C)) (hc : ClsC X.K C m a) (hl : (ap.endLine == cp.line) = true) (hn : es.length < 30) (hok : okEs F Gc N sc ms es = true)
    (Fn : FnOk X.prog X.w X.K X.mg X.base CX k a fd ps sp) (hr : Room k X.A) (hb : Binds X.K fd ps []) (hx : ∀ σ, PassesAt CX X σ (E σ)) (ha : PA X es t) (h0 : es = [] → ∀ σ H Q, t σ H Q → tNil σ H Q) : PE X (.Call (.Attribute (.Name c p) m ap) es [] cp) (tCallS sp E t) := by
  obtain ⟨d1, _, _⟩ := plain_ne hp
  refine ⟨fun pins s σ H Q I h => ?_⟩
  refine PySem.W.methodCall_KW (ld_glob I (g.gl_ok hg) hm ?_ d1) (meth_eval rfl (okEs_plain hok cp X.env) hl hn)
  refine PySem.W.method_cls I.kIn hc.ga (PySem.W.cls_value I.kIn hc.rd hc.at_ rfl ?_)
  have I1 : Inv X pins σ H { s with toks := s.toks + 1 } := I.tok _
  cases es with
  | nil => exact PySem.W.callWith_K0 (first := []) I1.kIn hc.kp (run_fnS (us := []) Fn hr hb (hx σ) I1 .nil (h0 rfl _ _ _ h))
  | cons e es =>
    cases ms with
    | nil => simp [okEs] at hok
    | cons m1 ms =>
      unfold okEs at hok
      simp only [Bool.and_eq_true] at hok
      refine PySem.W.callWith_K (first := []) (h₀ := X.base) I.ok.mod.kin hc.kp (thn (ha.run cp pins _ σ H _ I1 h) fun us s2 ⟨vs, H2, I2, r, q2⟩ => ⟨I2.kIn, ?_⟩) (star_cons hok.1.1 es X.env) (okEs_plain hok.2 cp X.env)
      exact run_fnS (us := us) (vs := vs) Fn hr hb (hx σ) I2 r q2
theorem snd_ccall (g : Good X Φ F Gc N sc k) {f : Nat} {c m : Str} {ms : List ME} {es : List Expr} {p ap cp : Pos} (hf : F.lookup (dotN "@" (dotN c m)) = some f) (hF : f ≠ FLD) (hi : ioPos f = none) (hg : gloB sc c = true) (hp : plainB c = true) (hl : (ap.endLine == cp.line) = true) (hn : es.length < 30) (hok : okEs F Gc N sc ms es = true) (ha : PA X es (tA X.K Φ ms)) :
    PE X (.Call (.Attribute (.Name c p) m ap) es [] cp) (tE X.K Φ (.call f ms)) := by
  obtain ⟨C, a, fd, ps, hm, hc, hb, Fn, hlen⟩ := g.cc c m f hp hf hF
  rw [spG_none hi] at Fn
  refine PE.imp (pe_cc (E := fun _ => E0) g hg hp hm hc hl hn hok Fn g.rm hb (fun σ pins H s e s' I c => passL pins σ H s e s' I c) ha fun z => by obtain rfl := okEs_nil hok z; exact tA_nil) fun σ H Q h => ?_
  exact call_key (φ := Φ f) hlen σ H Q h

/-! ### new things handed in -/
inductive OpJ [Wd] (K : PySem.W.Frag) (B H H0 : Hp) (ρ : ML.Env) (σ : L2.St) : Nat → List Rv → List V → Prop
  | here {d : D} {v : V} {rs : List Rv} {vs : List V} : (∃ a, v = .ref a ∧ OwnAt K B H a d ∧ H0 a = none ∧ ¬ OwnS ρ σ a) → OpOks K B σ rs vs → OpJ K B H H0 ρ σ 0 (.own d :: rs) (v :: vs)
  | there {j : Nat} {r : Rv} {v : V} {rs : List Rv} {vs : List V} : OpOk K B σ r v → OpJ K B H H0 ρ σ j rs vs → OpJ K B H H0 ρ σ (j + 1) (r :: rs) (v :: vs)
theorem OpJ.tr [Wd] {K : PySem.W.Frag} {B H H0 H1 : Hp} {ρ : ML.Env} {σ : L2.St} (t : ∀ a, H1 a = none → H0 a = none) : ∀ {j : Nat} {rs : List Rv} {vs : List V}, OpJ K B H H1 ρ σ j rs vs → OpJ K B H H0 ρ σ j rs vs
  | _, _, _, .here ⟨a, h1, h2, h3, h4⟩ o => .here ⟨a, h1, h2, t a h3, h4⟩ o
  | _, _, _, .there o r => .there o (OpJ.tr t r)
/-- a thing that no slot has stays what it is -/
theorem OwnAt.pass [Wd] {K : PySem.W.Frag} {B H B' H' : Hp} {O O' : Addr → Prop} {a : Addr} {d : D} (h : OwnAt K B H a d) (hn : ¬ O a) (Y : Ext B H O B' H' O') : OwnAt K B' H' a d ∧ ¬ O' a := by
  obtain ⟨o, h1, h2, h3⟩ := h
  refine ⟨⟨o, ?_, Y.keep _ _ h2 hn, h3.mono Y.b⟩, fun z => ?_⟩
  · cases e : B' a with
    | none => rfl
    | some u =>
      rcases Y.base a u e with z | z | z
      · rw [h1] at z; cases z
      · rw [h2] at z; cases z
      · exact absurd z hn
  · rcases Y.own a z with z | z
    · exact hn z
    · rw [h2] at z; cases z
def isOw : Nat → List Rv → Bool
  | 0, .own _ :: _ => true
  | j + 1, _ :: rs => isOw j rs
  | _, _ => false
theorem frzT_ow : ∀ {j : Nat} {rs : List Rv} {ρ : ML.Env} {q : List D × ML.Env}, frzT j rs ρ = some q → isOw j rs = true
  | 0, .own _ :: _, _, _, _ => rfl
  | j + 1, r :: rs, ρ, q, h => by
    rw [frzT] at h
    obtain ⟨p, _, h⟩ := bind_some h
    obtain ⟨q1, h1, _⟩ := map_some h
    exact frzT_ow (j := j) h1
  | 0, [], _, _, h => by cases h
  | 0, .fro _ :: _, _, _, h => by cases h
  | 0, .ali _ :: _, _, _, h => by cases h
  | _ + 1, [], _, _, h => by cases h
def tAJ [Wd] (K : PySem.W.Frag) (Φ : Nat → List D → Option Sv) (j : Nat) (ms : List ME) : TA := fun σ H Q => ∃ B ρ rs ρ', EnvOk K B H ρ σ ∧ evEs Φ ms ρ = some (rs, ρ') ∧ isOw j rs = true ∧
  ∀ vs H' B', EnvOk K B' H' ρ' σ → Ext B H (OwnS ρ σ) B' H' (OwnS ρ' σ) → OpJ K B' H' H ρ' σ j rs vs → Q vs H'
theorem pa_J : ∀ {j : Nat} {ms : List ME} {es : List Expr}, (∀ {ms' : List ME} {xs : List Expr}, (∀ m ∈ ms', m ∈ ms) → okEs F Gc N sc ms' xs = true → PA X xs (tA X.K Φ ms')) → (∀ m e, m ∈ ms → okE F Gc N sc m e = true → PE X e (tE X.K Φ m)) → okEs F Gc N sc ms es = true → PA X es (tAJ X.K Φ j ms)
  | j, [], [], _, _, _ => PA.imp PA.no fun σ H Q ⟨B, ρ, rs, ρ', E, e, ow, q⟩ => by
    rw [evEs] at e
    cases e
    cases j <;> cases ow
  | _, [], _ :: _, _, _, h => by simp [okEs] at h
  | _, _ :: _, [], _, _, h => by simp [okEs] at h
  | 0, m :: ms, e :: es, hA, hE, h => by
    have h' := h
    unfold okEs at h'
    simp only [Bool.and_eq_true] at h'
    refine PA.imp (pa_cons (hE m e List.mem_cons_self h'.1.2) (hA (fun x hx => List.mem_cons_of_mem _ hx) h'.2) (star_cons h'.1.1 _ _)) fun σ H Q ⟨B, ρ, rs, ρ', E, e, ow, q⟩ => ?_
    rw [evEs] at e
    obtain ⟨p1, e1, e⟩ := bind_some e
    obtain ⟨p2, e2, e⟩ := bind_some e
    cases e
    obtain ⟨r1, ρ1⟩ := p1
    cases r1 with
    | fro _ => cases ow
    | ali _ => cases ow
    | own d =>
      refine ⟨B, ρ, .own d, ρ1, E, e1, fun v H1 B1 E1 X1 ⟨a, z1, z2, z3, z4⟩ => ⟨B1, ρ1, p2.1, p2.2, E1, e2, fun vs H2 B2 E2 X2 O2 => ?_⟩⟩
      obtain ⟨w1, w2⟩ := z2.pass z4 X2
      exact q _ H2 B2 E2 (X1.trans X2) (.here ⟨a, z1, w1, z3, w2⟩ O2)
  | j + 1, m :: ms, e :: es, hA, hE, h => by
    have h' := h
    unfold okEs at h'
    simp only [Bool.and_eq_true] at h'
    have ih := pa_J (j := j) (ms := ms) (es := es) (fun hs => hA fun x hx => List.mem_cons_of_mem _ (hs x hx)) (fun m e hm => hE m e (List.mem_cons_of_mem _ hm)) h'.2
    refine PA.imp (pa_cons (hE m e List.mem_cons_self h'.1.2) ih (star_cons h'.1.1 _ _)) fun σ H Q ⟨B, ρ, rs, ρ', E, e, ow, q⟩ => ?_
    rw [evEs] at e
    obtain ⟨p1, e1, e⟩ := bind_some e
    obtain ⟨p2, e2, e⟩ := bind_some e
    cases e
    refine ⟨B, ρ, p1.1, p1.2, E, e1, fun v H1 B1 E1 X1 R1 => ?_⟩
    obtain ⟨B1', E1', X1', O1⟩ := op_of E1 X1 R1
    refine ⟨B1', p1.2, p2.1, p2.2, E1', e2, ow, fun vs H2 B2 E2 X2 O2 => ?_⟩
    exact q _ H2 B2 E2 (X1'.trans X2) (.there (O1.mono X2.b) (OpJ.tr X1'.tr O2))
theorem frzT_ok [Wd] {K : PySem.W.Frag} {H H0 : Hp} {σ : L2.St} : ∀ {j : Nat} {rs : List Rv} {vs : List V} {ds : List D} {B : Hp} {ρ ρ' : ML.Env}, EnvOk K B H ρ σ → OpJ K B H H0 ρ σ j rs vs → frzT j rs ρ = some (ds, ρ') →
    ∃ B' a d, EnvOk K B' H ρ' σ ∧ Ext B H (OwnS ρ σ) B' H (OwnS ρ' σ) ∧ vs.length = ds.length ∧ vs[j]? = some (.ref a) ∧ ds[j]? = some d ∧ OwnAt K B' H a d ∧ H0 a = none ∧ ¬ OwnS ρ' σ a ∧
      ∀ (m : Nat) v e, vs[m]? = some v → ds[m]? = some e → m ≠ j → Rep K B' v e
  | 0, .own d :: rs, _, ds, B, ρ, ρ', E, .here (v := v) (vs := vs) ⟨a, z1, z2, z3, z4⟩ os, h => by
    rw [frzT] at h
    obtain ⟨q, h1, h3⟩ := map_some h
    cases h3
    obtain ⟨B', E', X', R'⟩ := frzs_ok E os h1
    obtain ⟨w1, w2⟩ := z2.pass z4 X'
    refine ⟨B', a, d, E', X', by rw [List.length_cons, List.length_cons, R'.length], by rw [z1]; rfl, rfl, w1, z3, w2, fun m v e q1 q2 hm => ?_⟩
    cases m with
    | zero => exact absurd rfl hm
    | succ m =>
      rw [List.getElem?_cons_succ] at q1 q2
      obtain ⟨w, r1, r2⟩ := R'.get q2
      rw [q1] at r1
      cases r1
      exact r2
  | j + 1, r :: rs, _, ds, B, ρ, ρ', E, .there (v := v) (vs := ws) o os, h => by
    rw [frzT] at h
    obtain ⟨p, h1, h⟩ := bind_some h
    obtain ⟨q, h2, h3⟩ := map_some h
    cases h3
    obtain ⟨B1, E1, X1, R1⟩ := frz_ok E o h1
    have os' : ∀ {j : Nat} {rs : List Rv} {vs : List V}, OpJ K B H H0 ρ σ j rs vs → OpJ K B1 H H0 p.2 σ j rs vs := by
      intro j rs vs h
      induction h with
      | here z o2 =>
        obtain ⟨a, z1, z2, z3, z4⟩ := z
        obtain ⟨w1, w2⟩ := z2.pass z4 X1
        exact .here ⟨a, z1, w1, z3, w2⟩ (o2.mono X1.b)
      | there o2 _ ih => exact .there (o2.mono X1.b) ih
    obtain ⟨B', a, d, E', X', l, g1, g2, g3, g4, g5, g6⟩ := frzT_ok E1 (os' os) h2
    refine ⟨B', a, d, E', X1.trans X', by rw [List.length_cons, List.length_cons, l], g1, g2, g3, g4, g5, fun m v e q1 q2 hm => ?_⟩
    cases m with
    | zero => cases q1; cases q2; exact Rep.mono X'.b _ _ R1
    | succ m => exact g6 m v e (by simpa using q1) (by simpa using q2) (fun z => hm (by rw [z]))
/-- behind a call that was handed a thing of no slot -/
theorem EnvOk.callA [Wd] {K : PySem.W.Frag} {B0 H0 B H B' H' : Hp} {O0 : Addr → Prop} {ρ : ML.Env} {σ : L2.St} {a : Addr} (E : EnvOk K B H ρ σ) (ha : ¬ OwnS ρ σ a) (h0 : H0 a = none) (Z : Ext B0 H0 O0 B H (OwnS ρ σ)) (sm : Same B' H') (Y : Ext B H (fun b => b = a) B' H' (fun b => b = a)) :
    EnvOk K B' H' ρ σ ∧ Ext B0 H0 O0 B' H' (OwnS ρ σ) := by
  refine ⟨⟨sm, fun i d h => ?_, fun i d h => ?_, E.apart, E.len⟩, ⟨Z.b.trans Y.b, fun b o h n => Y.keep b o (Z.keep b o h n) (ne_of_none h h0), fun b h => Z.tr b (Y.tr b h), Z.own, fun b u h => ?_⟩⟩
  · obtain ⟨v, h1, h2⟩ := E.fro i d h
    exact ⟨v, h1, Rep.mono Y.b _ _ h2⟩
  · obtain ⟨b, h1, o, h3, h4, c⟩ := E.own i d h
    have ne : b ≠ a := fun z => ha (by rw [← z]; exact ⟨i, d, h, h1⟩)
    refine ⟨b, h1, o, ?_, Y.keep _ _ h4 ne, c.mono Y.b⟩
    cases e : B' b with
    | none => rfl
    | some u =>
      rcases Y.base b u e with z | z | z
      · rw [h3] at z; cases z
      · rw [h4] at z; cases z
      · exact absurd z ne
  · rcases Y.base b u h with z | z | z
    · exact Z.base b u z
    · exact .inr (.inl (Z.tr b z))
    · exact .inr (.inl (by rw [z]; exact h0))
theorem snd_cit (g : Good X Φ F Gc N sc k) {f j : Nat} {x : Str} {ms : List ME} {es : List Expr} {p pos : Pos} (hf : F.lookup x = some f) (hi : ioPos f = some j) (hg : gloB sc x = true) (hp : plainB x = true) (hok : okEs F Gc N sc ms es = true)
    (hA : ∀ {ms' : List ME} {xs : List Expr}, (∀ m ∈ ms', m ∈ ms) → okEs F Gc N sc ms' xs = true → PA X xs (tA X.K Φ ms')) (hE : ∀ m e, m ∈ ms → okE F Gc N sc m e = true → PE X e (tE X.K Φ m)) :
    PE X (.Call (.Name x p) es [] pos) (tE X.K Φ (.cit f j ms)) := by
  obtain ⟨a, fd, ps, hm, hk, hb, Fn, hl⟩ := g.fn x f hp hf
  rw [spG_some hi] at Fn
  obtain ⟨d1, d2, _⟩ := plain_ne hp
  have key : ∀ σ H Q, tE X.K Φ (.cit f j ms) σ H Q → tAJ X.K Φ j ms σ H fun vs H1 => spIO X.K j (Φ f) ps.length vs H1 Q E0 := fun σ H Q ⟨B, ρ, r, ρ', E, e, q⟩ => by
    rw [evE] at e
    obtain ⟨p1, e1, e⟩ := bind_some e
    obtain ⟨p2, e2, e⟩ := bind_some e
    obtain ⟨s, e3, e⟩ := bind_some e
    obtain ⟨z, e4, e5⟩ := map_some e
    cases e5
    refine ⟨B, ρ, p1.1, p1.2, E, e1, frzT_ow e2, fun vs H1 B1 E1 X1 O1 => ?_⟩
    obtain ⟨B2, a, d, E2, X2, l, g1, g2, g3, g4, g5, g6⟩ := frzT_ok E1 O1 e2
    refine ⟨by rw [l]; exact hl _ _ e3, B2, p2.1, s, a, E2.same, l, g1, fun m v e q1 q2 => ?_, e3, ?_⟩
    · split
      · rename_i hm
        subst hm
        rw [g2] at q2
        cases q2
        exact g3
      · rename_i hm
        exact g6 m v e q1 q2 hm
    · cases s with
      | io r d' =>
        cases e4
        refine fun v H' B' sm Y R own => ?_
        obtain ⟨E3, X3⟩ := E2.callA g5 g4 (X1.trans X2) sm Y
        exact q v H' B' E3 X3 R
      | _ => cases e4
  cases es with
  | nil =>
    obtain rfl := okEs_nil hok rfl
    exact PE.imp PE.no fun σ H Q h => by
      obtain ⟨B, ρ, rs, ρ', E, e, ow, q⟩ := key σ H Q h
      rw [evEs] at e
      cases e
      cases j <;> cases ow
  | cons e es =>
    cases ms with
    | nil => simp [okEs] at hok
    | cons m ms =>
      have hok' := hok
      unfold okEs at hok'
      simp only [Bool.and_eq_true] at hok'
      refine PE.imp (pe_call (dvs := []) Fn g.rm (g.gl_ok hg) hm hk hb .nil passL (pa_J (j := j) hA hE hok) d1 (star_cons hok'.1.1 _ _) (okEs_plain hok'.2 _ _)) fun σ H Q h => ?_
      obtain ⟨B, ρ, rs, ρ', E, e, ow, q⟩ := key σ H Q h
      refine ⟨B, ρ, rs, ρ', E, e, ow, fun vs H' B' E' X' O' => ?_⟩
      show spIO X.K j (Φ f) ps.length (vs ++ []) H' Q E0
      rw [List.append_nil]
      exact q vs H' B' E' X' O'
end
end ML
set_option Elab.async false
set_option linter.all false
set_option autoImplicit false
set_option maxRecDepth 100000
set_option maxHeartbeats 4000000
/-! MLall: every expression. -/
namespace ML
open PySem L2
section
variable [Wd] {Φ : Nat → List D → Option Sv} {F : List (Str × Nat)} {Gc : List (Str × D)} {N : List Str} {k : Nat}
/-- what is shown of an expression -/
def Snd (Φ : Nat → List D → Option Sv) (F : List (Str × Nat)) (Gc : List (Str × D)) (N : List Str) (k : Nat) (m : ME) : Prop :=
  ∀ (X : Cx) (sc : Scope) (e : Expr), Good X Φ F Gc N sc k → okE F Gc N sc m e = true → PE X e (tE X.K Φ m) ∧ (testOk m = true → PT X e (tT X.K Φ m))
theorem snd_args [Wd] : ∀ {ms : List ME}, (∀ m ∈ ms, Snd Φ F Gc N k m) → ∀ {X : Cx} {sc : Scope} {es : List Expr}, Good X Φ F Gc N sc k → okEs F Gc N sc ms es = true → PA X es (tA X.K Φ ms)
  | [], _, X, sc, [], _, _ => snd_nil
  | m :: ms, ih, X, sc, e :: es, g, h => by
    simp only [okEs, Bool.and_eq_true] at h
    exact snd_cons h.1.1 (ih m List.mem_cons_self X sc e g h.1.2).1 (snd_args (fun s hs => ih s (List.mem_cons_of_mem _ hs)) g h.2)
  | [], _, _, _, _ :: _, _, h => by simp [okEs] at h
  | _ :: _, _, _, _, [], _, h => by simp [okEs] at h
theorem snd_ands [Wd] : ∀ {ms : List ME}, (∀ m ∈ ms, Snd Φ F Gc N k m) → ms ≠ [] → ∀ {X : Cx} {sc : Scope} {es : List Expr} {pos : Pos}, Good X Φ F Gc N sc k → okEs F Gc N sc ms es = true → ms.all testOk = true →
    PE X (.BoolOp .And es pos) (tBv X.K Φ true ms) ∧ PW X (.BoolOp .And es pos) (tBt X.K Φ true ms)
  | [], _, hn, _, _, _, _, _, _, _ => absurd rfl hn
  | [m], ih, _, X, sc, [e], pos, g, h, ht => by
    simp only [okEs, Bool.and_eq_true] at h
    simp only [List.all_cons, Bool.and_eq_true] at ht
    obtain ⟨h1, h2⟩ := ih m List.mem_cons_self X sc e g h.1.2
    exact ⟨snd_b1 h1, snd_b1A (h2 ht.1)⟩
  | m :: m2 :: ms, ih, _, X, sc, e :: e2 :: es, pos, g, h, ht => by
    have h' := h
    unfold okEs at h'
    simp only [Bool.and_eq_true] at h'
    rw [List.all_cons, Bool.and_eq_true] at ht
    obtain ⟨h1, h2⟩ := ih m List.mem_cons_self X sc e g h'.1.2
    obtain ⟨r1, r2⟩ := snd_ands (fun s hs => ih s (List.mem_cons_of_mem _ hs)) (by simp) (pos := pos) g h'.2 ht.2
    exact ⟨snd_bAnd h1 r1, snd_tAnd (h2 ht.1) r2⟩
  | [_], _, _, _, _, [], _, _, h, _ => by simp [okEs] at h
  | [_], _, _, _, _, _ :: _ :: _, _, _, h, _ => by simp [okEs] at h
  | _ :: _ :: _, _, _, _, _, [], _, _, h, _ => by simp [okEs] at h
  | _ :: _ :: _, _, _, _, _, [_], _, _, h, _ => by simp [okEs] at h
theorem snd_ors [Wd] : ∀ {ms : List ME}, (∀ m ∈ ms, Snd Φ F Gc N k m) → ms ≠ [] → ∀ {X : Cx} {sc : Scope} {es : List Expr} {pos : Pos}, Good X Φ F Gc N sc k → okEs F Gc N sc ms es = true → ms.all testOk = true →
    PE X (.BoolOp .Or es pos) (tBv X.K Φ false ms) ∧ PW X (.BoolOp .Or es pos) (tBt X.K Φ false ms)
  | [], _, hn, _, _, _, _, _, _, _ => absurd rfl hn
  | [m], ih, _, X, sc, [e], pos, g, h, ht => by
    simp only [okEs, Bool.and_eq_true] at h
    simp only [List.all_cons, Bool.and_eq_true] at ht
    obtain ⟨h1, h2⟩ := ih m List.mem_cons_self X sc e g h.1.2
    exact ⟨snd_b1 h1, snd_b1O (h2 ht.1)⟩
  | m :: m2 :: ms, ih, _, X, sc, e :: e2 :: es, pos, g, h, ht => by
    have h' := h
    unfold okEs at h'
    simp only [Bool.and_eq_true] at h'
    rw [List.all_cons, Bool.and_eq_true] at ht
    obtain ⟨h1, h2⟩ := ih m List.mem_cons_self X sc e g h'.1.2
    obtain ⟨r1, r2⟩ := snd_ors (fun s hs => ih s (List.mem_cons_of_mem _ hs)) (by simp) (pos := pos) g h'.2 ht.2
    exact ⟨snd_bOr h1 r1, snd_tOr (h2 ht.1) r2⟩
  | [_], _, _, _, _, [], _, _, h, _ => by simp [okEs] at h
  | [_], _, _, _, _, _ :: _ :: _, _, _, h, _ => by simp [okEs] at h
  | _ :: _ :: _, _, _, _, _, [], _, _, h, _ => by simp [okEs] at h
  | _ :: _ :: _, _, _, _, _, [_], _, _, h, _ => by simp [okEs] at h
theorem snd_opt [Wd] {ms : List ME} (ih : ∀ m ∈ ms, Snd Φ F Gc N k m) {X : Cx} {sc : Scope} {eo : Option Expr} (g : Good X Φ F Gc N sc k) (h : okO F Gc N sc ms eo = true) : PO X eo (tO X.K Φ ms) := by
  match ms, eo, ih, h with
  | [], none, _, _ => exact snd_oNone
  | [m], some e, ih, h => exact snd_oSome (ih m List.mem_cons_self X sc e g h).1
theorem snd_src [Wd] {ms : List ME} (ih : ∀ m ∈ ms, Snd Φ F Gc N k m) {X : Cx} {sc : Scope} {kd : ItK} {t it : Expr} (g : Good X Φ F Gc N sc k) (h : okIt F Gc N sc kd t it ms = true) : PI X t it (tI X.K Φ kd ms) := by
  unfold okIt at h
  split at h
  · exact snd_itSeq (ih _ List.mem_cons_self X sc _ g h).1
  · simp only [Bool.and_eq_true, decide_eq_true_eq] at h
    obtain ⟨⟨⟨⟨⟨rfl, h2⟩, h3⟩, h4⟩, h5⟩, h6⟩ := h
    exact snd_itR1 g h2 h3 h4 h5 (ih _ List.mem_cons_self X sc _ g h6).1
  · simp only [Bool.and_eq_true, decide_eq_true_eq] at h
    obtain ⟨⟨⟨⟨⟨⟨⟨rfl, h2⟩, h3⟩, h4⟩, h5⟩, h6⟩, h7⟩, h8⟩ := h
    exact snd_itR2 g h2 h3 h4 h5 h6 (ih _ List.mem_cons_self X sc _ g h7).1 (ih _ (List.mem_cons_of_mem _ List.mem_cons_self) X sc _ g h8).1
  · simp only [Bool.and_eq_true, decide_eq_true_eq] at h
    obtain ⟨⟨⟨⟨⟨rfl, h2⟩, h3⟩, h4⟩, h5⟩, h6⟩ := h
    exact snd_itRev g h2 h3 h4 h5 (ih _ List.mem_cons_self X sc _ g h6).1
  · simp only [Bool.and_eq_true, decide_eq_true_eq] at h
    obtain ⟨⟨⟨⟨⟨⟨rfl, h2⟩, h3⟩, h4⟩, h5⟩, h7⟩, h6⟩ := h
    cases t with
    | Tuple es j p => exact snd_itEn g h2 h3 h4 h5 (ih _ List.mem_cons_self X sc _ g h6).1
    | _ => simp [isTup] at h7
  · simp only [Bool.and_eq_true, decide_eq_true_eq] at h
    obtain ⟨⟨⟨⟨⟨⟨⟨⟨rfl, h2⟩, h3⟩, h4⟩, h5⟩, h6⟩, h9⟩, h7⟩, h8⟩ := h
    cases t with
    | Tuple es j p => exact snd_itZ g h2 h3 h4 h5 h6 (ih _ List.mem_cons_self X sc _ g h7).1 (ih _ (List.mem_cons_of_mem _ List.mem_cons_self) X sc _ g h8).1
    | _ => simp [isTup] at h9
  · simp only [Bool.and_eq_true, decide_eq_true_eq] at h
    obtain ⟨⟨⟨rfl, h2⟩, h3⟩, h4⟩ := h
    cases t with
    | Tuple es j p => exact snd_itIt h2 (ih _ List.mem_cons_self X sc _ g h4).1
    | _ => simp [isTup] at h3
  · cases h
theorem snd_conds [Wd] {ms : List ME} (ih : ∀ m ∈ ms, Snd Φ F Gc N k m) {X : Cx} {sc : Scope} {ifs : List Expr} (g : Good X Φ F Gc N sc k) (h : okC F Gc N sc ms ifs = true) : PTs X ifs (tC1 X.K Φ ms) := by
  unfold okC at h
  split at h
  · refine PTs.imp pts_nil fun σ H Q ⟨B, ρ, r, ρ', E, e, q⟩ => ?_
    rw [evC] at e
    cases e
    exact q H B E .refl
  · rename_i c x
    simp only [Bool.and_eq_true] at h
    refine PTs.imp (pts_one ((ih c List.mem_cons_self X sc x g h.2).2 h.1)) fun σ H Q ⟨B, ρ, r, ρ', E, e, q⟩ => ?_
    rw [evC] at e
    obtain ⟨p1, e1, e⟩ := bind_some e
    obtain ⟨y, e3, e⟩ := bind_some e
    obtain ⟨i, e4, e5⟩ := map_some e
    cases e5
    rw [asB_eq e4] at e3
    exact ⟨B, ρ, p1.1, p1.2, _, E, e1, e3, q⟩
  · cases h
theorem snd_comp_all {elt : ME} {tg : Tg} {vs : List Nat} {kd : ItK} {src conds : List ME} (ihe : Snd Φ F Gc N k elt) (ihs : ∀ m ∈ src, Snd Φ F Gc N k m) (ihc : ∀ m ∈ conds, Snd Φ F Gc N k m)
    {X : Cx} {sc : Scope} {el t it : Expr} {ifs : List Expr} {scope : Scope} {pos : Pos} (g : Good X Φ F Gc N sc k) (hb : L2.blkC N sc scope (ownOf N vs) = true) (hsl : tg.slots.all (fun i => decide (i ∈ vs)) = true) (htg : okTg N scope.names tg t = true) (hset : noSet it = true)
    (hit : okIt F Gc N sc kd t it src = true) (hc : okC F Gc N (L2.relS scope sc) conds ifs = true) (he : okE F Gc N (L2.relS scope sc) elt el = true) :
    PE X (.ListComp el [⟨t, it, ifs, 0⟩] scope pos) (tE X.K Φ (.comp elt tg vs kd src conds)) := by
  have hb' : BlkOk X.N X.env.scope scope (ownOf N vs) := by rw [g.hN, g.hsc]; exact blkOk_by hb
  refine PE.imp (pe_lc (g := tgG X.K tg) (tt := tC1 X.K Φ conds) (te := tE X.K Φ elt) g.calm (by rw [g.hN]; exact g.nd) (snd_src ihs g hit) hb' (fun s H C cl fp => blk_tg g htg s H C cl fp) (fun s H C cl fp => ?_) (fun s H C cl fp => ?_) (noSet_ok hset _)) (snd_comp (el := el) (it := it) (ifs := ifs) (pos := pos) g hb hsl htg fun _ _ _ q => q)
  · exact snd_conds ihc (blk_good g hb s H C cl fp) hc
  · exact (ihe _ _ _ (blk_good g hb s H C cl fp) he).1
theorem okE_one {sc : Scope} {m : ME} {y : Expr} (hs : noStar y = true) (h : okE F Gc N sc m y = true) : okEs F Gc N sc [m] [y] = true := by
  simp [okEs, hs, h]
theorem snd_n : ∀ (n : Nat) (m : ME), sizeOf m ≤ n → Snd Φ F Gc N k m := by
  intro n
  induction n with
  | zero => intro m h; cases m <;> simp at h
  | succ n ih =>
    intro m hm X sc e g h
    have lst : ∀ {es : List ME}, sizeOf es ≤ n → ∀ s ∈ es, Snd Φ F Gc N k s := fun hl s hs => ih s (by have := List.sizeOf_lt_of_mem hs; omega)
    cases m with
    | var i =>
      cases e with
      | Name x p =>
        simp only [okE, Bool.and_eq_true, decide_eq_true_eq] at h
        have r := snd_var (Φ := Φ) (pos := p) g h.1.1 h.1.2 h.2
        exact ⟨r, fun _ => snd_val r fun _ => rfl⟩
      | _ => simp [okE] at h
    | cst d =>
      have r : PE X e (tE X.K Φ (.cst d)) ∧ ∃ c j p, e = .Constant c j p := by
        unfold okE at h
        split at h
        · exact ⟨snd_cst pe_non fun _ => .non, _, _, _, rfl⟩
        · rw [beq_iff_eq] at h; subst h; exact ⟨snd_cst pe_bl fun _ => .bl _, _, _, _, rfl⟩
        · have h := of_decide_eq_true h; subst h; exact ⟨snd_cst pe_int fun _ => .int _, _, _, _, rfl⟩
        · have h := of_decide_eq_true h; subst h; exact ⟨snd_cst pe_str fun _ => .str _, _, _, _, rfl⟩
        · cases h
      obtain ⟨r, c, j, p, rfl⟩ := r
      exact ⟨r, fun _ => snd_val r fun _ => rfl⟩
    | gbl x d =>
      cases e with
      | Name y p =>
        simp only [okE, Bool.and_eq_true, decide_eq_true_eq] at h
        obtain ⟨⟨⟨rfl, h2⟩, h3⟩, h4⟩ := h
        obtain ⟨d1, d2, _⟩ := plain_ne h3
        have hl : ∃ d', Gc.lookup y = some d' ∧ d' = d := by
          split at h4
          · rename_i e' e1
            exact ⟨_, e1, same_eq _ _ h4⟩
          · cases h4
        obtain ⟨d', e1, rfl⟩ := hl
        obtain ⟨u, v, g1, g2, g3⟩ := g.gl y d' h3 e1
        have r : PE X (.Name y p) (tE X.K Φ (.gbl y d')) := snd_gbl (pe_glob (g.gl_ok h2) g1 g2 d1) g3
        exact ⟨r, fun _ => snd_val r fun _ => rfl⟩
      | _ => simp [okE] at h
    | bin o a b =>
      cases e with
      | BinOp l op r p =>
        simp only [okE, Bool.and_eq_true, decide_eq_true_eq] at h
        simp only [ME.bin.sizeOf_spec] at hm
        obtain ⟨⟨rfl, h2⟩, h3⟩ := h
        have r : PE X (.BinOp l o.py r p) (tE X.K Φ (.bin o a b)) := snd_bin (ih a (by omega) X sc l g h2).1 (ih b (by omega) X sc r g h3).1
        exact ⟨r, fun _ => snd_val r fun _ => rfl⟩
      | _ => simp [okE] at h
    | neg a =>
      cases e with
      | UnaryOp op x p =>
        cases op with
        | USub =>
          simp only [okE] at h
          simp only [ME.neg.sizeOf_spec] at hm
          have r : PE X (.UnaryOp .USub x p) (tE X.K Φ (.neg a)) := snd_neg (ih a (by omega) X sc x g h).1
          exact ⟨r, fun _ => snd_val r fun _ => rfl⟩
        | _ => simp [okE] at h
      | _ => simp [okE] at h
    | cmp o a b =>
      unfold okE at h
      split at h
      · rename_i l op r p
        simp only [Bool.and_eq_true, decide_eq_true_eq] at h
        simp only [ME.cmp.sizeOf_spec] at hm
        obtain ⟨⟨⟨rfl, h1⟩, h2⟩, h3⟩ := h
        have r1 := (ih a (by omega) X sc _ g h2).1
        have r2 := (ih b (by omega) X sc _ g h3).1
        exact ⟨snd_cmp g h1 r1 r2, fun _ => snd_cmpT g h1 r1 r2⟩
      · cases h
    | cmp2 o o' a b c =>
      unfold okE at h
      split at h
      · rename_i l op op' r r' p
        simp only [Bool.and_eq_true, decide_eq_true_eq] at h
        simp only [ME.cmp2.sizeOf_spec] at hm
        obtain ⟨⟨⟨⟨⟨⟨rfl, rfl⟩, h0⟩, h1⟩, h2⟩, h3⟩, h4⟩ := h
        have r1 := (ih a (by omega) X sc _ g h2).1
        have r2 := (ih b (by omega) X sc _ g h3).1
        have r3 := (ih c (by omega) X sc _ g h4).1
        exact ⟨snd_cmp2 g h1 r1 r2 r3, fun _ => snd_cmp2T g h1 r1 r2 r3⟩
      · cases h
    | bop kk es =>
      cases e with
      | BoolOp op xs p =>
        simp only [okE, Bool.and_eq_true, decide_eq_true_eq] at h
        simp only [ME.bop.sizeOf_spec] at hm
        obtain ⟨⟨rfl, h1⟩, h2⟩ := h
        cases es with
        | nil =>
          cases xs with
          | cons _ _ => simp [okEs] at h2
          | nil =>
            have no : ∀ ρ, evE Φ (.bop kk []) ρ = none := fun ρ => by rw [evE, evB]
            constructor
            · exact ⟨fun pins s σ H Q I ⟨B, ρ, r, ρ', E, e, q⟩ => by rw [no] at e; cases e⟩
            · intro _
              exact ⟨fun pins s σ H Q I ⟨B, ρ, r, ρ', b, E, e, eb, q⟩ => by rw [no] at e; cases e⟩
        | cons m ms =>
          cases kk with
          | true =>
            obtain ⟨r1, r2⟩ := snd_ands (lst (by omega)) (by simp) (pos := p) g h2 h1
            exact ⟨snd_bop r1, fun _ => snd_bopT r2⟩
          | false =>
            obtain ⟨r1, r2⟩ := snd_ors (lst (by omega)) (by simp) (pos := p) g h2 h1
            exact ⟨snd_bop r1, fun _ => snd_bopT r2⟩
      | _ => simp [okE] at h
    | not a =>
      cases e with
      | UnaryOp op x p =>
        cases op with
        | Not =>
          simp only [okE, Bool.and_eq_true] at h
          simp only [ME.not.sizeOf_spec] at hm
          obtain ⟨r1, r2⟩ := ih a (by omega) X sc x g h.2
          exact ⟨snd_not r1, fun _ => snd_notT (r2 h.1)⟩
        | _ => simp [okE] at h
      | _ => simp [okE] at h
    | ife c a b =>
      cases e with
      | IfExp x y z p =>
        simp only [okE, Bool.and_eq_true] at h
        simp only [ME.ife.sizeOf_spec] at hm
        exact ⟨snd_ife ((ih c (by omega) X sc x g h.1.1.2).2 h.1.1.1) (ih a (by omega) X sc y g h.1.2).1 (ih b (by omega) X sc z g h.2).1, fun z => by cases z⟩
      | _ => simp [okE] at h
    | tup es =>
      cases e with
      | Tuple xs j p =>
        simp only [okE] at h
        simp only [ME.tup.sizeOf_spec] at hm
        have r : PE X (.Tuple xs j p) (tE X.K Φ (.tup es)) := snd_tup (snd_args (lst (by omega)) g h)
        exact ⟨r, fun _ => snd_val r fun _ => rfl⟩
      | _ => simp [okE] at h
    | lst es =>
      cases e with
      | List xs p =>
        simp only [okE] at h
        simp only [ME.lst.sizeOf_spec] at hm
        have r : PE X (.List xs p) (tE X.K Φ (.lst es)) := snd_lst (snd_args (lst (by omega)) g h)
        exact ⟨r, fun _ => snd_val r fun _ => rfl⟩
      | _ => simp [okE] at h
    | idx a b =>
      cases e with
      | Subscript x y p =>
        simp only [okE, Bool.and_eq_true] at h
        simp only [ME.idx.sizeOf_spec] at hm
        have r : PE X (.Subscript x y p) (tE X.K Φ (.idx a b)) := snd_idx g h.1.1 (ih a (by omega) X sc x g h.1.2).1 (ih b (by omega) X sc y g h.2).1
        exact ⟨r, fun _ => snd_val r fun _ => rfl⟩
      | _ => simp [okE] at h
    | sli a lo hi =>
      unfold okE at h
      split at h
      · rename_i x l hh p2 p
        simp only [Bool.and_eq_true] at h
        simp only [ME.sli.sizeOf_spec] at hm
        have r : PE X (.Subscript x (.Slice l hh none p2) p) (tE X.K Φ (.sli a lo hi)) := snd_sli (ih a (by omega) X sc x g h.1.1).1 (snd_opt (lst (by omega)) g h.1.2) (snd_opt (lst (by omega)) g h.2)
        exact ⟨r, fun _ => snd_val r fun _ => rfl⟩
      · cases h
    | back a =>
      unfold okE at h
      split at h
      · simp only [Bool.and_eq_true, decide_eq_true_eq] at h
        obtain ⟨rfl, h2⟩ := h
        simp only [ME.back.sizeOf_spec] at hm
        refine (fun (r : PE X _ _) => ⟨r, fun _ => snd_val r fun _ => rfl⟩) ?_
        exact snd_back (ih a (by omega) X sc _ g h2).1
      · cases h
    | call f es =>
      unfold okE at h
      split at h
      · rename_i x p1 xs p
        simp only [Bool.and_eq_true, decide_eq_true_eq] at h
        simp only [ME.call.sizeOf_spec] at hm
        have r : PE X (.Call (.Name x p1) xs [] p) (tE X.K Φ (.call f es)) := snd_call g h.1.1.1.1 h.1.1.1.2 h.1.1.2 h.1.2 h.2 (snd_args (lst (by omega)) g h.2)
        exact ⟨r, fun _ => snd_val r fun _ => rfl⟩
      · rename_i c p1 m ap xs cp
        simp only [Bool.and_eq_true, decide_eq_true_eq] at h
        simp only [ME.call.sizeOf_spec] at hm
        obtain ⟨⟨⟨⟨⟨⟨⟨h1, h2⟩, h3⟩, h4⟩, h5⟩, h6⟩, h7⟩, h8⟩ := h
        refine (fun (r : PE X _ _) => ⟨r, fun _ => snd_val r fun _ => rfl⟩) ?_
        exact snd_ccall g h1 h2 h3 h4 h5 h6 h7 h8 (snd_args (lst (by omega)) g h8)
      · cases h
    | smt q a b =>
      unfold okE at h
      split at h
      · rename_i o nm ap y cp
        simp only [Bool.and_eq_true, decide_eq_true_eq] at h
        simp only [ME.smt.sizeOf_spec] at hm
        obtain ⟨⟨⟨⟨⟨rfl, h1⟩, h2⟩, h3⟩, h4⟩, h5⟩ := h
        refine (fun (r : PE X _ _) => ⟨r, fun _ => snd_val r fun _ => rfl⟩) ?_
        exact snd_smt g h1 h2 h3 (ih a (by omega) X sc _ g h4).1 (ih b (by omega) X sc _ g h5).1
      · cases h
    | cit f j es =>
      unfold okE at h
      split at h
      · rename_i x p1 xs p
        simp only [Bool.and_eq_true, decide_eq_true_eq] at h
        simp only [ME.cit.sizeOf_spec] at hm
        have r : PE X (.Call (.Name x p1) xs [] p) (tE X.K Φ (.cit f j es)) := snd_cit g h.1.1.1.1 h.1.1.1.2 h.1.1.2 h.1.2 h.2 (fun {ms xs} hs hok => snd_args (fun m hm' => lst (es := es) (by omega) m (hs m hm')) g hok) fun m e hm' he => (lst (es := es) (by omega) m hm' X sc e g he).1
        exact ⟨r, fun _ => snd_val r fun _ => rfl⟩
      · cases h
    | gdx x kvs a =>
      unfold okE at h
      split at h
      · rename_i y p1 z p
        simp only [Bool.and_eq_true, decide_eq_true_eq] at h
        simp only [ME.gdx.sizeOf_spec] at hm
        obtain ⟨⟨⟨⟨⟨rfl, h1⟩, h2⟩, h3⟩, h4⟩, h5⟩ := h
        refine (fun (r : PE X _ _) => ⟨r, fun _ => snd_val r fun _ => rfl⟩) ?_
        exact snd_gdx g h1 h2 h3 h4 (ih a (by omega) X sc _ g h5).1
      · cases h
    | gdin neg x kvs a =>
      unfold okE at h
      split at h
      · rename_i l op y p1 p
        simp only [Bool.and_eq_true, decide_eq_true_eq, Bool.not_eq_true'] at h
        simp only [ME.gdin.sizeOf_spec] at hm
        obtain ⟨⟨⟨⟨⟨⟨rfl, h0⟩, rfl⟩, h1⟩, h2⟩, h4⟩, h5⟩ := h
        exact ⟨snd_gdin g h0 h1 h2 h4 (ih a (by omega) X sc _ g h5).1, fun _ => snd_gdinT g h0 h1 h2 h4 (ih a (by omega) X sc _ g h5).1⟩
      · cases h
    | dsp kvs =>
      unfold okE at h
      split at h
      · rename_i ks vs p
        simp only [Bool.and_eq_true, decide_eq_true_eq, Bool.not_eq_true'] at h
        refine (fun (r : PE X _ _) => ⟨r, fun _ => snd_val r fun _ => rfl⟩) ?_
        exact snd_dsp g h.1.1.1 h.1.1.2 h.1.2 h.2
      · cases h
    | maxd a =>
      unfold okE at h
      split at h
      · rename_i x p1 y kn i j p2 p3 p
        simp only [Bool.and_eq_true, decide_eq_true_eq] at h
        simp only [ME.maxd.sizeOf_spec] at hm
        obtain ⟨⟨⟨⟨⟨rfl, h1⟩, rfl⟩, rfl⟩, h3⟩, h4⟩ := h
        refine (fun (r : PE X _ _) => ⟨r, fun _ => snd_val r fun _ => rfl⟩) ?_
        exact snd_maxd g h1 h3 (ih a (by omega) X sc _ g h4).1
      · cases h
    | cio f j i es =>
      unfold okE at h
      split at h
      · rename_i x p1 xs p
        simp only [Bool.and_eq_true, decide_eq_true_eq] at h
        simp only [ME.cio.sizeOf_spec] at hm
        have r : PE X (.Call (.Name x p1) xs [] p) (tE X.K Φ (.cio f j i es)) := snd_cio g h.1.1.1.1 h.1.1.1.2 h.1.1.2 h.1.2 h.2 (snd_args (lst (by omega)) g h.2)
        exact ⟨r, fun _ => snd_val r fun _ => rfl⟩
      · cases h
    | fld a x =>
      unfold okE at h
      split at h
      · rename_i y p1 nm p
        simp only [Bool.and_eq_true, decide_eq_true_eq] at h
        simp only [ME.fld.sizeOf_spec] at hm
        obtain ⟨⟨rfl, h1⟩, h2⟩ := h
        refine (fun (r : PE X _ _) => ⟨r, fun _ => snd_val r fun _ => rfl⟩) ?_
        exact snd_fld g h1 (ih a (by omega) X sc _ g h2).1
      · cases h
    | meth a m tab es =>
      unfold okE at h
      split at h
      · rename_i o nm ap xs cp
        simp only [Bool.and_eq_true, decide_eq_true_eq] at h
        simp only [ME.meth.sizeOf_spec] at hm
        obtain ⟨⟨⟨⟨⟨⟨rfl, h1⟩, h2⟩, h3⟩, h4⟩, h5⟩, h6⟩ := h
        refine (fun (r : PE X _ _) => ⟨r, fun _ => snd_val r fun _ => rfl⟩) ?_
        exact snd_meth g h1 h2 h3 (tabOk_of (by simpa only [Bool.and_eq_true, decide_eq_true_eq] using h4)) h6 (ih a (by omega) X sc _ g h5).1 (snd_args (lst (by omega)) g h6)
      · cases h
    | mio c m f i es =>
      unfold okE at h
      split at h
      · rename_i x p1 nm ap xs cp
        simp only [Bool.and_eq_true, decide_eq_true_eq] at h
        simp only [ME.mio.sizeOf_spec] at hm
        obtain ⟨⟨⟨⟨⟨⟨⟨⟨⟨⟨h1, h2⟩, h3⟩, rfl⟩, h4⟩, h5⟩, h6⟩, h7⟩, h8⟩, h10⟩, h9⟩ := h
        refine (fun (r : PE X _ _) => ⟨r, fun _ => snd_val r fun _ => rfl⟩) ?_
        exact snd_mio g h1 h2 h3 h4 h5 h6 h7 h8 h10 h9 (snd_args (lst (by omega)) g h9)
      · cases h
    | make c f es =>
      unfold okE at h
      split at h
      · rename_i x p1 xs cp
        simp only [Bool.and_eq_true, decide_eq_true_eq] at h
        simp only [ME.make.sizeOf_spec] at hm
        obtain ⟨⟨⟨⟨⟨⟨rfl, h1⟩, h2⟩, h3⟩, h4⟩, h5⟩, h6⟩ := h
        refine (fun (r : PE X _ _) => ⟨r, fun _ => snd_val r fun _ => rfl⟩) ?_
        exact snd_make g h1 h2 h3 h4 h5 h6 (snd_args (lst (by omega)) g h6)
      · cases h
    | prim f es =>
      unfold okE at h
      split at h
      · rename_i x p1 y ys p
        simp only [Bool.and_eq_true, decide_eq_true_eq] at h
        simp only [ME.prim.sizeOf_spec] at hm
        obtain ⟨⟨⟨⟨⟨rfl, h1⟩, h2⟩, h3⟩, h4⟩, h5⟩ := h
        have r : PE X (.Call (.Name f.name p1) (y :: ys) [] p) (tE X.K Φ (.prim f es)) := snd_prim g h1 h2 h3 h4 h5 (snd_args (lst (by omega)) g h5)
        exact ⟨r, fun _ => snd_val r fun _ => rfl⟩
      · cases h
    | fus f es =>
      cases es with
      | nil => simp [okE] at h
      | cons a rest =>
        cases rest with
        | cons b rest => simp [okE] at h
        | nil =>
          simp only [ME.fus.sizeOf_spec] at hm
          have sa : sizeOf a ≤ n := by
            simp only [List.cons.sizeOf_spec] at hm
            omega
          unfold okE at h
          split at h
          · simp only [Bool.and_eq_true, decide_eq_true_eq] at h
            obtain ⟨⟨⟨⟨⟨rfl, h1⟩, rfl⟩, h2⟩, h3⟩, h4⟩ := h
            refine (fun (r : PE X _ _) => ⟨r, fun _ => snd_val r fun _ => rfl⟩) ?_
            exact snd_sortedSet g h1 h2 h3 (snd_args (lst (by omega)) g (okE_one h3 h4))
          · simp only [Bool.and_eq_true, decide_eq_true_eq] at h
            obtain ⟨⟨⟨⟨⟨rfl, h1⟩, rfl⟩, h2⟩, h3⟩, h4⟩ := h
            refine (fun (r : PE X _ _) => ⟨r, fun _ => snd_val r fun _ => rfl⟩) ?_
            exact snd_lenSet g h1 h2 h3 (snd_args (lst (by omega)) g (okE_one h3 h4))
          · simp only [Bool.and_eq_true, decide_eq_true_eq] at h
            obtain ⟨⟨⟨⟨⟨rfl, h1⟩, rfl⟩, h2⟩, h3⟩, h4⟩ := h
            refine (fun (r : PE X _ _) => ⟨r, fun _ => snd_val r fun _ => rfl⟩) ?_
            exact snd_range g h1 h2 h3 (ih a sa X sc _ g h4).1 (.inr ⟨rfl, rfl⟩)
          · simp only [Bool.and_eq_true, decide_eq_true_eq] at h
            obtain ⟨⟨⟨⟨⟨rfl, h1⟩, rfl⟩, h2⟩, h3⟩, h4⟩ := h
            refine (fun (r : PE X _ _) => ⟨r, fun _ => snd_val r fun _ => rfl⟩) ?_
            exact snd_range g h1 h2 h3 (ih a sa X sc _ g h4).1 (.inl ⟨rfl, rfl⟩)
          · simp only [Bool.and_eq_true, decide_eq_true_eq] at h
            obtain ⟨⟨⟨⟨⟨rfl, h1⟩, rfl⟩, h2⟩, h3⟩, h4⟩ := h
            refine (fun (r : PE X _ _) => ⟨r, fun _ => snd_val r fun _ => rfl⟩) ?_
            exact snd_listRev g h1 h2 h3 (ih a sa X sc _ g h4).1
          · cases h
    | isi a t =>
      unfold okE at h
      split at h
      · rename_i x p1 y z p2 p
        simp only [Bool.and_eq_true, decide_eq_true_eq] at h
        simp only [ME.isi.sizeOf_spec] at hm
        obtain ⟨⟨⟨⟨⟨⟨⟨⟨⟨rfl, h1⟩, h2⟩, h3⟩, h4⟩, h5⟩, rfl⟩, h6⟩, h7⟩, h8⟩ := h
        have r : PE X (.Call (.Name ("isinstance" : Str) p1) [y, .Name (t.name : Str) p2] [] p) (tE X.K Φ (.isi a t)) := snd_isi g h1 h2 h3 h6 h7 h8 h5 (ih a (by omega) X sc y g h4).1
        exact ⟨r, fun _ => snd_val r fun _ => rfl⟩
      · cases h
    | isx a many cs ks => simp [okE] at h
    | comp elt tg vs kd src conds =>
      unfold okE at h
      split at h
      · rename_i el t it ifs a scope p
        simp only [Bool.and_eq_true] at h
        obtain ⟨⟨⟨⟨⟨⟨⟨h1, h2⟩, h3⟩, h4⟩, h5⟩, h6⟩, h7⟩, h8⟩ := h
        have h1 := of_decide_eq_true h1
        subst h1
        simp only [ME.comp.sizeOf_spec] at hm
        have r : PE X (.ListComp el [⟨t, it, ifs, 0⟩] scope p) (tE X.K Φ (.comp elt tg vs kd src conds)) := snd_comp_all (ih elt (by omega)) (lst (by omega)) (lst (by omega)) g h2 h3 h4 h5 h6 h7 h8
        exact ⟨r, fun _ => snd_val r fun _ => rfl⟩
      · cases h
    | «mut» m i es =>
      unfold okE at h
      split at h
      · rename_i x p1 nm ap xs cp
        simp only [Bool.and_eq_true, decide_eq_true_eq] at h
        simp only [ME.mut.sizeOf_spec] at hm
        obtain ⟨⟨⟨⟨⟨⟨h1, h2⟩, h3⟩, rfl⟩, h5⟩, h6⟩, h7⟩ := h
        have r : PE X (.Call (.Attribute (.Name x p1) m.name ap) xs [] cp) (tE X.K Φ (.mut m i es)) := by
          have la := snd_args (lst (es := es) (by omega)) g h6
          split at h7
          · cases xs with
            | nil => simp [okEs] at h6
            | cons e1 xs =>
              cases xs with
              | cons _ _ => simp [okEs] at h6
              | nil =>
                simp only [okEs, Bool.and_eq_true] at h6
                exact snd_app g h1 h2 h3 h5 h6.1.1 la
          · cases xs with
            | cons e1 xs => simp [okEs] at h6
            | nil => exact snd_pop g h1 h2 h3 h5
          · cases xs with
            | nil => simp [okEs] at h6
            | cons e1 xs =>
              cases xs with
              | cons _ _ => simp [okEs] at h6
              | nil =>
                simp only [okEs, Bool.and_eq_true] at h6
                exact snd_popAt g h1 h2 h3 h5 h6.1.1 la
          · cases xs with
            | cons e1 xs => simp [okEs] at h6
            | nil => exact snd_clear g h1 h2 h3 h5
          · cases h7
        exact ⟨r, fun _ => snd_val r fun _ => rfl⟩
      · cases h
    | thw a =>
      simp only [ME.thw.sizeOf_spec] at hm
      rw [okE] at h
      exact ⟨PE.imp (ih a (by omega) X sc e g h).1 thw_key, fun z => by cases z⟩
    | lzip es =>
      unfold okE at h
      split at h
      · simp only [Bool.and_eq_true, decide_eq_true_eq] at h
        simp only [ME.lzip.sizeOf_spec] at hm
        obtain ⟨⟨⟨⟨⟨⟨rfl, h1⟩, rfl⟩, h2⟩, h3⟩, h4⟩, h5⟩ := h
        refine (fun (r : PE X _ _) => ⟨r, fun _ => snd_val r fun _ => rfl⟩) ?_
        exact snd_lzip g h1 h2 h3 h4 (snd_args (lst (by omega)) g h5)
      · cases h
    | keyd f a =>
      unfold okE at h
      split at h
      · rename_i x p1 y py nm ap cp kn z p2 p3 p
        simp only [Bool.and_eq_true, decide_eq_true_eq] at h
        simp only [ME.keyd.sizeOf_spec] at hm
        obtain ⟨⟨⟨⟨⟨⟨⟨⟨⟨rfl, h1⟩, rfl⟩, h2⟩, rfl⟩, h3⟩, h7⟩, h4⟩, h5⟩, h6⟩ := h
        refine (fun (r : PE X _ _) => ⟨r, fun _ => snd_val r fun _ => rfl⟩) ?_
        exact snd_keyd g h1 h3 h7 h4 h5 h2 (ih a (by omega) X sc _ g h6).1
      · cases h
    | dct t es =>
      simp only [ME.dct.sizeOf_spec] at hm
      cases es with
      | nil =>
        unfold okE at h
        split at h
        · refine (fun (r : PE X _ _) => ⟨r, fun _ => snd_val r fun _ => rfl⟩) ?_
          exact snd_dct0 g
        · cases h
      | cons a es =>
        cases es with
        | nil => cases t <;> simp [okE] at h
        | cons b es =>
          cases es with
          | cons _ _ => cases t <;> simp [okE] at h
          | nil =>
            cases t with
            | false => simp [okE] at h
            | true =>
              simp only [List.cons.sizeOf_spec] at hm
              unfold okE at h
              split at h
              · simp only [Bool.and_eq_true] at h
                refine (fun (r : PE X _ _) => ⟨r, fun _ => snd_val r fun _ => rfl⟩) ?_
                exact snd_dct1 g (ih a (by omega) X sc _ g h.1).1 (ih b (by omega) X sc _ g h.2).1
              · cases h
    | keyf q f a =>
      unfold okE at h
      split at h
      · rename_i x p1 y kn z p2 p3 p
        simp only [Bool.and_eq_true, decide_eq_true_eq] at h
        simp only [ME.keyf.sizeOf_spec] at hm
        obtain ⟨⟨⟨⟨⟨⟨⟨⟨rfl, h1⟩, rfl⟩, h3⟩, h8⟩, h4⟩, h5⟩, h6⟩, h7⟩ := h
        have r : PE X (.Call (.Name q.name p1) [y] [⟨some ("key" : Str), .Name z p2, p3⟩] p) (tE X.K Φ (.keyf q f a)) := snd_keyf g h1 h3 h8 h4 h5 h6 (ih a (by omega) X sc y g h7).1
        exact ⟨r, fun _ => snd_val r fun _ => rfl⟩
      · cases h
theorem sndAll (m : ME) : Snd Φ F Gc N k m := snd_n _ m (Nat.le_refl _)
end
end ML
set_option Elab.async false
set_option linter.all false
set_option autoImplicit false
set_option maxRecDepth 100000
set_option maxHeartbeats 4000000
/-! MLcx: a list comprehension whose items may raise. -/
namespace ML
open PySem L2 PySem.Spec PyProof.Rows
/-- a def's own frame runs -/
def Std (X : Cx) : Prop := X.stack = X.env :: X.outer ∧ X.env.frame = some X.env.locals

/-! ### the exception on its way out of the block -/
theorem note_frame {e1 e2 : PySem.Env} (h : e1.frame = e2.frame) (u : Value) : noteFrame u e1 = noteFrame u e2 := by
  unfold noteFrame PySem.frameOf
  rw [h]
/-- in the air of X, and X's own frame has taken note of it -/
def Noted (X : Cx) (W : WX) (u : Value) (s' : Shared) : Prop :=
  ∃ (a : Addr) (G : Heap) (sI : Shared) (pins : List (Addr × Obj)) (σ : L2.St) (H : Hp) (cls : Value) (d : Option Addr),
    u = .ref a ∧ L2.Inv X pins σ H sI ∧ (∀ b o, sI.heap.get? b = some o → b ∉ frs X.stack → G.get? b = some o) ∧ sI.heap.UpToSlots s'.heap ∧
      HandSPX.HeldZ G X.stack a (Zc cls d) X.env.locals s'.heap ∧ H a = none ∧ s'.os = sI.os ∧ AllBare s'.gens ∧ W cls d σ H
section
variable {X : Cx} {W : WX} {u : Value} {s : Shared}
theorem Noted.air (n : Noted X W u s) : L2.XE X W u s :=
  let ⟨a, G, sI, p, σ, H, c, d, e, I, k, up, held, r⟩ := n
  ⟨a, G, sI, p, σ, H, c, d, e, I, k, up, .inr (.inr held), r⟩
theorem note_air {E : Value → Shared → Prop} (own : Std X) (x : L2.XE X W u s) : wpAny (model X.prog X.w) X.A (noteFrame u X.env) (fun _ s' => Noted X W u s' ∧ s.heap.UpToSlots s'.heap) E s := by
  obtain ⟨a, G, sI, pins, σ, H, cls, d, rfl, I, kept, up, sky, na, os, bare, w⟩ := x
  obtain ⟨st, fr⟩ := own
  have frames : X.A.frames = some (X.env :: X.outer) := st ▸ I.ok.frames
  have close : ∀ h', HandSPX.HeldZ G (X.env :: X.outer) a (Zc cls d) X.env.locals h' → s.heap.UpToSlots h' → Noted X W (.ref a) { s with heap := h' } ∧ s.heap.UpToSlots h' := fun h' held more =>
    ⟨⟨a, G, sI, pins, σ, H, cls, d, rfl, I, kept, up.trans more, st ▸ held, na, os, bare, w⟩, more⟩
  rw [st] at sky
  rcases sky with ⟨g, ga, ff, oe, vs, at_a, z, flds, tb⟩ | fly | held
  · exact HandSPX.look_newZ Zc.steady frames ff fr at_a g ga flds tb z close
  · exact HandSPX.looks_onZ Zc.steady frames fr fly close
  · exact HandSPX.againZ fr held.2.2.2 (close _ held (Heap.UpToSlots.of_keeps fun _ _ e => e))
/-- a namespace that is nobody's changes beside it -/
theorem Noted.beside {C : Addr} {m m' : Str → Option Value} {h' : Heap} (n : Noted X (fun cls d σ H => W cls d σ H ∧ H C = none) u s) (fp : FpOk X [] (fun _ => none) C) (ns : s.heap.Ns C m) (ns' : h'.Ns C m') (sb : Heap.SameBut C s.heap h') :
    Noted X W u { s with heap := h' } := by
  obtain ⟨a, G, sI, pins, σ, H, cls, d, rfl, I, kept, up, ⟨g, ga, ff, oe, vs, T, oT, ts, e1, z, e2, e3, e4, e5, e6, e7, e8⟩, na, os, bare, w, hC⟩ := n
  obtain ⟨-, p1, p2, p3, p4, p5⟩ := fp
  have off : ∀ {b : Addr} {o : Obj} {fs : Array Value}, s.heap.get? b = some o → o.data = .fields fs → b ≠ C := by
    rintro b o fs q1 q2 rfl
    obtain ⟨oC, es, ep, q3, q4, -⟩ := ns
    rw [q1] at q3
    cases q3
    rw [q2] at q4
    cases q4
  have aC := off e1 e2
  have TC := off e6 e7
  have ne_of : ∀ {h : Heap} {b : Addr} {o : Obj}, (h.hide C).get? b = some o → b ≠ C := by
    rintro h b o q rfl
    rw [Heap.hide_self] at q
    cases q
  have on : ∀ {b : Addr} {o : Obj}, b ≠ C → s.heap.get? b = some o → h'.get? b = some o := fun ne q => (sb.2 _ ne).trans q
  have fresh : ∀ {b : Addr} {o : HO}, H b = some o → b ≠ C := by
    rintro b o q rfl
    rw [hC] at q
    cases q
  have keepI : ∀ {b : Addr} {o : Obj}, b ≠ C → sI.heap.get? b = some o → (sI.heap.hide C).get? b = some o := fun ne q => (Heap.hide_ne _ ne).trans q
  have single : ∀ {b : Addr}, b ∉ [C] → b ≠ C := fun m z => m (List.mem_singleton.mpr z)
  have un : Un (frs X.stack) [C] H H sI.heap (sI.heap.hide C) :=
    ⟨fun b o q _ _ m => keepI (single m) q, fun b o q _ _ m => ⟨o.slots, keepI (single m) q⟩, fun _ _ _ q _ => q, fun b o q m => ⟨o, keepI (single m) q⟩, fun _ _ q => q, fun _ _ _ q => q, fun b ps q => ⟨#[], by rw [q]; simp⟩⟩
  have hok : HOk X.prog X.w H (sI.heap.hide C) := fun b o q => (I.hok b o q).stay (fun c v own r => keepI (own.elim (fun z => z ▸ fresh q) fresh) r) (fun _ q => q) fun _ _ q => q
  have I' := (I.pins_of (pins' := []) fun p m => nomatch m).call (g' := sI.gens) (d' := sI.drawn) (t' := sI.toks) un hok I.bare fun b m => by
    cases List.mem_singleton.mp m
    exact ⟨p3, p1, p4, p5⟩
  refine ⟨a, G.hide C, _, [], σ, H, cls, d, rfl, I', fun b o q m => ?_, fun b o q nf => ?_, ⟨fun b o q => ?_, (Heap.hide_ne _ aC).trans ga, ?_, oe, vs, T, oT, ts, on aC e1, z, e2, e3, (Heap.hide_ne _ TC).trans e4, e5, on TC e6, e7, e8⟩, na, os, bare, w⟩
  · exact (Heap.hide_ne _ (ne_of q)).trans (kept b o (Heap.of_hide q) m)
  · obtain ⟨sl, r⟩ := up b o (Heap.of_hide q) nf
    exact ⟨sl, on (ne_of q) r⟩
  · exact on (ne_of q) (g b o (Heap.of_hide q))
  · refine funFrames_none (ff.sameBut sb ns') fun L m => ?_
    have q := (ff.mem m).1
    cases r : (G.hide C).get? L with
    | none => rfl
    | some o => rw [Heap.of_hide r] at q; cases q
/-- and so it leaves the block -/
theorem pass_noted {what : String} {ce : PySem.Env} (own : Std X) (tk : Takes X W) (hf : ce.frame = X.env.frame) (n : Noted X W u s) : wpAny (model X.prog X.w) X.A (PySem.passOn what u ce : Sem Value) (fun _ _ => False) X.xe s := by
  obtain ⟨a, G, sI, pins, σ, H, cls, d, rfl, I, kept, up, held, na, os, bare, w⟩ := n
  obtain ⟨oe, vs, T, -, -, at_a, -, flds, tb, -⟩ := held.2.2.2
  unfold PySem.passOn
  apply wpAny_bind
  refine wpAny_field at_a flds tb ?_
  rw [if_neg (show ¬ ((Value.ref T == Value.none) = true) from nofun)]
  apply wpAny_bind
  rw [hf, own.2]
  refine HandSPX.setFlight_onZ held fun h' held' more => wpAny_throw (tk _ _ ?_)
  exact Noted.air ⟨a, G, sI, pins, σ, H, cls, d, rfl, I, kept, up.trans more, held', na, os, bare, w⟩
end

/-! ### the comprehension -/
/-- a namespace at C lies there, and may go -/
def Gone (C : Addr) (s : Shared) (R : Shared → Prop) : Prop := ∃ m, s.heap.Ns C m ∧ ∀ h m', h.Ns C m' → Heap.SameBut C s.heap h → R { s with heap := h }
/-- what is to hold where a block ends well: the list is the answer, or has been put where it goes -/
def Well (M : Model) (A : Around) (E : Value → Shared → Prop) (use : Option (Value → Sem Unit)) (Q : Value → Shared → Prop) (acc : Value) (C : Addr) (s : Shared) : Prop :=
  match use with
  | none => Gone C s (Q acc)
  | some f => wpAny M A (f acc) (fun _ s' => Gone C s' (Q .none)) E s
/-- what is to hold where a block ends -/
def Left (M : Model) (A : Around) (E : Value → Shared → Prop) (use : Option (Value → Sem Unit)) (Q : Value → Shared → Prop) (acc : Value) (ce : PySem.Env) : Result → Shared → Prop
  | .ok _, s => Well M A E use Q acc ce.locals s
  | .error x, s => ∃ m, s.heap.Ns ce.locals m ∧ ∀ h m', h.Ns ce.locals m' → Heap.SameBut ce.locals s.heap h → wpAny M A (PySem.passOn "comprehension.variables-let-go" x ce : Sem Value) (fun _ _ => False) E { s with heap := h }
theorem comp_own {M : Model} {A : Around} {E Q : Value → Shared → Prop} {s : Shared} {env : PySem.Env} {e : Expr} {scope : Scope} {pos : Pos} {first : Sem Value} {g : Comprehension} {gs : List Comprehension} {cl : List (Str × Addr)} {use : Option (Value → Sem Unit)}
    (clauses : clausesOf e = g :: gs) (plain : ∀ x, foldedSetIterable g.iter env x = pure x) (clo : closureFor scope env = pure cl) (kind : scope.kind = .function) (names : ∀ x ∈ scope.names, x.2 = .local → scope.names.lookup x.1 = some .local)
    (h : wpAny M A first (fun x s1 => wpAny M A (pyIter x) (fun it s2 => wpAny M A (newList []) (fun acc s3 => wpAny M A (newFunctionEnv scope env.globals cl [] env.qual none .none (some env)) (fun ce s4 =>
      codeAny M A (.compStart e 0 it acc { ce with scope := relabel scope env }) (Left M A E use Q acc { ce with scope := relabel scope env }) s4) E s3) E s2) E s1) E s) :
    wpAny M A (comprehension e scope env pos (newList []) false first use) Q E s := by
  have same : ∀ (x : Value) (s : Shared), E x s → E x s := fun _ _ q => q
  unfold comprehension
  rw [clo, clauses]
  apply wpAny_bind
  refine wpAny_mono h ?_ same
  intro x s1 h1
  apply wpAny_bind
  apply wpAny_standAt
  apply wpAny_bind
  apply wpAny_of_eq (plain x)
  apply wpAny_bind
  apply wpAny_holding
  refine wpAny_mono h1 ?_ same
  intro it s2 h2
  apply wpAny_standIf
  apply wpAny_bind
  refine wpAny_mono h2 ?_ same
  intro acc s3 h3
  apply wpAny_bind
  apply wpAny_pure
  apply wpAny_bind
  refine wpAny_mono h3 ?_ same
  intro ce s4 run
  dsimp only
  have locals : ∀ x ∈ (scope.names.filter fun x => (x.2 == .local || x.2 == .cell) && x.1 != (".0" : Str)).reverse, x.2 = .local → PySem.Env.kindOf { ce with scope := relabel scope env } x.1 = some .local :=
    fun x m k => lookup_relabel_local (names x (List.mem_filter.mp (List.mem_reverse.mp m)).1 k)
  apply wpAny_holding
  apply wpAny_bind
  apply wpAny_attempt
  apply wpAny_holding
  refine wpAny_run (codeAny_mono run ?_)
  intro r s5 left
  cases r with
  | ok f =>
    cases use with
    | none =>
      obtain ⟨m, ns, go⟩ := left
      apply wpAny_bind
      apply wpAny_holding
      exact wpAny_comp_letGo (cenv := { ce with scope := relabel scope env }) kind _ s5 m locals ns fun h m' ns' sb => wpAny_pure (go h m' ns' sb)
    | some put =>
      apply wpAny_bind
      apply wpAny_rule
      apply wpAny_bind
      apply wpAny_holding
      refine wpAny_mono left ?_ same
      rintro _ s6 ⟨m, ns, go⟩
      apply wpAny_bind
      refine wpAny_comp_letGo (cenv := { ce with scope := relabel scope env }) kind _ s6 m (fun x z k => locals x ?_ k) ns fun h m' ns' sb => wpAny_pure (go h m' ns' sb)
      exact (List.mem_append.mp z).elim List.mem_of_mem_drop List.mem_of_mem_take
  | error x =>
    obtain ⟨m, ns, go⟩ := left
    apply wpAny_bind
    apply wpAny_holding
    exact wpAny_comp_letGo (cenv := { ce with scope := relabel scope env }) kind _ s5 m locals ns fun h m' ns' sb => wpAny_mono (go h m' ns' sb) (fun _ _ no => no.elim) same
section
variable {X : Cx} {W : WX} {pins : List (Addr × Obj)} {σ : L2.St} {H : Hp} {s : Shared}
/-- the context of a block that may raise -/
abbrev blkX (X : Cx) (s : Shared) (H : Hp) (scope : Scope) (ce : PySem.Env) (fp : List Addr) (xe : Value → Shared → Prop) : Cx := (X.blk s H scope ce fp).wish xe
/-- what is wished of an exception in the block whose names stand at C -/
def BlkX (X : Cx) (W : WX) (C : Addr) (u : Value) (s' : Shared) : Prop := (∃ m, s'.heap.Ns C m) ∧ L2.XE X (fun cls d σ H => W cls d σ H ∧ H C = none) u s'
/-- out of the block, by a turn of its loop -/
theorem out_of_block {Q : Value → Shared → Prop} {use : Option (Value → Sem Unit)} {acc : Value} {ce : PySem.Env} {u : Value} {E : Value → Shared → Prop} (own : Std X) (tk : Takes X W) (hf : ce.frame = X.env.frame) (fp : FpOk X [] (fun _ => none) ce.locals) (x : BlkX X W ce.locals u s) :
    wpAny (model X.prog X.w) X.A (noteFrame u ce) (fun _ s'' => Left (model X.prog X.w) X.A X.xe use Q acc ce (.error u) s'') E s := by
  obtain ⟨⟨m, o, es, ep, at_C, dC, str, look⟩, air⟩ := x
  rw [note_frame hf]
  refine wpAny_mono (note_air own air) ?_ fun _ _ q => q
  rintro _ s2 ⟨n, more⟩
  obtain ⟨sl, q⟩ := more _ o at_C (by rw [dC]; exact nofun)
  have ns : s2.heap.Ns ce.locals m := ⟨_, es, ep, q, dC, str, look⟩
  exact ⟨m, ns, fun h m' ns' sb => pass_noted own tk hf (n.beside fp ns ns' sb)⟩
/-- a call within the block raises: it is in the def's air -/
theorem call_in_block {ce : PySem.Env} {scope : Scope} {fp : List Addr} {s3 : Shared} {H3 : Hp} {σ' : L2.St} (out : ∀ b ∈ frs X.stack, b ≠ ce.locals) (back : ∀ {pins' σ' H' s'}, L2.Inv (X.blk s3 H3 scope ce fp) pins' σ' H' s' → L2.Inv X pins σ H' s') :
    PassesAt (L2.CX X.prog X.w) (blkX X s3 H3 scope ce fp (BlkX X W ce.locals)) σ' (fun cls d H' => W cls d σ H') := by
  rintro pins' H5 s5 _ s6 I5 ⟨a, G, H6, cls, d, rfl, fly, hok, ub, na, os, bare, w⟩
  have free : H5 ce.locals = none := I5.free
  obtain ⟨m, ⟨o, es, ep, at_C, r⟩, -⟩ := I5.loc
  have kept : s6.heap.get? ce.locals = some o := fly.1 _ _ (ub.keep _ o at_C free fun m => out _ m rfl)
  refine ⟨⟨m, o, es, ep, kept, r⟩, XE.of_call (E := fun cls d H => W cls d σ H ∧ H ce.locals = none) (back I5.unwish) (fun _ _ _ q => q) ?_⟩
  exact ⟨a, G, H6, cls, d, rfl, fly, hok, ub, na, os, bare, w, ub.free _ o at_C free⟩
end
section
variable {X : Cx} {W : WX}
/-- what is asked of the parts of a comprehension, in any block that may be laid for it -/
structure BlkParts (X : Cx) (tg elt : Expr) (ifs : List Expr) (scope : Scope) (g : TG) (tt : TT) : Prop where
  tgt : ∀ (s : Shared) (H : Hp) (C : Addr) (cl : List (Str × Addr)) (fp : List Addr), PG (X.blk s H scope (compEnvC scope cl C X.env) fp) tg g
  tst : ∀ (s : Shared) (H : Hp) (C : Addr) (cl : List (Str × Addr)) (fp : List Addr), PTs (X.blk s H scope (compEnvC scope cl C X.env) fp) ifs tt
/-- .. and of its items, which may raise what is wished of the def (at its slots σ) -/
def Items (X : Cx) (W : WX) (elt : Expr) (scope : Scope) (te : TE) (σ : L2.St) : Prop :=
  ∀ (s : Shared) (H : Hp) (C : Addr) (cl : List (Str × Addr)) (fp : List Addr) (xe : Value → Shared → Prop), (∀ σ', PassesAt (L2.CX X.prog X.w) (blkX X s H scope (compEnvC scope cl C X.env) fp xe) σ' (fun cls d H' => W cls d σ H')) →
    PE (blkX X s H scope (compEnvC scope cl C X.env) fp xe) elt te
theorem run_lcX {pins : List (Addr × Obj)} {s : Shared} {σ : L2.St} {H : Hp} {Q : VK} {use : Option (Value → Sem Unit)} {Qf : Value → Shared → Prop} {elt tg iter : Expr} {ifs : List Expr} {scope : Scope} {own : List (Str × Nat)} {pos pos' : Pos} {wi : TI} {g : TG} {tt : TT} {te : TE}
    (calm : X.calm = true) (std : Std X) (nd : X.N.Nodup) (tk : Takes X W) (src : PI X tg iter wi) (ok : BlkOk X.N X.env.scope scope own) (parts : BlkParts X tg elt ifs scope g tt) (items : Items X W elt scope te σ)
    (plain : ∀ x, foldedSetIterable iter X.env x = pure x) (I : L2.Inv X pins σ H s) (h : tLc wi g tt te (own.map (·.2)) σ H Q) (fin : ∀ D C s' H', L2.Inv X pins σ H' s' → Q (.ref D) H' → (∃ m, s'.heap.Ns C m) → FpOk X pins H' C → Well (model X.prog X.w) X.A X.xe use Qf (.ref D) C s') :
    wpAny (model X.prog X.w) X.A (comprehension (.ListComp elt [⟨tg, iter, ifs, 0⟩] scope pos) scope X.env pos' (newList []) false (eval iter X.env) use) Qf X.xe s := by
  have captured : ∀ y ∈ scope.names, y.2 = .free → ∃ c, X.env.cells.lookup y.1 = some c := fun y m k => I.ok.has _ (ok.free y m k)
  refine comp_own rfl plain (closure_ok captured) ok.kind (fun y m k => k ▸ ok.uniq y m) (thn (src.run pins s σ H _ I h) fun x s1 q => thn q ?_)
  rintro _ s2 ⟨it, fp, tn, J, H2, rfl, I2, turn, begin2, apart2, q⟩
  -- the new list
  refine wpAny_newObj_type ?_ (Nat.zero_le _)
  generalize atD : s2.heap.objs.size = D
  have freshD : H2 D = none := I2.hok.fresh (Nat.le_of_eq atD)
  obtain ⟨V, ⟨n0, v0⟩, step⟩ := q D freshD
  generalize e3 : ({ s2 with heap := s2.heap.push { cls := .type "list", data := .seq ([] : List Value).toArray } } : Shared) = s3
  have heap3 : s3.heap = s2.heap.push { cls := .type "list", data := .seq ([] : List Value).toArray } := by rw [← e3]
  have I3 : L2.Inv X pins σ (upd H2 D (.lst [])) s3 := by
    subst e3
    refine I2.laid (t' := s2.toks) (fun _ _ e => Heap.get?_push_of_some _ e) (Nat.le_of_eq atD) ⟨Nat.zero_le _, [], 0, .nil, ?_⟩
    exact atD ▸ Heap.get?_push_size _ rfl
  have low : ∀ b ∈ fp, b < s2.heap.objs.size := fun b m => (turn.obj _ _ begin2 b m).elim fun _ q => Heap.lt_size q.1
  have apart3 : ∀ b ∈ fp, FpOk X pins (upd H2 D (.lst [])) b ∧ b < s3.heap.objs.size := fun b m =>
    ⟨⟨(upd_ne (atD ▸ Nat.ne_of_lt (low b m))).trans (apart2 b m).1, (apart2 b m).2⟩, by rw [heap3, Heap.size_push]; exact Nat.lt_succ_of_lt (low b m)⟩
  have begin3 : tn 0 s3.heap := turn.keep _ _ _ begin2 fun b _ o e => heap3 ▸ Heap.get?_push_of_some _ e
  -- the block
  apply newEnv_comp
  have I4 := block_start I3 ok nd apart3
  generalize ecl : cellsFrom (s3.heap.objs.size + 1) scope.names (cloFrom X.env.cells scope.names []) = cl at I4 ⊢
  have begin4 : tn 0 (pushCells (s3.heap.push { cls := .type "dict", data := .dict #[] }) scope.names) := turn.keep _ _ _ begin3 fun b _ o e => pushCells_keeps _ _ _ _ (Heap.get?_push_of_some _ e)
  have fpC : FpOk X [] (fun _ => none) s3.heap.objs.size := (I3.pins_of (pins' := []) fun p m => nomatch m).fpOk (Nat.le_refl _) rfl
  have offC : ∀ b ∈ frs X.stack, b ≠ s3.heap.objs.size := by
    rintro b m rfl
    rcases List.mem_cons.mp (I3.stkSub _ m) with z | z
    · exact fpC.2.1 z
    · exact fpC.2.2.1 z
  have fpP : ∀ {H' : Hp}, H' s3.heap.objs.size = none → FpOk X pins H' s3.heap.objs.size := fun q => I3.fpOk (Nat.le_refl _) q
  generalize s3.heap.objs.size = C at *
  generalize upd H2 D (.lst []) = H3 at *
  generalize e4 : ({ s3 with heap := pushCells (s3.heap.push { cls := .type "dict", data := .dict #[] }) scope.names } : Shared) = s4 at *
  replace begin4 : tn 0 s4.heap := e4 ▸ begin4
  show codeAny (model X.prog X.w) X.A (.compStart (.ListComp elt [⟨tg, iter, ifs, 0⟩] scope pos) 0 (.ref it) (.ref D) (compEnvC scope cl C X.env)) (Left (model X.prog X.w) X.A X.xe use Qf (.ref D) (compEnvC scope cl C X.env)) s4
  generalize hvs : own.map (·.2) = vs at *
  have back : ∀ {pins' : List (Addr × Obj)} {σ' : L2.St} {H' : Hp} {s' : Shared}, L2.Inv (X.blk s3 H3 scope (compEnvC scope cl C X.env) fp) pins' σ' H' s' → L2.Inv X pins σ H' s' := fun J => by
    refine I3.call' (ch := fp) J.os J.base J.hok J.bare fun b m => ?_
    obtain ⟨⟨-, f1, -, f3, f4, f5⟩, -⟩ := apart3 b m
    exact ⟨f3, f1, f4, f5⟩
  have hot : ∀ {σ' : L2.St} {H' : Hp} {s' : Shared}, L2.Inv (X.blk s3 H3 scope (compEnvC scope cl C X.env) fp) [] σ' H' s' → (∀ b ∈ fp, H' b = none) → ∀ b ∈ fp, FpOk (X.blk s3 H3 scope (compEnvC scope cl C X.env) fp) [] H' b := fun J no b m =>
    ⟨no b m, (J.ok.exf b m).1, J.ok.exfs b m, .inl m, (J.ok.exf b m).2, fun p z => absurd (show p ∈ ([] : List (Addr × Obj)) ++ [] from z) List.not_mem_nil⟩
  have loop : codeAny (model X.prog X.w) X.A (.compLoop (.ListComp elt [⟨tg, iter, ifs, 0⟩] scope pos) 0 (.ref it) (.ref D) (compEnvC scope cl C X.env)) (Left (model X.prog X.w) X.A X.xe use Qf (.ref D) (compEnvC scope cl C X.env)) s4 := by
    refine compLoop_any (fun n s' => ∃ i H', L2.Inv (X.blk s3 H3 scope (compEnvC scope cl C X.env) fp) [] (wipe σ vs) H' s' ∧ tn i s'.heap ∧ (∀ b ∈ fp, H' b = none) ∧ V i n H') ?_ n0 ⟨0, H3, I4, begin4, fun b m => (apart3 b m).1.1, v0⟩
    rintro n s5 ⟨i, H5, I5, at5, no5, v5⟩
    rcases step i n H5 v5 with ⟨stop, done⟩ | ⟨go, Nx, nx, body⟩
    · refine thnF (turn.done (X.blk s3 H3 scope (compEnvC scope cl C X.env) fp) rfl rfl rfl calm i [] s5 _ H5 (fun _ _ => False) I5 (hot I5 no5) at5 stop) ?_
      rintro _ s6 ⟨rfl, I6⟩
      obtain ⟨m, ns, -⟩ := id I6.loc
      exact fin D C s6 H5 (back I6) done ⟨m, ns⟩ (fpP (show H5 C = none from I6.free))
    · refine thnF (turn.item (X.blk s3 H3 scope (compEnvC scope cl C X.env) fp) rfl rfl rfl calm i [] s5 _ H5 (fun _ _ => False) I5 (hot I5 no5) at5 go) ?_
      rintro _ s6 ⟨u, rfl, got⟩
      refine thnF got ?_
      rintro _ s7 ⟨x7, H7, I7, r7, y7, at7, no7⟩
      refine thnF ((parts.tgt s3 H3 C cl fp).run _ s7 _ H7 x7 u _ (I7.pinned (hot I7 no7) (turn.obj _ _ at7)) r7 (body x7 H7 y7)) ?_
      rintro _ s8 ⟨σ8, H8, I8, w8, q8⟩
      refine thnF ((parts.tst s3 H3 C cl fp).run _ s8 σ8 H8 _ I8 q8) ?_
      rintro b s9 ⟨H9, I9, q9⟩
      have next : ∀ {s' : Shared} {H' : Hp}, L2.Inv (X.blk s3 H3 scope (compEnvC scope cl C X.env) fp) ([] ++ pinsAt fp s7.heap) σ8 H' s' → Nx H' →
          ∃ m, m < n ∧ ∃ i H', L2.Inv (X.blk s3 H3 scope (compEnvC scope cl C X.env) fp) [] (wipe σ vs) H' s' ∧ tn i s'.heap ∧ (∀ b ∈ fp, H' b = none) ∧ V i m H' := fun {s' H'} I' q => by
        obtain ⟨m', less, v'⟩ := nx H' q
        have still : ∀ b ∈ fp, ∀ o, s7.heap.get? b = some o → s'.heap.get? b = some o ∧ H' b = none := fun b m o e =>
          let z := I'.pin (b, o) (List.mem_append_right _ (List.mem_append_right _ (mem_pinsAt m e)))
          ⟨z.1, z.2.1⟩
        have len : (wipe σ vs).length = σ8.length := by rw [← w8, wipe_length]
        exact ⟨m', less, i + 1, H', (I'.unpinned (pins := [])).weak len (fun j v e => (wipe_some (w8.symm ▸ e)).1), turn.keep _ _ _ at7 fun b m o e => (still b m o e).1, fun b m => (turn.obj _ _ at7 b m).elim fun o e => (still b m o e.1).2, v'⟩
      cases b with
      | false => exact next I9 q9
      | true =>
        refine wpAny_mono ((items s3 H3 C cl fp (BlkX X W C) fun σ' => call_in_block (ce := compEnvC scope cl C X.env) offC back).run _ s9 σ8 H9 _ (I9.wish _) q9) ?_ fun u s' x => out_of_block (ce := compEnvC scope cl C X.env) std tk rfl fpC x
        rintro y s10 ⟨yv, H10, I10, r10, acc, D10, z10, nx10⟩
        exact app_ok (X := X.blk s3 H3 scope (compEnvC scope cl C X.env) fp) I10.unwish D10 z10 r10 fun s11 I11 => next I11 nx10
  exact codeAny_compStart_list loop (turn.self X.A 0 _ _ _ begin4 loop)
theorem pe_lcX {elt tg iter : Expr} {ifs : List Expr} {scope : Scope} {own : List (Str × Nat)} {pos : Pos} {wi : TI} {g : TG} {tt : TT} {te : L2.St → TE}
    (calm : X.calm = true) (std : Std X) (nd : X.N.Nodup) (tk : Takes X W) (src : PI X tg iter wi) (ok : BlkOk X.N X.env.scope scope own) (parts : BlkParts X tg elt ifs scope g tt) (items : ∀ σ, Items X W elt scope (te σ) σ)
    (plain : ∀ x, foldedSetIterable iter X.env x = pure x) : PE X (.ListComp elt [⟨tg, iter, ifs, 0⟩] scope pos) (fun σ H Q => tLc wi g tt (te σ) (own.map (·.2)) σ H Q) where
  run pins s σ H Q I h := by
    rw [eval_ListComp]
    refine run_lcX calm std nd tk src ok parts (items σ) plain I h fun D C s' H' I' q ⟨m, ns⟩ f => ⟨m, ns, fun h m' _ sb => ⟨.ref D, H', I'.turnedL (t' := s'.toks) (ch := [C]) (fun b o z e => (sb.2 b fun w => z (List.mem_singleton.mpr w)).trans e) (fun b z => ?_), rfl, q⟩⟩
    cases List.mem_singleton.mp z
    exact f
/-- y = [..] on one line, y a local -/
theorem ps_setLcX {i : Nat} {y : Str} {py : Pos} {elt tg iter : Expr} {ifs : List Expr} {scope : Scope} {own : List (Str × Nat)} {pos spos : Pos} {wi : TI} {g : TG} {tt : TT} {te : L2.St → TE}
    (calm : X.calm = true) (std : Std X) (nd : X.N.Nodup) (tk : Takes X W) (hy : X.N[i]? = some y) (loc : X.env.scope.names.lookup y = some .local) (swap : swapsWith (.ListComp elt [⟨tg, iter, ifs, 0⟩] scope pos) (some (.Name y py)) spos.line X.env = pure true)
    (src : PI X tg iter wi) (ok : BlkOk X.N X.env.scope scope own) (parts : BlkParts X tg elt ifs scope g tt) (items : ∀ σ, Items X W elt scope (te σ) σ) (plain : ∀ x, foldedSetIterable iter X.env x = pure x) :
    PS X (.Assign [.Name y py] (.ListComp elt [⟨tg, iter, ifs, 0⟩] scope pos) spos) (tAsg (fun σ H Q => tLc wi g tt (te σ) (own.map (·.2)) σ H Q) (gName i)) where
  run pins s σ H D I h := by
    rw [exec_Assign_Name_used _ _ _ _ swap]
    apply wpAny_bind
    apply wpAny_standAt
    apply wpAny_bind
    show wpAny _ X.A (comprehension (.ListComp elt [⟨tg, iter, ifs, 0⟩] scope pos) scope X.env (firstIterPos [⟨tg, iter, ifs, 0⟩] pos) (newList []) false (eval iter X.env) (some (assign (.Name y py) X.env)) >>= _) _ _ s
    apply wpAny_bind
    refine thn (run_lcX (Qf := fun _ s' => SP X pins D .next s') calm std nd tk src ok parts (items σ) plain I (Q := fun x H1 => gName i x σ H1 D.nx) h fun L C s' H' I' q ⟨m, ns⟩ f => ?_) fun _ s' q => wpAny_pure (wpAny_pure q)
    apply wpAny_assign_Name
    refine store_ok2 (v := V.ref L) I' nd hy (.inl loc) rfl (fun s2 I2 ⟨a, sb, at_a⟩ => ?_) (.inr loc)
    have apart : C ≠ a := by
      rcases at_a with rfl | at_a
      · exact f.2.1
      · exact (f.2.2.2.2.1 y a at_a).symm
    refine ⟨m, ns.sameBut sb apart, fun h m' _ sb' => ⟨_, H', I2.turnedL (t' := s2.toks) (ch := [C]) (fun b o z e => (sb'.2 b fun w => z (List.mem_singleton.mpr w)).trans e) (fun b z => ?_), q⟩⟩
    cases List.mem_singleton.mp z
    exact f
end
end ML
set_option Elab.async false
set_option linter.all false
set_option autoImplicit false
set_option maxRecDepth 100000
set_option maxHeartbeats 4000000
/-! MLrx: expressions that raise. -/
namespace ML
open PySem L2
def tXE [Wd] (K : PySem.W.Frag) (Φ : Nat → List D → Option Sv) (W : WX) (m : ME) : TE := fun σ H _ => ∃ B ρ x ρ', EnvOk K B H ρ σ ∧ rxE Φ m ρ = some (x, ρ') ∧ XQ K B H ρ σ x ρ' W
def tXA [Wd] (K : PySem.W.Frag) (Φ : Nat → List D → Option Sv) (W : WX) (ms : List ME) : TA := fun σ H _ => ∃ B ρ x ρ', EnvOk K B H ρ σ ∧ rxEs Φ ms ρ = some (x, ρ') ∧ XQ K B H ρ σ x ρ' W
theorem XQ.trans [Wd] {K : PySem.W.Frag} {B H B1 H1 : Hp} {ρ ρ1 ρ' : ML.Env} {σ : L2.St} {x : Str} {W : WX} (q : XQ K B H ρ σ x ρ' W) (X : Ext B H (OwnS ρ σ) B1 H1 (OwnS ρ1 σ)) : XQ K B1 H1 ρ1 σ x ρ' W := fun C H' B' hC E' X' => q C H' B' hC E' (X.trans X')
section
variable [Wd] {Φ : Nat → List D → Option Sv} {F : List (Str × Nat)} {Gc : List (Str × D)} {N : List Str} {k : Nat}
/-- what a call lets out is taken -/
def Lets (X : Cx) (W : WX) : Prop := ∀ σ, PassesAt (L2.CX X.prog X.w) X σ (WE W σ)
/-- a def's own frame, by which what is raised is taken -/
def FrX (X : Cx) (W : WX) : Prop := Std X ∧ Takes X W
theorem FrX.lets {X : Cx} {W : WX} (f : FrX X W) : Lets X W := fun σ => passAt f.2 σ
/-- what is shown of an expression that raises -/
def SndX (Φ : Nat → List D → Option Sv) (F : List (Str × Nat)) (Gc : List (Str × D)) (N : List Str) (k : Nat) (m : ME) : Prop :=
  ∀ (X : Cx) (sc : Scope) (e : Expr) (W : WX), Good X Φ F Gc N sc k → Lets X W → (noC m = true ∨ FrX X W) → okE F Gc N sc m e = true → PE X e (tXE X.K Φ W m)
theorem sndA {X : Cx} {sc : Scope} {ms : List ME} {es : List Expr} (g : Good X Φ F Gc N sc k) (h : okEs F Gc N sc ms es = true) : PA X es (tA X.K Φ ms) := snd_args (fun m _ => sndAll m) g h
theorem sndX_args [Wd] : ∀ {ms : List ME}, (∀ m ∈ ms, SndX Φ F Gc N k m) → ∀ {X : Cx} {sc : Scope} {es : List Expr} {W : WX}, Good X Φ F Gc N sc k → Lets X W → (noCs ms = true ∨ FrX X W) → okEs F Gc N sc ms es = true → PA X es (tXA X.K Φ W ms)
  | [], _, X, sc, [], W, _, _, _, _ => PA.imp PA.no fun σ H Q ⟨B, ρ, x, ρ', E, e, q⟩ => by rw [rxEs] at e; cases e
  | m :: ms, ih, X, sc, e :: es, W, g, tk, hc, h => by
    simp only [okEs, Bool.and_eq_true] at h
    simp only [noCs, Bool.and_eq_true] at hc
    have r1 := PE.orr (sndAll m X sc e g h.1.2).1 (ih m List.mem_cons_self X sc e W g tk (hc.imp_left (·.1)) h.1.2)
    have r2 := sndX_args (fun s hs => ih s (List.mem_cons_of_mem _ hs)) g tk (hc.imp_left (·.2)) h.2
    refine PA.imp (pa_cons r1 r2 (star_cons h.1.1 _ _)) fun σ H Q ⟨B, ρ, x, ρ', E, e, q⟩ => ?_
    rw [rxEs] at e
    rcases els_cases e with ⟨p, e1, e2⟩ | ⟨e1, e2⟩
    · refine .inl ⟨B, ρ, p.1, p.2, E, e1, fun v H1 B1 E1 X1 R1 => ?_⟩
      obtain ⟨B1', E1', X1', O1⟩ := op_of E1 X1 R1
      exact ⟨B1', p.2, x, ρ', E1', e2, q.trans X1'⟩
    · exact .inr ⟨B, ρ, x, ρ', E, e2, q⟩
  | [], _, _, _, _ :: _, _, _, _, _, h => by simp [okEs] at h
  | _ :: _, _, _, _, [], _, _, _, _, h => by simp [okEs] at h
section
variable {X : Cx} {sc : Scope} {W : WX}
theorem pe_callS0 {CX : CXT} {k : Nat} {f : Addr} {fd : FuncData} {ps : List Str} {sp : Sp} {E : L2.St → XK} {x : Str} {p pos : Pos} (Fn : FnOk X.prog X.w X.K X.mg X.base CX k f fd ps sp) (hr : Room k X.A) (hg : Gl X x) (hm : X.mg x = some (.ref f)) (hk : PySem.W.keepIn X.K (.ref f) = true) (hb : Binds X.K fd ps []) (hx : ∀ σ, PassesAt CX X σ (E σ))
    (hdb : (x == ("__debug__" : Str)) = false) : PE X (.Call (.Name x p) [] [] pos) (tCallS sp E tNil) := by
  refine ⟨fun pins s σ H Q I h => ?_⟩
  refine wpAny_Call_Name_kw (ld_glob I hg hm ?_ hdb)
  exact PySem.W.callWith_K0 I.kIn hk (run_fnS (us := []) Fn hr hb (hx σ) I .nil h)
/-- a def's call, of any arguments' reading -/
theorem pe_callA {f : Nat} {x : Str} {ms : List ME} {es : List Expr} {p pos : Pos} {t : TA} {a : Addr} {fd : FuncData} {ps : List Str} {sp : Sp} (g : Good X Φ F Gc N sc k) (tk : Lets X W) (hg : gloB sc x = true) (hp : plainB x = true) (hm : X.mg x = some (.ref a)) (hk : PySem.W.keepIn X.K (.ref a) = true) (hb : Binds X.K fd ps [])
    (Fn : FnOk X.prog X.w X.K X.mg X.base (L2.CX X.prog X.w) k a fd ps sp) (hok : okEs F Gc N sc ms es = true) (ha : PA X es t) (h0 : es = [] → ∀ σ H Q, t σ H Q → tNil σ H Q) : PE X (.Call (.Name x p) es [] pos) (tCallS sp (WE W) t) := by
  obtain ⟨d1, d2, _⟩ := plain_ne hp
  cases es with
  | nil => exact PE.imp (pe_callS0 Fn g.rm (g.gl_ok hg) hm hk hb tk d1) fun σ H Q h => h0 rfl _ _ _ h
  | cons e es =>
    cases ms with
    | nil => simp [okEs] at hok
    | cons m ms =>
      have hok' := hok
      unfold okEs at hok'
      simp only [Bool.and_eq_true] at hok'
      exact pe_callS Fn g.rm (g.gl_ok hg) hm hk hb tk ha d1 (star_cons hok'.1.1 _ _) (okEs_plain hok'.2 _ _)
theorem tXA_nil {K : PySem.W.Frag} : ∀ σ H Q, tXA K Φ W [] σ H Q → tNil σ H Q := fun σ H Q ⟨B, ρ, x, ρ', E, e, q⟩ => by rw [rxEs] at e; cases e
theorem sndX_call (g : Good X Φ F Gc N sc k) (tk : Lets X W) {f : Nat} {x : Str} {ms : List ME} {es : List Expr} {p pos : Pos} (hf : F.lookup x = some f) (hi : ioPos f = none) (hg : gloB sc x = true) (hp : plainB x = true) (hok : okEs F Gc N sc ms es = true) (ha : PA X es (tXA X.K Φ W ms)) :
    PE X (.Call (.Name x p) es [] pos) (tXE X.K Φ W (.call f ms)) := by
  obtain ⟨a, fd, ps, hm, hk, hb, Fn, hl⟩ := g.fn x f hp hf
  rw [spG_none hi] at Fn
  have z1 : es = [] → ∀ σ H Q, tA X.K Φ ms σ H Q → tNil σ H Q := fun z => by obtain rfl := okEs_nil hok z; exact tA_nil
  have z2 : es = [] → ∀ σ H Q, tXA X.K Φ W ms σ H Q → tNil σ H Q := fun z => by obtain rfl := okEs_nil hok z; exact tXA_nil
  refine PE.imp (PE.orr (pe_callA (f := f) (p := p) (pos := pos) g tk hg hp hm hk hb Fn hok (sndA g hok) z1) (pe_callA (f := f) (p := p) (pos := pos) g tk hg hp hm hk hb Fn hok ha z2)) fun σ H Q ⟨B, ρ, x, ρ', E, e, q⟩ => ?_
  rw [rxE] at e
  rcases els_cases e with ⟨p1, e1, e⟩ | ⟨e1, e⟩
  · obtain ⟨p2, e2, e⟩ := bind_some e
    obtain ⟨s, e3, e⟩ := bind_some e
    obtain ⟨y, e4, e5⟩ := map_some e
    cases e5
    refine .inl ⟨B, ρ, p1.1, p1.2, E, e1, fun vs H1 B1 E1 X1 O1 => ?_⟩
    obtain ⟨B2, E2, X2, R2⟩ := frzs_ok E1 O1 e2
    exact ⟨by rw [R2.length]; exact hl _ _ e3, B2, p2.1, s, E2.same, R2, e3, exc_tail E2 (X1.trans X2) e4 q⟩
  · exact .inr ⟨B, ρ, x, ρ', E, e, q⟩
theorem sndX_cio (g : Good X Φ F Gc N sc k) (tk : Lets X W) {f j i : Nat} {x : Str} {ms : List ME} {es : List Expr} {p pos : Pos} (hf : F.lookup x = some f) (hi : ioPos f = some j) (hg : gloB sc x = true) (hp : plainB x = true) (hok : okEs F Gc N sc ms es = true) (ha : PA X es (tXA X.K Φ W ms)) :
    PE X (.Call (.Name x p) es [] pos) (tXE X.K Φ W (.cio f j i ms)) := by
  obtain ⟨a, fd, ps, hm, hk, hb, Fn, hl⟩ := g.fn x f hp hf
  rw [spG_some hi] at Fn
  have z1 : es = [] → ∀ σ H Q, tA X.K Φ ms σ H Q → tNil σ H Q := fun z => by obtain rfl := okEs_nil hok z; exact tA_nil
  have z2 : es = [] → ∀ σ H Q, tXA X.K Φ W ms σ H Q → tNil σ H Q := fun z => by obtain rfl := okEs_nil hok z; exact tXA_nil
  refine PE.imp (PE.orr (pe_callA (f := f) (p := p) (pos := pos) g tk hg hp hm hk hb Fn hok (sndA g hok) z1) (pe_callA (f := f) (p := p) (pos := pos) g tk hg hp hm hk hb Fn hok ha z2)) fun σ H Q ⟨B, ρ, x, ρ', E, e, q⟩ => ?_
  rw [rxE] at e
  rcases els_cases e with ⟨p1, e1, e⟩ | ⟨e1, e⟩
  · obtain ⟨p2, e2, e⟩ := bind_some e
    obtain ⟨s, e3, e⟩ := bind_some e
    obtain ⟨y, e4, e5⟩ := map_some e
    cases e5
    refine .inl ⟨B, ρ, p1.1, p1.2, E, e1, fun vs H1 B1 E1 X1 O1 => ?_⟩
    obtain ⟨B2, a, d, E2, X2, l, g1, g2, g3, g4, g5⟩ := frzJ_ok E1 O1 e2
    obtain ⟨a', q1, oa⟩ := E2.own i d g3
    rw [g2] at q1
    cases q1
    refine ⟨by rw [l]; exact hl _ _ e3, B2, p2.1, s, a, E2.same, l, g1, fun m v e q1 q2 => ?_, e3, iox_tail E2 (X1.trans X2) g3 g2 e4 q⟩
    split
    · rename_i hm
      subst hm
      rw [g4] at q2
      cases q2
      exact oa
    · rename_i hm
      exact g5 m v e q1 q2 hm
  · exact .inr ⟨B, ρ, x, ρ', E, e, q⟩
theorem sndX_meth (g : Good X Φ F Gc N sc k) (tk : Lets X W) {a : ME} {m : Str} {tab : List (Str × Nat)} {ms : List ME} {o : Expr} {es : List Expr} {ap cp : Pos} (hr : recvB o = true) (hl : (ap.endLine == cp.line) = true) (hn : es.length < 30) (ht : tabOk F m tab) (hok : okEs F Gc N sc ms es = true)
    (ho : PE X o (tE X.K Φ a)) (ha : PA X es (tXA X.K Φ W ms)) : PE X (.Call (.Attribute o m ap) es [] cp) (tXE X.K Φ W (.meth a m tab ms)) := by
  refine ⟨fun pins s σ H Q I h => ?_⟩
  obtain ⟨B, ρ, x, ρ', E, e, q⟩ := id h
  rw [rxE] at e
  obtain ⟨p0, e0, e⟩ := bind_some e
  obtain ⟨d0, e1, e⟩ := bind_some e
  obtain ⟨c, e2, e⟩ := bind_some e
  obtain ⟨f, e3, e⟩ := bind_some e
  obtain ⟨t1, t2, t3, t4⟩ := ht c f e3
  obtain ⟨C, af, fd, ps, hC, hM, _, hb, Fn, hlen⟩ := g.mt c m f t4 t1 t2
  rw [spG_none t3] at Fn
  have hcf := clsF_eq e2
  obtain ⟨fs, hd0, hno⟩ := hcf
  rw [hd0] at e1
  rcases els_cases e with ⟨p, e4, e⟩ | ⟨e4, e⟩
  · obtain ⟨z, e5, e⟩ := bind_some e
    obtain ⟨s1, e6, e⟩ := bind_some e
    obtain ⟨y, e7, e8⟩ := map_some e
    cases e8
    refine (pe_mtR (E := WE W) mon_tE hr hl hn hok ho (g.cl c C hC).2 hM Fn g.rm hb tk (sndA g hok) fun z => ?_).run pins s σ H Q I ?_
    · obtain rfl := okEs_nil hok z
      exact tA_nil
    refine ⟨B, ρ, p0.1, p0.2, E, e0, fun v H1 B1 E1 X1 R1 => ?_⟩
    obtain ⟨B1', E1', X1', O1⟩ := op_of E1 X1 R1
    obtain ⟨a', C', dx, gs, rfl, hH, hC', hk, hr⟩ := (cont_ok E1' O1 e1).obj E1'.same
    rw [hC] at hC'
    cases hC'
    refine ⟨a', dx, gs, rfl, hH, lookup_keys hk hno, B1', p0.2, p.1, p.2, E1', e4, fun vs H2 B2 E2 X2 O2 => ?_⟩
    obtain ⟨B3, E3, X3, R3⟩ := frzs_ok E2 (.cons (O1.mono X2.b) O2) e5
    exact ⟨by rw [R3.length]; exact hlen _ _ e6, B3, z.1, s1, E3.same, R3, e6, exc_tail E3 ((X1'.trans X2).trans X3) e7 q⟩
  · refine (pe_mtR (E := WE W) mon_tE hr hl hn hok ho (g.cl c C hC).2 hM Fn g.rm hb tk ha fun z => ?_).run pins s σ H Q I ?_
    · obtain rfl := okEs_nil hok z
      exact tXA_nil
    refine ⟨B, ρ, p0.1, p0.2, E, e0, fun v H1 B1 E1 X1 R1 => ?_⟩
    obtain ⟨B1', E1', X1', O1⟩ := op_of E1 X1 R1
    obtain ⟨a', C', dx, gs, rfl, hH, hC', hk, hr⟩ := (cont_ok E1' O1 e1).obj E1'.same
    rw [hC] at hC'
    cases hC'
    exact ⟨a', dx, gs, rfl, hH, lookup_keys hk hno, B1', p0.2, x, ρ', E1', e, q.trans X1'⟩
theorem sndX_mio (g : Good X Φ F Gc N sc k) (tk : Lets X W) {c m : Str} {f i : Nat} {ms : List ME} {x : Str} {es : List Expr} {p ap cp : Pos} (h1 : N[i]? = some x) (h2 : visB sc x = true) (h3 : plainB x = true) (hl : (ap.endLine == cp.line) = true) (hn : es.length < 30) (hF : F.lookup (dotN c m) = some f) (hf : f ≠ FLD) (hi : ioPos f = some 0) (hpc : plainB c = true) (hok : okEs F Gc N sc ms es = true)
    (ha : PA X es (tXA X.K Φ W ms)) : PE X (.Call (.Attribute (.Name x p) m ap) es [] cp) (tXE X.K Φ W (.mio c m f i ms)) := by
  obtain ⟨d1, d2, _⟩ := plain_ne h3
  have hv : PE X (.Name x p) (tVar i) := pe_var (i := i) (by rw [g.hN]; exact h1) (by rw [g.hsc]; exact vis_of h2) d1 d2
  obtain ⟨C, af, fd, ps, hC, hM, _, hb, Fn, hlen⟩ := g.mt c m f hpc hF hf
  rw [spG_some hi] at Fn
  have z1 : es = [] → ∀ σ H Q, tA X.K Φ ms σ H Q → tNil σ H Q := fun z => by obtain rfl := okEs_nil hok z; exact tA_nil
  have z2 : es = [] → ∀ σ H Q, tXA X.K Φ W ms σ H Q → tNil σ H Q := fun z => by obtain rfl := okEs_nil hok z; exact tXA_nil
  refine PE.imp (PE.orr (pe_mtR (E := WE W) (ta := tVar i) (t := tA X.K Φ ms) mon_var rfl hl hn hok hv (g.cl c C hC).2 hM Fn g.rm hb tk (sndA g hok) z1) (pe_mtR (E := WE W) (ta := tVar i) (t := tXA X.K Φ W ms) mon_var rfl hl hn hok hv (g.cl c C hC).2 hM Fn g.rm hb tk ha z2)) fun σ H Q ⟨B, ρ, x, ρ', E, e, q⟩ => ?_
  rw [rxE] at e
  obtain ⟨d0, e0, e⟩ := bind_some e
  obtain ⟨c', e1, e⟩ := bind_some e
  have hcf := clsF_eq e1
  obtain ⟨fs, hd0, hno⟩ := hcf
  rw [hd0] at e0
  by_cases hcc : c' = c
  · rw [if_pos hcc] at e
    rw [hcc] at e0
    obtain ⟨a, g1, oa⟩ := E.own i _ (ownC_eq e0)
    obtain ⟨C', dx, gs, hH, hC', hk, _⟩ := own_obj oa
    rw [hC] at hC'
    cases hC'
    rcases els_cases e with ⟨p, e4, e⟩ | ⟨e4, e⟩
    · obtain ⟨z, e5, e⟩ := bind_some e
      obtain ⟨s1, e6, e⟩ := bind_some e
      obtain ⟨z2, e7, e8⟩ := map_some e
      cases e8
      refine .inl ⟨.ref a, g1, a, dx, gs, rfl, hH, lookup_keys hk hno, B, ρ, p.1, p.2, E, e4, fun vs H2 B2 E2 X2 O2 => ?_⟩
      obtain ⟨B3, a', d, E3, X3, l, k1, k2, k3, k4, k5⟩ := frzJ_ok E2 (.cons (show OpOk X.K B2 σ (.ali i) (.ref a) from g1) O2) e5
      rw [g1] at k2
      cases k2
      obtain ⟨a', q1, oa3⟩ := E3.own i d k3
      rw [g1] at q1
      cases q1
      refine ⟨by rw [l]; exact hlen _ _ e6, B3, z.1, s1, a, E3.same, l, k1, fun m v e q1 q2 => ?_, e6, iox_tail E3 (X2.trans X3) k3 g1 e7 q⟩
      split
      · rename_i hm
        subst hm
        rw [k4] at q2
        cases q2
        exact oa3
      · rename_i hm
        exact k5 m v e q1 q2 hm
    · exact .inr ⟨.ref a, g1, a, dx, gs, rfl, hH, lookup_keys hk hno, B, ρ, x, ρ', E, e, q⟩
  · rw [if_neg hcc] at e; cases e
theorem sndX_thw {m : ME} : ∀ σ H Q, tXE X.K Φ W (.thw m) σ H Q → tXE X.K Φ W m σ H Q := by
  intro σ H Q ⟨B, ρ, x, ρ', E, e, q⟩
  rw [rxE] at e
  obtain ⟨p, e1, e2⟩ := map_some e
  cases e2
  obtain ⟨B1, E1, X1, nO⟩ := E.freezeAll
  refine ⟨B1, _, p.1, p.2, E1, e1, fun C H' B' hC E' X' => ?_⟩
  have Y : Ext B1 H (fun _ => False) B' H' (fun _ => False) := ⟨X'.b, fun a o h _ => X'.keep a o h (nO a), X'.tr, fun _ z => z.elim, fun a u h => by
    rcases X'.base a u h with z | z | z
    · exact .inl z
    · exact .inr (.inl z)
    · exact absurd z (nO a)⟩
  obtain ⟨B2, E2, X2, _⟩ := E.thaw X1 E'.same Y
  exact q C H' B2 hC E2 X2
theorem sndX_bin (g : Good X Φ F Gc N sc k) {o : Bop} {a b : ME} {l r : Expr} {pos : Pos} (ha : PE X l (tE X.K Φ a)) (ha' : PE X l (tXE X.K Φ W a)) (hb' : PE X r (tXE X.K Φ W b)) : PE X (.BinOp l o.py r pos) (tXE X.K Φ W (.bin o a b)) := by
  refine PE.imp (PE.orr (pe_op (op_bin o) ha hb') (pe_op (op_bin o) ha' PE.no)) fun σ H Q ⟨B, ρ, x, ρ', E, e, q⟩ => ?_
  rw [rxE] at e
  rcases els_cases e with ⟨p, e1, e2⟩ | ⟨e1, e2⟩
  · refine .inl ⟨B, ρ, p.1, p.2, E, e1, fun v H1 B1 E1 X1 R1 => ?_⟩
    obtain ⟨B1', E1', X1', O1⟩ := op_of E1 X1 R1
    exact ⟨B1', p.2, x, ρ', E1', e2, q.trans X1'⟩
  · exact .inr ⟨B, ρ, x, ρ', E, e2, q⟩
theorem sndX_join (g : Good X Φ F Gc N sc k) {a b : ME} {o y : Expr} {ap cp : Pos} (hr : recvG o = true) (hl : (ap.endLine == cp.line) = true) (hs : noStar y = true) (ha : PE X o (tE X.K Φ a)) (hb : PE X y (tXE X.K Φ W b)) : PE X (.Call (.Attribute o Smt.join.name ap) [y] [] cp) (tXE X.K Φ W (.smt .join a b)) := by
  refine PE.imp (pe_m1 (r := rSmt X.K .join) PySem.F.slot_str_join PySem.F.type_str_join (mt_smt_join) ha hb (star_cons hs _ _) (recvG_base hr) hl) fun σ H Q ⟨B, ρ, x, ρ', E, e, q⟩ => ?_
  rw [rxE] at e
  obtain ⟨p, e1, e⟩ := bind_some e
  obtain ⟨x0, e2, e⟩ := bind_some e
  obtain ⟨u, e3, e⟩ := bind_some e
  refine ⟨B, ρ, p.1, p.2, E, e1, fun v H1 B1 E1 X1 R1 => ?_⟩
  obtain ⟨B1', E1', X1', O1⟩ := op_of E1 X1 R1
  obtain ⟨z, rfl⟩ := recv_str (q := .join) (by decide) e3
  exact ⟨⟨z, (cont_ok E1' O1 e2).str⟩, B1', p.2, x, ρ', E1', e, q.trans X1'⟩
theorem sndX_ccall (g : Good X Φ F Gc N sc k) (tk : Lets X W) {f : Nat} {c m : Str} {ms : List ME} {es : List Expr} {p ap cp : Pos} (hf : F.lookup (dotN "@" (dotN c m)) = some f) (hF : f ≠ FLD) (hi : ioPos f = none) (hg : gloB sc c = true) (hp : plainB c = true) (hl : (ap.endLine == cp.line) = true) (hn : es.length < 30) (hok : okEs F Gc N sc ms es = true) (ha : PA X es (tXA X.K Φ W ms)) :
    PE X (.Call (.Attribute (.Name c p) m ap) es [] cp) (tXE X.K Φ W (.call f ms)) := by
  obtain ⟨C, a, fd, ps, hm, hc, hb, Fn, hlen⟩ := g.cc c m f hp hf hF
  rw [spG_none hi] at Fn
  have z1 : es = [] → ∀ σ H Q, tA X.K Φ ms σ H Q → tNil σ H Q := fun z => by obtain rfl := okEs_nil hok z; exact tA_nil
  have z2 : es = [] → ∀ σ H Q, tXA X.K Φ W ms σ H Q → tNil σ H Q := fun z => by obtain rfl := okEs_nil hok z; exact tXA_nil
  refine PE.imp (PE.orr (pe_cc g hg hp hm hc hl hn hok Fn g.rm hb tk (sndA g hok) z1) (pe_cc g hg hp hm hc hl hn hok Fn g.rm hb tk ha z2)) fun σ H Q ⟨B, ρ, x, ρ', E, e, q⟩ => ?_
  rw [rxE] at e
  rcases els_cases e with ⟨p1, e1, e⟩ | ⟨e1, e⟩
  · obtain ⟨p2, e2, e⟩ := bind_some e
    obtain ⟨s, e3, e⟩ := bind_some e
    obtain ⟨y, e4, e5⟩ := map_some e
    cases e5
    refine .inl ⟨B, ρ, p1.1, p1.2, E, e1, fun vs H1 B1 E1 X1 O1 => ?_⟩
    obtain ⟨B2, E2, X2, R2⟩ := frzs_ok E1 O1 e2
    exact ⟨by rw [R2.length]; exact hlen _ _ e3, B2, p2.1, s, E2.same, R2, e3, exc_tail E2 (X1.trans X2) e4 q⟩
  · exact .inr ⟨B, ρ, x, ρ', E, e, q⟩
theorem sndX_app (g : Good X Φ F Gc N sc k) {i : Nat} {x : Str} {m : ME} {e : Expr} {p ap cp : Pos} (h1 : N[i]? = some x) (h2 : visB sc x = true) (h3 : plainB x = true) (hl : (ap.endLine == cp.line) = true) (hs : noStar e = true) (ha : PA X [e] (tXA X.K Φ W [m])) :
    PE X (.Call (.Attribute (.Name x p) ("append" : Str) ap) [e] [] cp) (tXE X.K Φ W (.mut .append i [m])) := by
  obtain ⟨d1, d2, _⟩ := plain_ne h3
  have st := star_cons hs [] X.env
  refine PE.imp (pe_bm PySem.F.plainAttrs_list PySem.F.slot_list_append PySem.F.type_list_append (mt_mut .append) (pe_var (i := i) (by rw [g.hN]; exact h1) (by rw [g.hsc]; exact vis_of h2) d1 d2) ha rfl (by rw [st]; rfl) hl st rfl) fun σ H Q ⟨B, ρ, x, ρ', E, e, q⟩ => ?_
  rw [rxE] at e
  obtain ⟨ds, e1, e2⟩ := bind_some e
  obtain ⟨a, us0, g1, g3, g4, g5, g6⟩ := E.ownL (ownL_eq e1)
  exact ⟨.ref a, g1, .inl ⟨rfl, us0, SqL.of g4⟩, B, ρ, x, ρ', E, e2, q⟩
theorem sndX_prim (g : Good X Φ F Gc N sc k) {f : Prim} {ms : List ME} {e : Expr} {es : List Expr} {p pos : Pos} (hF : F.lookup f.name = none) (hG : (Gc.lookup f.name).isNone = true) (hg : gloB sc f.name = true) (hp : plainB f.name = true) (hok : okEs F Gc N sc ms (e :: es) = true) (ha : PA X (e :: es) (tXA X.K Φ W ms)) :
    PE X (.Call (.Name f.name p) (e :: es) [] pos) (tXE X.K Φ W (.prim f ms)) := by
  obtain ⟨d1, d2, d3⟩ := plain_ne hp
  have hb : bootBuiltins f.name = some f.val := by cases f <;> decide +kernel
  have hm : X.mg f.name = none := g.bl _ hF (Option.isNone_iff_eq_none.mp hG) (by cases f <;> decide +kernel)
  cases ms with
  | nil => simp [okEs] at hok
  | cons m ms =>
    have hok' := hok
    unfold okEs at hok'
    simp only [Bool.and_eq_true] at hok'
    have key : PE X (.Call (.Name f.name p) (e :: es) [] pos) (tCB (rPrim X.K f) (tXA X.K Φ W (m :: ms))) := by
      have hc := call_prim g.calm g.hu f
      have hst := star_cons hok'.1.1 es X.env
      have hpl := okEs_plain hok'.2 pos X.env
      cases f <;> first
        | exact pe_callB hc (g.gl_ok hg) hm hb ha d3 d1 hst hpl
        | exact pe_callTy hc (g.gl_ok hg) hm hb ha d3 d1 hst hpl
    refine PE.imp key fun σ H Q ⟨B, ρ, x, ρ', E, e, q⟩ => ?_
    rw [rxE] at e
    exact ⟨B, ρ, x, ρ', E, e, q⟩
/-! comprehensions -/
theorem Good.wishX (g : Good X Φ F Gc N sc k) (E : Value → Shared → Prop) : Good (X.wish E) Φ F Gc N sc k where
  calm := g.calm
  hN := g.hN
  nd := g.nd
  hsc := g.hsc
  kind := g.kind
  room := g.room
  hP := g.hP
  hw := g.hw
  hM := g.hM
  bl := g.bl
  fn := g.fn
  cl := g.cl
  mt := g.mt
  na := g.na
  er := g.er
  xc := g.xc
  cc := g.cc
  gd := g.gd
  gl := g.gl
/-- an item's value, or what it raises (wished of the def at its slots) -/
def teX (K : PySem.W.Frag) (Φ : Nat → List D → Option Sv) (W : WX) (elt : ME) (σ : L2.St) : TE := fun σ' H Q => tE K Φ elt σ' H Q ∨ tXE K Φ (fun cls d _ H' => W cls d σ H') elt σ' H Q
theorem partsX (g : Good X Φ F Gc N sc k) {conds : List ME} {tg : Tg} {t el : Expr} {ifs : List Expr} {scope : PySem.Scope} {vs : List Nat} (hb : L2.blkC N sc scope (ownOf N vs) = true) (htg : okTg N scope.names tg t = true) (hc : okC F Gc N (L2.relS scope sc) conds ifs = true) :
    BlkParts X t el ifs scope (tgG X.K tg) (tC1 X.K Φ conds) :=
  ⟨fun s H C cl fp => blk_tg g htg s H C cl fp, fun s H C cl fp => snd_conds (fun m _ => sndAll m) (blk_good g hb s H C cl fp) hc⟩
theorem itemsX (g : Good X Φ F Gc N sc k) {elt : ME} {el : Expr} {scope : PySem.Scope} {vs : List Nat} {σ : L2.St} (hb : L2.blkC N sc scope (ownOf N vs) = true) (hn : noC elt = true) (ih : SndX Φ F Gc N k elt) (he : okE F Gc N (L2.relS scope sc) elt el = true) :
    Items X W el scope (teX X.K Φ W elt σ) σ := fun s H C cl fp xe lets =>
  have gx := (blk_good g hb s H C cl fp).wishX xe
  PE.orr (sndAll elt _ _ _ gx he).1 (ih _ _ _ _ gx lets (.inl hn) he)
theorem snd_compX (g : Good X Φ F Gc N sc k) {elt : ME} {tg : Tg} {vs : List Nat} {kd : ItK} {src conds : List ME} {t : Expr} {scope : PySem.Scope} {te : TE} {σ : L2.St} {H : Hp} {Q : VK}
    (hb : L2.blkC N sc scope (ownOf N vs) = true) (hsl : tg.slots.all (fun i => decide (i ∈ vs)) = true) (htg : okTg N scope.names tg t = true) (hte : ∀ σ' H Q, tE X.K Φ elt σ' H Q → te σ' H Q) (htx : ∀ σ' H Q, tXE X.K Φ (fun cls d _ H' => W cls d σ H') elt σ' H Q → te σ' H Q) :
    tXE X.K Φ W (.comp elt tg vs kd src conds) σ H Q → tLc (tI X.K Φ kd src) (tgG X.K tg) (tC1 X.K Φ conds) te ((ownOf N vs).map (·.2)) σ H Q := by
  intro ⟨B, ρ, x, ρ', E, e, q⟩
  rw [ownOf_slots]
  rw [rxE] at e
  split at e
  case isFalse => cases e
  obtain ⟨p, e1, e⟩ := bind_some e
  obtain ⟨pq, e2, e⟩ := bind_some e
  obtain ⟨items, e3, e⟩ := bind_some e
  refine ⟨B, ρ, p.1, p.2, pq.1, pq.2, items, E, e1, e2, e3, fun J H1 B1 E1 X1 hl Wk => ?_⟩
  intro D hD
  obtain ⟨Ew, Ow⟩ := E1.wipe (vs := vs)
  obtain ⟨El, Xl⟩ := Ew.laid (o := .lst []) hD
  generalize hbody : cmpB tg vs (evC Φ conds) (evE Φ elt) (.it _) (.it _) = body at e
  generalize hrs : cmpX tg vs (evC Φ conds) (rxE Φ elt) (.it _) (.it _) = rs at e
  refine ⟨fun i m H2 => m = items.length - i ∧ i ≤ items.length ∧ ∃ B2 ρ2 acc, EnvOk X.K B2 H2 ρ2 (wipe σ vs) ∧ Ext B1 H1 (OwnS (kill pq.2 vs) (wipe σ vs)) B2 H2 (OwnS ρ2 (wipe σ vs)) ∧
    B2 D = none ∧ ¬ OwnS ρ2 (wipe σ vs) D ∧ H2 D = some (.lst acc) ∧ acc.length ≤ i ∧ rxComp body rs (items.drop i) ρ2 = some (x, ρ'),
    ⟨items.length, rfl, Nat.zero_le _, B1, _, [], El, Xl, E1.free hD, Ew.notOwn hD, upd_same, Nat.zero_le _, e⟩, ?_⟩
  rintro i m H2 ⟨rfl, hi, B2, ρ2, acc, E2, X2, hB, hO, hA, hdl, ev⟩
  have sm : Same B1 H2 := X2.b.trans E2.same
  have hlt : i < items.length := by
    apply Nat.lt_of_not_le
    intro z
    rw [List.drop_eq_nil_of_le z, rxComp] at ev
    cases ev
  right
  refine ⟨Wk.goes i H2 sm hlt, _, fun H' h => ⟨items.length - (i + 1), by omega, h⟩, fun x3 H3 y => ?_⟩
  rw [List.drop_eq_getElem_cons hlt, rxComp] at ev
  obtain ⟨d, hd, alt⟩ := Wk.yields i H2 x3 H3 sm hlt y
  rw [List.getElem?_eq_getElem hlt] at hd
  cases hd
  have step1 : ∃ B3, EnvOk X.K B3 H3 ρ2 (wipe σ vs) ∧ Ext B2 H2 (OwnS ρ2 (wipe σ vs)) B3 H3 (OwnS ρ2 (wipe σ vs)) ∧ Rep X.K B3 x3 items[i] := by
    rcases alt with ⟨rfl, hr⟩ | ⟨T, o, hT, rfl, hr⟩
    · exact ⟨B2, E2, .refl, Rep.mono X2.b _ _ hr⟩
    · obtain ⟨E3, X3⟩ := E2.laidF (o := o) hT
      exact ⟨_, E3, X3, hr B2 X2.b (E2.free hT)⟩
  obtain ⟨B3, E3, X3, R3⟩ := step1
  have slots : ∀ {σ2 : L2.St}, (∀ ws : List Nat, (∀ i ∈ tg.slots, i ∈ ws) → wipe σ2 ws = wipe (wipe σ vs) ws) → wipe σ2 vs = wipe σ vs := fun {σ2} hw => by
    rw [hw vs fun j hj => by simpa using List.all_eq_true.mp hsl j hj]
    apply List.ext_getElem?
    intro j
    rw [wipe_get, wipe_get]
    split
    · cases σ[j]? <;> rfl
    · rfl
  have known : ∀ {B7 H7 : Hp} {O7 : Addr → Prop}, Ext B2 H2 (OwnS ρ2 (wipe σ vs)) B7 H7 O7 → B7 D = none ∧ ¬ O7 D ∧ H7 D = some (.lst acc) := by
    intro B7 H7 O7 Y
    refine ⟨?_, fun z => ?_, Y.keep D _ hA hO⟩
    · cases eb : B7 D with
      | none => rfl
      | some u =>
        rcases Y.base D u eb with z | z | z
        · rw [hB] at z; cases z
        · rw [hA] at z; cases z
        · exact absurd z hO
    · rcases Y.own D z with w | w
      · exact hO w
      · rw [hA] at w; cases w
  rcases els_cases ev with ⟨pb, f1, f2⟩ | ⟨-, f2⟩
  · rw [← hbody] at f1
    obtain ⟨ρ3, g1, f1⟩ := bind_some f1
    obtain ⟨c, g2, f1⟩ := bind_some f1
    refine tg_ok E3 R3 g1 fun σ2 E4 sub hw => ?_
    have hws := slots hw
    refine ⟨hws, B3, ρ3, c.1, c.2, E4, g2, fun H5 B5 E5 X5 => ?_⟩
    have X35 : Ext B2 H2 (OwnS ρ2 (wipe σ vs)) B5 H5 (OwnS c.2 σ2) := (X3.less sub).trans X5
    cases hc : c.1 with
    | true =>
      rw [hc, if_pos rfl] at f1
      dsimp only
      rw [if_pos rfl]
      obtain ⟨ee, g3, f1⟩ := bind_some f1
      obtain ⟨z, g4, f1⟩ := bind_some f1
      cases f1
      refine hte _ _ _ ⟨B5, c.2, ee.1, ee.2, E5, g3, fun y H6 B6 E6 X6 R6 => ?_⟩
      obtain ⟨B6', E6', X6', O6⟩ := op_of E6 X6 R6
      obtain ⟨B7, E7, X7, R7⟩ := frz_ok E6' O6 g4
      have XX := (X35.trans X6').trans X7
      obtain ⟨k1, k2, k3⟩ := known XX
      refine ⟨acc, k3, ?_, ?_⟩
      · rw [← line_eq]
        omega
      · obtain ⟨E8, O8⟩ := E7.wipe (vs := vs)
        rw [hws] at E8 O8
        exact ⟨rfl, hlt, B7, _, _, E8.other k1 (fun w => k2 (O8 _ w)), ((X2.trans XX).less O8).other hD, k1, fun w => k2 (O8 _ w), upd_same, by rw [List.length_append, List.length_singleton]; omega, f2⟩
    | false =>
      rw [hc, if_neg (by decide)] at f1
      dsimp only
      rw [if_neg (by decide)]
      cases f1
      obtain ⟨k1, k2, k3⟩ := known X35
      obtain ⟨E8, O8⟩ := E5.wipe (vs := vs)
      rw [hws] at E8 O8
      exact ⟨rfl, hlt, B5, _, acc, E8, (X2.trans X35).less O8, k1, fun w => k2 (O8 _ w), k3, Nat.le_succ_of_le hdl, f2⟩
  · rw [← hrs] at f2
    obtain ⟨ρ3, g1, f1⟩ := bind_some f2
    obtain ⟨c, g2, f1⟩ := bind_some f1
    refine tg_ok E3 R3 g1 fun σ2 E4 sub hw => ?_
    have hws := slots hw
    refine ⟨hws, B3, ρ3, c.1, c.2, E4, g2, fun H5 B5 E5 X5 => ?_⟩
    have X35 : Ext B2 H2 (OwnS ρ2 (wipe σ vs)) B5 H5 (OwnS c.2 σ2) := (X3.less sub).trans X5
    cases hc : c.1 with
    | false => rw [hc, if_neg (by decide)] at f1; cases f1
    | true =>
      rw [hc, if_pos rfl] at f1
      dsimp only
      rw [if_pos rfl]
      obtain ⟨z, g3, g4⟩ := map_some f1
      cases g4
      refine htx _ _ _ ⟨B5, c.2, z.1, z.2, E5, g3, fun C H' B' hC E' X' => ?_⟩
      obtain ⟨E8, O8⟩ := E'.wipe (vs := vs)
      rw [hws] at E8 O8
      obtain ⟨E9, O9⟩ := E8.unwipe
      exact q C H' B' hC E9 (((X1.less Ow).trans ((X2.trans (X35.trans X')).less O8)).less O9)
end
theorem sndX_n : ∀ (n : Nat) (m : ME), sizeOf m ≤ n → SndX Φ F Gc N k m := by
  intro n
  induction n with
  | zero => intro m h; cases m <;> simp at h
  | succ n ih =>
    intro m hm X sc e W g tk hc h
    have lst : ∀ {es : List ME}, sizeOf es ≤ n → ∀ s ∈ es, SndX Φ F Gc N k s := fun hl s hs => ih s (by have := List.sizeOf_lt_of_mem hs; omega)
    have nope : (∀ ρ, rxE Φ m ρ = none) → PE X e (tXE X.K Φ W m) := fun hz => PE.imp PE.no fun σ H Q ⟨B, ρ, x, ρ', E, e, q⟩ => by rw [hz] at e; cases e
    cases m with
    | call f es =>
      unfold okE at h
      split at h
      · simp only [Bool.and_eq_true, decide_eq_true_eq] at h
        simp only [ME.call.sizeOf_spec] at hm
        exact sndX_call g tk h.1.1.1.1 h.1.1.1.2 h.1.1.2 h.1.2 h.2 (sndX_args (lst (by omega)) g tk (by simpa only [noC] using hc) h.2)
      · rename_i c p1 m ap xs cp
        simp only [Bool.and_eq_true, decide_eq_true_eq] at h
        simp only [ME.call.sizeOf_spec] at hm
        obtain ⟨⟨⟨⟨⟨⟨⟨h1, h2⟩, h3⟩, h4⟩, h5⟩, h6⟩, h7⟩, h8⟩ := h
        exact sndX_ccall g tk h1 h2 h3 h4 h5 h6 h7 h8 (sndX_args (lst (by omega)) g tk (by simpa only [noC] using hc) h8)
      · cases h
    | cio f j i es =>
      unfold okE at h
      split at h
      · simp only [Bool.and_eq_true, decide_eq_true_eq] at h
        simp only [ME.cio.sizeOf_spec] at hm
        exact sndX_cio g tk h.1.1.1.1 h.1.1.1.2 h.1.1.2 h.1.2 h.2 (sndX_args (lst (by omega)) g tk (by simpa only [noC] using hc) h.2)
      · cases h
    | meth a m tab es =>
      unfold okE at h
      split at h
      · simp only [Bool.and_eq_true, decide_eq_true_eq] at h
        simp only [ME.meth.sizeOf_spec] at hm
        obtain ⟨⟨⟨⟨⟨⟨rfl, h1⟩, h2⟩, h3⟩, h4⟩, h5⟩, h6⟩ := h
        exact sndX_meth g tk h1 h2 h3 (tabOk_of (by simpa only [Bool.and_eq_true, decide_eq_true_eq] using h4)) h6 (sndAll a X sc _ g h5).1 (sndX_args (lst (by omega)) g tk (by simpa only [noC] using hc) h6)
      · cases h
    | mio c m f i es =>
      unfold okE at h
      split at h
      · simp only [Bool.and_eq_true, decide_eq_true_eq] at h
        simp only [ME.mio.sizeOf_spec] at hm
        obtain ⟨⟨⟨⟨⟨⟨⟨⟨⟨⟨h1, h2⟩, h3⟩, rfl⟩, h4⟩, h5⟩, h6⟩, h7⟩, h8⟩, h10⟩, h9⟩ := h
        exact sndX_mio g tk h1 h2 h3 h4 h5 h6 h7 h8 h10 h9 (sndX_args (lst (by omega)) g tk (by simpa only [noC] using hc) h9)
      · cases h
    | smt q a b =>
      unfold okE at h
      split at h
      · rename_i o nm ap y cp
        simp only [Bool.and_eq_true, decide_eq_true_eq] at h
        simp only [ME.smt.sizeOf_spec] at hm
        obtain ⟨⟨⟨⟨⟨rfl, h1⟩, h2⟩, h3⟩, h4⟩, h5⟩ := h
        cases q with
        | join => exact sndX_join g h1 h2 h3 (sndAll a X sc _ g h4).1 (ih b (by omega) X sc _ W g tk (by simpa only [noC] using hc) h5)
        | _ => exact nope fun ρ => by simp [rxE]
      · cases h
    | thw a =>
      simp only [ME.thw.sizeOf_spec] at hm
      rw [okE] at h
      exact PE.imp (ih a (by omega) X sc e W g tk (by simpa only [noC] using hc) h) sndX_thw
    | bin o a b =>
      cases e with
      | BinOp l op r p =>
        simp only [okE, Bool.and_eq_true, decide_eq_true_eq] at h
        simp only [ME.bin.sizeOf_spec] at hm
        obtain ⟨⟨rfl, h2⟩, h3⟩ := h
        exact sndX_bin g (sndAll a X sc l g h2).1 (ih a (by omega) X sc l W g tk (hc.imp_left fun z => by simp only [noC, Bool.and_eq_true] at z; exact z.1) h2) (ih b (by omega) X sc r W g tk (hc.imp_left fun z => by simp only [noC, Bool.and_eq_true] at z; exact z.2) h3)
      | _ => simp [okE] at h
    | idx a b =>
      cases e with
      | Subscript x y p =>
        simp only [okE, Bool.and_eq_true] at h
        simp only [ME.idx.sizeOf_spec] at hm
        refine PE.imp (pe_ix (ix_idx g.hP g.hw (by have := g.hu; omega)) (ih a (by omega) X sc x W g tk (by simpa only [noC] using hc) h.1.2) (PE.no (e := y)) (plainIx_of h.1.1)) fun σ H Q ⟨B, ρ, x, ρ', E, e, q⟩ => ?_
        rw [rxE] at e
        exact ⟨B, ρ, x, ρ', E, e, q⟩
      | _ => simp [okE] at h
    | tup es =>
      cases e with
      | Tuple xs j p =>
        simp only [okE] at h
        simp only [ME.tup.sizeOf_spec] at hm
        refine PE.imp (pe_tup (sndX_args (lst (by omega)) g tk (by simpa only [noC] using hc) h)) fun σ H Q ⟨B, ρ, x, ρ', E, e, q⟩ => ?_
        rw [rxE] at e
        exact ⟨B, ρ, x, ρ', E, e, q⟩
      | _ => simp [okE] at h
    | lst es =>
      cases e with
      | List xs p =>
        simp only [okE] at h
        simp only [ME.lst.sizeOf_spec] at hm
        refine PE.imp (pe_lst (sndX_args (lst (by omega)) g tk (by simpa only [noC] using hc) h)) fun σ H Q ⟨B, ρ, x, ρ', E, e, q⟩ => ?_
        rw [rxE] at e
        exact ⟨B, ρ, x, ρ', E, e, q⟩
      | _ => simp [okE] at h
    | prim f es =>
      unfold okE at h
      split at h
      · simp only [Bool.and_eq_true, decide_eq_true_eq] at h
        simp only [ME.prim.sizeOf_spec] at hm
        obtain ⟨⟨⟨⟨⟨rfl, h1⟩, h2⟩, h3⟩, h4⟩, h5⟩ := h
        exact sndX_prim g h1 h2 h3 h4 h5 (sndX_args (lst (by omega)) g tk (by simpa only [noC] using hc) h5)
      · cases h
    | «mut» m i es =>
      unfold okE at h
      split at h
      · rename_i x p1 nm ap xs cp
        simp only [Bool.and_eq_true, decide_eq_true_eq] at h
        simp only [ME.mut.sizeOf_spec] at hm
        obtain ⟨⟨⟨⟨⟨⟨h1, h2⟩, h3⟩, rfl⟩, h5⟩, h6⟩, h7⟩ := h
        split at h7
        · have la := sndX_args (lst (es := [_]) (by omega)) g tk (by simpa only [noC] using hc) h6
          cases xs with
          | nil => simp [okEs] at h6
          | cons e1 xs =>
            cases xs with
            | cons _ _ => simp [okEs] at h6
            | nil =>
              simp only [okEs, Bool.and_eq_true] at h6
              exact sndX_app g h1 h2 h3 h5 h6.1.1 la
        · exact nope fun ρ => by simp [rxE]
        · exact nope fun ρ => by simp [rxE]
        · exact nope fun ρ => by simp [rxE]
        · cases h7
      · cases h
    | comp elt tg vs kd src conds =>
      cases hn : noC elt with
      | false => exact nope fun ρ => by simp [rxE, hn]
      | true =>
        unfold okE at h
        split at h
        · rename_i el t it ifs a scope p
          simp only [Bool.and_eq_true, decide_eq_true_eq] at h
          simp only [ME.comp.sizeOf_spec] at hm
          obtain ⟨⟨⟨⟨⟨⟨⟨rfl, h2⟩, h3⟩, h4⟩, h5⟩, h6⟩, h7⟩, h8⟩ := h
          obtain ⟨std, tk⟩ := hc.resolve_left (by simp [noC])
          have ok : BlkOk X.N X.env.scope scope (ownOf N vs) := by rw [g.hN, g.hsc]; exact blkOk_by h2
          exact PE.imp (pe_lcX (te := teX X.K Φ W elt) g.calm std (by rw [g.hN]; exact g.nd) tk (snd_src (fun m _ => sndAll m) g h6) ok (partsX g h2 h4 h7) (fun σ => itemsX g h2 hn (ih elt (by omega)) h8) (noSet_ok h5 _))
            fun σ H Q q => snd_compX g h2 h3 h4 (fun _ _ _ q => .inl q) (fun _ _ _ q => .inr q) q
        · cases h
    | _ => exact nope fun ρ => by simp [rxE]
theorem sndX (m : ME) : SndX Φ F Gc N k m := sndX_n _ m (Nat.le_refl _)
end
end ML
set_option Elab.async false
set_option linter.all false
set_option autoImplicit false
set_option maxRecDepth 100000
set_option maxHeartbeats 4000000
/-! MLtry: what may stand in the clause of a try. The try itself is the library's ps_try_as. -/
namespace ML
open PySem L2
/-! ### the clause's text -/
mutual
/-- en: the name of what is caught, i its slot -/
def okH (F : List (Str × Nat)) (Gc : List (Str × D)) (N : List Str) (sc : Scope) (i : Nat) : ME → Expr → Bool
  | .var j, .Name x _ => decide (j ≠ i) && decide (N[j]? = some x) && visB sc x && plainB x
  | .cst .non, .Constant .none _ _ => true
  | .cst (.bl b), .Constant (.bool b') _ _ => b' == b
  | .isx (.var j) false [c] ks, .Call (.Name x _) [.Name y _, .Name z _] [] _ => decide (j = i) && decide (x = ("isinstance" : Str)) && bltOk F Gc sc x && decide (N[i]? = some y) && visB sc y && plainB y && decide (z = c) && ks.all (fun k => decide (F.lookup (dotN "!" k) = some FLD)) &&
      (if c = ("ValueError" : Str) then bltOk F Gc sc z else decide (F.lookup (dotN "!" c) = some FLD) && gloB sc z && plainB z)
  | .isx (.var j) true cs ks, .Call (.Name x _) [.Name y _, .Tuple es _ _] [] _ => decide (j = i) && decide (x = ("isinstance" : Str)) && bltOk F Gc sc x && decide (N[i]? = some y) && visB sc y && plainB y && clsB F sc es cs && ks.all (fun k => decide (F.lookup (dotN "!" k) = some FLD)) && decide (cs.length ≤ 100)
  | .cmp o a b, .Compare l [op] [r] _ => decide (op = o.py) && markB o r && okH F Gc N sc i a l && okH F Gc N sc i b r
  | .not a, .UnaryOp .Not x _ => okH F Gc N sc i a x
  | .bop true es, .BoolOp .And xs _ => okHs F Gc N sc i es xs && !es.isEmpty
  | .tup es, .Tuple xs _ _ => okHs F Gc N sc i es xs
  | _, _ => false
def okHs (F : List (Str × Nat)) (Gc : List (Str × D)) (N : List Str) (sc : Scope) (i : Nat) : List ME → List Expr → Bool
  | [], [] => true
  | m :: ms, e :: es => noStar e && okH F Gc N sc i m e && okHs F Gc N sc i ms es
  | _, _ => false
end
/-- the clause's statements -/
def okHS (F : List (Str × Nat)) (Gc : List (Str × D)) (N : List Str) (sc : Scope) (i : Nat) : List MS → List Stmt → Bool
  | [], [] => true
  | .asg j m :: ms, .Assign [.Name x _] v _ :: ss => decide (N[j]? = some x) && locB sc.names x && okH F Gc N sc i m v && okHS F Gc N sc i ms ss
  | .ret m :: ms, .Return (some v) _ :: ss => okH F Gc N sc i m v && okHS F Gc N sc i ms ss
  | _, _ => false
/-! ### what it tells -/
def tH [Wd] (K : PySem.W.Frag) (x : Str) (i : Nat) (a : Addr) (m : ME) : TE := fun σ H Q => ∃ B ρ d, EnvOk K B H ρ σ ∧ σ[i]? = some (some (.ref a)) ∧ evH x i m ρ = some d ∧
  ∀ v H' B', EnvOk K B' H' ρ σ → Ext B H (OwnS ρ σ) B' H' (OwnS ρ σ) → Rep K B' v d → Q v H'
def tHs [Wd] (K : PySem.W.Frag) (x : Str) (i : Nat) (a : Addr) (ms : List ME) : TA := fun σ H Q => ∃ B ρ ds, EnvOk K B H ρ σ ∧ σ[i]? = some (some (.ref a)) ∧ evHs x i ms ρ = some ds ∧
  ∀ vs H' B', EnvOk K B' H' ρ σ → Ext B H (OwnS ρ σ) B' H' (OwnS ρ σ) → Reps K B' vs ds → Q vs H'
def tHA [Wd] (K : PySem.W.Frag) (x : Str) (i : Nat) (a : Addr) (ms : List ME) : TE := fun σ H Q => ∃ B ρ d, EnvOk K B H ρ σ ∧ σ[i]? = some (some (.ref a)) ∧ evHA x i ms ρ = some d ∧
  ∀ v H' B', EnvOk K B' H' ρ σ → Ext B H (OwnS ρ σ) B' H' (OwnS ρ σ) → Rep K B' v d → Q v H'
/-- some classes, by their names -/
inductive ClsAt (X : Cx) (F : List (Str × Nat)) : List Expr → List Str → List Addr → Prop
  | nil : ClsAt X F [] [] []
  | cons {x : Str} {p : Pos} {c : Addr} {es : List Expr} {ns : List Str} {cs : List Addr} : Gl X x → X.mg x = some (.ref c) → plainB x = true → F.lookup (dotN "!" x) = some FLD → ClsAt X F es ns cs → ClsAt X F (.Name x p :: es) (x :: ns) (c :: cs)
/-- isinstance(e, (A, ..)), e the pinned exception -/
def rPinIs (K : PySem.W.Frag) (C a : Addr) : List V → Hp → VK → Prop := fun xs H Q => ∃ (t : Addr) (cs : List Addr) (b : Bool), xs = [.ref a, .ref t] ∧ H t = some (.tup (cs.map V.ref)) ∧ PySem.W.kitAny K (.ref C) (cs.map Value.ref) = some b ∧ Q (.bl b) H
theorem valsRefs : ∀ {cs : List Addr} {us : List Value}, Vals (cs.map V.ref) us → us = cs.map Value.ref
  | [], _, v => by cases v; rfl
  | c :: cs, _, v => by
    cases v with
    | cons r t =>
      cases r
      exact congrArg (Value.ref c :: ·) (valsRefs t)
section
variable {X : Cx} {a C : Addr} {oe : Obj} {pn : List (Addr × Obj)}
theorem call_pinIs (E : ExcC X.K C) (hz : Zc (.ref C) none oe) (hf : ∃ vs, oe.data = .fields vs) : CallR (X.suite a ((a, oe) :: pn)) (.builtin "isinstance") (rPinIs X.K C a) := fun pins s σ H xs us Q I r ⟨t, cs, b, exs, ht, ek, q⟩ => by
  subst exs
  match us, r with
  | _, .cons (.refl _) (.cons (.refl _) .nil) =>
    have there := (I.pin (a, oe) (List.mem_append_left _ List.mem_cons_self)).1
    have inst : PySem.W.InstAt s.heap a oe C none := by
      rcases oe with ⟨_, _, _, _⟩
      rcases hz with ⟨rfl, rfl⟩
      rcases hf with ⟨vs, rfl⟩
      exact ⟨there, rfl, rfl, trivial⟩
    rcases I.hok t _ ht with ⟨_, its, rv, ⟨_, _, _, _⟩, g1, g2, n, g3⟩
    cases valsRefs rv
    cases g2
    cases g3
    exact PySem.W.kia_tup (PySem.W.handS_kitx_exc E.hg E.hk E.hs E.hd E.ha E.hn E.ht E.hm) I.kIn inst g1 ek (fun z => nomatch z) fun tk => ⟨.bl b, _, I.kept (t' := tk) (fun _ _ z => z), rfl, q⟩
end
section
variable [Wd] {X : Cx} {F : List (Str × Nat)} {Gc : List (Str × D)} {N : List Str} {sc : Scope} {x : Str} {i : Nat} {a : Addr}
theorem GoodH.gl_ok (g : GoodH X F Gc N sc) {y : Str} (h : gloB sc y = true) : Gl X y := by
  show X.env.scope.names.lookup y = _
  rw [g.hsc]
  exact of_decide_eq_true h
theorem h_var (g : GoodH X F Gc N sc) {j : Nat} {y : Str} {p : Pos} (h0 : j ≠ i) (h1 : N[j]? = some y) (h2 : visB sc y = true) (h3 : plainB y = true) : PE X (.Name y p) (tH X.K x i a (.var j)) := by
  obtain ⟨d1, d2, _⟩ := plain_ne h3
  refine PE.imp (pe_var (i := j) (by rw [g.hN]; exact h1) (by rw [g.hsc]; exact vis_of h2) d1 d2) fun σ H Q ⟨B, ρ, d, E, ha, e, q⟩ => ?_
  rw [evH, if_neg h0] at e
  split at e
  · rename_i d' hd
    cases e
    obtain ⟨v, g1, g2⟩ := E.fro j _ hd
    exact ⟨v, g1, q v H B E .refl g2⟩
  · cases e
theorem h_val {m : ME} {d : D} {v : V} {e : Expr} (h : PE X e (tC v)) (hm : ∀ ρ, evH x i m ρ = some d) (hd : ∀ H, Rep X.K H v d) : PE X e (tH X.K x i a m) :=
  PE.imp h fun σ H Q ⟨B, ρ, d', E, ha, e, q⟩ => by
    rw [hm ρ] at e
    cases e
    exact q v H B E .refl (hd B)
theorem h_cmp (g : GoodH X F Gc N sc) {o : Cop} {m m2 : ME} {l r : Expr} {p : Pos} (hm : markB o r = true) (h1 : PE X l (tH X.K x i a m)) (h2 : PE X r (tH X.K x i a m2)) : PE X (.Compare l [o.py] [r] p) (tH X.K x i a (.cmp o m m2)) := by
  refine PE.imp (pe_cmpR (op_cmp g.hP g.hw g.hu o) h1 h2 (by simpa [markB] using hm)) fun σ H Q ⟨B, ρ, d, E, ha, e, q⟩ => ?_
  rw [evH] at e
  obtain ⟨u, e1, e⟩ := bind_some e
  obtain ⟨w, e2, e⟩ := bind_some e
  obtain ⟨c, e3, e4⟩ := map_some e
  cases e4
  refine ⟨B, ρ, u, E, ha, e1, fun v1 H1 B1 E1 X1 R1 => ⟨B1, ρ, w, E1, ha, e2, fun v2 H2 B2 E2 X2 R2 => ?_⟩⟩
  exact ⟨B2, u, w, c, E2.same, .fro (Rep.mono X2.b _ _ R1), .fro R2, e3, q _ _ _ E2 (X1.trans X2) (.bl c)⟩
theorem h_not {m : ME} {e : Expr} {p : Pos} (h : PE X e (tH X.K x i a m)) : PE X (.UnaryOp .Not e p) (tH X.K x i a (.not m)) := by
  refine PE.imp (pe_not h) fun σ H Q ⟨B, ρ, d, E, ha, e, q⟩ => ?_
  rw [evH] at e
  obtain ⟨u, e1, e⟩ := bind_some e
  obtain ⟨b, e2, e3⟩ := map_some e
  cases e3
  refine ⟨B, ρ, u, E, ha, e1, fun v1 H1 B1 E1 X1 R1 => ?_⟩
  rw [asB_eq e2] at R1
  cases R1
  exact ⟨b, rfl, q _ _ _ E1 X1 (.bl _)⟩
theorem h_one {m : ME} {e : Expr} {p : Pos} (h : PE X e (tH X.K x i a m)) : PE X (.BoolOp .And [e] p) (tHA X.K x i a [m]) :=
  PE.imp (pe_one h) fun σ H Q ⟨B, ρ, d, E, ha, e, q⟩ => ⟨B, ρ, d, E, ha, by rw [evHA] at e; exact e, q⟩
theorem h_and {m m2 : ME} {ms : List ME} {e e2 : Expr} {es : List Expr} {p : Pos} (h : PE X e (tH X.K x i a m)) (hr : PE X (.BoolOp .And (e2 :: es) p) (tHA X.K x i a (m2 :: ms))) : PE X (.BoolOp .And (e :: e2 :: es) p) (tHA X.K x i a (m :: m2 :: ms)) := by
  refine PE.imp (pe_and h hr) fun σ H Q ⟨B, ρ, d, E, ha, e, q⟩ => ?_
  rw [evHA] at e
  obtain ⟨u, e1, e⟩ := bind_some e
  obtain ⟨b, e2, e⟩ := bind_some e
  refine ⟨B, ρ, u, E, ha, e1, fun v1 H1 B1 E1 X1 R1 => ?_⟩
  rw [asB_eq e2] at R1
  cases R1
  refine ⟨b, rfl, ?_⟩
  cases b with
  | true => exact ⟨B1, ρ, d, E1, ha, by simpa using e, fun v2 H2 B2 E2 X2 R2 => q v2 H2 B2 E2 (X1.trans X2) R2⟩
  | false =>
    have e : d = .bl false := by simpa using e.symm
    subst e
    exact q _ _ _ E1 X1 (.bl _)
theorem h_nil : PA X [] (tHs X.K x i a []) := PA.imp pa_nil fun σ H Q ⟨B, ρ, ds, E, ha, e, q⟩ => by
  rw [evHs] at e
  cases e
  exact q [] H B E .refl .nil
theorem h_cons {m : ME} {ms : List ME} {e : Expr} {es : List Expr} (hs : noStar e = true) (h : PE X e (tH X.K x i a m)) (hr : PA X es (tHs X.K x i a ms)) : PA X (e :: es) (tHs X.K x i a (m :: ms)) :=
  PA.imp (pa_cons h hr (star_cons hs _ _)) fun σ H Q ⟨B, ρ, ds, E, ha, e, q⟩ => by
    rw [evHs] at e
    obtain ⟨u, e1, e⟩ := bind_some e
    obtain ⟨us, e2, e3⟩ := map_some e
    cases e3
    exact ⟨B, ρ, u, E, ha, e1, fun v1 H1 B1 E1 X1 R1 => ⟨B1, ρ, us, E1, ha, e2, fun vs H2 B2 E2 X2 R2 => q _ _ _ E2 (X1.trans X2) (.cons (Rep.mono X2.b _ _ R1) R2)⟩⟩
theorem h_tup {ms : List ME} {es : List Expr} {j : Nat} {p : Pos} (h : PA X es (tHs X.K x i a ms)) : PE X (.Tuple es j p) (tH X.K x i a (.tup ms)) := by
  refine PE.imp (pe_tup h) fun σ H Q ⟨B, ρ, d, E, ha, e, q⟩ => ?_
  rw [evH] at e
  obtain ⟨ds, e1, e⟩ := bind_some e
  by_cases hl : ds.length ≤ LINE
  · rw [if_pos hl] at e
    cases e
    refine ⟨B, ρ, ds, E, ha, e1, fun vs H1 B1 E1 X1 R1 => ⟨by rw [R1.length, ← line_eq]; exact hl, fun t ht => ?_⟩⟩
    obtain ⟨E2, X2, r, f, R2⟩ := (newTup E1.same ht R1 hl).ok E1 X1
    cases f
    exact q _ _ _ E2 X2 R2
  · rw [if_neg hl] at e; cases e
theorem cls_at (g : GoodH X F Gc N sc) : ∀ {es : List Expr} {ns : List Str}, clsB F sc es ns = true → ∃ cs, ClsAt X F es ns cs ∧ cs.length = ns.length
  | [], [], _ => ⟨[], .nil, rfl⟩
  | .Name y p :: es, n :: ns, h => by
    unfold clsB at h
    simp only [Bool.and_eq_true, decide_eq_true_eq] at h
    obtain ⟨⟨⟨⟨rfl, h1⟩, h2⟩, h3⟩, h4⟩ := h
    obtain ⟨C, _, er⟩ := g.er y h1
    obtain ⟨cs, ih, il⟩ := cls_at g h4
    exact ⟨C :: cs, .cons (g.gl_ok h2) er.gC h3 h1 ih, congrArg (· + 1) il⟩
  | [], _ :: _, h => by simp [clsB] at h
  | e :: _, [], h => by cases e <;> simp [clsB] at h
theorem pa_cls : ∀ {es : List Expr} {ns : List Str} {cs : List Addr}, ClsAt X F es ns cs → PA X es (fun σ H Q => Q (cs.map V.ref) H)
  | _, _, _, .nil => PA.imp pa_nil fun σ H Q h => h
  | _, _, _, .cons g m pl _ t => PA.imp (pa_cons (pe_glob (v := .ref _) g m rfl (plain_ne pl).1) (pa_cls t) (star_cons rfl _ _)) fun σ H Q h => h
theorem kit_any (g : GoodH X F Gc N sc) {C : Addr} (hx : F.lookup (dotN "!" x) = some FLD) (hC : X.mg x = some (.ref C)) : ∀ {es : List Expr} {ns : List Str} {cs : List Addr}, ClsAt X F es ns cs → PySem.W.kitAny X.K (.ref C) (cs.map Value.ref) = some (ns.any (subX x))
  | _, _, _, .nil => rfl
  | _, _, _, .cons (x := y) (c := c) (cs := cs) _ m _ f t => by
    have ih := kit_any g hx hC t
    rw [List.map_cons, List.any_cons, PySem.W.kitAny, (g.xc x y C c hx f hC m).1]
    cases subX x y with
    | true => rfl
    | false => exact ih
end
/-! ### in the suite of an exception of the class x, at C -/
section
variable [Wd] {X : Cx} {F : List (Str × Nat)} {Gc : List (Str × D)} {N : List Str} {sc : Scope} {x : Str} {i : Nat} {a C : Addr} {oe : Obj} {pn : List (Addr × Obj)}
theorem GoodH.suite (g : GoodH X F Gc N sc) : GoodH (X.suite a pn) F Gc N sc := ⟨g.hN, g.nd, g.hsc, g.hP, g.hw, g.hM, g.hu, g.bl, g.er, g.xc⟩
theorem h_isx1 (g : GoodH X F Gc N sc) (hx : F.lookup (dotN "!" x) = some FLD) (er : ErrR X.K X.mg x C) (hz : Zc (.ref C) none oe) (hf : ∃ vs, oe.data = .fields vs) {y c : Str} {ks : List Str} {p p2 p3 p4 : Pos} (b0 : bltOk F Gc sc "isinstance" = true) (h1 : N[i]? = some y) (h2 : visB sc y = true) (h3 : plainB y = true)
    (hc : (if c = ("ValueError" : Str) then bltOk F Gc sc c else decide (F.lookup (dotN "!" c) = some FLD) && gloB sc c && plainB c) = true) :
    PE (X.suite a ((a, oe) :: pn)) (.Call (.Name ("isinstance" : Str) p) [.Name y p2, .Name c p3] [] p4) (tH X.K x i a (.isx (.var i) false [c] ks)) := by
  unfold bltOk at b0
  simp only [Bool.and_eq_true, decide_eq_true_eq] at b0
  obtain ⟨⟨b1, b2⟩, b3⟩ := b0
  obtain ⟨d1, d2, _⟩ := plain_ne h3
  have hm : X.mg ("isinstance" : Str) = none := g.bl _ b1 (Option.isNone_iff_eq_none.mp b2) (by decide +kernel)
  have ve : PE (X.suite a ((a, oe) :: pn)) (.Name y p2) (tVar i) := pe_var (by show X.N[i]? = _; rw [g.hN]; exact h1) (by show Vis X.env.scope y; rw [g.hsc]; exact vis_of h2) d1 d2
  have key : ∀ (t : V) (tv : Value), (∀ u, RelV t u → u = tv) → PE (X.suite a ((a, oe) :: pn)) (.Name c p3) (tC t) → PySem.W.kitOne X.K (.ref C) tv = some ([c].any (subX x)) →
      PE (X.suite a ((a, oe) :: pn)) (.Call (.Name ("isinstance" : Str) p) [.Name y p2, .Name c p3] [] p4) (tH X.K x i a (.isx (.var i) false [c] ks)) := fun t tv htv ht kit =>
    PE.imp (pe_callB (call_isE er.isE hz hf) (g.gl_ok b3) hm (by decide +kernel) (pa_cons ve (pa_cons ht pa_nil (star_cons rfl _ _)) (star_cons rfl _ _)) (by decide +kernel) (by decide +kernel) (star_cons rfl _ _) (by rfl)) fun σ H Q ⟨B, ρ, d, E, ha, e, q⟩ => by
      rw [evH] at e
      split at e
      · cases e
        exact ⟨.ref a, ha, t, tv, _, rfl, htv, kit, q _ _ _ E .refl (.bl _)⟩
      · cases e
  by_cases hv : c = ("ValueError" : Str)
  · subst hv
    rw [if_pos rfl] at hc
    unfold bltOk at hc
    simp only [Bool.and_eq_true, decide_eq_true_eq] at hc
    obtain ⟨⟨c1, c2⟩, c3⟩ := hc
    have hm2 : X.mg ("ValueError" : Str) = none := g.bl _ c1 (Option.isNone_iff_eq_none.mp c2) (by decide +kernel)
    refine key (.ty "ValueError") (.type "ValueError") (fun u r => r) (pe_bltn (g.gl_ok c3) hm2 (by decide +kernel) rfl (by decide +kernel) (by decide +kernel)) ?_
    rw [er.kv]
    simp [subX]
  · rw [if_neg hv] at hc
    simp only [Bool.and_eq_true, decide_eq_true_eq] at hc
    obtain ⟨⟨c1, c2⟩, c3⟩ := hc
    obtain ⟨C0, _, er0⟩ := g.er c c1
    refine key (.ref C0) (.ref C0) (fun u r => r) (pe_glob (g.gl_ok c2) er0.gC rfl (plain_ne c3).1) ?_
    rw [(g.xc x c C C0 hx c1 er.gC er0.gC).1]
    simp
theorem h_isxN (g : GoodH X F Gc N sc) (hx : F.lookup (dotN "!" x) = some FLD) (er : ErrR X.K X.mg x C) (hz : Zc (.ref C) none oe) (hf : ∃ vs, oe.data = .fields vs) {y : Str} {cs ks : List Str} {es : List Expr} {j : Nat} {p p2 p3 p4 : Pos} (b0 : bltOk F Gc sc "isinstance" = true) (h1 : N[i]? = some y) (h2 : visB sc y = true) (h3 : plainB y = true)
    (hc : clsB F sc es cs = true) (hl : cs.length ≤ 100) : PE (X.suite a ((a, oe) :: pn)) (.Call (.Name ("isinstance" : Str) p) [.Name y p2, .Tuple es j p3] [] p4) (tH X.K x i a (.isx (.var i) true cs ks)) := by
  unfold bltOk at b0
  simp only [Bool.and_eq_true, decide_eq_true_eq] at b0
  obtain ⟨⟨b1, b2⟩, b3⟩ := b0
  obtain ⟨d1, d2, _⟩ := plain_ne h3
  have hm : X.mg ("isinstance" : Str) = none := g.bl _ b1 (Option.isNone_iff_eq_none.mp b2) (by decide +kernel)
  have ve : PE (X.suite a ((a, oe) :: pn)) (.Name y p2) (tVar i) := pe_var (by show X.N[i]? = _; rw [g.hN]; exact h1) (by show Vis X.env.scope y; rw [g.hsc]; exact vis_of h2) d1 d2
  have gs : GoodH (X.suite a ((a, oe) :: pn)) F Gc N sc := g.suite
  obtain ⟨as, at_, al⟩ := cls_at gs hc
  refine PE.imp (pe_callB (call_pinIs er.isE hz hf) (g.gl_ok b3) hm (by decide +kernel) (pa_cons ve (pa_cons (pe_tup (pa_cls at_)) pa_nil (star_cons rfl _ _)) (star_cons rfl _ _)) (by decide +kernel) (by decide +kernel) (star_cons rfl _ _) (by rfl)) fun σ H Q ⟨B, ρ, d, E, ha, e, q⟩ => ?_
  rw [evH] at e
  split at e
  · cases e
    refine ⟨.ref a, ha, by rw [List.length_map, al, sizeLine_eq]; omega, fun t ht => ?_⟩
    obtain ⟨E2, X2⟩ := E.laid (o := .tup (as.map V.ref)) ht
    exact ⟨t, as, _, rfl, upd_same, kit_any gs hx er.gC at_, q _ _ _ E2 X2 (.bl _)⟩
  · cases e
/-- every expression of a clause -/
theorem sndH_n (g : GoodH X F Gc N sc) (hx : F.lookup (dotN "!" x) = some FLD) (er : ErrR X.K X.mg x C) (hz : Zc (.ref C) none oe) (hf : ∃ vs, oe.data = .fields vs) : ∀ (n : Nat),
    (∀ (m : ME) (e : Expr), sizeOf m ≤ n → okH F Gc N sc i m e = true → PE (X.suite a ((a, oe) :: pn)) e (tH X.K x i a m)) ∧
    (∀ (ms : List ME) (es : List Expr), sizeOf ms ≤ n → okHs F Gc N sc i ms es = true → PA (X.suite a ((a, oe) :: pn)) es (tHs X.K x i a ms) ∧ (ms ≠ [] → ∀ p, PE (X.suite a ((a, oe) :: pn)) (.BoolOp .And es p) (tHA X.K x i a ms)))
  | 0 => ⟨fun m e h => by cases m <;> simp at h, fun ms es h => by cases ms <;> simp at h⟩
  | n + 1 => by
    obtain ⟨ih, ihs⟩ := sndH_n g hx er hz hf n
    have gs : GoodH (X.suite a ((a, oe) :: pn)) F Gc N sc := g.suite
    refine ⟨fun m e hs h => ?_, fun ms es hs h => ?_⟩
    · unfold okH at h
      split at h
      · simp only [Bool.and_eq_true, decide_eq_true_eq] at h
        exact h_var gs h.1.1.1 h.1.1.2 h.1.2 h.2
      · exact h_val pe_non (fun ρ => by rw [evH]) fun _ => .non
      · rw [beq_iff_eq] at h
        subst h
        exact h_val pe_bl (fun ρ => by rw [evH]) fun _ => .bl _
      · simp only [Bool.and_eq_true, decide_eq_true_eq] at h
        obtain ⟨⟨⟨⟨⟨⟨⟨⟨rfl, rfl⟩, h1⟩, h2⟩, h3⟩, h4⟩, rfl⟩, _⟩, h6⟩ := h
        exact h_isx1 g hx er hz hf h1 h2 h3 h4 (by simpa only [Bool.and_eq_true, decide_eq_true_eq] using h6)
      · simp only [Bool.and_eq_true, decide_eq_true_eq] at h
        obtain ⟨⟨⟨⟨⟨⟨⟨⟨rfl, rfl⟩, h1⟩, h2⟩, h3⟩, h4⟩, h5⟩, _⟩, h6⟩ := h
        exact h_isxN g hx er hz hf h1 h2 h3 h4 h5 h6
      · simp only [Bool.and_eq_true, decide_eq_true_eq] at h
        simp only [ME.cmp.sizeOf_spec] at hs
        obtain ⟨⟨⟨rfl, h1⟩, h2⟩, h3⟩ := h
        exact h_cmp gs h1 (ih _ _ (by omega) h2) (ih _ _ (by omega) h3)
      · simp only [ME.not.sizeOf_spec] at hs
        exact h_not (ih _ _ (by omega) h)
      · rename_i ms es p
        simp only [Bool.and_eq_true, Bool.not_eq_true'] at h
        simp only [ME.bop.sizeOf_spec] at hs
        refine PE.imp ((ihs ms es (by omega) h.1).2 (fun z => by rw [z] at h; cases h.2) p) fun σ H Q ⟨B, ρ, d, E, ha, e, q⟩ => ⟨B, ρ, d, E, ha, by rw [evH] at e; exact e, q⟩
      · simp only [ME.tup.sizeOf_spec] at hs
        exact h_tup (ihs _ _ (by omega) h).1
      · cases h
    · cases ms with
      | nil =>
        cases es with
        | nil => exact ⟨h_nil, fun z => absurd rfl z⟩
        | cons _ _ => simp [okHs] at h
      | cons m ms =>
        cases es with
        | nil => simp [okHs] at h
        | cons e es =>
          simp only [okHs, Bool.and_eq_true] at h
          simp only [List.cons.sizeOf_spec] at hs
          have r1 := ih m e (by omega) h.1.2
          obtain ⟨r2, r3⟩ := ihs ms es (by omega) h.2
          refine ⟨h_cons h.1.1 r1 r2, fun _ p => ?_⟩
          cases ms with
          | nil =>
            cases es with
            | nil => exact h_one r1
            | cons _ _ => simp [okHs] at h
          | cons m2 ms =>
            cases es with
            | nil => simp [okHs] at h
            | cons e2 es => exact h_and r1 (r3 (by simp) p)
theorem sndH (g : GoodH X F Gc N sc) (hx : F.lookup (dotN "!" x) = some FLD) (er : ErrR X.K X.mg x C) (hz : Zc (.ref C) none oe) (hf : ∃ vs, oe.data = .fields vs) {m : ME} {e : Expr} (h : okH F Gc N sc i m e = true) : PE (X.suite a ((a, oe) :: pn)) e (tH X.K x i a m) := (sndH_n g hx er hz hf _).1 m e (Nat.le_refl _) h
end
end ML
set_option Elab.async false
set_option linter.all false
set_option autoImplicit false
set_option maxRecDepth 100000
set_option maxHeartbeats 4000000
/-! MLstm: statements, and the body of a def. -/
namespace ML
open PySem L2

def RetV [Wd] (K : PySem.W.Frag) (io : Option Nat) (B' H' H : Hp) (O : Addr → Prop) : Sv → V → Prop
  | .fro d, v => Rep K B' v d
  | .own d, v => ∃ a, v = .ref a ∧ OwnAt K B' H' a d ∧ (H a = none ∨ (O a ∧ io = none))
  | .no, _ => True
  | .io _ _, _ => False
  | .exc _, _ => False
  | .xio _ _, _ => False
/-- the slot of what was handed in to be changed stays as it is -/
def Keep (io : Option Nat) (σ σ' : L2.St) : Prop := ∀ j, io = some j → σ'[j]? = σ[j]?
theorem Keep.refl {io : Option Nat} {σ : L2.St} : Keep io σ σ := fun _ _ => rfl
theorem Keep.trans {io : Option Nat} {σ σ1 σ2 : L2.St} (a : Keep io σ σ1) (b : Keep io σ1 σ2) : Keep io σ σ2 := fun j h => (b j h).trans (a j h)
theorem Keep.set {io : Option Nat} {σ : L2.St} {i : Nat} {v : Option V} (h : io ≠ some i) : Keep io σ (σ.set i v) := fun j e => List.getElem?_set_ne fun z => h (by rw [e, z])
def RetO [Wd] (K : PySem.W.Frag) (io : Option Nat) (B H : Hp) (O : Addr → Prop) (σ : L2.St) (D : Ends) : Sv → Prop
  | .io r d => ∀ v H' B' a, Same B' H' → Ext B H O B' H' (fun b => b = a) → Rep K B' v r → (∃ j, io = some j ∧ σ[j]? = some (some (.ref a))) → OwnAt K B' H' a d → D.rt v H'
  | r => ∀ v H' B', Same B' H' → Ext B H O B' H' (fun _ => False) → RetV K io B' H' H O r v → D.rt v H'
def OutK [Wd] (K : PySem.W.Frag) (io : Option Nat) (B H : Hp) (O : Addr → Prop) (σ : L2.St) (D : Ends) (W : WX) : Out → Prop
  | .nx ρ' => ∀ σ' H' B', EnvOk K B' H' ρ' σ' → Ext B H O B' H' (OwnS ρ' σ') → Keep io σ σ' → D.nx σ' H'
  | .brk ρ' => ∀ σ' H' B', EnvOk K B' H' ρ' σ' → Ext B H O B' H' (OwnS ρ' σ') → Keep io σ σ' → D.bk σ' H'
  | .cnt ρ' => ∀ σ' H' B', EnvOk K B' H' ρ' σ' → Ext B H O B' H' (OwnS ρ' σ') → Keep io σ σ' → D.ct σ' H'
  | .ret r => RetO K io B H O σ D r
  | .exc x ρ' => ∀ C σ' H' B', Wd.mg x = some (.ref C) → EnvOk K B' H' ρ' σ' → Ext B H O B' H' (OwnS ρ' σ') → Keep io σ σ' → W (.ref C) none σ' H'
def tS [Wd] (K : PySem.W.Frag) (Φ : Nat → List ML.D → Option Sv) (io : Option Nat) (W : WX) (s : MS) : TS := fun D σ H => ∃ B ρ out, EnvOk K B H ρ σ ∧ evS Φ s ρ = some out ∧ OutK K io B H (OwnS ρ σ) σ D W out
def tSs [Wd] (K : PySem.W.Frag) (Φ : Nat → List ML.D → Option Sv) (io : Option Nat) (W : WX) (ss : List MS) : TS := fun D σ H => ∃ B ρ out, EnvOk K B H ρ σ ∧ evSs Φ ss ρ = some out ∧ OutK K io B H (OwnS ρ σ) σ D W out

section
variable [Wd] {K : PySem.W.Frag} {B H B1 H1 : Hp} {O O1 : Addr → Prop} {D : Ends} {W : WX} {io : Option Nat} {σ σ1 : L2.St}
theorem RetO.trans (x : Ext B H O B1 H1 O1) (k : Keep io σ σ1) : ∀ {r : Sv}, RetO K io B H O σ D r → RetO K io B1 H1 O1 σ1 D r
  | .fro _, h => fun v H' B' sm Y R => h v H' B' sm (x.trans Y) R
  | .no, h => fun v H' B' sm Y R => h v H' B' sm (x.trans Y) trivial
  | .exc _, h => fun v H' B' sm Y R => h v H' B' sm (x.trans Y) R
  | .xio _ _, h => fun v H' B' sm Y R => h v H' B' sm (x.trans Y) R
  | .io _ _, h => fun v H' B' a sm Y R ⟨j, e1, e2⟩ o => h v H' B' a sm (x.trans Y) R ⟨j, e1, by rw [← k j e1]; exact e2⟩ o
  | .own _, h => fun v H' B' sm Y R => h v H' B' sm (x.trans Y) (by
      obtain ⟨a, h1, h2, h3⟩ := R
      refine ⟨a, h1, h2, ?_⟩
      rcases h3 with z | z
      · exact .inl (x.tr a z)
      · rcases x.own a z.1 with w | w
        · exact .inr ⟨w, z.2⟩
        · exact .inl w)
theorem OutK.trans (x : Ext B H O B1 H1 O1) (k : Keep io σ σ1) : ∀ {o : Out}, OutK K io B H O σ D W o → OutK K io B1 H1 O1 σ1 D W o
  | .nx _, h => fun σ' H' B' E Y q => h σ' H' B' E (x.trans Y) (k.trans q)
  | .brk _, h => fun σ' H' B' E Y q => h σ' H' B' E (x.trans Y) (k.trans q)
  | .cnt _, h => fun σ' H' B' E Y q => h σ' H' B' E (x.trans Y) (k.trans q)
  | .exc _ _, h => fun C σ' H' B' hC E Y q => h C σ' H' B' hC E (x.trans Y) (k.trans q)
  | .ret r, h => RetO.trans x k h
end
section
variable [Wd] {X : Cx}
theorem PS.imp {e : Stmt} {t t' : TS} (h : PS X e t) (k : ∀ D σ H, t' D σ H → t D σ H) : PS X e t' := ⟨fun pins s σ H D I q => h.run pins s σ H D I (k D σ H q)⟩
theorem PSs.imp {e : List Stmt} {t t' : TS} (h : PSs X e t) (k : ∀ D σ H, t' D σ H → t D σ H) : PSs X e t' := ⟨fun pins s σ H D I q => h.run pins s σ H D I (k D σ H q)⟩
end

/-! ### the text of a statement -/
def noComp : Expr → Bool
  | .ListComp _ _ _ _ => false
  | .SetComp _ _ _ _ => false
  | .DictComp _ _ _ _ _ => false
  | _ => true
/-- a comprehension whose list is stored within its own frame -/
def swB (sc : Scope) (x : Str) (px : Pos) (v : Expr) (scope : Scope) : Bool :=
  decide (sc.names.lookup x = some .local) && (px.line == v.pos.line) && !(scope.names.any fun (n, k) => n == x && (k == .local || k == .cell))
mutual
def okS (F : List (Str × Nat)) (Gc : List (Str × ML.D)) (N : List Str) (sc : Scope) : MS → Stmt → Bool
  | .asg i e, s => match s with
    | .Assign [.Name x px] v _ => decide (N[i]? = some x) && locB sc.names x && okE F Gc N sc e v
    | _ => false
  | .asgT is e, s => match s with
    | .Assign [.Tuple es _ _] v _ => okNames N sc.names is es && noComp v && !isTup v && okE F Gc N sc e v
    | _ => false
  | .par2 _ _ _ _, _ => false
  | .aug i o e, s => match s with
    | .AugAssign (.Name x _) op v _ => decide (N[i]? = some x) && locB sc.names x && plainB x && decide (o = .add) && decide (op = .Add) && okE F Gc N sc e v
    | _ => false
  | .setix i k e, s => match s with
    | .Assign [.Subscript (.Name x _) y _] v _ => decide (N[i]? = some x) && visB sc x && plainB x && noComp v && noSlice y && okE F Gc N sc k y && okE F Gc N sc e v
    | _ => false
  | .putk i k e, s => match s with
    | .Assign [.Subscript (.Name x _) y _] v _ => decide (N[i]? = some x) && visB sc x && plainB x && noComp v && noSlice y && okE F Gc N sc k y && okE F Gc N sc e v
    | _ => false
  | .augix i k e, s => match s with
    | .AugAssign (.Subscript (.Name x _) y _) .Add v _ => decide (N[i]? = some x) && visB sc x && plainB x && noSlice y && okE F Gc N sc k y && okE F Gc N sc e v
    | _ => false
  | .expr e, s => match s with
    | .Expr v _ => noComp v && okE F Gc N sc e v
    | _ => false
  | .ret e, s => match s with
    | .Return (some v) _ => okE F Gc N sc e v
    | _ => false
  | .retN, s => match s with
    | .Return none _ => true
    | _ => false
  | .ite c a b, s => match s with
    | .If x y z _ => testOk c && okE F Gc N sc c x && okSs F Gc N sc a y && okSs F Gc N sc b z
    | _ => false
  | .forr tg k src body _, s => match s with
    | .For t it y [] _ => okTg N sc.names tg t && noSet it && okIt F Gc N sc k t it src && okSs F Gc N sc body y
    | _ => false
  | .whl c body _, s => match s with
    | .While x y [] _ => testOk c && okE F Gc N sc c x && okSs F Gc N sc body y
    | _ => false
  | .pass, s => match s with
    | .Pass _ => true
    | _ => false
  | .brk, s => match s with
    | .Break _ => true
    | _ => false
  | .cont, s => match s with
    | .Continue _ => true
    | _ => false
  | .never, _ => true
  | .rse x, s => match s with
    | .Raise (some (.Call (.Name y _) [.Constant (.str _) _ _] [] _)) none _ => decide (y = x) && gloB sc y && plainB y && decide (F.lookup (dotN "!" x) = some FLD)
    | _ => false
  | .tri body te i h ks, s => match s with
    | .Try b [.ExceptHandler (some (.Name t _)) (some en) (s0 :: hs) _] [] [] _ => decide (t = te) && gloB sc t && plainB t && decide (F.lookup (dotN "!" te) = some FLD) && ks.all (fun k => decide (F.lookup (dotN "!" k) = some FLD)) && decide (N[i]? = some en) && decide (sc.names.lookup en = some .local) && okSs F Gc N sc body b &&
        okHS F Gc N sc i h (s0 :: hs)
    | _ => false
  | .retio _ e, s => match s with
    | .Return (some v) _ => okE F Gc N sc e v
    | _ => false
  | .setf i f e, s => match s with
    | .Assign [.Attribute (.Name x _) nm _] v _ => decide (N[i]? = some x) && visB sc x && plainB x && decide (nm = f) && decide (F.lookup (dotN Str.empty f) = some FLD) && noComp v && okE F Gc N sc e v
    | _ => false
  | .augf i f e, s => match s with
    | .AugAssign (.Attribute (.Name x _) nm _) .Add v _ => decide (N[i]? = some x) && visB sc x && plainB x && decide (nm = f) && decide (F.lookup (dotN Str.empty f) = some FLD) && okE F Gc N sc e v
    | _ => false
def okSs (F : List (Str × Nat)) (Gc : List (Str × ML.D)) (N : List Str) (sc : Scope) : List MS → List Stmt → Bool
  | [], [] => true
  | m :: ms, s :: ss => okS F Gc N sc m s && okSs F Gc N sc ms ss
  | _, _ => false
end

mutual
/-- the slot of what was handed in to be changed is no target -/
def ioS (io : Option Nat) : MS → Bool
  | .asg i _ => decide (io ≠ some i)
  | .asgT is _ => is.all fun i => decide (io ≠ some i)
  | .aug i _ _ => decide (io ≠ some i)
  | .ite _ a b => ioSs io a && ioSs io b
  | .forr tg _ _ body _ => (tg.slots.all fun i => decide (io ≠ some i)) && ioSs io body
  | .whl _ body _ => ioSs io body
  | .tri body _ i h _ => decide (io ≠ some i) && ioSs io body && ioSs io h
  | .retio j _ => decide (io = some j)
  | .ret _ => decide (io = none)
  | _ => true
def ioSs (io : Option Nat) : List MS → Bool
  | [] => true
  | m :: ms => ioS io m && ioSs io ms
end
theorem sw_plain {v : Expr} (h : noComp v = true) (t : Option Expr) (l : Nat) (env : PySem.Env) : swapsWith v t l env = pure false := by
  cases v <;> first | rfl | cases h
theorem sw_eq {elt : Expr} {gs : List Comprehension} {scope : Scope} {p px : Pos} {x : Str} {l : Nat} {env : PySem.Env} (hk : env.scope.kind = .function) :
    swapsWith (.ListComp elt gs scope p) (some (.Name x px)) l env = pure (swB env.scope x px (.ListComp elt gs scope p) scope) := by
  have hb : env.blockKind = .function := by unfold PySem.Env.blockKind; rw [hk]; rfl
  unfold swapsWith swB
  simp only [hb, Expr.pos]
  have e : (env.kindOf x == some NameKind.local) = decide (env.scope.names.lookup x = some .local) := by
    unfold PySem.Env.kindOf
    by_cases h : env.scope.names.lookup x = some .local
    · rw [h]; rfl
    · rw [decide_eq_false h]
      exact beq_eq_false_iff_ne.mpr h
  rw [e]
  rfl

section
variable [Wd] {X : Cx} {Φ : Nat → List ML.D → Option Sv} {F : List (Str × Nat)} {Gc : List (Str × ML.D)} {N : List Str} {sc : Scope} {k : Nat} {W : WX} {io : Option Nat}
theorem xout_key {e : ME} {D : Ends} {σ : L2.St} {H : Hp} {Q : VK} {B : Hp} {ρ : ML.Env} {out : Out} (E : EnvOk X.K B H ρ σ) (ev : xOut (rxE Φ e ρ) = some out) (q : OutK X.K io B H (OwnS ρ σ) σ D W out) : tXE X.K Φ W e σ H Q := by
  cases h : rxE Φ e ρ with
  | none => rw [h] at ev; cases ev
  | some p =>
    rw [h] at ev
    cases ev
    exact ⟨B, ρ, p.1, p.2, E, h, fun C H' B' hC E' X' => q C σ H' B' hC E' X' .refl⟩
/-- e's value or what it raises -/
def tEX [Wd] (K : PySem.W.Frag) (Φ : Nat → List ML.D → Option Sv) (W : WX) (m : ME) : TE := fun σ H Q => tE K Φ m σ H Q ∨ tXE K Φ W m σ H Q
theorem pe_ex (g : Good X Φ F Gc N sc k) (fx : FrX X W) {m : ME} {e : Expr} (h : okE F Gc N sc m e = true) : PE X e (tEX X.K Φ W m) := PE.orr (sndAll m X sc e g h).1 (sndX m X sc e W g fx.lets (.inr fx) h)
/-- the item at an index that fits, from the front or from the end -/
theorem item_at {p : Addr} {its : List Value} {i : Int} {j : Nat} {t : Tok} {u : Value} {s : Shared} {Q E : Value → Shared → Prop} (pl : s.heap.IsList p its.toArray) (fits : its.length ≤ sizeLine)
    (at_j : seqIndex? i its.length = some j) (lo : -(its.length : Int) ≤ i) (hi : i < its.length) (got : its[j]? = some u) (q : Q u s) : wpAny (model X.prog X.w) X.A (getItem (.ref p) (.int i t)) Q E s := by
  have bound := line63
  have there : its.toArray[j]? = some u := by simpa using got
  rcases Int.lt_or_le i 0 with neg | pos
  · have ej : (i + its.length).toNat = j := Option.some.inj ((seqIndex_neg neg lo).symm.trans at_j)
    apply wpAny_getItem_list_neg pl neg (by simpa using lo) (by omega) _ q
    simpa [ej] using got
  · have ej : i.toNat = j := Option.some.inj ((seqIndex_of pos hi).symm.trans at_j)
    exact wpAny_getItem_list pl pos (by omega) (ej ▸ there) q
theorem get_listR : PGet X (rIxL X.K) := by
  rintro pins s σ H _ _ v u Q I rx ry ⟨p, xs, i, z, rfl, rfl, hq, at_i, q⟩
  cases rx
  obtain ⟨t, rfl⟩ := ry
  obtain ⟨its, rs, pl, hz⟩ := I.list hq
  obtain ⟨j, e1, e2, -, lo, hi⟩ := atI_get at_i
  obtain ⟨w, ew, rw'⟩ := rs.get e2
  rw [rs.length] at e1 lo hi hz
  exact item_at pl.isList hz e1 lo hi ew ⟨z, H, I, rw', q⟩

theorem asg_key {i : Nat} {e : ME} (hi : io ≠ some i) : ∀ D σ H, tS X.K Φ io W (.asg i e) D σ H → tAsg (tEX X.K Φ W e) (gName i) D σ H := by
  intro D σ H ⟨B, ρ, out, E, ev, q⟩
  rw [evS] at ev
  rcases els_cases ev with ⟨p, e1, ev⟩ | ⟨_, ev⟩
  case inr => exact .inr (xout_key E ev q)
  obtain ⟨s, e2, e3⟩ := map_some ev
  cases e3
  refine .inl ⟨B, ρ, p.1, p.2, E, e1, fun v H1 B1 E1 X1 R1 => ?_⟩
  obtain ⟨r, ρ1⟩ := p
  dsimp only at e1 e2 E1 X1 R1
  cases r with
  | fro d =>
    cases e2
    obtain ⟨E2, s2⟩ := E1.setF (i := i) R1
    exact q _ _ _ E2 (X1.less s2) (.set hi)
  | own d =>
    cases e2
    obtain ⟨a, rfl, h1, h2, h3⟩ := R1
    obtain ⟨E2, s2⟩ := E1.setO (i := i) h1 h3
    refine q _ _ _ E2 ⟨X1.b, X1.keep, X1.tr, fun b hb => ?_, X1.base⟩ (.set hi)
    rcases s2 b hb with z | rfl
    · exact X1.own b z
    · exact .inr h2
  | ali j =>
    unfold slotOf at e2
    obtain ⟨z, e4, e5⟩ := map_some e2
    cases e5
    obtain ⟨B2, E2, X2, R2⟩ := frz_ok E1 (show OpOk X.K B1 σ (.ali j) v from R1) e4
    obtain ⟨E3, s3⟩ := E2.setF (i := i) R2
    exact q _ _ _ E3 ((X1.trans X2).less s3) (.set hi)
theorem Good.locW (g : Good X Φ F Gc N sc k) (hf : ∀ x, X.fn x = true) : ∀ x, locB sc.names x = true → L2.Loc X.env.scope x ∧ (X.fn x = true ∨ X.env.scope.names.lookup x = some .local) := fun x h =>
  ⟨by rw [g.hsc]; exact loc_of h, .inl (hf x)⟩
theorem tAsg_imp {t t' : TE} {i : Nat} (k : ∀ σ H Q, t' σ H Q → t σ H Q) {D : Ends} {σ : L2.St} {H : Hp} (h : tAsg t' (gName i) D σ H) : tAsg t (gName i) D σ H := k _ _ _ h
/-- the comprehension that an own list may lend itself to -/
def bare : ME → ME
  | .thw a => bare a
  | e => e
theorem bare_ok {sc : Scope} {v : Expr} : ∀ {e : ME}, okE F Gc N sc e v = true → okE F Gc N sc (bare e) v = true
  | .thw a, h => by rw [okE] at h; rw [bare]; exact bare_ok h
  | .var _, h => h
  | .cst _, h => h
  | .gbl _ _, h => h
  | .bin _ _ _, h => h
  | .neg _, h => h
  | .cmp _ _ _, h => h
  | .cmp2 _ _ _ _ _, h => h
  | .bop _ _, h => h
  | .not _, h => h
  | .ife _ _ _, h => h
  | .tup _, h => h
  | .lst _, h => h
  | .idx _ _, h => h
  | .sli _ _ _, h => h
  | .back _, h => h
  | .call _ _, h => h
  | .prim _ _, h => h
  | .fus _ _, h => h
  | .isi _ _, h => h
  | .comp _ _ _ _ _ _, h => h
  | .mut _ _ _, h => h
  | .keyf _ _ _, h => h
  | .dct _ _, h => h
  | .keyd _ _, h => h
  | .lzip _, h => h
  | .cio _ _ _ _, h => h
  | .fld _ _, h => h
  | .meth _ _ _ _, h => h
  | .mio _ _ _ _ _, h => h
  | .make _ _ _, h => h
  | .smt _ _ _, h => h
  | .cit _ _ _, h => h
  | .gdx _ _ _, h => h
  | .gdin _ _ _ _, h => h
  | .dsp _, h => h
  | .maxd _, h => h
  | .isx _ _ _ _, h => h
theorem bare_key [Wd] {K : PySem.W.Frag} : ∀ {e : ME} {σ : L2.St} {H : Hp} {Q : VK}, tE K Φ e σ H Q → tE K Φ (bare e) σ H Q
  | .thw a, σ, H, Q, h => by rw [bare]; exact bare_key (thw_key σ H Q h)
  | .var _, _, _, _, h => h
  | .cst _, _, _, _, h => h
  | .gbl _ _, _, _, _, h => h
  | .bin _ _ _, _, _, _, h => h
  | .neg _, _, _, _, h => h
  | .cmp _ _ _, _, _, _, h => h
  | .cmp2 _ _ _ _ _, _, _, _, h => h
  | .bop _ _, _, _, _, h => h
  | .not _, _, _, _, h => h
  | .ife _ _ _, _, _, _, h => h
  | .tup _, _, _, _, h => h
  | .lst _, _, _, _, h => h
  | .idx _ _, _, _, _, h => h
  | .sli _ _ _, _, _, _, h => h
  | .back _, _, _, _, h => h
  | .call _ _, _, _, _, h => h
  | .prim _ _, _, _, _, h => h
  | .fus _ _, _, _, _, h => h
  | .isi _ _, _, _, _, h => h
  | .comp _ _ _ _ _ _, _, _, _, h => h
  | .mut _ _ _, _, _, _, h => h
  | .keyf _ _ _, _, _, _, h => h
  | .dct _ _, _, _, _, h => h
  | .keyd _ _, _, _, _, h => h
  | .lzip _, _, _, _, h => h
  | .cio _ _ _ _, _, _, _, h => h
  | .fld _ _, _, _, _, h => h
  | .meth _ _ _ _, _, _, _, h => h
  | .mio _ _ _ _ _, _, _, _, h => h
  | .make _ _ _, _, _, _, h => h
  | .smt _ _ _, _, _, _, h => h
  | .cit _ _ _, _, _, _, h => h
  | .gdx _ _ _, _, _, _, h => h
  | .gdin _ _ _ _, _, _, _, h => h
  | .dsp _, _, _, _, h => h
  | .maxd _, _, _, _, h => h
  | .isx _ _ _ _, _, _, _, h => h
theorem bare_keyX [Wd] {X : Cx} {W : WX} : ∀ {e : ME} {σ : L2.St} {H : Hp} {Q : VK}, tXE X.K Φ W e σ H Q → tXE X.K Φ W (bare e) σ H Q
  | .thw a, σ, H, Q, h => by rw [bare]; exact bare_keyX (sndX_thw σ H Q h)
  | .var _, _, _, _, h => h
  | .cst _, _, _, _, h => h
  | .gbl _ _, _, _, _, h => h
  | .bin _ _ _, _, _, _, h => h
  | .neg _, _, _, _, h => h
  | .cmp _ _ _, _, _, _, h => h
  | .cmp2 _ _ _ _ _, _, _, _, h => h
  | .bop _ _, _, _, _, h => h
  | .not _, _, _, _, h => h
  | .ife _ _ _, _, _, _, h => h
  | .tup _, _, _, _, h => h
  | .lst _, _, _, _, h => h
  | .idx _ _, _, _, _, h => h
  | .sli _ _ _, _, _, _, h => h
  | .back _, _, _, _, h => h
  | .call _ _, _, _, _, h => h
  | .prim _ _, _, _, _, h => h
  | .fus _ _, _, _, _, h => h
  | .isi _ _, _, _, _, h => h
  | .comp _ _ _ _ _ _, _, _, _, h => h
  | .mut _ _ _, _, _, _, h => h
  | .keyf _ _ _, _, _, _, h => h
  | .dct _ _, _, _, _, h => h
  | .keyd _ _, _, _, _, h => h
  | .lzip _, _, _, _, h => h
  | .cio _ _ _ _, _, _, _, h => h
  | .fld _ _, _, _, _, h => h
  | .meth _ _ _ _, _, _, _, h => h
  | .mio _ _ _ _ _, _, _, _, h => h
  | .make _ _ _, _, _, _, h => h
  | .smt _ _ _, _, _, _, h => h
  | .cit _ _ _, _, _, _, h => h
  | .gdx _ _ _, _, _, _, h => h
  | .gdin _ _ _ _, _, _, _, h => h
  | .dsp _, _, _, _, h => h
  | .maxd _, _, _, _, h => h
  | .isx _ _ _ _, _, _, _, h => h
theorem bare_not {a : ME} : ∀ {e : ME}, bare e ≠ .thw a
  | .thw b => by rw [bare]; exact bare_not
  | .var _ => by simp [bare]
  | .cst _ => by simp [bare]
  | .gbl _ _ => by simp [bare]
  | .bin _ _ _ => by simp [bare]
  | .neg _ => by simp [bare]
  | .cmp _ _ _ => by simp [bare]
  | .cmp2 _ _ _ _ _ => by simp [bare]
  | .bop _ _ => by simp [bare]
  | .not _ => by simp [bare]
  | .ife _ _ _ => by simp [bare]
  | .tup _ => by simp [bare]
  | .lst _ => by simp [bare]
  | .idx _ _ => by simp [bare]
  | .sli _ _ _ => by simp [bare]
  | .back _ => by simp [bare]
  | .call _ _ => by simp [bare]
  | .prim _ _ => by simp [bare]
  | .fus _ _ => by simp [bare]
  | .isi _ _ => by simp [bare]
  | .comp _ _ _ _ _ _ => by simp [bare]
  | .mut _ _ _ => by simp [bare]
  | .keyf _ _ _ => by simp [bare]
  | .dct _ _ => by simp [bare]
  | .keyd _ _ => by simp [bare]
  | .lzip _ => by simp [bare]
  | .cio _ _ _ _ => by simp [bare]
  | .fld _ _ => by simp [bare]
  | .meth _ _ _ _ => by simp [bare]
  | .mio _ _ _ _ _ => by simp [bare]
  | .make _ _ _ => by simp [bare]
  | .smt _ _ _ => by simp [bare]
  | .cit _ _ _ => by simp [bare]
  | .gdx _ _ _ => by simp [bare]
  | .gdin _ _ _ _ => by simp [bare]
  | .dsp _ => by simp [bare]
  | .maxd _ => by simp [bare]
  | .isx _ _ _ _ => by simp [bare]
theorem snd_asg (g : Good X Φ F Gc N sc k) (fx : FrX X W) (hf : ∀ x, X.fn x = true) {i : Nat} {e : ME} {x : Str} {px pos : Pos} {v : Expr} (hio : io ≠ some i) (h1 : N[i]? = some x) (h2 : locB sc.names x = true) (h3 : okE F Gc N sc e v = true) : PS X (.Assign [.Name x px] v pos) (tS X.K Φ io W (.asg i e)) := by
  obtain ⟨l1, l2⟩ := g.locW hf x h2
  have nd : X.N.Nodup := by rw [g.hN]; exact g.nd
  have hi : X.N[i]? = some x := by rw [g.hN]; exact h1
  have main : swapsWith v (some (.Name x px)) pos.line X.env = pure false → PS X (.Assign [.Name x px] v pos) (tS X.K Φ io W (.asg i e)) := fun hs =>
    PS.imp (ps_set nd hi l1 (pe_ex g fx h3) hs l2) (asg_key hio)
  by_cases hc : noComp v = true
  · exact main (sw_plain hc _ _ _)
  · cases v with
    | ListComp el gs scope p =>
      have hs := sw_eq (elt := el) (gs := gs) (scope := scope) (p := p) (px := px) (x := x) (l := pos.line) (env := X.env) (by rw [g.hsc]; exact g.kind)
      cases hb : swB X.env.scope x px (.ListComp el gs scope p) scope with
      | false => rw [hb] at hs; exact main hs
      | true =>
        rw [hb] at hs
        have hyl : X.env.scope.names.lookup x = some .local := by
          unfold swB at hb
          simp only [Bool.and_eq_true, decide_eq_true_eq] at hb
          exact hb.1.1
        have h3 := bare_ok h3
        have key : ∀ D σ H, tS X.K Φ io W (.asg i e) D σ H → tAsg (tEX X.K Φ W (bare e)) (gName i) D σ H := fun D σ H h => (asg_key hio D σ H h).imp bare_key bare_keyX
        have nt := fun a => bare_not (a := a) (e := e)
        generalize bare e = e' at h3 key nt
        cases e' with
        | thw a => exact absurd rfl (nt a)
        | comp elt tg vs kd src conds =>
          unfold okE at h3
          split at h3
          · rename_i el t it ifs a scope p heq
            cases heq
            simp only [Bool.and_eq_true] at h3
            obtain ⟨⟨⟨⟨⟨⟨⟨q1, q2⟩, q3⟩, q4⟩, q5⟩, q6⟩, q7⟩, q8⟩ := h3
            have q1 := of_decide_eq_true q1
            subst q1
            have hb' : BlkOk X.N X.env.scope scope (ownOf N vs) := by rw [g.hN, g.hsc]; exact blkOk_by q2
            cases hn : noC elt with
            | true =>
              refine PS.imp (ps_setLcX (te := teX X.K Φ W elt) g.calm fx.1 nd fx.2 hi hyl hs (snd_src (fun m _ => sndAll m) g q6) hb' (partsX g q2 q4 q7) (fun σ => itemsX g q2 hn (sndX elt) q8) (noSet_ok q5 _)) fun D σ H h => ?_
              exact (key D σ H h).elim (snd_comp (el := el) (it := it) (ifs := ifs) (pos := p) g q2 q3 q4 (fun _ _ _ q => .inl q) σ H _) (snd_compX g q2 q3 q4 (fun _ _ _ q => .inl q) (fun _ _ _ q => .inr q))
            | false =>
              refine PS.imp (ps_setLc (g := tgG X.K tg) (tt := tC1 X.K Φ conds) (te := tE X.K Φ elt) g.calm nd hi hyl hs (snd_src (fun m _ => sndAll m) g q6) hb' (fun s H C cl fp => blk_tg g q4 s H C cl fp) (fun s H C cl fp => snd_conds (fun m _ => sndAll m) (blk_good g q2 s H C cl fp) q7) (fun s H C cl fp => (sndAll elt _ _ _ (blk_good g q2 s H C cl fp) q8).1) (noSet_ok q5 _)) fun D σ H h => ?_
              refine (key D σ H h).elim (snd_comp (el := el) (it := it) (ifs := ifs) (pos := p) g q2 q3 q4 (fun _ _ _ q => q) σ H _) fun ⟨B, ρ, x, ρ', E, ez, q⟩ => ?_
              rw [rxE, hn] at ez
              cases ez
          · cases h3
        | fus q es =>
          obtain ⟨_, _, _, _, z⟩ := fus_call h3
          cases z
        | dct t es =>
          obtain ⟨_, _, _, z⟩ := dct_form h3
          cases z
        | _ => simp [okE] at h3
    | SetComp _ _ _ _ =>
      have h3 := bare_ok h3
      have nt := fun a => bare_not (a := a) (e := e)
      generalize bare e = e' at h3 nt
      cases e' <;> first | (exact absurd rfl (nt _)) | (obtain ⟨_, _, _, _, z⟩ := fus_call h3; cases z; done) | (obtain ⟨_, _, _, z⟩ := dct_form h3; cases z; done) | simp [okE] at h3
    | DictComp _ _ _ _ _ =>
      have h3 := bare_ok h3
      have nt := fun a => bare_not (a := a) (e := e)
      generalize bare e = e' at h3 nt
      cases e' <;> first | (exact absurd rfl (nt _)) | (obtain ⟨_, _, _, _, z⟩ := fus_call h3; cases z; done) | (obtain ⟨_, _, _, z⟩ := dct_form h3; cases z; done) | simp [okE] at h3
    | _ => exact absurd rfl hc

theorem frz_key {e : ME} {σ : L2.St} {H : Hp} {R : V → Hp → Prop} {B : Hp} {ρ : ML.Env} {p : Rv × ML.Env} {z : ML.D × ML.Env} (E : EnvOk X.K B H ρ σ) (e1 : evE Φ e ρ = some p) (e2 : frz p.2 p.1 = some z)
    (q : ∀ v H' B', EnvOk X.K B' H' z.2 σ → Ext B H (OwnS ρ σ) B' H' (OwnS z.2 σ) → Rep X.K B' v z.1 → R v H') : tE X.K Φ e σ H R := by
  refine ⟨B, ρ, p.1, p.2, E, e1, fun v H1 B1 E1 X1 R1 => ?_⟩
  obtain ⟨B1', E1', X1', O1⟩ := op_of E1 X1 R1
  obtain ⟨B2, E2, X2, R2⟩ := frz_ok E1' O1 e2
  exact q v H1 B2 E2 (X1'.trans X2) R2
theorem cont_key {e : ME} {σ : L2.St} {H : Hp} {R : V → Hp → Prop} {B : Hp} {ρ : ML.Env} {p : Rv × ML.Env} {d : ML.D} (E : EnvOk X.K B H ρ σ) (e1 : evE Φ e ρ = some p) (e2 : cont p.2 p.1 = some d)
    (q : ∀ v H' B', EnvOk X.K B' H' p.2 σ → Ext B H (OwnS ρ σ) B' H' (OwnS p.2 σ) → Rep1 X.K B' H' v d → R v H') : tE X.K Φ e σ H R := by
  refine ⟨B, ρ, p.1, p.2, E, e1, fun v H1 B1 E1 X1 R1 => ?_⟩
  obtain ⟨B1', E1', X1', O1⟩ := op_of E1 X1 R1
  exact q v H1 B1' E1' X1' (cont_ok E1' O1 e2)
theorem keep_slots {σ σ' : L2.St} {ss : List Nat} (h : ∀ i ∈ ss, io ≠ some i) (w : ∀ ws : List Nat, (∀ i ∈ ss, i ∈ ws) → L2.wipe σ' ws = L2.wipe σ ws) : Keep io σ σ' := fun j e => by
  have hj : j ∉ ss := fun z => h j z e
  have q := congrArg (fun l => l[j]?) (w ss fun _ z => z)
  simp only [wipe_get, if_neg hj] at q
  exact q
theorem snd_asgT (g : Good X Φ F Gc N sc k) (fx : FrX X W) (hf : ∀ x, X.fn x = true) {is : List Nat} {e : ME} {es : List Expr} {j : Nat} {tp pos : Pos} {v : Expr} (hio : ∀ i ∈ is, io ≠ some i) (h1 : okNames N sc.names is es = true) (h2 : noComp v = true) (h4 : isTup v = false) (h3 : okE F Gc N sc e v = true) :
    PS X (.Assign [.Tuple es j tp] v pos) (tS X.K Φ io W (.asgT is e)) := by
  have hg : PG X (.Tuple es j tp) (tgG X.K (.many is)) := tg_pg g.calm g.hN g.nd (tg := .many is) h1 (g.locW hf)
  have hw : swappedStores [.Tuple es j tp] v X.env = pure none := by cases v <;> first | rfl | cases h4
  refine PS.imp (ps_asg (pe_ex g fx h3) hg (show swapsWithSole [.Tuple es j tp] v pos.line X.env = pure false from sw_plain h2 (some (.Tuple es j tp)) pos.line X.env) hw) fun D σ H ⟨B, ρ, out, E, ev, q⟩ => ?_
  rw [evS] at ev
  rcases els_cases ev with ⟨p, e1, ev⟩ | ⟨_, ev⟩
  case inr => exact .inr (xout_key E ev q)
  obtain ⟨z, e2, ev⟩ := bind_some ev
  obtain ⟨ρ', e3, e4⟩ := map_some ev
  cases e4
  refine .inl (frz_key E e1 e2 fun w H' B' E' X' R' => ?_)
  exact tg_ok (tg := .many is) E' R' e3 fun σ' E'' s'' w => q _ _ _ E'' (X'.less s'') (keep_slots hio w)
theorem snd_aug (g : Good X Φ F Gc N sc k) (hf : ∀ x, X.fn x = true) {i : Nat} {e : ME} {x : Str} {px pos : Pos} {v : Expr} (hio : io ≠ some i) (h1 : N[i]? = some x) (h2 : locB sc.names x = true) (h3 : okE F Gc N sc e v = true) :
    PS X (.AugAssign (.Name x px) .Add v pos) (tS X.K Φ io W (.aug i .add e)) := by
  obtain ⟨l1, l2⟩ := g.locW hf x h2
  refine PS.imp (ps_aug (i := i) (by rw [g.hN]; exact g.nd) (by rw [g.hN]; exact h1) l1 (sndAll e X sc v g h3).1 ip_add l2) fun D σ H ⟨B, ρ, out, E, ev, q⟩ => ?_
  rw [evS] at ev
  obtain ⟨r, e1, ev⟩ := bind_some ev
  obtain ⟨p, e2, ev⟩ := bind_some ev
  obtain ⟨d, e3, ev⟩ := bind_some ev
  obtain ⟨d', e4, ev⟩ := bind_some ev
  have ho : ∃ v0, σ[i]? = some (some v0) ∧ OpOk X.K B σ r v0 := by
    unfold look at e1
    split at e1
    · rename_i dd hd
      cases e1
      exact E.fro i dd hd
    · rename_i dd hd
      cases e1
      obtain ⟨a, h1, _⟩ := E.own i dd hd
      exact ⟨_, h1, h1⟩
    · cases e1
  obtain ⟨v0, hv0, ho⟩ := ho
  refine ⟨v0, hv0, cont_key E e2 e4 fun w H' B' E' X' R' => ?_⟩
  have r1 := cont_ok E' (ho.mono X'.b) e3
  obtain ⟨z, e5, e6⟩ := map_some ev
  cases e6
  unfold augF at e5
  split at e5
  · cases e5
    obtain ⟨E2, s2⟩ := E'.setF (i := i) (.int _)
    exact ⟨_, _, r1.int, R'.int, q _ _ _ E2 (X'.less s2) (.set hio)⟩
  · cases e5
theorem asgSub {o y : Expr} {p : Pos} (h : noSlice y = true) (env : PySem.Env) : ∀ v, assign (.Subscript o y p) env v = (do
      let ov ← holding [v] (eval o env)
      let iv ← holding [v, ov] (eval y env)
      standAt p
      holding [v, ov, iv] (setItem ov iv v)
      release [v, ov, iv] []) := by
  cases y <;> first | (intro v; rfl) | cases h
theorem augSub {y : Expr} (h : noSlice y = true) : ∀ ov iv new, augStore y ov iv new = (do holding [new, ov, iv] (setItem ov iv new); release [new, ov, iv] []; pure .next) := by
  cases y <;> first | (intro a b c; rfl) | cases h
theorem snd_setix (g : Good X Φ F Gc N sc k) {i : Nat} {kk e : ME} {x : Str} {px p2 pos : Pos} {v y : Expr} (h1 : N[i]? = some x) (h2 : visB sc x = true) (h3 : plainB x = true) (h4 : noComp v = true) (hy : noSlice y = true) (h5 : okE F Gc N sc kk y = true) (h6 : okE F Gc N sc e v = true) :
    PS X (.Assign [.Subscript (.Name x px) y p2] v pos) (tS X.K Φ io W (.setix i kk e)) := by
  obtain ⟨d1, d2, _⟩ := plain_ne h3
  have hv : PE X (.Name x px) (tVar i) := pe_var (i := i) (by rw [g.hN]; exact h1) (by rw [g.hsc]; exact vis_of h2) d1 d2
  refine PS.imp (ps_asg (sndAll e X sc v g h6).1 (pg_sub hv (sndAll kk X sc y g h5).1 set_list (asgSub hy _)) (show swapsWithSole [.Subscript (.Name x px) y p2] v pos.line X.env = pure false from sw_plain h4 (some (.Subscript (.Name x px) y p2)) pos.line X.env)) fun D σ H ⟨B, ρ, out, E, ev, q⟩ => ?_
  rw [evS] at ev
  obtain ⟨p, e1, ev⟩ := bind_some ev
  obtain ⟨z, e2, ev⟩ := bind_some ev
  obtain ⟨ys, e0, ev⟩ := bind_some ev
  obtain ⟨pk, e3, ev⟩ := bind_some ev
  obtain ⟨yv, e4, ev⟩ := bind_some ev
  obtain ⟨n, e5, ev⟩ := bind_some ev
  obtain ⟨xs, e6, ev⟩ := bind_some ev
  obtain ⟨j, e7, e8⟩ := map_some ev
  cases e8
  refine frz_key E e1 e2 fun w H1 B1 E1 X1 R1 => ?_
  obtain ⟨a, g1, _⟩ := E1.own i _ (ownL_eq e0)
  refine ⟨.ref a, g1, cont_key E1 e3 e4 fun y2 H2 B2 E2 X2 R2 => ?_⟩
  obtain ⟨a', us, g2, g4, g5, g6, g7⟩ := E2.ownL (ownL_eq e6)
  rw [g1] at g2
  cases g2
  rw [asI_eq e5] at R2
  refine ⟨a, us, n, j, rfl, R2.int, g5, by rw [g6.length, ← ixN_eq]; exact e7, ?_⟩
  obtain ⟨E3, X3⟩ := E2.change (ownL_eq e6) g1 (g6.set j (Rep.mono X2.b _ _ R1)) (by rw [List.length_set]; exact g7)
  exact q _ _ _ E3 ((X1.trans X2).trans X3) .refl
/-- d[y] = v -/
def rPut [Wd] (K : PySem.W.Frag) : TSet := fun o i v H Q => ∃ B a u dx dy dv d', o = .ref a ∧ Same B H ∧ B a = none ∧ H a = some u ∧ Cell K B a u dx ∧ Rep1 K B H i dy ∧ Rep K B v dv ∧ dput dx dy dv = some d' ∧ ∀ u', Cell K B a u' d' → Q (upd H a u')
theorem set_dic (g : Good X Φ F Gc N sc k) : PSet X (rPut X.K) := by
  intro pins s σ H o i v ov iv u Q I ro ri rv h
  obtain ⟨B, a, w, dx, dy, dv, d', eo, sm, hB, ha, c, r2, pv, e, q⟩ := h
  subst eo
  cases (show ov = Value.ref a from ro)
  exact dic_setItem (by have := g.hu; omega) g.hP g.hw I sm hB ha c r2 ri rv pv e fun o' s' I' c' => ⟨_, I', q o' c'⟩
theorem ownD_eq {ρ : ML.Env} {i : Nat} {d : ML.D} (h : ownD ρ i = some d) : ρ[i]? = some (.own d) := by
  unfold ownD at h
  split at h
  · rename_i e; cases h; exact e
  · rename_i e; cases h; exact e
  · cases h
theorem snd_putk (g : Good X Φ F Gc N sc k) {i : Nat} {kk e : ME} {x : Str} {px p2 pos : Pos} {v y : Expr} (h1 : N[i]? = some x) (h2 : visB sc x = true) (h3 : plainB x = true) (h4 : noComp v = true) (hy : noSlice y = true) (h5 : okE F Gc N sc kk y = true) (h6 : okE F Gc N sc e v = true) :
    PS X (.Assign [.Subscript (.Name x px) y p2] v pos) (tS X.K Φ io W (.putk i kk e)) := by
  obtain ⟨d1, d2, _⟩ := plain_ne h3
  have hv : PE X (.Name x px) (tVar i) := pe_var (i := i) (by rw [g.hN]; exact h1) (by rw [g.hsc]; exact vis_of h2) d1 d2
  refine PS.imp (ps_asg (sndAll e X sc v g h6).1 (pg_sub hv (sndAll kk X sc y g h5).1 (set_dic g) (asgSub hy _)) (show swapsWithSole [.Subscript (.Name x px) y p2] v pos.line X.env = pure false from sw_plain h4 (some (.Subscript (.Name x px) y p2)) pos.line X.env)) fun D σ H ⟨B, ρ, out, E, ev, q⟩ => ?_
  rw [evS] at ev
  obtain ⟨p, e1, ev⟩ := bind_some ev
  obtain ⟨z, e2, ev⟩ := bind_some ev
  obtain ⟨ys, e0, ev⟩ := bind_some ev
  obtain ⟨pk, e3, ev⟩ := bind_some ev
  obtain ⟨yv, e4, ev⟩ := bind_some ev
  obtain ⟨xs, e6, ev⟩ := bind_some ev
  obtain ⟨d', e7, e8⟩ := map_some ev
  cases e8
  refine frz_key E e1 e2 fun w H1 B1 E1 X1 R1 => ?_
  obtain ⟨a, g1, _⟩ := E1.own i _ (ownD_eq e0)
  refine ⟨.ref a, g1, cont_key E1 e3 e4 fun y2 H2 B2 E2 X2 R2 => ?_⟩
  obtain ⟨a', g2, u, g4, g5, c⟩ := E2.own i _ (ownD_eq e6)
  rw [g1] at g2
  cases g2
  refine ⟨B2, a, u, xs, yv, z.1, d', rfl, E2.same, g4, g5, c, R2, Rep.mono X2.b _ _ R1, e7, fun u' c' => ?_⟩
  obtain ⟨E3, X3⟩ := E2.changeC (ownD_eq e6) g1 c'
  exact q _ _ _ E3 ((X1.trans X2).trans X3) .refl
theorem snd_augix (g : Good X Φ F Gc N sc k) {i : Nat} {kk e : ME} {x : Str} {px p2 pos : Pos} {v y : Expr} (h1 : N[i]? = some x) (h2 : visB sc x = true) (h3 : plainB x = true) (hy : noSlice y = true) (h5 : okE F Gc N sc kk y = true) (h6 : okE F Gc N sc e v = true) :
    PS X (.AugAssign (.Subscript (.Name x px) y p2) .Add v pos) (tS X.K Φ io W (.augix i kk e)) := by
  obtain ⟨d1, d2, _⟩ := plain_ne h3
  have hv : PE X (.Name x px) (tVar i) := pe_var (i := i) (by rw [g.hN]; exact h1) (by rw [g.hsc]; exact vis_of h2) d1 d2
  refine PS.imp (ps_augS hv (sndAll kk X sc y g h5).1 get_listR (sndAll e X sc v g h6).1 ip_add set_list (augSub hy)) fun D σ H ⟨B, ρ, out, E, ev, q⟩ => ?_
  rw [evS] at ev
  obtain ⟨ys0, e0, ev⟩ := bind_some ev
  obtain ⟨pk, e1, ev⟩ := bind_some ev
  obtain ⟨yv, e2, ev⟩ := bind_some ev
  obtain ⟨n, e3, ev⟩ := bind_some ev
  obtain ⟨xs, e4, ev⟩ := bind_some ev
  obtain ⟨j, e5, ev⟩ := bind_some ev
  obtain ⟨old, e6, ev⟩ := bind_some ev
  obtain ⟨a0, e7, ev⟩ := bind_some ev
  obtain ⟨p, e8, ev⟩ := bind_some ev
  obtain ⟨d, e9, ev⟩ := bind_some ev
  obtain ⟨b0, e10, ev⟩ := bind_some ev
  obtain ⟨ys, e11, ev⟩ := bind_some ev
  obtain ⟨j', e12, e13⟩ := map_some ev
  cases e13
  obtain ⟨a, g1, _⟩ := E.own i _ (ownL_eq e0)
  refine ⟨.ref a, g1, cont_key E e1 e2 fun y2 H2 B2 E2 X2 R2 => ?_⟩
  obtain ⟨a', us, g2, g4, g5, g6, g7⟩ := E2.ownL (ownL_eq e4)
  rw [g1] at g2
  cases g2
  rw [asI_eq e3] at R2
  obtain ⟨w, f1, f2⟩ := g6.get e6
  rw [asI_eq e7] at f2
  cases f2
  refine ⟨a, us, n, .int a0, rfl, R2.int, SqL.of g5, ?_, ?_⟩
  · unfold atI
    rw [g6.length, ← ixN_eq, e5]
    exact f1
  refine cont_key E2 e8 e9 fun w2 H3 B3 E3 X3 R3 => ?_
  rw [asI_eq e10] at R3
  refine ⟨a0, b0, rfl, R3.int, ?_⟩
  obtain ⟨a', us2, g2, g4', g5', g6', g7'⟩ := E3.ownL (ownL_eq e11)
  rw [g1] at g2
  cases g2
  refine ⟨a, us2, n, j', rfl, R2.int, g5', by rw [g6'.length, ← ixN_eq]; exact e12, ?_⟩
  obtain ⟨E4, X4⟩ := E3.change (ownL_eq e11) g1 (g6'.set j' (.int (a0 + b0))) (by rw [List.length_set]; exact g7')
  exact q _ _ _ E4 ((X2.trans X3).trans X4) .refl
theorem snd_expr (g : Good X Φ F Gc N sc k) (fx : FrX X W) {e : ME} {pos : Pos} {v : Expr} (h1 : noComp v = true) (h2 : okE F Gc N sc e v = true) : PS X (.Expr v pos) (tS X.K Φ io W (.expr e)) := by
  refine PS.imp (ps_expr (pe_ex g fx h2) (sw_plain h1 _ _ _)) fun D σ H ⟨B, ρ, out, E, ev, q⟩ => ?_
  rw [evS] at ev
  rcases els_cases ev with ⟨p, e1, e2⟩ | ⟨_, ev⟩
  case inr => exact .inr (xout_key E ev q)
  cases e2
  exact .inl ⟨B, ρ, p.1, p.2, E, e1, fun v H1 B1 E1 X1 _ => q _ _ _ E1 X1 .refl⟩
theorem ret_key (hio : io = none) {e : ME} : ∀ D σ H, tS X.K Φ io W (.ret e) D σ H → tRet (tEX X.K Φ W e) D σ H := by
  intro D σ H ⟨B, ρ, out, E, ev, q⟩
  rw [evS] at ev
  rcases els_cases ev with ⟨p, e1, ev⟩ | ⟨_, ev⟩
  case inr => exact .inr (xout_key E ev q)
  refine .inl ⟨B, ρ, p.1, p.2, E, e1, fun v H1 B1 E1 X1 R1 => ?_⟩
  have X1' : Ext B H (OwnS ρ σ) B1 H1 (fun _ => False) := X1.less fun _ z => z.elim
  obtain ⟨r, ρ1⟩ := p
  dsimp only at ev E1 X1 R1
  cases r with
  | fro d => cases ev; exact q v H1 B1 E1.same X1' R1
  | own d =>
    cases ev
    obtain ⟨a, h1, h2, h3, _⟩ := R1
    exact q v H1 B1 E1.same X1' ⟨a, h1, h2, .inl h3⟩
  | ali i =>
    simp only at ev
    split at ev
    · rename_i d hd
      cases ev
      obtain ⟨a, h1, h2⟩ := E1.own i d hd
      rw [show σ[i]? = some (some v) from R1] at h1
      cases h1
      refine q _ H1 B1 E1.same X1' ⟨a, rfl, h2, ?_⟩
      rcases X1.own a ⟨i, d, hd, R1⟩ with z | z
      · exact .inr ⟨z, hio⟩
      · exact .inl z
    · rename_i d hd
      cases ev
      obtain ⟨w, h1, h2⟩ := E1.fro i d hd
      rw [show σ[i]? = some (some v) from R1] at h1
      cases h1
      exact q _ H1 B1 E1.same X1' h2
    · cases ev

/-! ### loops -/
theorem for_key {tg : Tg} {kd : ItK} {src : List ME} {body : List MS} {kl : List Nat} (hio : ∀ i ∈ tg.slots, io ≠ some i) : ∀ D σ H, tS X.K Φ io W (.forr tg kd src body kl) D σ H → tFor (tI X.K Φ kd src) (tgG X.K tg) (tSs X.K Φ io W body) D σ H := by
  intro D σ H ⟨B, ρ, out, E, ev, q⟩
  rw [evS] at ev
  obtain ⟨p, e1, ev⟩ := bind_some ev
  obtain ⟨pq, e2, ev⟩ := bind_some ev
  obtain ⟨items, e3, ev⟩ := bind_some ev
  refine ⟨B, ρ, p.1, p.2, pq.1, pq.2, items, E, e1, e2, e3, fun J H1 B1 E1 X1 hl Wk => ?_⟩
  obtain ⟨Ek, Ok⟩ := E1.kill (ks := kl)
  generalize hbody : forB tg (evSs Φ body) (.it _) = bf at ev
  refine ⟨fun i m σ2 H2 => m = items.length - i ∧ i ≤ items.length ∧ ∃ B2 ρ2, EnvOk X.K B2 H2 ρ2 σ2 ∧ Ext B H (OwnS ρ σ) B2 H2 (OwnS ρ2 σ2) ∧ Same B1 B2 ∧ evFor kl bf (items.drop i) ρ2 = some out ∧ Keep io σ σ2,
    ⟨items.length, rfl, Nat.zero_le _, B1, _, Ek, X1.less Ok, Same.refl _, ev, .refl⟩, ?_⟩
  rintro i m σ2 H2 ⟨rfl, hi, B2, ρ2, E2, X2, s2, ev2, k2⟩
  have sm : Same B1 H2 := s2.trans E2.same
  by_cases hlt : i < items.length
  · right
    refine ⟨Wk.goes i H2 sm hlt, _, fun σ' H' h => ⟨items.length - (i + 1), by omega, h⟩, fun x H3 y => ?_⟩
    rw [List.drop_eq_getElem_cons hlt, evFor] at ev2
    obtain ⟨o, f1, ev2⟩ := bind_some ev2
    obtain ⟨d, hd, alt⟩ := Wk.yields i H2 x H3 sm hlt y
    rw [List.getElem?_eq_getElem hlt] at hd
    cases hd
    have step1 : ∃ B3, EnvOk X.K B3 H3 ρ2 σ2 ∧ Ext B2 H2 (OwnS ρ2 σ2) B3 H3 (OwnS ρ2 σ2) ∧ Rep X.K B3 x items[i] := by
      rcases alt with ⟨rfl, hr⟩ | ⟨T, o, hT, rfl, hr⟩
      · exact ⟨B2, E2, .refl, Rep.mono s2 _ _ hr⟩
      · obtain ⟨E3, X3⟩ := E2.laidF (o := o) hT
        exact ⟨_, E3, X3, hr B2 s2 (E2.free hT)⟩
    obtain ⟨B3, E3, X3, R3⟩ := step1
    rw [← hbody] at f1
    obtain ⟨ρ3, g1, g2⟩ := bind_some f1
    refine tg_ok E3 R3 g1 fun σ3 E4 sub w3 => ?_
    have k3 : Keep io σ σ3 := k2.trans (keep_slots hio w3)
    have X4 : Ext B2 H2 (OwnS ρ2 σ2) B3 H3 (OwnS ρ3 σ3) := X3.less sub
    have next : ∀ ρ', evFor kl bf (items.drop (i + 1)) (kill ρ' kl) = some out → ∀ σ' H' B', EnvOk X.K B' H' ρ' σ' → Ext B3 H3 (OwnS ρ3 σ3) B' H' (OwnS ρ' σ') → Keep io σ3 σ' →
        (items.length - (i + 1) = items.length - (i + 1) ∧ i + 1 ≤ items.length ∧ ∃ B2 ρ2, EnvOk X.K B2 H' ρ2 σ' ∧ Ext B H (OwnS ρ σ) B2 H' (OwnS ρ2 σ') ∧ Same B1 B2 ∧ evFor kl bf (items.drop (i + 1)) ρ2 = some out ∧ Keep io σ σ') := by
      intro ρ' e σ' H' B' E' X' k4
      obtain ⟨E5, O5⟩ := E'.kill (ks := kl)
      exact ⟨rfl, hlt, B', _, E5, (X2.trans (X4.trans X')).less O5, s2.trans (X4.trans X').b, e, k3.trans k4⟩
    refine ⟨B3, ρ3, o, E4, g2, ?_⟩
    cases o with
    | nx ρ' => exact next ρ' ev2
    | cnt ρ' => exact next ρ' ev2
    | brk ρ' =>
      cases ev2
      intro σ' H' B' E' X' k4
      obtain ⟨E5, O5⟩ := E'.kill (ks := kl)
      exact q σ' H' B' E5 ((X2.trans (X4.trans X')).less O5) (k3.trans k4)
    | exc x ρ' =>
      cases ev2
      exact OutK.trans (X2.trans X4) k3 (o := .exc x ρ') q
    | ret r =>
      cases ev2
      exact OutK.trans (X2.trans X4) k3 (o := .ret r) q
  · left
    have ei : i = items.length := by omega
    subst ei
    rw [List.drop_length, evFor] at ev2
    cases ev2
    exact ⟨Wk.stops H2 sm, q σ2 H2 B2 E2 X2 k2⟩
theorem while_key {c : ME} {body : List MS} {kl : List Nat} : ∀ D σ H, tS X.K Φ io W (.whl c body kl) D σ H → tWhile (tT X.K Φ c) (tSs X.K Φ io W body) D σ H := by
  intro D σ H ⟨B, ρ, out, E, ev, q⟩
  rw [evS] at ev
  obtain ⟨Ek, Ok⟩ := E.kill (ks := kl)
  generalize hc : whC (evE Φ c) (.it _) = cf at ev
  generalize hb : whB (evSs Φ body) (.it _) = bf at ev
  refine ⟨fun m σ2 H2 => ∃ B2 ρ2, EnvOk X.K B2 H2 ρ2 σ2 ∧ Ext B H (OwnS ρ σ) B2 H2 (OwnS ρ2 σ2) ∧ evWhile kl cf bf m ρ2 = some out ∧ Keep io σ σ2, ⟨WFUEL, B, _, Ek, Ext.refl.less Ok, ev, .refl⟩, ?_⟩
  rintro m σ2 H2 ⟨B2, ρ2, E2, X2, ev2, k2⟩
  cases m with
  | zero => rw [evWhile] at ev2; cases ev2
  | succ m =>
    rw [evWhile] at ev2
    obtain ⟨p, f1, ev2⟩ := bind_some ev2
    rw [← hc] at f1
    obtain ⟨p1, g1, f1⟩ := bind_some f1
    obtain ⟨x, g2, f1⟩ := bind_some f1
    obtain ⟨b, g3, g4⟩ := map_some f1
    cases g4
    rw [asB_eq g3] at g2
    refine ⟨B2, ρ2, p1.1, p1.2, b, E2, g1, g2, fun H3 B3 E3 X3 => ?_⟩
    cases b with
    | false =>
      dsimp only at ev2 ⊢
      rw [if_neg (by decide)] at ev2 ⊢
      cases ev2
      exact q _ _ _ E3 (X2.trans X3) k2
    | true =>
      dsimp only at ev2 ⊢
      rw [if_pos rfl] at ev2 ⊢
      obtain ⟨o, f2, ev2⟩ := bind_some ev2
      rw [← hb] at f2
      refine ⟨_, fun σ' H' h => ⟨m, Nat.lt_succ_self m, h⟩, B3, p1.2, o, E3, f2, ?_⟩
      have next : ∀ ρ', evWhile kl cf bf m (kill ρ' kl) = some out → ∀ σ' H' B', EnvOk X.K B' H' ρ' σ' → Ext B3 H3 (OwnS p1.2 σ2) B' H' (OwnS ρ' σ') → Keep io σ2 σ' →
          ∃ B2 ρ2, EnvOk X.K B2 H' ρ2 σ' ∧ Ext B H (OwnS ρ σ) B2 H' (OwnS ρ2 σ') ∧ evWhile kl cf bf m ρ2 = some out ∧ Keep io σ σ' := by
        intro ρ' e σ' H' B' E' X' k4
        obtain ⟨E5, O5⟩ := E'.kill (ks := kl)
        exact ⟨B', _, E5, (X2.trans (X3.trans X')).less O5, e, k2.trans k4⟩
      cases o with
      | nx ρ' => exact next ρ' ev2
      | cnt ρ' => exact next ρ' ev2
      | brk ρ' =>
        cases ev2
        intro σ' H' B' E' X' k4
        obtain ⟨E5, O5⟩ := E'.kill (ks := kl)
        exact q σ' H' B' E5 ((X2.trans (X3.trans X')).less O5) (k2.trans k4)
      | exc x ρ' =>
        cases ev2
        exact OutK.trans (X2.trans X3) k2 (o := .exc x ρ') q
      | ret r =>
        cases ev2
        exact OutK.trans (X2.trans X3) k2 (o := .ret r) q

/-! ### returns of what was handed in, fields, raise -/
theorem snd_retio (g : Good X Φ F Gc N sc k) (fx : FrX X W) {j : Nat} {e : ME} {pos : Pos} {v : Expr} (hio : io = some j) (h2 : okE F Gc N sc e v = true) : PS X (.Return (some v) pos) (tS X.K Φ io W (.retio j e)) := by
  refine PS.imp (ps_ret (pe_ex g fx h2)) fun D σ H ⟨B, ρ, out, E, ev, q⟩ => ?_
  rw [evS] at ev
  rcases els_cases ev with ⟨p, e1, ev⟩ | ⟨_, ev⟩
  case inr => exact .inr (xout_key E ev q)
  obtain ⟨z, e2, ev⟩ := bind_some ev
  obtain ⟨d, e3, e4⟩ := map_some ev
  cases e4
  refine .inl (frz_key E e1 e2 fun w H' B' E' X' R' => ?_)
  obtain ⟨a, g1, oa⟩ := E'.own j d (ownC_eq e3)
  refine q w H' B' a E'.same ⟨X'.b, X'.keep, X'.tr, fun b hb => ?_, X'.base⟩ R' ⟨j, hio, g1⟩ oa
  rw [hb]
  exact X'.own a ⟨j, d, ownC_eq e3, g1⟩
theorem putFd_keys {x : Str} {d : ML.D} {v : V} : ∀ {gs : List (Str × V)} {fs : List (Str × ML.D)}, gs.map (·.1) = fs.map (·.1) → (putF x v gs).map (·.1) = (putFd x d fs).map (·.1)
  | [], [], _ => rfl
  | [], _ :: _, h => by cases h
  | _ :: _, [], h => by cases h
  | (y, w) :: gs, (z, e) :: fs, h => by
    rw [List.map_cons, List.map_cons] at h
    obtain ⟨h1, h2⟩ := List.cons.inj h
    have h1 : y = z := h1
    subst h1
    rw [putF, putFd]
    split
    · rw [List.map_cons, List.map_cons, h2]
    · rw [List.map_cons, List.map_cons, putFd_keys h2]
theorem putFd_reps [Wd] {K : PySem.W.Frag} {B : Hp} {x : Str} {d : ML.D} {v : V} (r : Rep K B v d) : ∀ {gs : List (Str × V)} {fs : List (Str × ML.D)}, gs.map (·.1) = fs.map (·.1) → Reps K B (gs.map (·.2)) (fs.map (·.2)) → Reps K B ((putF x v gs).map (·.2)) ((putFd x d fs).map (·.2))
  | [], [], _, _ => .cons r .nil
  | [], _ :: _, h, _ => by cases h
  | _ :: _, [], h, _ => by cases h
  | (y, w) :: gs, (z, e) :: fs, h, hr => by
    rw [List.map_cons, List.map_cons] at h hr
    obtain ⟨h1, h2⟩ := List.cons.inj h
    have h1 : y = z := h1
    subst h1
    cases hr with
    | cons r1 r2 =>
      rw [putF, putFd]
      split
      · exact .cons r r2
      · exact .cons r1 (putFd_reps r h2 r2)
theorem ownO_eq {ρ : ML.Env} {i : Nat} {o : Str × List (Str × ML.D)} (h : ownO ρ i = some o) : ρ[i]? = some (.own (.obj o.1 o.2)) := by
  unfold ownO at h
  split at h
  · rename_i e; cases h; exact e
  · cases h
theorem snd_setf (g : Good X Φ F Gc N sc k) (fx : FrX X W) {i : Nat} {f x : Str} {e : ME} {p ap pos : Pos} {v : Expr} (h1 : N[i]? = some x) (h2 : visB sc x = true) (h3 : plainB x = true) (h4 : F.lookup (dotN Str.empty f) = some FLD) (h5 : noComp v = true) (h6 : okE F Gc N sc e v = true) :
    PS X (.Assign [.Attribute (.Name x p) f ap] v pos) (tS X.K Φ io W (.setf i f e)) := by
  obtain ⟨d1, d2, _⟩ := plain_ne h3
  have hv : PE X (.Name x p) (tVar i) := pe_var (i := i) (by rw [g.hN]; exact h1) (by rw [g.hsc]; exact vis_of h2) d1 d2
  refine PS.imp (ps_fld hv (pe_ex g fx h6) (sw_plain h5 _ _ _)) fun D σ H ⟨B, ρ, out, E, ev, q⟩ => ?_
  rw [evS] at ev
  rcases els_cases ev with ⟨p1, e1, ev⟩ | ⟨_, ev⟩
  case inr => exact .inr (xout_key E ev q)
  obtain ⟨z, e2, ev⟩ := bind_some ev
  obtain ⟨o, e3, e4⟩ := bind_some ev
  by_cases hz : o.2.length < 1000
  · rw [if_pos hz] at e4
    cases e4
    refine .inl (frz_key E e1 e2 fun w H' B' E' X' R' => ?_)
    obtain ⟨a, g1, oa⟩ := E'.own i _ (ownO_eq e3)
    obtain ⟨C, dx, gs, hH, hC, hk, hr⟩ := own_obj oa
    refine ⟨.ref a, g1, a, C, dx, gs, rfl, hH, (g.cl _ C hC).2, g.na _ C f hC h4, ?_, ?_⟩
    · have := congrArg List.length hk
      rw [List.length_map, List.length_map] at this
      omega
    · obtain ⟨E3, X3⟩ := E'.changeC (o' := .ins C dx (putF f w gs)) (ownO_eq e3) g1 (.obj hC (putFd_keys hk) (putFd_reps R' hk hr))
      exact q _ _ _ E3 (X'.trans X3) .refl
  · rw [if_neg hz] at e4
    cases e4
theorem snd_augf (g : Good X Φ F Gc N sc k) {i : Nat} {f x : Str} {e : ME} {p ap pos : Pos} {v : Expr} (h1 : N[i]? = some x) (h2 : visB sc x = true) (h3 : plainB x = true) (h4 : F.lookup (dotN Str.empty f) = some FLD) (h6 : okE F Gc N sc e v = true) :
    PS X (.AugAssign (.Attribute (.Name x p) f ap) .Add v pos) (tS X.K Φ io W (.augf i f e)) := by
  obtain ⟨d1, d2, _⟩ := plain_ne h3
  have hv : PE X (.Name x p) (tVar i) := pe_var (i := i) (by rw [g.hN]; exact h1) (by rw [g.hsc]; exact vis_of h2) d1 d2
  refine PS.imp (ps_fldaug hv (sndAll e X sc v g h6).1 in_add) fun D σ H ⟨B, ρ, out, E, ev, q⟩ => ?_
  rw [evS] at ev
  obtain ⟨o0, e0, ev⟩ := bind_some ev
  obtain ⟨u, e1, ev⟩ := bind_some ev
  obtain ⟨a0, e2, ev⟩ := bind_some ev
  obtain ⟨p1, e3, ev⟩ := bind_some ev
  obtain ⟨d, e4, ev⟩ := bind_some ev
  obtain ⟨b0, e5, ev⟩ := bind_some ev
  obtain ⟨o, e6, ev⟩ := bind_some ev
  by_cases hz : o.1 = o0.1 ∧ o.2.length < 1000
  · rw [if_pos hz] at ev
    cases ev
    obtain ⟨a, g1, oa⟩ := E.own i _ (ownO_eq e0)
    obtain ⟨C, dx, gs, hH, hC, hk, hr⟩ := own_obj oa
    obtain ⟨w, f1, f2⟩ := fld_get hk hr e1
    rw [asI_eq e2] at f2
    cases f2
    refine ⟨.ref a, g1, a, C, dx, gs, .int a0, rfl, hH, (g.cl _ C hC).2, g.na _ C f hC h4, f1, cont_key E e3 e4 fun y H2 B2 E2 X2 R2 => ?_⟩
    rw [asI_eq e5] at R2
    refine ⟨a0, b0, rfl, R2.int, ?_⟩
    obtain ⟨a', g2, oa2⟩ := E2.own i _ (ownO_eq e6)
    rw [g1] at g2
    cases g2
    obtain ⟨C2, dx2, gs2, hH2, hC2, hk2, hr2⟩ := own_obj oa2
    rw [hz.1, hC] at hC2
    cases hC2
    refine ⟨dx2, gs2, hH2, ?_, ?_⟩
    · have := congrArg List.length hk2
      rw [List.length_map, List.length_map] at this
      omega
    · obtain ⟨E3, X3⟩ := E2.changeC (o' := .ins C dx2 (putF f (.int (a0 + b0)) gs2)) (ownO_eq e6) g1 (.obj (c := o.1) (by rw [hz.1]; exact hC) (putFd_keys hk2) (putFd_reps (.int _) hk2 hr2))
      exact q _ _ _ E3 (X2.trans X3) .refl
  · rw [if_neg hz] at ev
    cases ev
theorem snd_rse (g : Good X Φ F Gc N sc k) (tk : Takes X W) {x m : Str} {j : Nat} {p p2 p3 p4 : Pos} (h1 : gloB sc x = true) (h2 : plainB x = true) (h3 : F.lookup (dotN "!" x) = some FLD) : PS X (.Raise (some (.Call (.Name x p) [.Constant (.str m) j p2] [] p3)) none p4) (tS X.K Φ io W (.rse x)) := by
  obtain ⟨d1, d2, _⟩ := plain_ne h2
  obtain ⟨C, hC, er⟩ := g.er x h3
  obtain ⟨Bx, newId, initId, bmB, Fb, qx⟩ := er.ex
  refine PS.imp (ps_raise g.calm tk (pmk_ownA Fb qx er.gC er.kC (raises_own er.hs er.ty) (g.gl_ok h1) (pa_cons (pe_str) pa_nil) d1)) fun D σ H ⟨B, ρ, out, E, ev, q⟩ => ?_
  rw [evS] at ev
  cases ev
  exact ⟨by show 1 ≤ sizeLine; decide, q C σ H B hC E .refl .refl⟩
theorem snd_ret (g : Good X Φ F Gc N sc k) (fx : FrX X W) (hio : io = none) {e : ME} {pos : Pos} {v : Expr} (h2 : okE F Gc N sc e v = true) : PS X (.Return (some v) pos) (tS X.K Φ io W (.ret e)) := PS.imp (ps_ret (pe_ex g fx h2)) (ret_key hio)
/-! ### try -/
theorem okH_comp {i : Nat} {m : ME} {v : Expr} (h : okH F Gc N sc i m v = true) : noComp v = true := by
  cases v <;> first | rfl | (cases m <;> first | (simp [okH] at h; done) | (unfold okH at h; split at h <;> simp_all))
/-- what a clause does: x the class of what is caught, i its slot, a where it stands -/
def tHS [Wd] (K : PySem.W.Frag) (io : Option Nat) (W : WX) (x : Str) (i : Nat) (a : Addr) (ms : List MS) : TS := fun D σ H =>
  ∃ B ρ out, EnvOk K B H ρ σ ∧ σ[i]? = some (some (.ref a)) ∧ evHS x i ms ρ = some out ∧ OutK K io B H (OwnS ρ σ) σ D W out
theorem hnd_block {X : Cx} {W : WX} {io : Option Nat} {x : Str} {i : Nat} {a C : Addr} {oe : Obj} {pn : List (Addr × Obj)} (g : GoodH X F Gc N sc) (hx : F.lookup (dotN "!" x) = some FLD) (er : ErrR X.K X.mg x C) (hz : Zc (.ref C) none oe) (hf : ∃ vs, oe.data = .fields vs) (hn : ∀ x, X.fn x = true) :
    ∀ {ms : List MS} {ss : List Stmt}, okHS F Gc N sc i ms ss = true → ioSs io ms = true → PSs (X.suite a ((a, oe) :: pn)) ss (tHS X.K io W x i a ms)
  | [], [], _, _ => PSs.imp pss_nil fun D σ H ⟨B, ρ, out, E, ha, ev, q⟩ => by
    rw [evHS] at ev
    cases ev
    exact q σ H B E .refl .refl
  | m :: ms, ss, h, hi => by
    simp only [ioSs, Bool.and_eq_true] at hi
    have gs : GoodH (X.suite a ((a, oe) :: pn)) F Gc N sc := g.suite
    unfold okHS at h
    split at h
    · exact absurd ‹m :: ms = []› (List.cons_ne_nil _ _)
    · rename_i j m0 ms0 y p v p2 ss0 ez
      cases ez
      simp only [Bool.and_eq_true, decide_eq_true_eq] at h
      obtain ⟨⟨⟨h1, h2⟩, h3⟩, h4⟩ := h
      have hio := hi.1
      simp only [ioS, decide_eq_true_eq] at hio
      refine PSs.imp (pss_cons (ps_set (by rw [gs.hN]; exact gs.nd) (by rw [gs.hN]; exact h1) (by rw [gs.hsc]; exact loc_of h2) (sndH g hx er hz hf h3) (sw_plain (okH_comp h3) _ _ _) (.inl (hn _))) (hnd_block (W := W) g hx er hz hf hn h4 hi.2)) fun D σ H ⟨B, ρ, out, E, ha, ev, q⟩ => ?_
      rw [evHS] at ev
      split at ev
      · cases ev
      · rename_i hj
        obtain ⟨d, e1, e2⟩ := bind_some ev
        refine ⟨B, ρ, d, E, ha, e1, fun v H1 B1 E1 X1 R1 => ?_⟩
        obtain ⟨E2, s2⟩ := E1.setF (i := j) R1
        exact ⟨B1, _, out, E2, by rw [List.getElem?_set_ne hj]; exact ha, e2, q.trans (X1.less s2) (.set hio)⟩
    · rename_i m0 ms0 v p2 ss0 ez
      cases ez
      simp only [Bool.and_eq_true] at h
      have hio := hi.1
      simp only [ioS, decide_eq_true_eq] at hio
      refine PSs.imp (pss_cons (ps_ret (sndH g hx er hz hf h.1)) (hnd_block (W := W) g hx er hz hf hn h.2 hi.2)) fun D σ H ⟨B, ρ, out, E, ha, ev, q⟩ => ?_
      rw [evHS] at ev
      obtain ⟨d, e1, e2⟩ := map_some ev
      cases e2
      exact ⟨B, ρ, d, E, ha, e1, fun v H1 B1 E1 X1 R1 => q v H1 B1 E1.same (X1.less fun _ z => z.elim) R1⟩
    · cases h
  | [], _ :: _, h, _ => by simp [okHS] at h
theorem Good.toH (g : Good X Φ F Gc N sc k) : GoodH X F Gc N sc := ⟨g.hN, g.nd, g.hsc, g.hP, g.hw, g.hM, g.hu', g.bl, g.er, g.xc⟩
theorem Good.tr (g : Good X Φ F Gc N sc k) (pn : List (Addr × Obj)) (xe : Value → Shared → Prop) : Good (X.tr pn xe) Φ F Gc N sc k :=
  ⟨g.calm, g.hN, g.nd, g.hsc, g.kind, g.room, g.hP, g.hw, g.hM, g.bl, g.fn, g.cl, g.mt, g.na, g.er, g.xc, g.cc, g.gd, g.gl⟩
/-- a slot that is unbound -/
theorem EnvOk.unset [Wd] {K : PySem.W.Frag} {B H : Hp} {ρ : ML.Env} {σ : L2.St} {i : Nat} {w : Option V} (E : EnvOk K B H ρ σ) : EnvOk K B H (ρ.set i .no) (σ.set i w) ∧ ∀ a, OwnS (ρ.set i .no) (σ.set i w) a → OwnS ρ σ a := by
  refine ⟨⟨E.same, fun j e q => ?_, fun j e q => ?_, fun j l e f b q1 q2 z1 z2 => ?_, by rw [List.length_set, List.length_set]; exact E.len⟩, fun a ⟨j, e, q1, q2⟩ => ?_⟩
  · rcases get_set q with ⟨rfl, z⟩ | ⟨hj, z⟩
    · cases z
    · obtain ⟨v, h1, h2⟩ := E.fro j e z
      exact ⟨v, by rw [List.getElem?_set_ne hj]; exact h1, h2⟩
  · rcases get_set q with ⟨rfl, z⟩ | ⟨hj, z⟩
    · cases z
    · obtain ⟨b, h1, h2⟩ := E.own j e z
      exact ⟨b, by rw [List.getElem?_set_ne hj]; exact h1, h2⟩
  · rcases get_set q1 with ⟨rfl, z⟩ | ⟨hj, z⟩
    · cases z
    · rcases get_set q2 with ⟨rfl, y⟩ | ⟨hl, y⟩
      · cases y
      · rw [List.getElem?_set_ne hj] at z1
        rw [List.getElem?_set_ne hl] at z2
        exact E.apart j l e f b z y z1 z2
  · rcases get_set q1 with ⟨rfl, z⟩ | ⟨hj, z⟩
    · cases z
    · rw [List.getElem?_set_ne hj] at q2
      exact ⟨j, e, z, q2⟩
/-- the clause at work, as ps_try_as hands it over -/
def tTri [Wd] (X : Cx) (F : List (Str × Nat)) (io : Option Nat) (W : WX) (i : Nat) (h : List MS) (a : Addr) (cls : Value) (d : Option Addr) : TS := fun D σ H =>
  ∃ x C, cls = .ref C ∧ d = none ∧ F.lookup (dotN "!" x) = some FLD ∧ ErrR X.K X.mg x C ∧ ∃ B ρ out, ∃ σ0 : L2.St, σ = σ0.set i (some (.ref a)) ∧ EnvOk X.K B H ρ σ ∧ evHS x i h ρ = some out ∧ OutK X.K io B H (OwnS ρ σ) σ D W out
theorem tri_hnd {X : Cx} {W : WX} {io : Option Nat} {i : Nat} {n : Str} (g : GoodH X F Gc N sc) (hn : ∀ x, X.fn x = true) (h5 : N[i]? = some n) {ms : List MS} {ss : List Stmt} (h : okHS F Gc N sc i ms ss = true) (hi : ioSs io ms = true)
    {a : Addr} {oe : Obj} {cls : Value} {d : Option Addr} {pn : List (Addr × Obj)} (hz : Zc cls d oe) (hf : ∃ vs, oe.data = .fields vs) : PSs (X.suite a ((a, oe) :: pn)) ss (tTri X F io W i ms a cls d) :=
  ⟨fun pins s σ H D I ⟨x, C, ec, ed, hx, er, B, ρ, out, σ0, es, E, ev, q⟩ => by
    subst ec ed
    have hl : σ.length = N.length := by rw [← g.hN]; exact I.len
    refine (hnd_block (W := W) (io := io) g hx er hz hf hn h hi).run pins s σ H D I ⟨B, ρ, out, E, ?_, ev, q⟩
    subst es
    rw [List.length_set] at hl
    exact List.getElem?_set_self (by rw [hl]; exact (List.getElem?_eq_some_iff.mp h5).1)⟩
theorem tri_key (g : Good X Φ F Gc N sc k) {body h : List MS} {te : Str} {i : Nat} {ks : List Str} {Ct : Addr} (hi : io ≠ some i) (ht : F.lookup (dotN "!" te) = some FLD) (mt : X.mg te = some (.ref Ct)) (hk : ks.all (fun k => decide (F.lookup (dotN "!" k) = some FLD)) = true) :
    ∀ D σ H, tS X.K Φ io W (.tri body te i h ks) D σ H → tSs X.K Φ io (wAs X.K (.ref Ct) i (tTri X F io W i h) W D) body D σ H := by
  intro D σ H ⟨B, ρ, out, E, ev, q⟩
  rw [evS] at ev
  obtain ⟨o, e1, e2⟩ := bind_some ev
  refine ⟨B, ρ, o, E, e1, ?_⟩
  cases o with
  | nx ρ' => cases e2; exact q
  | ret r => cases e2; cases r <;> exact q
  | brk ρ' => cases e2
  | cnt ρ' => cases e2
  | exc x ρ' =>
    unfold triF at e2
    dsimp only at e2
    split at e2
    · rename_i hm
      have hx := of_decide_eq_true (List.all_eq_true.mp hk x hm)
      obtain ⟨C', hC', er⟩ := g.er x hx
      intro C σ' H' B' hC E' X' k'
      rw [hC] at hC'
      have e0 : C = C' := by
        injection hC' with z
        injection z
      subst e0
      refine ⟨subX x te, (g.xc x te C Ct hx ht er.gC mt).2, fun hb a na => ?_, fun hb => ?_⟩
      · rw [if_pos hb] at e2
        obtain ⟨o2, f1, f2⟩ := bind_some e2
        obtain ⟨E3, s3⟩ := E'.unset (i := i) (w := some (.ref a))
        have X3 := X'.less s3
        have k3 : Keep io σ (σ'.set i (some (.ref a))) := k'.trans (.set hi)
        refine ⟨x, C, rfl, rfl, hx, er, B', _, o2, σ', rfl, E3, f1, ?_⟩
        cases o2 with
        | nx ρ2 =>
          cases f2
          refine fun σ4 H4 B4 E4 X4 k4 => ?_
          obtain ⟨E5, s5⟩ := E4.unset (i := i) (w := none)
          exact q _ H4 B4 E5 ((X3.trans X4).less s5) (k3.trans (k4.trans (.set hi)))
        | ret r =>
          cases f2
          have z := RetO.trans X3 k3 q
          cases r <;> exact z
        | brk _ => cases f2
        | cnt _ => cases f2
        | exc _ _ => cases f2
      · rw [if_neg (by rw [hb]; decide)] at e2
        cases e2
        exact q C σ' H' B' hC E' X' k'
    · cases e2
/-! ### every statement -/
/-- a frame as it stands while its def runs -/
def SndS (Φ : Nat → List ML.D → Option Sv) (F : List (Str × Nat)) (Gc : List (Str × ML.D)) (N : List Str) (k : Nat) (m : MS) : Prop :=
  ∀ (X : Cx) (sc : Scope) (s : Stmt) (io : Option Nat) (W : WX), Good X Φ F Gc N sc k → (∀ x, X.fn x = true) → Std X → PassesOwn (model X.prog X.w) X.A X.env X.xe → Takes X W → ioS io m = true → okS F Gc N sc m s = true → PS X s (tS X.K Φ io W m)
theorem snd_block [Wd] : ∀ {ms : List MS}, (∀ m ∈ ms, SndS Φ F Gc N k m) → ∀ {X : Cx} {sc : Scope} {ss : List Stmt} {io : Option Nat} {W : WX}, Good X Φ F Gc N sc k → (∀ x, X.fn x = true) → Std X → PassesOwn (model X.prog X.w) X.A X.env X.xe → Takes X W → ioSs io ms = true → okSs F Gc N sc ms ss = true → PSs X ss (tSs X.K Φ io W ms)
  | [], _, X, sc, [], io, W, _, _, _, _, _, _, _ => PSs.imp pss_nil fun D σ H ⟨B, ρ, out, E, ev, q⟩ => by
    rw [evSs] at ev
    cases ev
    exact q σ H B E .refl .refl
  | m :: ms, ih, X, sc, s :: ss, io, W, g, hf, hd, hp, tk, hi, h => by
    simp only [okSs, Bool.and_eq_true] at h
    simp only [ioSs, Bool.and_eq_true] at hi
    refine PSs.imp (pss_cons (ih m List.mem_cons_self X sc s io W g hf hd hp tk hi.1 h.1) (snd_block (fun s hs => ih s (List.mem_cons_of_mem _ hs)) g hf hd hp tk hi.2 h.2)) fun D σ H ⟨B, ρ, out, E, ev, q⟩ => ?_
    rw [evSs] at ev
    obtain ⟨o, e1, e2⟩ := bind_some ev
    refine ⟨B, ρ, o, E, e1, ?_⟩
    cases o with
    | nx ρ' => exact fun σ' H' B' E' X' k' => ⟨B', ρ', out, E', e2, q.trans X' k'⟩
    | brk ρ' => cases e2; exact q
    | cnt ρ' => cases e2; exact q
    | exc x ρ' => cases e2; exact q
    | ret r => cases e2; cases r <;> exact q
  | [], _, _, _, _ :: _, _, _, _, _, _, _, _, _, h => by simp [okSs] at h
  | _ :: _, _, _, _, [], _, _, _, _, _, _, _, _, h => by simp [okSs] at h
theorem snds_n : ∀ (n : Nat) (m : MS), sizeOf m ≤ n → SndS Φ F Gc N k m := by
  intro n
  induction n with
  | zero => intro m h; cases m <;> simp at h
  | succ n ih =>
    intro m hm X sc s io W g hf hd hp tk hio h
    have lst : ∀ {es : List MS}, sizeOf es ≤ n → ∀ s ∈ es, SndS Φ F Gc N k s := fun hl s hs => ih s (by have := List.sizeOf_lt_of_mem hs; omega)
    cases m with
    | asg i e =>
      unfold okS at h
      split at h
      · simp only [Bool.and_eq_true, decide_eq_true_eq] at h
        simp only [ioS, decide_eq_true_eq] at hio
        exact snd_asg g ⟨hd, tk⟩ hf hio h.1.1 h.1.2 h.2
      · cases h
    | asgT is e =>
      unfold okS at h
      split at h
      · simp only [Bool.and_eq_true, Bool.not_eq_true'] at h
        simp only [ioS, List.all_eq_true, decide_eq_true_eq] at hio
        exact snd_asgT g ⟨hd, tk⟩ hf hio h.1.1.1 h.1.1.2 h.1.2 h.2
      · cases h
    | par2 _ _ _ _ => simp [okS] at h
    | aug i o e =>
      unfold okS at h
      split at h
      · simp only [Bool.and_eq_true, decide_eq_true_eq] at h
        obtain ⟨⟨⟨⟨⟨h1, h2⟩, h3⟩, rfl⟩, rfl⟩, h6⟩ := h
        simp only [ioS, decide_eq_true_eq] at hio
        exact snd_aug g hf hio h1 h2 h6
      · cases h
    | setix i kk e =>
      unfold okS at h
      split at h
      · simp only [Bool.and_eq_true, decide_eq_true_eq] at h
        obtain ⟨⟨⟨⟨⟨⟨h1, h2⟩, h3⟩, h4⟩, h5⟩, h6⟩, h7⟩ := h
        exact snd_setix g h1 h2 h3 h4 h5 h6 h7
      · cases h
    | putk i kk e =>
      unfold okS at h
      split at h
      · simp only [Bool.and_eq_true, decide_eq_true_eq] at h
        obtain ⟨⟨⟨⟨⟨⟨h1, h2⟩, h3⟩, h4⟩, h5⟩, h6⟩, h7⟩ := h
        exact snd_putk g h1 h2 h3 h4 h5 h6 h7
      · cases h
    | augix i kk e =>
      unfold okS at h
      split at h
      · simp only [Bool.and_eq_true, decide_eq_true_eq] at h
        obtain ⟨⟨⟨⟨⟨h1, h2⟩, h3⟩, h5⟩, h6⟩, h7⟩ := h
        exact snd_augix g h1 h2 h3 h5 h6 h7
      · cases h
    | expr e =>
      unfold okS at h
      split at h
      · simp only [Bool.and_eq_true] at h
        exact snd_expr g ⟨hd, tk⟩ h.1 h.2
      · cases h
    | ret e =>
      unfold okS at h
      split at h
      · simp only [ioS, decide_eq_true_eq] at hio
        exact snd_ret g ⟨hd, tk⟩ hio h
      · cases h
    | retN =>
      unfold okS at h
      split at h
      · refine PS.imp ps_retN fun D σ H ⟨B, ρ, out, E, ev, q⟩ => ?_
        rw [evS] at ev
        cases ev
        exact q .non H B E.same (Ext.refl.less fun _ z => z.elim) .non
      · cases h
    | ite c a b =>
      unfold okS at h
      split at h
      · simp only [Bool.and_eq_true] at h
        simp only [MS.ite.sizeOf_spec] at hm
        simp only [ioS, Bool.and_eq_true] at hio
        refine PS.imp (ps_if ((sndAll c X sc _ g h.1.1.2).2 h.1.1.1) (snd_block (lst (es := a) (by omega)) g hf hd hp tk hio.1 h.1.2) (snd_block (lst (es := b) (by omega)) g hf hd hp tk hio.2 h.2)) fun D σ H ⟨B, ρ, out, E, ev, q⟩ => ?_
        rw [evS] at ev
        obtain ⟨p, e1, ev⟩ := bind_some ev
        obtain ⟨x, e2, ev⟩ := bind_some ev
        obtain ⟨t, e3, ev⟩ := bind_some ev
        rw [asB_eq e3] at e2
        refine ⟨B, ρ, p.1, p.2, t, E, e1, e2, fun H1 B1 E1 X1 => ?_⟩
        cases t with
        | true => exact ⟨B1, p.2, out, E1, by simpa using ev, q.trans X1 .refl⟩
        | false => exact ⟨B1, p.2, out, E1, by simpa using ev, q.trans X1 .refl⟩
      · cases h
    | forr tg kd src body kl =>
      unfold okS at h
      split at h
      · simp only [Bool.and_eq_true] at h
        simp only [MS.forr.sizeOf_spec] at hm
        simp only [ioS, Bool.and_eq_true, List.all_eq_true, decide_eq_true_eq] at hio
        obtain ⟨⟨⟨h1, h2⟩, h3⟩, h4⟩ := h
        exact PS.imp (ps_for hp g.calm (snd_src (fun m _ => sndAll m) g h3) (tg_pg g.calm g.hN g.nd h1 (g.locW hf)) (snd_block (lst (es := body) (by omega)) g hf hd hp tk hio.2 h4) (noSet_ok h2 _)) (for_key hio.1)
      · cases h
    | whl c body kl =>
      unfold okS at h
      split at h
      · simp only [Bool.and_eq_true] at h
        simp only [MS.whl.sizeOf_spec] at hm
        simp only [ioS] at hio
        exact PS.imp (ps_while hp ((sndAll c X sc _ g h.1.2).2 h.1.1) (snd_block (lst (es := body) (by omega)) g hf hd hp tk hio h.2)) while_key
      · cases h
    | pass =>
      unfold okS at h
      split at h
      · refine PS.imp ps_pass fun D σ H ⟨B, ρ, out, E, ev, q⟩ => ?_
        rw [evS] at ev
        cases ev
        exact q σ H B E .refl .refl
      · cases h
    | brk =>
      unfold okS at h
      split at h
      · refine PS.imp ps_break fun D σ H ⟨B, ρ, out, E, ev, q⟩ => ?_
        rw [evS] at ev
        cases ev
        exact q σ H B E .refl .refl
      · cases h
    | cont =>
      unfold okS at h
      split at h
      · refine PS.imp ps_continue fun D σ H ⟨B, ρ, out, E, ev, q⟩ => ?_
        rw [evS] at ev
        cases ev
        exact q σ H B E .refl .refl
      · cases h
    | rse x =>
      unfold okS at h
      split at h
      · simp only [Bool.and_eq_true, decide_eq_true_eq] at h
        obtain ⟨⟨⟨rfl, h1⟩, h2⟩, h3⟩ := h
        exact snd_rse g tk h1 h2 h3
      · cases h
    | tri body te i hh ks =>
      unfold okS at h
      split at h
      · simp only [Bool.and_eq_true, decide_eq_true_eq] at h
        simp only [MS.tri.sizeOf_spec] at hm
        simp only [ioS, Bool.and_eq_true, decide_eq_true_eq] at hio
        obtain ⟨⟨⟨⟨⟨⟨⟨⟨rfl, h1⟩, h2⟩, h3⟩, h4⟩, h5⟩, h6⟩, h7⟩, h8⟩ := h
        obtain ⟨d1, d2, d3⟩ := plain_ne h2
        obtain ⟨Ct, hCt, er⟩ := g.er _ h3
        exact PS.imp (ps_try_as (ts := tTri X F io W i hh) (tb := fun W' => tSs X.K Φ io W' body) hd.1 hd.2 (by rw [g.hN]; exact g.nd) (by rw [g.hN]; exact h5) (by show X.env.scope.names.lookup _ = _; rw [g.hsc]; exact h6) ⟨g.gl_ok h1, d1, .inl er.gC⟩ tk
          (fun W' pn xe tk' ho => snd_block (lst (es := body) (by omega)) (g.tr pn xe) hf hd ho tk' hio.1.2 h7) (fun a oe cls d pn hz hv => tri_hnd g.toH hf h5 h8 hio.2 hz hv)) (tri_key g hio.1.1 h3 er.gC h4)
      · cases h
    | retio j e =>
      unfold okS at h
      split at h
      · simp only [ioS, decide_eq_true_eq] at hio
        exact snd_retio g ⟨hd, tk⟩ hio h
      · cases h
    | setf i f e =>
      unfold okS at h
      split at h
      · simp only [Bool.and_eq_true, decide_eq_true_eq] at h
        obtain ⟨⟨⟨⟨⟨⟨h1, h2⟩, h3⟩, rfl⟩, h4⟩, h5⟩, h6⟩ := h
        exact snd_setf g ⟨hd, tk⟩ h1 h2 h3 h4 h5 h6
      · cases h
    | augf i f e =>
      unfold okS at h
      split at h
      · simp only [Bool.and_eq_true, decide_eq_true_eq] at h
        obtain ⟨⟨⟨⟨⟨h1, h2⟩, h3⟩, rfl⟩, h4⟩, h6⟩ := h
        exact snd_augf g h1 h2 h3 h4 h6
      · cases h
    | never =>
      refine PS.imp ps_never fun D σ H ⟨B, ρ, out, E, ev, q⟩ => ?_
      rw [evS] at ev
      cases ev
theorem sndsAll (m : MS) : SndS Φ F Gc N k m := snds_n _ m (Nat.le_refl _)
end

/-! ### a def -/
theorem startE_len {mf : MF} {ds : List ML.D} : (argS mf.io ds).length = ds.length := by
  have : ∀ (io : Option Nat) (ds : List ML.D), (argS io ds).length = ds.length := by
    intro io ds
    induction ds generalizing io with
    | nil => cases io <;> simp [argS]
    | cons a as ih =>
      cases io with
      | none => simp [argS]
      | some j =>
        cases j with
        | zero => simp [argS]
        | succ j => simp [argS, ih (some j)]
  exact this _ _
theorem argS_get {io : Option Nat} : ∀ {ds : List ML.D} {i : Nat} {s : Sv}, (argS io ds)[i]? = some s → ∃ d, ds[i]? = some d ∧ ((io = some i ∧ s = .own d) ∨ (io ≠ some i ∧ s = .fro d)) := by
  intro ds
  induction ds generalizing io with
  | nil => intro i s h; cases io <;> simp [argS] at h
  | cons a as ih =>
    intro i s h
    cases io with
    | none =>
      rw [argS, List.getElem?_map] at h
      obtain ⟨d, h1, h2⟩ := Option.map_eq_some_iff.mp h
      exact ⟨d, h1, .inr ⟨by simp, h2.symm⟩⟩
    | some j =>
      cases j with
      | zero =>
        rw [argS] at h
        cases i with
        | zero => cases h; exact ⟨a, rfl, .inl ⟨rfl, rfl⟩⟩
        | succ i =>
          rw [List.getElem?_cons_succ, List.getElem?_map] at h
          obtain ⟨d, h1, h2⟩ := Option.map_eq_some_iff.mp h
          exact ⟨d, h1, .inr ⟨by simp, h2.symm⟩⟩
      | succ j =>
        rw [argS] at h
        cases i with
        | zero => cases h; exact ⟨a, rfl, .inr ⟨by simp, rfl⟩⟩
        | succ i =>
          rw [List.getElem?_cons_succ] at h
          obtain ⟨d, h1, h2⟩ := ih (io := some j) h
          refine ⟨d, h1, ?_⟩
          rcases h2 with ⟨h2, h3⟩ | ⟨h2, h3⟩
          · cases h2; exact .inl ⟨rfl, h3⟩
          · exact .inr ⟨fun z => h2 (by cases z; rfl), h3⟩
/-- what the arguments are: a is what is handed in to be changed -/
def ArgsOk [Wd] (K : PySem.W.Frag) (io : Option Nat) (a : Addr) (B H : Hp) (vs : List V) (ds : List ML.D) : Prop :=
  vs.length = ds.length ∧ ∀ (i : Nat) v d, vs[i]? = some v → ds[i]? = some d → if io = some i then v = .ref a ∧ OwnAt K B H a d else Rep K B v d
theorem start_env [Wd] {K : PySem.W.Frag} {io : Option Nat} {a : Addr} {B H : Hp} {vs : List V} {ds : List ML.D} {N : List Str} {mf : MF} (hio : mf.io = io) (sm : Same B H) (r : ArgsOk K io a B H vs ds) (hn : N.length = mf.ns) :
    EnvOk K B H (startE mf ds) (L2.start N vs) ∧ ∀ b, OwnS (startE mf ds) (L2.start N vs) b → ∃ j d, io = some j ∧ ds[j]? = some d ∧ b = a := by
  obtain ⟨hl, hr⟩ := r
  have la := startE_len (mf := mf) (ds := ds)
  have at1 : ∀ {i : Nat} {s : Sv}, (startE mf ds)[i]? = some s → s ≠ .no → ∃ d, ds[i]? = some d ∧ ((io = some i ∧ s = .own d) ∨ (io ≠ some i ∧ s = .fro d)) := by
    intro i s h hs
    unfold startE at h
    by_cases hi : i < ds.length
    · rw [List.getElem?_append_left (by rw [la]; exact hi), hio] at h
      exact argS_get h
    · rw [List.getElem?_append_right (by rw [la]; omega), List.getElem?_replicate] at h
      split at h
      · cases h; exact absurd rfl hs
      · cases h
  have at2 : ∀ {i : Nat} {v : V}, vs[i]? = some v → (L2.start N vs)[i]? = some (some v) := by
    intro i v h
    unfold L2.start
    rw [List.getElem?_append_left (by rw [List.length_map]; exact (List.getElem?_eq_some_iff.mp h).1), List.getElem?_map, h]
    rfl
  have at3 : ∀ {i : Nat} {d : ML.D}, ds[i]? = some d → ∃ v, vs[i]? = some v := fun {i d} h => by
    have := (List.getElem?_eq_some_iff.mp h).1
    exact ⟨vs[i]'(by omega), List.getElem?_eq_getElem (by omega)⟩
  have own : ∀ {i : Nat} {d : ML.D}, (startE mf ds)[i]? = some (.own d) → io = some i ∧ ds[i]? = some d ∧ (L2.start N vs)[i]? = some (some (.ref a)) ∧ OwnAt K B H a d := fun {i d} h => by
    obtain ⟨d', h1, h2⟩ := at1 h (fun z => by cases z)
    rcases h2 with ⟨h2, h3⟩ | ⟨_, h3⟩
    · cases h3
      obtain ⟨v, hv⟩ := at3 h1
      have q := hr i v d hv h1
      rw [if_pos h2] at q
      refine ⟨h2, h1, ?_, q.2⟩
      rw [at2 hv, q.1]
    · cases h3
  refine ⟨⟨sm, fun i d h => ?_, fun i d h => ?_, fun i j d e b h1 h2 _ _ => ?_, ?_⟩, fun b ⟨i, d, h, hb⟩ => ?_⟩
  · obtain ⟨d', h1, h2⟩ := at1 h (fun z => by cases z)
    rcases h2 with ⟨_, h3⟩ | ⟨h2, h3⟩
    · cases h3
    · cases h3
      obtain ⟨v, hv⟩ := at3 h1
      have q := hr i v d hv h1
      rw [if_neg h2] at q
      exact ⟨v, at2 hv, q⟩
  · obtain ⟨_, _, h3, h4⟩ := own h
    exact ⟨a, h3, h4⟩
  · have a1 := (own h1).1
    have a2 := (own h2).1
    rw [a1] at a2
    exact Option.some.inj a2
  · unfold startE L2.start
    simp only [List.length_append, List.length_map, List.length_replicate, la]
    omega
  · obtain ⟨h1, h2, h3, _⟩ := own h
    rw [h3] at hb
    cases hb
    exact ⟨i, d, h1, h2, rfl⟩
/-- what stands in the table: its promise by its number -/
theorem spG_args [Wd] {K : PySem.W.Frag} {f n : Nat} {φ : List ML.D → Option Sv} {vs : List V} {H : Hp} {Q : VK} {E : XK} (h : spG K f φ n vs H Q E) :
    vs.length = n ∧ ∃ B ds r a, Same B H ∧ ArgsOk K (ioPos f) a B H vs ds ∧ φ ds = some r ∧ RetQ K B H (fun b => ∃ j d, ioPos f = some j ∧ ds[j]? = some d ∧ b = a) Q E r := by
  unfold spG at h
  cases e : ioPos f with
  | none =>
    rw [e] at h
    obtain ⟨hl, B, ds, r, sm, rp, ev, q⟩ := h
    refine ⟨hl, B, ds, r, 0, sm, ⟨rp.length, fun i v d h1 h2 => ?_⟩, ev, ?_⟩
    · rw [if_neg (by simp)]
      obtain ⟨w, g1, g2⟩ := rp.get h2
      rw [h1] at g1
      cases g1
      exact g2
    · have : (fun b => ∃ j d, (none : Option Nat) = some j ∧ ds[j]? = some d ∧ b = 0) = fun _ : Addr => False := by
        funext b
        apply propext
        constructor
        · rintro ⟨_, _, z, _⟩; cases z
        · exact fun z => z.elim
      rw [this]
      exact q
  | some j =>
    rw [e] at h
    obtain ⟨hl, B, ds, r, a, sm, hn, ha, hr, ev, q⟩ := h
    refine ⟨hl, B, ds, r, a, sm, ⟨hn, fun i v d h1 h2 => ?_⟩, ev, ?_⟩
    · have q1 := hr i v d h1 h2
      by_cases hi : i = j
      · subst hi
        rw [if_pos rfl] at q1 ⊢
        rw [h1] at ha
        exact ⟨Option.some.inj ha, q1⟩
      · rw [if_neg hi] at q1
        rw [if_neg (fun z => hi (Option.some.inj z).symm)]
        exact q1
    · have hj : ∃ d, ds[j]? = some d := by
        have := (List.getElem?_eq_some_iff.mp ha).1
        exact ⟨ds[j]'(by omega), List.getElem?_eq_getElem (by omega)⟩
      have : (fun b => ∃ j', ∃ d, some j = some j' ∧ ds[j']? = some d ∧ b = a) = fun b : Addr => b = a := by
        funext b
        apply propext
        constructor
        · rintro ⟨_, _, _, _, z⟩; exact z
        · rintro rfl; obtain ⟨d, hd⟩ := hj; exact ⟨j, d, rfl, hd, rfl⟩
      rw [this]
      exact q
/-- a def of the text keeps the promise that the small language tells of it -/
theorem fn_ok [Wd] {P : Program} {w : World} {K : PySem.W.Frag} {mg : Str → Option Value} {base : Heap} {Φ : Nat → List ML.D → Option Sv} {F : List (Str × Nat)} {Gc : List (Str × ML.D)} {N ps : List Str} {k n : Nat}
    {x qual : Str} {st : Stmt} {f : Addr} {fd : FuncData} (Fn : Fun K x qual st f fd) (S : FnScope N ps (defScope st)) {mf : MF} (hio : mf.io = ioPos n) (hi : ioSs mf.io mf.body = true) (hok : okSs F Gc N (defScope st) mf.body (defBody st) = true) (hns : N.length = mf.ns) (hnp : ps.length = mf.np)
    (good : ∀ X : Cx, X.prog = P → X.w = w → X.K = K → X.mg = mg → X.base = base → X.calm = true → X.N = N → X.env.scope = defScope st → Room (k + 2) X.A → Good X Φ F Gc N (defScope st) k) :
    FnOk P w K mg base (L2.CX P w) (k + 3) f fd ps (spG K n (evBody Φ mf) ps.length) := by
  refine Fn.okX (k := k + 2) S (fun vs H Q E h => spG_len h) fun cdv A outer s H vs Q E hr h => ?_
  obtain ⟨hl, B, ds, r, a, sm, rp, ev, q⟩ := spG_args h
  unfold evBody at ev
  split at ev
  · rename_i hlen
    obtain ⟨o, e1, e2⟩ := bind_some ev
    have g : Good (cxOf (L2.CX P w) P w K mg base N qual (defScope st) f cdv A outer s H E) Φ F Gc N (defScope st) k := good _ rfl rfl rfl rfl rfl rfl rfl rfl hr
    refine ⟨tSs K Φ mf.io (fun cls d _ H => E cls d H) mf.body, snd_block (fun m _ => sndsAll m) g (fun _ => rfl) ⟨rfl, rfl⟩ (passes_of rfl) (takes_of rfl rfl rfl rfl) hi hok, ?_⟩
    obtain ⟨E0, O0⟩ := start_env (mf := mf) hio sm rp hns
    generalize hO : (fun b => ∃ j d, ioPos n = some j ∧ ds[j]? = some d ∧ b = a) = O at q
    have O0 : ∀ b, OwnS (startE mf ds) (L2.start N vs) b → O b := fun b hb => by rw [← hO]; exact O0 b hb
    have less : ∀ {B' H' : Hp} {O' O2 : Addr → Prop}, Ext B H (OwnS (startE mf ds) (L2.start N vs)) B' H' O' → (∀ b, O2 b → O b) → Ext B H O B' H' O2 := fun Y h2 =>
      ⟨Y.b, fun a u h n => Y.keep a u h fun z => n (O0 a z), Y.tr, fun _ z => .inl (h2 _ z), fun a u h => by
        rcases Y.base a u h with z | z | z
        · exact .inl z
        · exact .inr (.inl z)
        · exact .inr (.inr (O0 a z))⟩
    have hj : ∀ {j : Nat} {b : Addr}, mf.io = some j → (L2.start N vs)[j]? = some (some (.ref b)) → j < ds.length → ∃ d0, ds[j]? = some d0 ∧ b = a := fun {j b} h1 h2 h3 => by
      obtain ⟨hl1, hr1⟩ := rp
      have hv : vs[j]? = some (vs[j]'(by omega)) := List.getElem?_eq_getElem (by omega)
      have q1 := hr1 j _ _ hv (List.getElem?_eq_getElem h3)
      rw [← hio, if_pos h1] at q1
      have : (L2.start N vs)[j]? = some (some (vs[j]'(by omega))) := by
        unfold L2.start
        rw [List.getElem?_append_left (by rw [List.length_map]; omega), List.getElem?_map, hv]
        rfl
      have z := Option.some.inj (Option.some.inj (h2.symm.trans this))
      exact ⟨_, List.getElem?_eq_getElem h3, V.ref.inj (z.trans q1.1)⟩
    have hOa : ∀ {j : Nat} {d0 : ML.D}, mf.io = some j → ds[j]? = some d0 → O a := fun h1 h2 => by rw [← hO]; exact ⟨_, _, by rw [← hio]; exact h1, h2, rfl⟩
    have hOe : ∀ b, O b → b = a := fun b hb => by rw [← hO] at hb; obtain ⟨_, _, _, _, z⟩ := hb; exact z
    have inArg : ∀ {j : Nat} {b : Addr}, mf.io = some j → (L2.start N vs)[j]? = some (some (.ref b)) → j < ds.length := fun {j b} h1 h2 => by
      rcases Nat.lt_or_ge j ds.length with z | z
      · exact z
      · exfalso
        have hl1 := rp.1
        unfold L2.start at h2
        rw [List.getElem?_append_right (by rw [List.length_map]; omega), List.getElem?_replicate] at h2
        split at h2
        · cases h2
        · cases h2
    have left : ∀ {ρ' : ML.Env} {σ' : L2.St} {H' B' : Hp} {j : Nat} {d : ML.D}, EnvOk K B' H' ρ' σ' → Keep mf.io (L2.start N vs) σ' → mf.io = some j → ownC ρ' j = some d → O a ∧ OwnAt K B' H' a d := fun {ρ' σ' H' B' j d} E' k' h1 h2 => by
      obtain ⟨b, g1, oa⟩ := E'.own j d (ownC_eq h2)
      rw [k' j h1] at g1
      obtain ⟨d0, z1, z2⟩ := hj h1 g1 (inArg h1 g1)
      subst z2
      exact ⟨hOa h1 z1, oa⟩
    refine ⟨B, _, o, E0, e1, ?_⟩
    cases o with
    | nx ρ' =>
      refine fun σ' H' B' E' X' k' => ?_
      dsimp only at e2
      unfold endF at e2
      split at e2
      · cases e2
        exact q .non H' B' E'.same (less X' fun _ z => z.elim) .non
      · rename_i j hj'
        obtain ⟨d, f1, f2⟩ := map_some e2
        cases f2
        obtain ⟨z1, z2⟩ := left E' k' hj' f1
        exact q .non H' B' E'.same (less X' fun _ z => z) .non fun b hb => by rw [hOe b hb]; exact z2
    | ret r' =>
      cases e2
      show RetO K mf.io B H _ _ _ r
      cases r with
      | fro d => exact fun v H' B' sm' X' R' => q v H' B' sm' (less X' fun _ z => z.elim) R'
      | no => exact fun v H' B' sm' X' R' => q v H' B' sm' (less X' fun _ z => z.elim)
      | exc _ => exact fun v H' B' sm' X' R' => R'.elim
      | xio _ _ => exact fun v H' B' sm' X' R' => R'.elim
      | own d =>
        refine fun v H' B' sm' X' R' => q v H' B' sm' (less X' fun _ z => z.elim) ?_
        obtain ⟨b, h1, h2, h3⟩ := R'
        refine ⟨b, h1, h2, ?_⟩
        rcases h3 with z | z
        · exact z
        · have z1 := O0 b z.1
          rw [← hO] at z1
          obtain ⟨j, _, z2, _⟩ := z1
          rw [← hio, z.2] at z2
          cases z2
      | io r1 d =>
        refine fun v H' B' b sm' X' R' ⟨j, h1, h2⟩ oa => q v H' B' sm' (less X' fun _ z => z) R' fun c hc => ?_
        obtain ⟨d0, z1, z2⟩ := hj h1 h2 (inArg h1 h2)
        rw [hOe c hc, ← z2]
        exact oa
    | exc y ρ' =>
      refine fun C σ' H' B' hC E' X' k' => ?_
      dsimp only at e2
      unfold endX at e2
      split at e2
      · cases e2
        exact q C H' B' hC E'.same (less X' fun _ z => z.elim)
      · rename_i j hj'
        rcases els_cases e2 with ⟨d, f1, f2⟩ | ⟨_, f2⟩
        · cases f2
          obtain ⟨z1, z2⟩ := left E' k' hj' f1
          exact q C H' B' hC E'.same (less X' fun _ z => z) fun b hb => by rw [hOe b hb]; exact z2
        · cases f2
          exact q C H' B' hC E'.same (less X' fun _ z => z.elim)
    | brk _ => cases e2
    | cnt _ => cases e2
  · cases ev
end ML
set_option Elab.async false
set_option linter.all false
set_option autoImplicit false
set_option maxRecDepth 100000
set_option maxHeartbeats 4000000
/-! MLend: a table of defs, and the end of a law. -/
namespace ML
open PySem L2

/-- a def of the text: its name (C.m of a method), its number, its names by slot, its parameters, its statement, its body in the small language; cm: a method's class and name -/
structure Ent where
  x : Str
  f : Nat
  N : List Str
  ps : List Str
  st : Stmt
  mf : MF
  cm : Option (Str × Str) := none
/-- its names for the machine -/
def Ent.nm (e : Ent) : Str := match e.cm with
  | none => e.x
  | some p => p.2
def chkScope (N P : List Str) (sc : Scope) : Bool :=
  (match sc.kind with
    | .function => true
    | _ => false) && !sc.isCoroutine && !sc.isGenerator && decide N.Nodup && decide (N.take P.length = P) && P.all (locB sc.names) &&
  sc.names.all fun y => match y.2 with
    | .free => false
    | _ => true
theorem chkScope_ok {N P : List Str} {sc : Scope} (h : chkScope N P sc = true) : FnScope N P sc := by
  unfold chkScope at h
  simp only [Bool.and_eq_true, Bool.not_eq_true', decide_eq_true_eq, List.all_eq_true] at h
  obtain ⟨⟨⟨⟨⟨⟨h1, h2⟩, h3⟩, h4⟩, h5⟩, h6⟩, h7⟩ := h
  refine ⟨?_, h2, h3, h4, h5, fun x hx => loc_of (h6 x hx), fun y hy e => ?_⟩
  · split at h1
    · assumption
    · cases h1
  · have q := h7 y hy
    rw [e] at q
    cases q
/-- a name as it must be -/
def Ent.nameOk (e : Ent) : Bool := match e.cm with
  | none => plainB e.x
  | some p => decide (e.x = dotN p.1 p.2) && plainB p.1
def Ent.chk (F : List (Str × Nat)) (Gc : List (Str × ML.D)) (e : Ent) : Bool :=
  chkScope e.N e.ps (defScope e.st) && okSs F Gc e.N (defScope e.st) e.mf.body (defBody e.st) && (e.N.length == e.mf.ns) && (e.ps.length == e.mf.np) && decide (F.lookup e.x = some e.f) && decide (e.mf.io = ioPos e.f) && ioSs e.mf.io e.mf.body && e.nameOk && decide (e.f ≠ FLD)
def tabF (tab : List Ent) : List (Str × Nat) := tab.map fun e => (e.x, e.f)
/-- .. with the fields and the classes of errors -/
def tabFx (tab : List Ent) (fl er : List Str) (cs : List (Str × Str × Nat)) : List (Str × Nat) := tabF tab ++ (fl.map (fun x => (dotN Str.empty x, FLD)) ++ (er.map (fun x => (dotN "!" x, FLD)) ++ cs.map fun p => (dotN "@" (dotN p.1 p.2.1), p.2.2)))
/-- how it stands behind the top -/
def EntOk [Wd] (K : PySem.W.Frag) (mg : Str → Option Value) (e : Ent) : Prop := match e.cm with
  | none => ∃ (a : Addr) (fd : FuncData), mg e.x = some (.ref a) ∧ Fun K e.x e.x e.st a fd ∧ ∀ us : List Value, us.length = e.ps.length → bindArgs fd ⟨us, []⟩ = pure (e.ps.zip us)
  | some p => ∃ (C a : Addr) (fd : FuncData), Wd.cls p.1 = some C ∧ Meth K C p.2 a ∧ (p.2 = "__init__" → Mk K C a) ∧ Fun K p.2 e.x e.st a fd ∧ ∀ us : List Value, us.length = e.ps.length → bindArgs fd ⟨us, []⟩ = pure (e.ps.zip us)
theorem ent_ok [Wd] {K : PySem.W.Frag} {mg : Str → Option Value} {h : Heap} (X : K.In h) (G : h.Ns mainGlobals mg) (e : Ent) {a : Addr} {od an : Option Addr} {sl : Array (Option Value)} {oc kV dc pm cd ct : Value}
    (q : PySem.W.nsIn K mainGlobals e.x = some (some (.ref a))) (l : K.lookup a = some ⟨oc, od, .func (PySem.W.fnOf e.x e.x (defArgs e.st) (defBody e.st) (defScope e.st) .none kV dc pm an cd ct), sl⟩) (c : PySem.W.codeIn K cd e.x = true) (k : PySem.W.keepIn K (.ref a) = true)
    (hb : ∀ (kV doc pm : Value) (an : Option Addr) (cdv ct : Value) (us : List Value), us.length = e.ps.length → bindArgs (PySem.W.fnOf e.x e.x (defArgs e.st) (defBody e.st) (defScope e.st) .none kV doc pm an cdv ct) ⟨us, []⟩ = pure (e.ps.zip us)) (hn : e.cm = none := by rfl) : EntOk K mg e := by
  have F := fun_mk (st := e.st) l c k
  unfold EntOk
  rw [hn]
  exact ⟨a, _, PySem.W.mg_of X G q, F, hb _ _ _ _ _ _⟩
theorem entM_ok [Wd] {K : PySem.W.Frag} {mg : Str → Option Value} (e : Ent) {cn m : Str} {C a : Addr} {od an : Option Addr} {sl : Array (Option Value)} {oc kV dc pm cd ct : Value} (hn : e.cm = some (cn, m)) (hC : Wd.cls cn = some C)
    (h1 : PySem.W.findIn K (.ref C) m = some (some (.ref a))) (h2 : PySem.W.isFn K (.ref a) = true) (k : PySem.W.keepIn K (.ref a) = true) (hi : m = "__init__" → PySem.W.makesIn K C = true ∧ PySem.W.keepIn K (.ref C) = true)
    (l : K.lookup a = some ⟨oc, od, .func (PySem.W.fnOf m e.x (defArgs e.st) (defBody e.st) (defScope e.st) .none kV dc pm an cd ct), sl⟩) (c : PySem.W.codeIn K cd e.x = true)
    (hb : ∀ (kV doc pm : Value) (an : Option Addr) (cdv ct : Value) (us : List Value), us.length = e.ps.length → bindArgs (PySem.W.fnOf m e.x (defArgs e.st) (defBody e.st) (defScope e.st) .none kV doc pm an cdv ct) ⟨us, []⟩ = pure (e.ps.zip us)) : EntOk K mg e := by
  have F := fun_mk (st := e.st) l c k
  unfold EntOk
  rw [hn]
  exact ⟨C, a, _, hC, ⟨h1, h2, k⟩, fun z => ⟨(hi z).1, by rw [← z]; exact h1, h2, (hi z).2⟩, F, hb _ _ _ _ _ _⟩
theorem mem_lookup {tab : List Ent} {x : Str} {f : Nat} (h : (tabF tab).lookup x = some f) : ∃ e ∈ tab, e.x = x ∧ e.f = f := by
  induction tab with
  | nil => cases h
  | cons e tab ih =>
    unfold tabF at h
    rw [List.map_cons, List.lookup_cons] at h
    split at h
    · rename_i hx
      cases h
      exact ⟨e, List.mem_cons_self, (beq_iff_eq.mp hx).symm, rfl⟩
    · obtain ⟨e', h1, h2⟩ := ih h
      exact ⟨e', List.mem_cons_of_mem _ h1, h2⟩
theorem lookup_app {l r : List (Str × Nat)} {x : Str} {f : Nat} (h : (l ++ r).lookup x = some f) : l.lookup x = some f ∨ r.lookup x = some f := by
  induction l with
  | nil => exact .inr h
  | cons p l ih =>
    rw [List.cons_append, List.lookup_cons] at h
    rw [List.lookup_cons]
    split at h
    · exact .inl h
    · exact ih h
theorem lookup_none {l r : List (Str × Nat)} {x : Str} (h : (l ++ r).lookup x = none) : l.lookup x = none := by
  induction l with
  | nil => rfl
  | cons p l ih =>
    rw [List.cons_append, List.lookup_cons] at h
    rw [List.lookup_cons]
    split at h
    · cases h
    · exact ih h
theorem lookup_fld {ns : List Str} {p : Str} {x : Str} {f : Nat} (h : (ns.map fun y => (dotN p y, FLD)).lookup x = some f) : ∃ y ∈ ns, x = dotN p y ∧ f = FLD := by
  induction ns with
  | nil => cases h
  | cons y ns ih =>
    rw [List.map_cons, List.lookup_cons] at h
    split at h
    · rename_i hx
      cases h
      exact ⟨y, List.mem_cons_self, beq_iff_eq.mp hx, rfl⟩
    · obtain ⟨z, h1, h2⟩ := ih h
      exact ⟨z, List.mem_cons_of_mem _ h1, h2⟩
theorem dotN_list (c m : Str) : (dotN c m).cps.toList = c.cps.toList ++ 46 :: m.cps.toList := by
  show (c.cps ++ (#[46] ++ m.cps)).toList = _
  simp
theorem plain_dot {x : Str} (h : plainB x = true) : 46 ∉ x.cps.toList := by
  unfold plainB at h
  simp only [Bool.and_eq_true, Bool.not_eq_true'] at h
  intro z
  have := h.1.2
  rw [Array.contains_iff_mem.mpr (Array.mem_toList_iff.mp z)] at this
  cases this
theorem not_plain {c m : Str} : plainB (dotN c m) = false := by
  cases h : plainB (dotN c m) with
  | false => rfl
  | true => exact absurd (by rw [dotN_list]; simp) (plain_dot h)
theorem cut_inj {l r l' r' : List Nat} (h : 46 ∉ l) (h' : 46 ∉ l') (e : l ++ 46 :: r = l' ++ 46 :: r') : l = l' ∧ r = r' := by
  induction l generalizing l' with
  | nil =>
    cases l' with
    | nil => exact ⟨rfl, (List.cons.inj e).2⟩
    | cons x l' => exact absurd (by have := (List.cons.inj e).1; rw [← this]; exact List.mem_cons_self) h'
  | cons x l ih =>
    cases l' with
    | nil => exact absurd (by have := (List.cons.inj e).1; rw [this]; exact List.mem_cons_self) h
    | cons y l' =>
      obtain ⟨e1, e2⟩ := List.cons.inj e
      obtain ⟨a, b⟩ := ih (fun z => h (List.mem_cons_of_mem _ z)) (fun z => h' (List.mem_cons_of_mem _ z)) e2
      exact ⟨by rw [e1, a], b⟩
theorem str_ext {x y : Str} (h : x.cps.toList = y.cps.toList) : x = y := by
  obtain ⟨⟨a⟩⟩ := x
  obtain ⟨⟨b⟩⟩ := y
  have : a = b := h
  rw [this]
theorem dotN_inj {c m c' m' : Str} (h : 46 ∉ c.cps.toList) (h' : 46 ∉ c'.cps.toList) (e : dotN c m = dotN c' m') : c = c' ∧ m = m' := by
  have q := congrArg (fun z => z.cps.toList) e
  simp only [dotN_list] at q
  obtain ⟨a, b⟩ := cut_inj h h' q
  exact ⟨str_ext a, str_ext b⟩
theorem lookup_cc {cs : List (Str × Str × Nat)} {x : Str} {f : Nat} (h : (cs.map fun p => (dotN "@" (dotN p.1 p.2.1), p.2.2)).lookup x = some f) : ∃ p ∈ cs, x = dotN "@" (dotN p.1 p.2.1) ∧ f = p.2.2 := by
  induction cs with
  | nil => cases h
  | cons y ns ih =>
    rw [List.map_cons, List.lookup_cons] at h
    split at h
    · rename_i hx
      cases h
      exact ⟨y, List.mem_cons_self, beq_iff_eq.mp hx, rfl⟩
    · obtain ⟨z, h1, h2⟩ := ih h
      exact ⟨z, List.mem_cons_of_mem _ h1, h2⟩
theorem lookup_gd {Gc : List (Str × ML.D)} {Gd : List (Str × List (Str × ML.D))} {x : Str} {d : ML.D} (h : (Gc ++ Gd.map fun p => (dotN "#" p.1, encD p.2)).lookup x = some d) : Gc.lookup x = some d ∨ ∃ p ∈ Gd, x = dotN "#" p.1 ∧ d = encD p.2 := by
  induction Gc with
  | nil =>
    right
    rw [List.nil_append] at h
    induction Gd with
    | nil => cases h
    | cons y ns ih =>
      rw [List.map_cons, List.lookup_cons] at h
      split at h
      · rename_i hx
        cases h
        exact ⟨y, List.mem_cons_self, beq_iff_eq.mp hx, rfl⟩
      · obtain ⟨z, h1, h2⟩ := ih h
        exact ⟨z, List.mem_cons_of_mem _ h1, h2⟩
  | cons p l ih =>
    rw [List.cons_append, List.lookup_cons] at h
    rw [List.lookup_cons]
    split at h
    · exact .inl h
    · exact ih h
theorem encD_inj : ∀ {a b : List (Str × ML.D)}, encD a = encD b → a = b := by
  intro a b h
  unfold encD at h
  injection h with h
  induction a generalizing b with
  | nil =>
    cases b with
    | nil => rfl
    | cons _ _ => cases h
  | cons p a ih =>
    cases b with
    | nil => cases h
    | cons q b =>
      rw [List.map_cons, List.map_cons] at h
      obtain ⟨h1, h2⟩ := List.cons.inj h
      injection h1 with h1
      obtain ⟨h3, h4⟩ := List.cons.inj h1
      injection h3 with h3
      obtain ⟨h5, _⟩ := List.cons.inj h4
      rw [ih h2, show p = q from Prod.ext h3 h5]
/-- one of the constants -/
theorem glb_cons {x y : Str} {d e : ML.D} {r : List (Str × ML.D)} (h : List.lookup x ((y, e) :: r) = some d) : (x = y ∧ d = e) ∨ List.lookup x r = some d := by
  rw [List.lookup_cons] at h
  split at h
  · rename_i hx
    cases h
    exact .inl ⟨beq_iff_eq.mp hx, rfl⟩
  · exact .inr h
/-- what the top has written, and the table -/
structure TopOk [Wd] (P : Program) (w : World) (K : PySem.W.Frag) (mg : Str → Option Value) (tab : List Ent) (fl er : List Str) (cs : List (Str × Str × Nat)) (Gc : List (Str × ML.D)) (Gd : List (Str × List (Str × ML.D))) (Pt : Nat → Option MF) : Prop where
  hc : tab.all (fun e => e.chk (tabFx tab fl er cs) (Gc ++ Gd.map fun p => (dotN "#" p.1, encD p.2))) = true
  hp : ∀ e ∈ tab, Pt e.f = some e.mf
  ok : ∀ e ∈ tab, EntOk K mg e
  hP : P = Wd.P
  hw : w = Wd.w
  hM : mg = Wd.mg
  bl : ∀ x ∈ bltNames, (tabF tab).lookup x = none → mg x = none
  cl : ∀ c C, Wd.cls c = some C → mg c = some (.ref C) ∧ Cls K C
  na : ∀ c C, Wd.cls c = some C → ∀ x ∈ fl, NoAttr K C x
  xc : ∀ x ∈ er, ∀ c ∈ er, ∀ C D : Addr, mg x = some (.ref C) → mg c = some (.ref D) → PySem.W.kitOne K (.ref C) (.ref D) = some (subX x c) ∧ PySem.W.exmOne K (.ref C) (.ref D) = some (subX x c)
  er : ∀ x ∈ er, ∃ C, mg x = some (.ref C) ∧ ErrR K mg x C
  cc : ∀ p ∈ cs, plainB p.1 = true ∧ (tabF tab).lookup (dotN p.1 p.2.1) = some p.2.2 ∧ ∀ C a, mg p.1 = some (.ref C) → PySem.W.findIn K (.ref C) p.2.1 = some (some (.ref a)) → ClsC K C p.2.1 a
  gd : ∀ p ∈ Gd, GdOk K w mg p.1 p.2
  gp : ∀ x d, Gc.lookup x = some d → plainB x = true
  gl : ∀ (x : Str) (d : ML.D), Gc.lookup x = some d → ∃ u v, mg x = some u ∧ RelV v u ∧ ∀ H, Rep K H v d
section
variable [Wd] {P : Program} {w : World} {K : PySem.W.Frag} {mg : Str → Option Value} {base : Heap}
theorem chk_parts {F : List (Str × Nat)} {Gc : List (Str × ML.D)} {e : Ent} (c : e.chk F Gc = true) : chkScope e.N e.ps (defScope e.st) = true ∧ okSs F Gc e.N (defScope e.st) e.mf.body (defBody e.st) = true ∧ e.N.length = e.mf.ns ∧ e.ps.length = e.mf.np ∧ e.mf.io = ioPos e.f ∧ ioSs e.mf.io e.mf.body = true ∧ e.nameOk = true ∧ e.f ≠ FLD := by
  unfold Ent.chk at c
  simp only [Bool.and_eq_true, beq_iff_eq, decide_eq_true_eq] at c
  obtain ⟨⟨⟨⟨⟨⟨⟨⟨c1, c2⟩, c3⟩, c4⟩, c5⟩, c6⟩, c7⟩, c8⟩, c9⟩ := c
  exact ⟨c1, c2, c3, c4, c6, c7, c8, c9⟩
/-- what the callees give -/
def TabOk (P : Program) (w : World) (K : PySem.W.Frag) (mg : Str → Option Value) (base : Heap) (tab : List Ent) (Pt : Nat → Option MF) (k : Nat) : Prop :=
  ∀ e ∈ tab, ∀ (a : Addr) (fd : FuncData), Fun K e.nm e.x e.st a fd → FnOk P w K mg base (L2.CX P w) (3 * k) a fd e.ps (spG K e.f (callF Pt k e.f) e.ps.length) ∧ ∀ ds s, callF Pt k e.f ds = some s → ds.length = e.ps.length
theorem good_of {tab : List Ent} {fl er : List Str} {cs : List (Str × Str × Nat)} {Gc : List (Str × ML.D)} {Gd : List (Str × List (Str × ML.D))} {Pt : Nat → Option MF} (T : TopOk P w K mg tab fl er cs Gc Gd Pt) {k : Nat} (ih : TabOk P w K mg base tab Pt k) {e : Ent} (he : e ∈ tab) {X : Cx} (x1 : X.prog = P) (x2 : X.w = w) (x3 : X.K = K) (x4 : X.mg = mg) (x5 : X.base = base) (x6 : X.calm = true) (x7 : X.N = e.N) (x8 : X.env.scope = defScope e.st)
    (x9 : Room (3 * k + 2) X.A) : Good X (callF Pt k) (tabFx tab fl er cs) (Gc ++ Gd.map fun p => (dotN "#" p.1, encD p.2)) e.N (defScope e.st) (3 * k) := by
  subst x1 x2 x3 x4 x5
  obtain ⟨c1, _⟩ := chk_parts (List.all_eq_true.mp T.hc e he)
  have S := chkScope_ok c1
  have notAt : ∀ {p : Str × Str × Nat}, p ∈ cs → p.2.2 ≠ FLD := fun {p} hp z => by
    obtain ⟨e', h1, h2, h3⟩ := mem_lookup (T.cc p hp).2.1
    obtain ⟨_, _, _, _, _, _, _, c9⟩ := chk_parts (List.all_eq_true.mp T.hc e' h1)
    exact c9 (h3.trans z)
  have inTab : ∀ {x : Str} {f : Nat}, (tabFx tab fl er cs).lookup x = some f → f ≠ FLD → (∃ e ∈ tab, e.x = x ∧ e.f = f) ∨ ∃ p ∈ cs, x = dotN "@" (dotN p.1 p.2.1) ∧ f = p.2.2 := fun {x f} h hf => by
    rcases lookup_app h with z | z
    · exact .inl (mem_lookup z)
    · rcases lookup_app z with z | z
      · obtain ⟨_, _, _, q⟩ := lookup_fld z; exact absurd q hf
      · rcases lookup_app z with z | z
        · obtain ⟨_, _, _, q⟩ := lookup_fld z; exact absurd q hf
        · exact .inr (lookup_cc z)
  have inFl : ∀ {x : Str}, (tabFx tab fl er cs).lookup x = some FLD → (∃ y ∈ fl, x = dotN Str.empty y) ∨ ∃ y ∈ er, x = dotN "!" y := fun {x} h => by
    rcases lookup_app h with z | z
    · obtain ⟨e', h1, h2, h3⟩ := mem_lookup z
      obtain ⟨_, _, _, _, _, _, _, c9⟩ := chk_parts (List.all_eq_true.mp T.hc e' h1)
      exact absurd h3 c9
    · rcases lookup_app z with z | z
      · obtain ⟨y, h1, h2, _⟩ := lookup_fld z; exact .inl ⟨y, h1, h2⟩
      · rcases lookup_app z with z | z
        · obtain ⟨y, h1, h2, _⟩ := lookup_fld z; exact .inr ⟨y, h1, h2⟩
        · obtain ⟨p, h1, h2, h3⟩ := lookup_cc z; exact absurd h3.symm (notAt h1)
  have d0 : 46 ∉ Str.empty.cps.toList := by decide
  have d1 : 46 ∉ ("!" : Str).cps.toList := by decide +kernel
  have ne : Str.empty ≠ ("!" : Str) := by decide +kernel
  have d2 : 46 ∉ ("@" : Str).cps.toList := by decide +kernel
  refine { calm := x6, hN := x7, nd := S.nd, hsc := x8, kind := S.kind, room := x9, hP := T.hP, hw := T.hw, hM := T.hM, bl := fun x q1 _ q3 => T.bl x q3 (lookup_none q1), fn := fun x f hx hl => ?_, cl := T.cl, mt := fun c m f hc hl hf => ?_, na := fun c C x hC hl => ?_, er := fun x hl => ?_, xc := fun x c C D hx hc hC hD => ?_, cc := fun c m f hc hl hf => ?_, gd := fun x kvs hl => ?_, gl := fun x d hp hl => ?_ }
  · have hf : f ≠ FLD := fun z => by
      subst z
      rcases inFl hl with ⟨y, _, h⟩ | ⟨y, _, h⟩
      · rw [h, not_plain] at hx; cases hx
      · rw [h, not_plain] at hx; cases hx
    have z := inTab hl hf
    rcases z with ⟨e', h1, h2, h3⟩ | ⟨p, _, h2, _⟩
    case inr => rw [h2, not_plain] at hx; cases hx
    obtain ⟨_, _, _, _, _, _, c8, _⟩ := chk_parts (List.all_eq_true.mp T.hc e' h1)
    have ok := T.ok e' h1
    unfold EntOk at ok
    unfold Ent.nameOk at c8
    cases hcm : e'.cm with
    | some p =>
      rw [hcm] at c8
      simp only [Bool.and_eq_true, decide_eq_true_eq] at c8
      rw [← h2, c8.1, not_plain] at hx
      cases hx
    | none =>
      rw [hcm] at ok
      obtain ⟨a', fd', g3, g4, g5⟩ := ok
      have hn : e'.nm = e'.x := by unfold Ent.nm; rw [hcm]
      obtain ⟨g6, g7⟩ := ih e' h1 a' fd' (by rw [hn]; exact g4)
      rw [← h2, ← h3]
      exact ⟨a', fd', e'.ps, g3, g4.kp, .all g5, g6, g7⟩
  · have hnp : c ≠ "@" → (∃ e ∈ tab, e.x = dotN c m ∧ e.f = f) := fun hne => by
      rcases inTab hl hf with z | ⟨p, _, h2, _⟩
      · exact z
      · exact absurd (dotN_inj (plain_dot hc) d2 h2).1 hne
    have hca : c ≠ "@" := fun z => by rw [z] at hc; exact absurd hc (by decide +kernel)
    obtain ⟨e', h1, h2, h3⟩ := hnp hca
    obtain ⟨_, _, _, _, _, _, c8, _⟩ := chk_parts (List.all_eq_true.mp T.hc e' h1)
    have ok := T.ok e' h1
    unfold EntOk at ok
    unfold Ent.nameOk at c8
    cases hcm : e'.cm with
    | none =>
      rw [hcm] at c8
      rw [h2, not_plain] at c8
      cases c8
    | some p =>
      rw [hcm] at c8 ok
      simp only [Bool.and_eq_true, decide_eq_true_eq] at c8
      obtain ⟨C, a', fd', g1, g2, g3, g4, g5⟩ := ok
      obtain ⟨rfl, rfl⟩ := dotN_inj (plain_dot hc) (plain_dot c8.2) (h2.symm.trans c8.1)
      have hn : e'.nm = p.2 := by unfold Ent.nm; rw [hcm]
      obtain ⟨g6, g7⟩ := ih e' h1 a' fd' (by rw [hn]; exact g4)
      rw [← h3]
      exact ⟨C, a', fd', e'.ps, g1, g2, g3, .all g5, g6, g7⟩
  · rcases inFl hl with ⟨y, hy, h⟩ | ⟨y, hy, h⟩
    · obtain ⟨_, rfl⟩ := dotN_inj d0 d0 h
      exact T.na c C hC x hy
    · exact absurd (dotN_inj d0 d1 h).1 ne
  · rcases inFl hl with ⟨y, hy, h⟩ | ⟨y, hy, h⟩
    · exact absurd (dotN_inj d1 d0 h).1 (Ne.symm ne)
    · obtain ⟨_, rfl⟩ := dotN_inj d1 d1 h
      obtain ⟨C, h1, h2⟩ := T.er x hy
      exact ⟨C, by rw [← T.hM]; exact h1, h2⟩
  · have inE : ∀ {x : Str}, (tabFx tab fl er cs).lookup (dotN "!" x) = some FLD → x ∈ er := fun {x} hl => by
      rcases inFl hl with ⟨y, hy, h⟩ | ⟨y, hy, h⟩
      · exact absurd (dotN_inj d1 d0 h).1 (Ne.symm ne)
      · obtain ⟨_, rfl⟩ := dotN_inj d1 d1 h
        exact hy
    exact T.xc x (inE hx) c (inE hc) C D hC hD
  · rcases inTab hl hf with ⟨e', h1, h2, h3⟩ | ⟨p, hp, h2, h3⟩
    · obtain ⟨_, _, _, _, _, _, c8, _⟩ := chk_parts (List.all_eq_true.mp T.hc e' h1)
      unfold Ent.nameOk at c8
      cases hcm : e'.cm with
      | none =>
        rw [hcm] at c8
        rw [h2, not_plain] at c8
        cases c8
      | some p =>
        rw [hcm] at c8
        simp only [Bool.and_eq_true, decide_eq_true_eq] at c8
        have q := (dotN_inj d2 (plain_dot c8.2) (h2.symm.trans c8.1)).1
        rw [← q] at c8
        exact absurd c8.2 (by decide +kernel)
    · obtain ⟨_, h4⟩ := dotN_inj d2 d2 h2
      obtain ⟨k1, k2, k3⟩ := T.cc p hp
      obtain ⟨rfl, rfl⟩ := dotN_inj (plain_dot hc) (plain_dot k1) h4
      subst h3
      obtain ⟨e', h1, h5, h6⟩ := mem_lookup k2
      obtain ⟨_, _, _, _, _, _, c8, _⟩ := chk_parts (List.all_eq_true.mp T.hc e' h1)
      have ok := T.ok e' h1
      unfold EntOk at ok
      unfold Ent.nameOk at c8
      cases hcm : e'.cm with
      | none =>
        rw [hcm] at c8
        rw [h5, not_plain] at c8
        cases c8
      | some r =>
        rw [hcm] at c8 ok
        simp only [Bool.and_eq_true, decide_eq_true_eq] at c8
        obtain ⟨C, a', fd', g1, g2, g3, g4, g5⟩ := ok
        obtain ⟨e1, e2⟩ := dotN_inj (plain_dot hc) (plain_dot c8.2) (h5.symm.trans c8.1)
        have hn : e'.nm = r.2 := by unfold Ent.nm; rw [hcm]
        obtain ⟨g6, g7⟩ := ih e' h1 a' fd' (by rw [hn]; exact g4)
        rw [← e1] at g1
        rw [← e2] at g2
        obtain ⟨m1, _⟩ := T.cl _ C g1
        rw [← h6]
        exact ⟨C, a', fd', e'.ps, m1, k3 C a' m1 g2.at_, .all g5, g6, g7⟩
  · rcases lookup_gd hl with z | ⟨p, hp, h1, h2⟩
    · exact absurd (T.gp _ _ z) (by rw [not_plain]; decide)
    · have d3 : 46 ∉ ("#" : Str).cps.toList := by decide +kernel
      obtain ⟨_, rfl⟩ := dotN_inj d3 d3 h1
      rw [encD_inj h2]
      exact T.gd p hp
  · rcases lookup_gd hl with z | ⟨p, hq, h1, h2⟩
    · exact T.gl x d z
    · rw [h1, not_plain] at hp; cases hp
theorem tab_ok {tab : List Ent} {fl er : List Str} {cs : List (Str × Str × Nat)} {Gc : List (Str × ML.D)} {Gd : List (Str × List (Str × ML.D))} {Pt : Nat → Option MF} (T : TopOk P w K mg tab fl er cs Gc Gd Pt) : ∀ (k : Nat), TabOk P w K mg base tab Pt k
  | 0 => fun e he a fd h2 => by
    refine ⟨⟨fun vs H Q E q => spG_len q, fun A outer s H args us vs Q E _ _ _ _ q => ?_⟩, fun ds s q => ?_⟩
    · obtain ⟨_, _, _, _, _, _, _, q, _⟩ := spG_args q
      rw [callF] at q
      cases q
    · rw [callF] at q
      cases q
  | k + 1 => fun e he a fd h2 => by
    obtain ⟨c1, c2, c3, c4, c6, c7, c8, c9⟩ := chk_parts (List.all_eq_true.mp T.hc e he)
    have fo := fn_ok (P := P) (w := w) (mg := mg) (base := base) h2 (chkScope_ok c1) c6 c7 c2 c3 c4 (Φ := callF Pt k) (k := 3 * k) fun X x1 x2 x3 x4 x5 x6 x7 x8 x9 => good_of T (tab_ok T k) he x1 x2 x3 x4 x5 x6 x7 x8 x9
    have ev : callF Pt (k + 1) e.f = evBody (callF Pt k) e.mf := by
      funext ds
      rw [callF, T.hp e he]
      rfl
    refine ⟨by rw [ev]; exact fo, fun ds s q => ?_⟩
    rw [ev] at q
    unfold evBody at q
    split at q
    · rename_i hl
      rw [hl, c4]
    · cases q
end
def spScript (K : PySem.W.Frag) : Sp := fun vs H Q _ => ∃ (a : Addr) (ns : List Int), vs = [.ref a] ∧ SqL K H a (ns.map V.int) ∧ ns.length ≤ 63 ∧ ∀ H', Q (.bl true) H'
theorem script_imp [Wd] {K : PySem.W.Frag} {φ : List ML.D → Option Sv} (main : ∀ ns : List Int, ns.length ≤ 63 → φ [.scr ns] = some (.fro (.bl true))) : ∀ vs H Q E, spScript K vs H Q E → spF K φ 1 vs H Q E := by
  intro vs H Q E ⟨a, ns, e, hs, hl, q⟩
  subst e
  refine ⟨rfl, H, [.scr ns], _, Same.refl H, .cons (.scr hs (Nat.le_trans hl (by decide))) .nil, main ns hl, fun v H' B' sm Y R => ?_⟩
  cases R
  exact q H'
/-- the law's def, from the table -/
theorem law_fn [Wd] {l : PySem.W.OpenLaw} {w : World} {K : PySem.W.Frag} {h : Heap} {mg : Str → Option Value} {fa : Addr} (X : K.In h) (G : h.Ns mainGlobals mg) {tab : List Ent} {fl er : List Str} {cs : List (Str × Str × Nat)} {Gc : List (Str × ML.D)} {Gd : List (Str × List (Str × ML.D))} {Pt : Nat → Option MF} {x p : Str} {f k : Nat}
    (hfa : mg x = some (.ref fa)) (hx : (tabF tab).lookup x = some f) (hxp : plainB x = true) (hf : ioPos f = none) (hps : ∀ e ∈ tab, e.x = x → e.ps = [p]) (T : TopOk l.prog w K mg tab fl er cs Gc Gd Pt)
    (main : ∀ ns : List Int, ns.length ≤ 63 → callF Pt k f [.scr ns] = some (.fro (.bl true))) :
    ∃ fd : FuncData, (∀ (s : Shared) (v : Value), BindsTo s fd ⟨[v], []⟩ [(p, v)]) ∧ ∀ base : Heap, K.In base → base.Ns mainGlobals mg → FnOk l.prog w K mg base (L2.CX l.prog w) (3 * k) fa fd [p] (spScript K) := by
  obtain ⟨e, he, e1, e2⟩ := mem_lookup hx
  have ok := T.ok e he
  obtain ⟨_, _, _, _, _, _, c8, _⟩ := chk_parts (List.all_eq_true.mp T.hc e he)
  have ep := hps e he e1
  unfold EntOk at ok
  unfold Ent.nameOk at c8
  cases hcm : e.cm with
  | some q =>
    rw [hcm] at c8
    simp only [Bool.and_eq_true, decide_eq_true_eq] at c8
    rw [← e1, c8.1, not_plain] at hxp
    cases hxp
  | none =>
    rw [hcm] at ok
    obtain ⟨a, fd, h1, h2, h3⟩ := ok
    rw [e1, hfa] at h1
    cases h1
    have hn : e.nm = e.x := by unfold Ent.nm; rw [hcm]
    refine ⟨fd, fun s v => ?_, fun base _ _ => ?_⟩
    · have q := h3 [v] (by rw [ep]; rfl)
      rw [ep] at q
      exact .of_eq q
    · obtain ⟨g1, _⟩ := tab_ok (base := base) T k e he fa fd (by rw [hn]; exact h2)
      rw [e2, spG_none hf] at g1
      rw [ep] at g1
      exact g1.imp (script_imp main)
/-- the end of a law's row -/
theorem walk {l : PySem.W.OpenLaw} {q : Program} {loose : List Str} {XP : (Str → Option Value) → Heap → Prop} {YP : World → Heap → Prop} {d : DefRec} {K : Params → PySem.W.Frag} {p : Str} {k : Nat} (hn : l.most = some 63) (hdf : d.params.defaults = []) (hr : Room k callerA)
    (hY : ∀ (w : World) (h : Heap), YP w h → (K w.params).In h)
    (F : ∀ (w : World) (mg : Str → Option Value) (fa : Addr) (h : Heap), (K w.params).In h → h.Ns mainGlobals mg → mg d.name = some (.ref fa) →
      ∃ fd : FuncData, (∀ (s : Shared) (u : Value), BindsTo s fd ⟨[u], []⟩ [(p, u)]) ∧ ∀ base : Heap, (K w.params).In base → base.Ns mainGlobals mg → FnOk l.prog w (K w.params) mg base (L2.CX l.prog w) k fa fd [p] (spScript (K w.params))) :
    PySem.W.WalkO q loose XP YP l.row.toRowW d [] (fun f vs => PySem.call f vs) :=
  L2.walk_of (n := 63) (k := k) (x := p) (CX := fun w => L2.CX l.prog w) (sp := fun w => spScript (K w.params)) hn (by decide) hdf hr hY F (fun _ _ a ns hl _ hS => ⟨a, ns, rfl, hS, hl, fun _ => rfl⟩) fun _ _ _ _ _ ⟨_, _, _, _, _, _, _, _, _, _, _, _, z⟩ => z
end ML
set_option Elab.async false
set_option linter.all false
set_option autoImplicit false
set_option maxRecDepth 100000
set_option maxHeartbeats 4000000
/-! MLdefs: printed by gen.py. The defs of the program and of the laws in the small language, and their table. -/
namespace ML
open PySem
namespace Fn
/- 0: step; slots: 0 n, 1 one, 2 other -/
def step : MF := { np := 3, ns := 3, body := [
  .ret (.bin .mod (.bin .sub (.var 2) (.var 1)) (.var 0))] }
/- 1: distance; slots: 0 n, 1 one, 2 other -/
def distance : MF := { np := 3, ns := 3, body := [
  .ret (.prim .min2 [(.call 0 [(.var 0), (.var 1), (.var 2)]), (.call 0 [(.var 0), (.var 2), (.var 1)])])] }
/- 2: move; slots: 0 n, 1 one, 2 other, 3 up -/
def move : MF := { np := 3, ns := 4, body := [
  .asg 3 (.call 0 [(.var 0), (.var 1), (.var 2)]),
  .ite (.cmp .le (.bin .mul (.cst (.int 2)) (.var 3)) (.var 0)) [
    .ret (.var 3)] [],
  .ret (.bin .sub (.var 3) (.var 0))] }
/- 3: _law_cell_at; slots: 0 _law_script, 1 _law_k -/
def law_cell_at : MF := { np := 2, ns := 2, body := [
  .ite (.cmp .eq (.prim .len [(.var 0)]) (.cst (.int 0))) [
    .ret (.cst (.int 0))] [],
  .ret (.idx (.var 0) (.bin .mod (.var 1) (.prim .len [(.var 0)])))] }
/- 4: _law_mixed; slots: 0 _law_script, 1 _law_k, 2 _law_salt, 3 _law_cell, 4 _law_lap, 5 _law_near -/
def law_mixed : MF := { np := 3, ns := 6, body := [
  .asg 3 (.call 3 [(.var 0), (.var 1)]),
  .asg 4 (.bin .fdiv (.var 1) (.prim .max2 [(.cst (.int 1)), (.prim .len [(.var 0)])])),
  .asg 5 (.bin .add (.bin .add (.bin .add (.bin .band (.var 3) (.cst (.int 2147483647))) (.bin .mul (.bin .mul (.cst (.int 1009)) (.var 1)) (.var 1))) (.bin .mul (.bin .mul (.cst (.int 7919)) (.var 2)) (.var 2))) (.cst (.int 12))),
  .asg 5 (.bin .mod (.bin .mul (.var 5) (.cst (.int 48271))) (.cst (.int 2147483647))),
  .asg 5 (.bin .mod (.bin .mul (.var 5) (.var 5)) (.cst (.int 2147483629))),
  .ret (.bin .band (.bin .add (.bin .shr (.var 3) (.bin .mul (.cst (.int 31)) (.bin .add (.var 2) (.bin .mul (.cst (.int 128)) (.var 4))))) (.var 5)) (.cst (.int 2147483647)))] }
/- 5: _law_wheel; slots: 0 _law_script, 1 _law_most -/
def law_wheel : MF := { np := 2, ns := 2, body := [
  .ret (.bin .add (.cst (.int 3)) (.bin .mod (.call 4 [(.var 0), (.cst (.int 0)), (.cst (.int 1))]) (.bin .sub (.var 1) (.cst (.int 2)))))] }
/- 6: _law_whole; slots: 0 _law_found -/
def law_whole : MF := { np := 1, ns := 1, body := [
  .ret (.bop true [(.isi (.var 0) .int), (.not (.isi (.var 0) .bool))])] }
/- 9: done; slots: 0 n, 1 change, 2 tone -/
def done : MF := { np := 3, ns := 3, body := [
  .ite (.cmp .eq (.idx (.var 1) (.cst (.int 0))) (.cst (.str "turn"))) [
    .ret (.bin .mod (.bin .add (.var 2) (.idx (.var 1) (.cst (.int 1)))) (.var 0))] [],
  .ret (.bin .mod (.bin .sub (.idx (.var 1) (.cst (.int 1))) (.var 2)) (.var 0))] }
/- 10: changes; slots: 0 n, 1 k -/
def changes : MF := { np := 1, ns := 2, body := [
  .ret (.bin .add (.comp (.tup [(.cst (.str "turn")), (.var 1)]) (.one 1) [1] .rng1 [(.var 0)] []) (.comp (.tup [(.cst (.str "mirror")), (.var 1)]) (.one 1) [1] .rng1 [(.var 0)] []))] }
/- 11: _law_change; slots: 0 _law_script, 1 _law_k, 2 _law_salt, 3 _law_n, 4 _law_number -/
def law_change : MF := { np := 4, ns := 5, body := [
  .asg 4 (.call 4 [(.var 0), (.var 1), (.var 2)]),
  .ret (.tup [(.idx (.lst [(.cst (.str "turn")), (.cst (.str "mirror"))]) (.bin .mod (.var 4) (.cst (.int 2)))), (.bin .mod (.bin .fdiv (.var 4) (.cst (.int 2))) (.var 3))])] }
/- 12: _law_is; slots: 0 _law_found, 1 _law_due -/
def law_is : MF := { np := 2, ns := 2, body := [
  .ite (.bop false [(.not (.isi (.var 0) .tuple)), (.cmp .ne (.prim .len [(.var 0)]) (.cst (.int 2))), (.not (.isi (.idx (.var 0) (.cst (.int 0))) .str))]) [
    .ret (.cst (.bl false))] [],
  .ite (.bop false [(.not (.isi (.idx (.var 0) (.cst (.int 1))) .int)), (.isi (.idx (.var 0) (.cst (.int 1))) .bool)]) [
    .ret (.cst (.bl false))] [],
  .ret (.cmp .eq (.var 0) (.var 1))] }
/- 21: crowd_of; slots: 0 n, 1 numbers, 2 number -/
def crowd_of : MF := { np := 2, ns := 3, body := [
  .ret (.prim .tuple [(.fus .sortedSet [(.comp (.bin .mod (.var 2) (.var 0)) (.one 2) [2] .seq [(.var 1)] [])])])] }
/- 22: _law_tuple; slots: 0 _law_found, 1 _law_due, 2 _law_k -/
def law_tuple_b0 : List MS := [
  .ite (.bop false [(.not (.isi (.idx (.var 0) (.var 2)) .int)), (.isi (.idx (.var 0) (.var 2)) .bool), (.cmp .ne (.idx (.var 0) (.var 2)) (.idx (.var 1) (.var 2)))]) [
    .ret (.cst (.bl false))] []]
def law_tuple : MF := { np := 2, ns := 3, body := [
  .ite (.bop false [(.not (.isi (.var 0) .tuple)), (.cmp .ne (.prim .len [(.var 0)]) (.prim .len [(.var 1)]))]) [
    .ret (.cst (.bl false))] [],
  .forr (.one 2) .rng1 [(.prim .len [(.var 1)])] law_tuple_b0 [2],
  .ret (.cst (.bl true))] }
/- 24: changed; slots: 0 n, 1 crowd, 2 change, 3 tone -/
def changed : MF := { np := 3, ns := 4, body := [
  .ret (.call 21 [(.var 0), (.comp (.call 9 [(.var 0), (.var 2), (.var 3)]) (.one 3) [3] .seq [(.var 1)] [])])] }
/- 25: others; slots: 0 n, 1 crowd, 2 tone -/
def others : MF := { np := 2, ns := 3, body := [
  .ret (.prim .tuple [(.comp (.var 2) (.one 2) [2] .rng1 [(.var 0)] [(.cmp .nin (.var 2) (.var 1))])])] }
/- 26: common; slots: 0 one, 1 other, 2 tone -/
def common : MF := { np := 2, ns := 3, body := [
  .ret (.prim .tuple [(.comp (.var 2) (.one 2) [2] .seq [(.var 0)] [(.cmp .inn (.var 2) (.var 1))])])] }
/- 27: _law_crowd; slots: 0 _law_script, 1 _law_k, 2 _law_salt, 3 _law_n, 4 _law_number, 5 _law_t -/
def law_crowd : MF := { np := 4, ns := 6, body := [
  .asg 4 (.call 4 [(.var 0), (.var 1), (.var 2)]),
  .ret (.prim .tuple [(.comp (.var 5) (.one 5) [5] .rng1 [(.var 3)] [(.cmp .eq (.bin .band (.bin .shr (.var 4) (.var 5)) (.cst (.int 1))) (.cst (.int 1)))])])] }
/- 28: _law_some; slots: 0 _law_script, 1 _law_k, 2 _law_salt, 3 _law_n, 4 _law_way -/
def law_some : MF := { np := 4, ns := 5, body := [
  .asg 4 (.bin .mod (.call 4 [(.var 0), (.var 1), (.bin .add (.var 2) (.cst (.int 1)))]) (.cst (.int 6))),
  .ite (.cmp .eq (.var 4) (.cst (.int 0))) [
    .ret (.tup [])] [],
  .ite (.cmp .eq (.var 4) (.cst (.int 1))) [
    .ret (.fus .tupRange [(.var 3)])] [],
  .ret (.call 27 [(.var 0), (.var 1), (.var 2), (.var 3)])] }
/- 38: _law_row; slots: 0 _law_script, 1 _law_k, 2 _law_salt, 3 _law_n, 4 _law_left, 5 _law_row_here, 6 _law_j -/
def law_row_b0 : List MS := [
  .expr (.mut .append 5 [(.mut .popAt 4 [(.bin .mod (.call 4 [(.var 0), (.bin .add (.var 1) (.var 6)), (.var 2)]) (.prim .len [(.var 4)]))])])]
def law_row : MF := { np := 4, ns := 7, body := [
  .asg 4 (.fus .listRange [(.var 3)]),
  .asg 5 (.lst []),
  .forr (.one 6) .rng1 [(.var 3)] law_row_b0 [3, 6],
  .ret (.prim .tuple [(.var 5)])] }
/- 39: _law_sized; slots: 0 _law_script, 1 _law_k, 2 _law_salt, 3 _law_n, 4 _law_size -/
def law_sized : MF := { np := 5, ns := 5, body := [
  .ret (.prim .tuple [(.prim .sorted [(.sli (.call 38 [(.var 0), (.var 1), (.var 2), (.var 3)]) [] [(.var 4)])])])] }
/- 43: ways; slots: 0 n, 1 one, 2 other, 3 change -/
def ways : MF := { np := 3, ns := 4, body := [
  .ret (.comp (.var 3) (.one 3) [3] .seq [(.call 10 [(.var 0)])] [(.cmp .eq (.call 24 [(.var 0), (.var 1), (.var 3)]) (.var 2))])] }
/- 44: _law_changed; slots: 0 _law_n, 1 _law_crowd_here, 2 _law_change_here, 3 _law_tone -/
def law_changed : MF := { np := 3, ns := 4, body := [
  .ret (.prim .tuple [(.prim .sorted [(.comp (.call 9 [(.var 0), (.var 2), (.var 3)]) (.one 3) [3] .seq [(.var 1)] [])])])] }
/- 45: _law_first; slots: 0 _law_script, 1 _law_k, 2 _law_n, 3 _law_one, 4 _law_change_here -/
def law_first : MF := { np := 3, ns := 5, body := [
  .asg 3 (.call 28 [(.var 0), (.var 1), (.cst (.int 2)), (.var 2)]),
  .ite (.cmp .eq (.bin .mod (.call 4 [(.var 0), (.var 1), (.cst (.int 4))]) (.cst (.int 4))) (.cst (.int 0))) [
    .asg 4 (.call 11 [(.var 0), (.var 1), (.cst (.int 5)), (.var 2)]),
    .ret (.prim .tuple [(.fus .sortedSet [(.bin .add (.var 3) (.call 44 [(.var 2), (.var 3), (.var 4)]))])])] [],
  .ret (.var 3)] }
/- 46: _law_right; slots: 0 _law_n, 1 _law_one, 2 _law_other, 3 _law_due, 4 _law_again, 5 _law_found, 6 _law_k, 7 _law_change_here -/
def law_right_k10_b0 : List MS := [
  .ite (.bop false [(.not (.isi (.idx (.var 5) (.var 6)) .tuple)), (.cmp .ne (.prim .len [(.idx (.var 5) (.var 6))]) (.cst (.int 2))), (.cmp .ne (.idx (.var 5) (.var 6)) (.idx (.var 3) (.var 6)))]) [
    .ret (.cst (.bl false))] [],
  .ite (.bop false [(.not (.isi (.idx (.idx (.var 5) (.var 6)) (.cst (.int 1))) .int)), (.isi (.idx (.idx (.var 5) (.var 6)) (.cst (.int 1))) .bool)]) [
    .ret (.cst (.bl false))] []]
def law_right_k10_b1 : List MS := [
  .asg 5 (.call 43 [(.var 0), (.var 1), (.var 2)]),
  .ite (.bop false [(.not (.isi (.var 5) .list)), (.cmp .ne (.prim .len [(.var 5)]) (.prim .len [(.var 3)]))]) [
    .ret (.cst (.bl false))] [],
  .forr (.one 6) .rng1 [(.prim .len [(.var 3)])] law_right_k10_b0 [4, 6],
  .expr (.mut .append 5 [(.tup [(.cst (.str "turn")), (.cst (.int 0))])])]
def law_right_k10 : MF := { np := 3, ns := 8, body := [
  .asg 3 (.comp (.var 7) (.one 7) [7] .seq [(.call 10 [(.var 0)])] [(.cmp .eq (.call 44 [(.var 0), (.var 1), (.var 7)]) (.var 2))]),
  .forr (.one 4) .rng1 [(.cst (.int 2))] law_right_k10_b1 [4, 5, 6],
  .ret (.cst (.bl true))] }
/- 47: law; slots: 0 _law_script, 1 _law_n, 2 _law_k, 3 _law_one, 4 _law_other -/
def law_k10_b0 : List MS := [
  .asg 3 (.call 45 [(.var 0), (.var 2), (.var 1)]),
  .asg 4 (.call 39 [(.var 0), (.var 2), (.cst (.int 6)), (.var 1), (.prim .len [(.var 3)])]),
  .ite (.cmp .eq (.bin .mod (.call 4 [(.var 0), (.var 2), (.cst (.int 7))]) (.cst (.int 2))) (.cst (.int 0))) [
    .asg 4 (.call 44 [(.var 1), (.var 3), (.call 11 [(.var 0), (.var 2), (.cst (.int 8)), (.var 1)])])] [],
  .ite (.bop false [(.not (.call 46 [(.var 1), (.var 3), (.var 4)])), (.not (.call 46 [(.var 1), (.var 3), (.var 3)]))]) [
    .ret (.cst (.bl false))] []]
def law_k10 : MF := { np := 1, ns := 5, body := [
  .asg 1 (.call 5 [(.var 0), (.cst (.int 24))]),
  .forr (.one 2) .rng1 [(.prim .min2 [(.bin .add (.prim .len [(.var 0)]) (.cst (.int 2))), (.cst (.int 8))])] law_k10_b0 [2, 3, 4],
  .ret (.cst (.bl true))] }
/- 159: formed; slots: 0 n, 1 row, 2 form, 3 change, 4 way, 5 tones, 6 tone -/
def formed : MF := { np := 3, ns := 7, body := [
  .asgT [3, 4] (.var 2),
  .asg 5 (.comp (.call 9 [(.var 0), (.var 3), (.var 6)]) (.one 6) [6] .seq [(.var 1)] []),
  .ite (.cmp .eq (.var 4) (.cst (.str "back"))) [
    .asg 5 (.fus .listRev [(.var 5)])] [],
  .ret (.prim .tuple [(.var 5)])] }
/- 160: forms; slots: 0 n, 1 change -/
def forms : MF := { np := 1, ns := 2, body := [
  .ret (.bin .add (.comp (.tup [(.var 1), (.cst (.str "on"))]) (.one 1) [1] .seq [(.call 10 [(.var 0)])] []) (.comp (.tup [(.var 1), (.cst (.str "back"))]) (.one 1) [1] .seq [(.call 10 [(.var 0)])] []))] }
/- 161: _law_form; slots: 0 _law_script, 1 _law_k, 2 _law_salt, 3 _law_n -/
def law_form : MF := { np := 4, ns := 4, body := [
  .ret (.tup [(.call 11 [(.var 0), (.var 1), (.var 2), (.var 3)]), (.idx (.lst [(.cst (.str "on")), (.cst (.str "back"))]) (.bin .mod (.call 4 [(.var 0), (.var 1), (.bin .add (.var 2) (.cst (.int 1)))]) (.cst (.int 2))))])] }
/- 162: _law_formed; slots: 0 _law_n, 1 _law_row_here, 2 _law_form_here, 3 _law_made, 4 _law_tone -/
def law_formed : MF := { np := 3, ns := 5, body := [
  .asg 3 (.comp (.call 9 [(.var 0), (.idx (.var 2) (.cst (.int 0))), (.var 4)]) (.one 4) [4] .seq [(.var 1)] []),
  .ite (.cmp .eq (.idx (.var 2) (.cst (.int 1))) (.cst (.str "back"))) [
    .asg 3 (.back (.var 3))] [],
  .ret (.prim .tuple [(.var 3)])] }
/- 163: law; slots: 0 _law_script, 1 _law_n, 2 _law_row_here, 3 _law_k, 4 _law_form_here, 5 _law_found -/
def law_k37_b0 : List MS := [
  .asg 4 (.call 161 [(.var 0), (.bin .add (.var 3) (.cst (.int 1))), (.cst (.int 3)), (.var 1)]),
  .ite (.not (.call 22 [(.call 159 [(.var 1), (.var 2), (.var 4)]), (.call 162 [(.var 1), (.var 2), (.var 4)])])) [
    .ret (.cst (.bl false))] []]
def law_k37 : MF := { np := 1, ns := 6, body := [
  .asg 1 (.call 5 [(.var 0), (.cst (.int 24))]),
  .asg 2 (.call 38 [(.var 0), (.cst (.int 1)), (.cst (.int 2)), (.var 1)]),
  .forr (.one 3) .rng1 [(.cst (.int 8))] law_k37_b0 [3, 4, 5],
  .asg 5 (.call 160 [(.var 1)]),
  .ite (.bop false [(.not (.isi (.var 5) .list)), (.cmp .ne (.var 5) (.call 160 [(.var 1)]))]) [
    .ret (.cst (.bl false))] [],
  .expr (.mut .clear 5 []),
  .ret (.cmp .eq (.call 160 [(.var 1)]) (.call 160 [(.var 1)]))] }
end Fn
def PtL : List (Option MF) := [some Fn.step, some Fn.distance, some Fn.move, some Fn.law_cell_at, some Fn.law_mixed, some Fn.law_wheel, some Fn.law_whole, none, none, some Fn.done, some Fn.changes, some Fn.law_change, some Fn.law_is, none, none, none, none, none, none, none, none, some Fn.crowd_of, some Fn.law_tuple, none, some Fn.changed, some Fn.others, some Fn.common, some Fn.law_crowd, some Fn.law_some, none, none, none, none, none, none, none, none, none, some Fn.law_row, some Fn.law_sized, none, none, none, some Fn.ways, some Fn.law_changed, some Fn.law_first, some Fn.law_right_k10, some Fn.law_k10, none, none, none, none, none, none, none, none, none, none, none, none, none, none, none, none, none, none, none, none, none, none, none, none, none, none, none, none, none, none, none, none, none, none, none, none, none, none, none, none, none, none, none, none, none, none, none, none, none, none, none, none, none, none, none, none, none, none, none, none, none, none, none, none, none, none, none, none, none, none, none, none, none, none, none, none, none, none, none, none, none, none, none, none, none, none, none, none, none, none, none, none, none, none, none, none, none, none, none, none, none, none, none, none, none, none, none, none, none, none, none, some Fn.formed, some Fn.forms, some Fn.law_form, some Fn.law_formed, some Fn.law_k37]
def PtI : List (Option MF) := []
def Pt (n : Nat) : Option MF := if n < 5000 then (PtL[n]?).getD none else (PtI[(n - 5000) / 10]?).getD none
theorem Pt_step : Pt 0 = some Fn.step := rfl
theorem Pt_distance : Pt 1 = some Fn.distance := rfl
theorem Pt_move : Pt 2 = some Fn.move := rfl
theorem Pt_law_cell_at : Pt 3 = some Fn.law_cell_at := rfl
theorem Pt_law_mixed : Pt 4 = some Fn.law_mixed := rfl
theorem Pt_law_wheel : Pt 5 = some Fn.law_wheel := rfl
theorem Pt_law_whole : Pt 6 = some Fn.law_whole := rfl
theorem Pt_done : Pt 9 = some Fn.done := rfl
theorem Pt_changes : Pt 10 = some Fn.changes := rfl
theorem Pt_law_change : Pt 11 = some Fn.law_change := rfl
theorem Pt_law_is : Pt 12 = some Fn.law_is := rfl
theorem Pt_crowd_of : Pt 21 = some Fn.crowd_of := rfl
theorem Pt_law_tuple : Pt 22 = some Fn.law_tuple := rfl
theorem Pt_changed : Pt 24 = some Fn.changed := rfl
theorem Pt_others : Pt 25 = some Fn.others := rfl
theorem Pt_common : Pt 26 = some Fn.common := rfl
theorem Pt_law_crowd : Pt 27 = some Fn.law_crowd := rfl
theorem Pt_law_some : Pt 28 = some Fn.law_some := rfl
theorem Pt_law_row : Pt 38 = some Fn.law_row := rfl
theorem Pt_law_sized : Pt 39 = some Fn.law_sized := rfl
theorem Pt_ways : Pt 43 = some Fn.ways := rfl
theorem Pt_law_changed : Pt 44 = some Fn.law_changed := rfl
theorem Pt_law_first : Pt 45 = some Fn.law_first := rfl
theorem Pt_law_right_k10 : Pt 46 = some Fn.law_right_k10 := rfl
theorem Pt_law_k10 : Pt 47 = some Fn.law_k10 := rfl
theorem Pt_formed : Pt 159 = some Fn.formed := rfl
theorem Pt_forms : Pt 160 = some Fn.forms := rfl
theorem Pt_law_form : Pt 161 = some Fn.law_form := rfl
theorem Pt_law_formed : Pt 162 = some Fn.law_formed := rfl
theorem Pt_law_k37 : Pt 163 = some Fn.law_k37 := rfl
end ML
set_option Elab.async false
set_option linter.all false
set_option autoImplicit false
set_option maxRecDepth 100000
set_option maxHeartbeats 4000000
/-! MLbase: the defs that all laws share. -/
namespace ML
open PySem
theorem beqI (a b : Int) : (a == b) = decide (a = b) := by
  by_cases h : a = b
  · rw [decide_eq_true h]; exact beq_iff_eq.mpr h
  · rw [decide_eq_false h]; exact beq_eq_false_iff_ne.mpr h
theorem beqS (a b : Str) : (a == b) = decide (a = b) := by
  by_cases h : a = b
  · rw [decide_eq_true h]; exact beq_iff_eq.mpr h
  · rw [decide_eq_false h]; exact beq_eq_false_iff_ne.mpr h
theorem natc0 : ((0 : Nat) : Int) = 0 := rfl
theorem natc1 : ((1 : Nat) : Int) = 1 := rfl
theorem beqB (a b : Bool) : (a == b) = decide (a = b) := by cases a <;> cases b <;> rfl
theorem sg_turn : signsOk "turn" = true := by decide +kernel
theorem sg_mirror : signsOk "mirror" = true := by decide +kernel
theorem sg_up : signsOk "up" = true := by decide +kernel
theorem sg_down : signsOk "down" = true := by decide +kernel
theorem sg_a : signsOk "a" = true := by decide +kernel
theorem sg_b : signsOk "b" = true := by decide +kernel
theorem sg_c : signsOk "c" = true := by decide +kernel
theorem ne_mt : (("mirror" : Str) = "turn") = False := by
  apply eq_false
  decide +kernel
theorem ne_tm : (("turn" : Str) = "mirror") = False := by
  apply eq_false
  decide +kernel
theorem ne_ud : (("up" : Str) = "down") = False := by
  apply eq_false
  decide +kernel
theorem ne_du : (("down" : Str) = "up") = False := by
  apply eq_false
  decide +kernel
theorem whole_int (k : Nat) (i : Int) : callF Pt (k + 1) 6 [.int i] = some (.fro (.bl true)) := by
  rw [callF, Pt_law_whole]
  simp -dsimp -implicitDefEqProofs only [evBody, argS, endF, els_some, orI_some, orI_none, frzAll, Sv.frz, Rv.imm, Sv.imm, D.imm, D.imms, cond_true, cond_false, Bool.cond_self, D.lt, D.lts, D.alike, D.alikes, ordOk, MulOk, LINE, ixN, startE, evSs, evS, evE, evEs, evB, evO, evC, frzs, frz, conts, cont, look, slotOf, Sv.rv, bnd_some, bnd_none, mpd_some, mpd_none, binop, cmpop, idxop, sliop, asI, asB, primF, kill, ML.bind, bindT, D.isTy, D.okd, D.okds, D.eqv, D.eqvs, D.flat, D.ints, D.bls, DEEP, itF, itSeq, itR1, itR2, itEn, itZ, itRev, mutF, ownL, augF, whC, whB, cmpB, forB, List.map_cons, List.map_nil, List.cons_append, List.nil_append, List.append_nil, List.length_cons, List.length_nil, List.replicate, List.getElem?_cons_zero, List.getElem?_cons_succ, List.set_cons_zero, List.set_cons_succ, Nat.zero_add, Nat.reduceAdd, Nat.reduceSub, Nat.reduceLeDiff, ite_true, ite_false, if_true, if_false, Bool.true_eq_false, Bool.false_eq_true, reduceIte, reduceCtorEq, Bool.not_true, Bool.not_false, Bool.and_true, Bool.and_self, Bool.true_and, Bool.false_and, Bool.and_false, Bool.or_true, Bool.true_or, Bool.or_false, Bool.false_or, and_self, and_true, true_and, true_or, or_true, Int.reduceLT, Int.reduceLE, Int.reducePow, Int.reduceNeg, Int.reduceMul, Int.reduceAdd, Int.reduceSub, Int.reduceToNat, fusF, D.items, List.all_cons, List.all_nil, id, Nat.reduceLT, Nat.reducePow, decide_true, decide_false, decide_eq_true_eq, beqI, beqS, beqB, bne, natc0, natc1, Int.cast_ofNat_Int, sg_turn, sg_mirror, sg_up, sg_down, sg_a, sg_b, sg_c, ne_mt, ne_tm, ne_ud, ne_du, Bool.not_eq_eq_eq_not, Bool.not_true, decide_eq_false_iff_not, Decidable.not_not, BEq.rfl, not_true_eq_false, not_false_eq_true, Fn.law_whole]
theorem step_c (k : Nat) {n a b : Int} (hn : 0 < n) : callF Pt (k + 1) 0 [.int n, .int a, .int b] = some (.fro (.int ((b - a) % n))) := by
  rw [callF, Pt_step]
  simp -dsimp -implicitDefEqProofs only [evBody, argS, endF, els_some, orI_some, orI_none, frzAll, Sv.frz, Rv.imm, Sv.imm, D.imm, D.imms, cond_true, cond_false, Bool.cond_self, D.lt, D.lts, D.alike, D.alikes, ordOk, MulOk, LINE, ixN, startE, evSs, evS, evE, evEs, evB, evO, evC, frzs, frz, conts, cont, look, slotOf, Sv.rv, bnd_some, bnd_none, mpd_some, mpd_none, binop, cmpop, idxop, sliop, asI, asB, primF, kill, ML.bind, bindT, D.isTy, D.okd, D.okds, D.eqv, D.eqvs, D.flat, D.ints, D.bls, DEEP, itF, itSeq, itR1, itR2, itEn, itZ, itRev, mutF, ownL, augF, whC, whB, cmpB, forB, List.map_cons, List.map_nil, List.cons_append, List.nil_append, List.append_nil, List.length_cons, List.length_nil, List.replicate, List.getElem?_cons_zero, List.getElem?_cons_succ, List.set_cons_zero, List.set_cons_succ, Nat.zero_add, Nat.reduceAdd, Nat.reduceSub, Nat.reduceLeDiff, ite_true, ite_false, if_true, if_false, Bool.true_eq_false, Bool.false_eq_true, reduceIte, reduceCtorEq, Bool.not_true, Bool.not_false, Bool.and_true, Bool.and_self, Bool.true_and, Bool.false_and, Bool.and_false, Bool.or_true, Bool.true_or, Bool.or_false, Bool.false_or, and_self, and_true, true_and, true_or, or_true, Int.reduceLT, Int.reduceLE, Int.reducePow, Int.reduceNeg, Int.reduceMul, Int.reduceAdd, Int.reduceSub, Int.reduceToNat, fusF, D.items, List.all_cons, List.all_nil, id, Nat.reduceLT, Nat.reducePow, decide_true, decide_false, decide_eq_true_eq, beqI, beqS, beqB, bne, natc0, natc1, Int.cast_ofNat_Int, sg_turn, sg_mirror, sg_up, sg_down, sg_a, sg_b, sg_c, ne_mt, ne_tm, ne_ud, ne_du, Bool.not_eq_eq_eq_not, Bool.not_true, decide_eq_false_iff_not, Decidable.not_not, BEq.rfl, not_true_eq_false, not_false_eq_true, Fn.step, hn]

theorem distance_c (k : Nat) {n a b : Int} (hn : 0 < n) : callF Pt (k + 2) 1 [.int n, .int a, .int b] = some (.fro (.int (if (a - b) % n < (b - a) % n then (a - b) % n else (b - a) % n))) := by
  rw [callF, Pt_distance]
  simp -dsimp -implicitDefEqProofs only [evBody, argS, endF, els_some, orI_some, orI_none, frzAll, Sv.frz, Rv.imm, Sv.imm, D.imm, D.imms, cond_true, cond_false, Bool.cond_self, D.lt, D.lts, D.alike, D.alikes, ordOk, MulOk, LINE, ixN, startE, evSs, evS, evE, evEs, evB, evO, evC, frzs, frz, conts, cont, look, slotOf, Sv.rv, bnd_some, bnd_none, mpd_some, mpd_none, binop, cmpop, idxop, sliop, asI, asB, primF, kill, ML.bind, bindT, D.isTy, D.okd, D.okds, D.eqv, D.eqvs, D.flat, D.ints, D.bls, DEEP, itF, itSeq, itR1, itR2, itEn, itZ, itRev, mutF, ownL, augF, whC, whB, cmpB, forB, List.map_cons, List.map_nil, List.cons_append, List.nil_append, List.append_nil, List.length_cons, List.length_nil, List.replicate, List.getElem?_cons_zero, List.getElem?_cons_succ, List.set_cons_zero, List.set_cons_succ, Nat.zero_add, Nat.reduceAdd, Nat.reduceSub, Nat.reduceLeDiff, ite_true, ite_false, if_true, if_false, Bool.true_eq_false, Bool.false_eq_true, reduceIte, reduceCtorEq, Bool.not_true, Bool.not_false, Bool.and_true, Bool.and_self, Bool.true_and, Bool.false_and, Bool.and_false, Bool.or_true, Bool.true_or, Bool.or_false, Bool.false_or, and_self, and_true, true_and, true_or, or_true, Int.reduceLT, Int.reduceLE, Int.reducePow, Int.reduceNeg, Int.reduceMul, Int.reduceAdd, Int.reduceSub, Int.reduceToNat, fusF, D.items, List.all_cons, List.all_nil, id, Nat.reduceLT, Nat.reducePow, decide_true, decide_false, decide_eq_true_eq, beqI, beqS, beqB, bne, natc0, natc1, Int.cast_ofNat_Int, sg_turn, sg_mirror, sg_up, sg_down, sg_a, sg_b, sg_c, ne_mt, ne_tm, ne_ud, ne_du, Bool.not_eq_eq_eq_not, Bool.not_true, decide_eq_false_iff_not, Decidable.not_not, BEq.rfl, not_true_eq_false, not_false_eq_true, Fn.distance, step_c _ hn]
theorem move_c (k : Nat) {n a b : Int} (hn : 0 < n) : callF Pt (k + 2) 2 [.int n, .int a, .int b] = some (.fro (.int (if 2 * ((b - a) % n) ≤ n then (b - a) % n else (b - a) % n - n))) := by
  rw [callF, Pt_move]
  simp -dsimp -implicitDefEqProofs only [evBody, argS, endF, els_some, orI_some, orI_none, frzAll, Sv.frz, Rv.imm, Sv.imm, D.imm, D.imms, cond_true, cond_false, Bool.cond_self, D.lt, D.lts, D.alike, D.alikes, ordOk, MulOk, LINE, ixN, startE, evSs, evS, evE, evEs, evB, evO, evC, frzs, frz, conts, cont, look, slotOf, Sv.rv, bnd_some, bnd_none, mpd_some, mpd_none, binop, cmpop, idxop, sliop, asI, asB, primF, kill, ML.bind, bindT, D.isTy, D.okd, D.okds, D.eqv, D.eqvs, D.flat, D.ints, D.bls, DEEP, itF, itSeq, itR1, itR2, itEn, itZ, itRev, mutF, ownL, augF, whC, whB, cmpB, forB, List.map_cons, List.map_nil, List.cons_append, List.nil_append, List.append_nil, List.length_cons, List.length_nil, List.replicate, List.getElem?_cons_zero, List.getElem?_cons_succ, List.set_cons_zero, List.set_cons_succ, Nat.zero_add, Nat.reduceAdd, Nat.reduceSub, Nat.reduceLeDiff, ite_true, ite_false, if_true, if_false, Bool.true_eq_false, Bool.false_eq_true, reduceIte, reduceCtorEq, Bool.not_true, Bool.not_false, Bool.and_true, Bool.and_self, Bool.true_and, Bool.false_and, Bool.and_false, Bool.or_true, Bool.true_or, Bool.or_false, Bool.false_or, and_self, and_true, true_and, true_or, or_true, Int.reduceLT, Int.reduceLE, Int.reducePow, Int.reduceNeg, Int.reduceMul, Int.reduceAdd, Int.reduceSub, Int.reduceToNat, fusF, D.items, List.all_cons, List.all_nil, id, Nat.reduceLT, Nat.reducePow, decide_true, decide_false, decide_eq_true_eq, beqI, beqS, beqB, bne, natc0, natc1, Int.cast_ofNat_Int, sg_turn, sg_mirror, sg_up, sg_down, sg_a, sg_b, sg_c, ne_mt, ne_tm, ne_ud, ne_du, Bool.not_eq_eq_eq_not, Bool.not_true, decide_eq_false_iff_not, Decidable.not_not, BEq.rfl, not_true_eq_false, not_false_eq_true, Fn.move, step_c _ hn]
  have h := Int.emod_nonneg (b - a) (b := n) (by omega)
  by_cases c : 2 * ((b - a) % n) ≤ n
  · simp -dsimp -implicitDefEqProofs only [evBody, argS, endF, els_some, orI_some, orI_none, frzAll, Sv.frz, Rv.imm, Sv.imm, D.imm, D.imms, cond_true, cond_false, Bool.cond_self, D.lt, D.lts, D.alike, D.alikes, ordOk, MulOk, LINE, ixN, startE, evSs, evS, evE, evEs, evB, evO, evC, frzs, frz, conts, cont, look, slotOf, Sv.rv, bnd_some, bnd_none, mpd_some, mpd_none, binop, cmpop, idxop, sliop, asI, asB, primF, kill, ML.bind, bindT, D.isTy, D.okd, D.okds, D.eqv, D.eqvs, D.flat, D.ints, D.bls, DEEP, itF, itSeq, itR1, itR2, itEn, itZ, itRev, mutF, ownL, augF, whC, whB, cmpB, forB, List.map_cons, List.map_nil, List.cons_append, List.nil_append, List.append_nil, List.length_cons, List.length_nil, List.replicate, List.getElem?_cons_zero, List.getElem?_cons_succ, List.set_cons_zero, List.set_cons_succ, Nat.zero_add, Nat.reduceAdd, Nat.reduceSub, Nat.reduceLeDiff, ite_true, ite_false, if_true, if_false, Bool.true_eq_false, Bool.false_eq_true, reduceIte, reduceCtorEq, Bool.not_true, Bool.not_false, Bool.and_true, Bool.and_self, Bool.true_and, Bool.false_and, Bool.and_false, Bool.or_true, Bool.true_or, Bool.or_false, Bool.false_or, and_self, and_true, true_and, true_or, or_true, Int.reduceLT, Int.reduceLE, Int.reducePow, Int.reduceNeg, Int.reduceMul, Int.reduceAdd, Int.reduceSub, Int.reduceToNat, fusF, D.items, List.all_cons, List.all_nil, id, Nat.reduceLT, Nat.reducePow, decide_true, decide_false, decide_eq_true_eq, beqI, beqS, beqB, bne, natc0, natc1, Int.cast_ofNat_Int, sg_turn, sg_mirror, sg_up, sg_down, sg_a, sg_b, sg_c, ne_mt, ne_tm, ne_ud, ne_du, Bool.not_eq_eq_eq_not, Bool.not_true, decide_eq_false_iff_not, Decidable.not_not, BEq.rfl, not_true_eq_false, not_false_eq_true, c, decide_true]
  · simp -dsimp -implicitDefEqProofs only [evBody, argS, endF, els_some, orI_some, orI_none, frzAll, Sv.frz, Rv.imm, Sv.imm, D.imm, D.imms, cond_true, cond_false, Bool.cond_self, D.lt, D.lts, D.alike, D.alikes, ordOk, MulOk, LINE, ixN, startE, evSs, evS, evE, evEs, evB, evO, evC, frzs, frz, conts, cont, look, slotOf, Sv.rv, bnd_some, bnd_none, mpd_some, mpd_none, binop, cmpop, idxop, sliop, asI, asB, primF, kill, ML.bind, bindT, D.isTy, D.okd, D.okds, D.eqv, D.eqvs, D.flat, D.ints, D.bls, DEEP, itF, itSeq, itR1, itR2, itEn, itZ, itRev, mutF, ownL, augF, whC, whB, cmpB, forB, List.map_cons, List.map_nil, List.cons_append, List.nil_append, List.append_nil, List.length_cons, List.length_nil, List.replicate, List.getElem?_cons_zero, List.getElem?_cons_succ, List.set_cons_zero, List.set_cons_succ, Nat.zero_add, Nat.reduceAdd, Nat.reduceSub, Nat.reduceLeDiff, ite_true, ite_false, if_true, if_false, Bool.true_eq_false, Bool.false_eq_true, reduceIte, reduceCtorEq, Bool.not_true, Bool.not_false, Bool.and_true, Bool.and_self, Bool.true_and, Bool.false_and, Bool.and_false, Bool.or_true, Bool.true_or, Bool.or_false, Bool.false_or, and_self, and_true, true_and, true_or, or_true, Int.reduceLT, Int.reduceLE, Int.reducePow, Int.reduceNeg, Int.reduceMul, Int.reduceAdd, Int.reduceSub, Int.reduceToNat, fusF, D.items, List.all_cons, List.all_nil, id, Nat.reduceLT, Nat.reducePow, decide_true, decide_false, decide_eq_true_eq, beqI, beqS, beqB, bne, natc0, natc1, Int.cast_ofNat_Int, sg_turn, sg_mirror, sg_up, sg_down, sg_a, sg_b, sg_c, ne_mt, ne_tm, ne_ud, ne_du, Bool.not_eq_eq_eq_not, Bool.not_true, decide_eq_false_iff_not, Decidable.not_not, BEq.rfl, not_true_eq_false, not_false_eq_true, c, decide_false]
theorem cell_c (k : Nat) (ns : List Int) (i : Int) : ∃ c : Int, callF Pt (k + 1) 3 [.scr ns, .int i] = some (.fro (.int c)) := by
  rw [callF, Pt_law_cell_at]
  simp -dsimp -implicitDefEqProofs only [evBody, argS, endF, els_some, orI_some, orI_none, frzAll, Sv.frz, Rv.imm, Sv.imm, D.imm, D.imms, cond_true, cond_false, Bool.cond_self, D.lt, D.lts, D.alike, D.alikes, ordOk, MulOk, LINE, ixN, startE, evSs, evS, evE, evEs, evB, evO, evC, frzs, frz, conts, cont, look, slotOf, Sv.rv, bnd_some, bnd_none, mpd_some, mpd_none, binop, cmpop, idxop, sliop, asI, asB, primF, kill, ML.bind, bindT, D.isTy, D.okd, D.okds, D.eqv, D.eqvs, D.flat, D.ints, D.bls, DEEP, itF, itSeq, itR1, itR2, itEn, itZ, itRev, mutF, ownL, augF, whC, whB, cmpB, forB, List.map_cons, List.map_nil, List.cons_append, List.nil_append, List.append_nil, List.length_cons, List.length_nil, List.replicate, List.getElem?_cons_zero, List.getElem?_cons_succ, List.set_cons_zero, List.set_cons_succ, Nat.zero_add, Nat.reduceAdd, Nat.reduceSub, Nat.reduceLeDiff, ite_true, ite_false, if_true, if_false, Bool.true_eq_false, Bool.false_eq_true, reduceIte, reduceCtorEq, Bool.not_true, Bool.not_false, Bool.and_true, Bool.and_self, Bool.true_and, Bool.false_and, Bool.and_false, Bool.or_true, Bool.true_or, Bool.or_false, Bool.false_or, and_self, and_true, true_and, true_or, or_true, Int.reduceLT, Int.reduceLE, Int.reducePow, Int.reduceNeg, Int.reduceMul, Int.reduceAdd, Int.reduceSub, Int.reduceToNat, fusF, D.items, List.all_cons, List.all_nil, id, Nat.reduceLT, Nat.reducePow, decide_true, decide_false, decide_eq_true_eq, beqI, beqS, beqB, bne, natc0, natc1, Int.cast_ofNat_Int, sg_turn, sg_mirror, sg_up, sg_down, sg_a, sg_b, sg_c, ne_mt, ne_tm, ne_ud, ne_du, Bool.not_eq_eq_eq_not, Bool.not_true, decide_eq_false_iff_not, Decidable.not_not, BEq.rfl, not_true_eq_false, not_false_eq_true, Fn.law_cell_at]
  by_cases c : ns = []
  · subst c
    exact ⟨0, rfl⟩
  · have hl : 0 < ns.length := List.length_pos_iff.mpr c
    have h0 : ¬ (ns.length : Int) = 0 := by omega
    have h1 := Int.emod_nonneg i (b := (ns.length : Int)) (by omega)
    have h2 := Int.emod_lt_of_pos i (b := (ns.length : Int)) (by omega)
    have h3 : (i % (ns.length : Int)).toNat < ns.length := by omega
    have h4 : (0 : Int) < ns.length := by omega
    simp -dsimp -implicitDefEqProofs only [evBody, argS, endF, els_some, orI_some, orI_none, frzAll, Sv.frz, Rv.imm, Sv.imm, D.imm, D.imms, cond_true, cond_false, Bool.cond_self, D.lt, D.lts, D.alike, D.alikes, ordOk, MulOk, LINE, ixN, startE, evSs, evS, evE, evEs, evB, evO, evC, frzs, frz, conts, cont, look, slotOf, Sv.rv, bnd_some, bnd_none, mpd_some, mpd_none, binop, cmpop, idxop, sliop, asI, asB, primF, kill, ML.bind, bindT, D.isTy, D.okd, D.okds, D.eqv, D.eqvs, D.flat, D.ints, D.bls, DEEP, itF, itSeq, itR1, itR2, itEn, itZ, itRev, mutF, ownL, augF, whC, whB, cmpB, forB, List.map_cons, List.map_nil, List.cons_append, List.nil_append, List.append_nil, List.length_cons, List.length_nil, List.replicate, List.getElem?_cons_zero, List.getElem?_cons_succ, List.set_cons_zero, List.set_cons_succ, Nat.zero_add, Nat.reduceAdd, Nat.reduceSub, Nat.reduceLeDiff, ite_true, ite_false, if_true, if_false, Bool.true_eq_false, Bool.false_eq_true, reduceIte, reduceCtorEq, Bool.not_true, Bool.not_false, Bool.and_true, Bool.and_self, Bool.true_and, Bool.false_and, Bool.and_false, Bool.or_true, Bool.true_or, Bool.or_false, Bool.false_or, and_self, and_true, true_and, true_or, or_true, Int.reduceLT, Int.reduceLE, Int.reducePow, Int.reduceNeg, Int.reduceMul, Int.reduceAdd, Int.reduceSub, Int.reduceToNat, fusF, D.items, List.all_cons, List.all_nil, id, Nat.reduceLT, Nat.reducePow, decide_true, decide_false, decide_eq_true_eq, beqI, beqS, beqB, bne, natc0, natc1, Int.cast_ofNat_Int, sg_turn, sg_mirror, sg_up, sg_down, sg_a, sg_b, sg_c, ne_mt, ne_tm, ne_ud, ne_du, Bool.not_eq_eq_eq_not, Bool.not_true, decide_eq_false_iff_not, Decidable.not_not, BEq.rfl, not_true_eq_false, not_false_eq_true, h0, ixN, h1, h2, h4, List.getElem?_eq_getElem h3]
    exact ⟨_, rfl⟩
theorem mixed_c (k : Nat) (ns : List Int) (hl : ns.length ≤ 63) {i s : Int} (hi : 0 ≤ i) (hi' : i < 4294967296) (hs : 0 ≤ s) (hs' : s < 4294967296) : ∃ c : Int, callF Pt (k + 2) 4 [.scr ns, .int i, .int s] = some (.fro (.int c)) ∧ 0 ≤ c ∧ c < 2147483648 := by
  obtain ⟨c, hc⟩ := cell_c k ns i
  rw [callF, Pt_law_mixed]
  simp -dsimp -implicitDefEqProofs only [evBody, argS, endF, els_some, orI_some, orI_none, frzAll, Sv.frz, Rv.imm, Sv.imm, D.imm, D.imms, cond_true, cond_false, Bool.cond_self, D.lt, D.lts, D.alike, D.alikes, ordOk, MulOk, LINE, ixN, startE, evSs, evS, evE, evEs, evB, evO, evC, frzs, frz, conts, cont, look, slotOf, Sv.rv, bnd_some, bnd_none, mpd_some, mpd_none, binop, cmpop, idxop, sliop, asI, asB, primF, kill, ML.bind, bindT, D.isTy, D.okd, D.okds, D.eqv, D.eqvs, D.flat, D.ints, D.bls, DEEP, itF, itSeq, itR1, itR2, itEn, itZ, itRev, mutF, ownL, augF, whC, whB, cmpB, forB, List.map_cons, List.map_nil, List.cons_append, List.nil_append, List.append_nil, List.length_cons, List.length_nil, List.replicate, List.getElem?_cons_zero, List.getElem?_cons_succ, List.set_cons_zero, List.set_cons_succ, Nat.zero_add, Nat.reduceAdd, Nat.reduceSub, Nat.reduceLeDiff, ite_true, ite_false, if_true, if_false, Bool.true_eq_false, Bool.false_eq_true, reduceIte, reduceCtorEq, Bool.not_true, Bool.not_false, Bool.and_true, Bool.and_self, Bool.true_and, Bool.false_and, Bool.and_false, Bool.or_true, Bool.true_or, Bool.or_false, Bool.false_or, and_self, and_true, true_and, true_or, or_true, Int.reduceLT, Int.reduceLE, Int.reducePow, Int.reduceNeg, Int.reduceMul, Int.reduceAdd, Int.reduceSub, Int.reduceToNat, fusF, D.items, List.all_cons, List.all_nil, id, Nat.reduceLT, Nat.reducePow, decide_true, decide_false, decide_eq_true_eq, beqI, beqS, beqB, bne, natc0, natc1, Int.cast_ofNat_Int, sg_turn, sg_mirror, sg_up, sg_down, sg_a, sg_b, sg_c, ne_mt, ne_tm, ne_ud, ne_du, Bool.not_eq_eq_eq_not, Bool.not_true, decide_eq_false_iff_not, Decidable.not_not, BEq.rfl, not_true_eq_false, not_false_eq_true, Fn.law_mixed, hc]
  generalize hm : (if (ns.length : Int) > 1 then (ns.length : Int) else 1) = m
  have hm1 : 0 < m ∧ m < 1073741824 := by
    rw [← hm]
    split <;> omega
  simp -dsimp -implicitDefEqProofs only [evBody, argS, endF, els_some, orI_some, orI_none, frzAll, Sv.frz, Rv.imm, Sv.imm, D.imm, D.imms, cond_true, cond_false, Bool.cond_self, D.lt, D.lts, D.alike, D.alikes, ordOk, MulOk, LINE, ixN, startE, evSs, evS, evE, evEs, evB, evO, evC, frzs, frz, conts, cont, look, slotOf, Sv.rv, bnd_some, bnd_none, mpd_some, mpd_none, binop, cmpop, idxop, sliop, asI, asB, primF, kill, ML.bind, bindT, D.isTy, D.okd, D.okds, D.eqv, D.eqvs, D.flat, D.ints, D.bls, DEEP, itF, itSeq, itR1, itR2, itEn, itZ, itRev, mutF, ownL, augF, whC, whB, cmpB, forB, List.map_cons, List.map_nil, List.cons_append, List.nil_append, List.append_nil, List.length_cons, List.length_nil, List.replicate, List.getElem?_cons_zero, List.getElem?_cons_succ, List.set_cons_zero, List.set_cons_succ, Nat.zero_add, Nat.reduceAdd, Nat.reduceSub, Nat.reduceLeDiff, ite_true, ite_false, if_true, if_false, Bool.true_eq_false, Bool.false_eq_true, reduceIte, reduceCtorEq, Bool.not_true, Bool.not_false, Bool.and_true, Bool.and_self, Bool.true_and, Bool.false_and, Bool.and_false, Bool.or_true, Bool.true_or, Bool.or_false, Bool.false_or, and_self, and_true, true_and, true_or, or_true, Int.reduceLT, Int.reduceLE, Int.reducePow, Int.reduceNeg, Int.reduceMul, Int.reduceAdd, Int.reduceSub, Int.reduceToNat, fusF, D.items, List.all_cons, List.all_nil, id, Nat.reduceLT, Nat.reducePow, decide_true, decide_false, decide_eq_true_eq, beqI, beqS, beqB, bne, natc0, natc1, Int.cast_ofNat_Int, sg_turn, sg_mirror, sg_up, sg_down, sg_a, sg_b, sg_c, ne_mt, ne_tm, ne_ud, ne_du, Bool.not_eq_eq_eq_not, Bool.not_true, decide_eq_false_iff_not, Decidable.not_not, BEq.rfl, not_true_eq_false, not_false_eq_true, hm1]
  have b1 : (-18446744073709551616 < i ∧ i < 18446744073709551616) := by omega
  have b2 : (-18446744073709551616 < s ∧ s < 18446744073709551616) := by omega
  simp -dsimp -implicitDefEqProofs only [evBody, argS, endF, els_some, orI_some, orI_none, frzAll, Sv.frz, Rv.imm, Sv.imm, D.imm, D.imms, cond_true, cond_false, Bool.cond_self, D.lt, D.lts, D.alike, D.alikes, ordOk, MulOk, LINE, ixN, startE, evSs, evS, evE, evEs, evB, evO, evC, frzs, frz, conts, cont, look, slotOf, Sv.rv, bnd_some, bnd_none, mpd_some, mpd_none, binop, cmpop, idxop, sliop, asI, asB, primF, kill, ML.bind, bindT, D.isTy, D.okd, D.okds, D.eqv, D.eqvs, D.flat, D.ints, D.bls, DEEP, itF, itSeq, itR1, itR2, itEn, itZ, itRev, mutF, ownL, augF, whC, whB, cmpB, forB, List.map_cons, List.map_nil, List.cons_append, List.nil_append, List.append_nil, List.length_cons, List.length_nil, List.replicate, List.getElem?_cons_zero, List.getElem?_cons_succ, List.set_cons_zero, List.set_cons_succ, Nat.zero_add, Nat.reduceAdd, Nat.reduceSub, Nat.reduceLeDiff, ite_true, ite_false, if_true, if_false, Bool.true_eq_false, Bool.false_eq_true, reduceIte, reduceCtorEq, Bool.not_true, Bool.not_false, Bool.and_true, Bool.and_self, Bool.true_and, Bool.false_and, Bool.and_false, Bool.or_true, Bool.true_or, Bool.or_false, Bool.false_or, and_self, and_true, true_and, true_or, or_true, Int.reduceLT, Int.reduceLE, Int.reducePow, Int.reduceNeg, Int.reduceMul, Int.reduceAdd, Int.reduceSub, Int.reduceToNat, fusF, D.items, List.all_cons, List.all_nil, id, Nat.reduceLT, Nat.reducePow, decide_true, decide_false, decide_eq_true_eq, beqI, beqS, beqB, bne, natc0, natc1, Int.cast_ofNat_Int, sg_turn, sg_mirror, sg_up, sg_down, sg_a, sg_b, sg_c, ne_mt, ne_tm, ne_ud, ne_du, Bool.not_eq_eq_eq_not, Bool.not_true, decide_eq_false_iff_not, Decidable.not_not, BEq.rfl, not_true_eq_false, not_false_eq_true, b1, b2]
  generalize (Builtin.bitAnd c 2147483647 + 1009 * i * i + 7919 * s * s + 12) * 48271 = y
  have h1 := Int.emod_nonneg y (b := 2147483647) (by decide)
  have h2 := Int.emod_lt_of_pos y (b := 2147483647) (by decide)
  have b3 : (-18446744073709551616 < y % 2147483647 ∧ y % 2147483647 < 18446744073709551616) := by omega
  have h3 : 0 ≤ i / m := Int.ediv_nonneg hi (by omega)
  have b4 : 0 ≤ 31 * (s + 128 * (i / m)) := by omega

  simp -dsimp -implicitDefEqProofs only [evBody, argS, endF, els_some, orI_some, orI_none, frzAll, Sv.frz, Rv.imm, Sv.imm, D.imm, D.imms, cond_true, cond_false, Bool.cond_self, D.lt, D.lts, D.alike, D.alikes, ordOk, MulOk, LINE, ixN, startE, evSs, evS, evE, evEs, evB, evO, evC, frzs, frz, conts, cont, look, slotOf, Sv.rv, bnd_some, bnd_none, mpd_some, mpd_none, binop, cmpop, idxop, sliop, asI, asB, primF, kill, ML.bind, bindT, D.isTy, D.okd, D.okds, D.eqv, D.eqvs, D.flat, D.ints, D.bls, DEEP, itF, itSeq, itR1, itR2, itEn, itZ, itRev, mutF, ownL, augF, whC, whB, cmpB, forB, List.map_cons, List.map_nil, List.cons_append, List.nil_append, List.append_nil, List.length_cons, List.length_nil, List.replicate, List.getElem?_cons_zero, List.getElem?_cons_succ, List.set_cons_zero, List.set_cons_succ, Nat.zero_add, Nat.reduceAdd, Nat.reduceSub, Nat.reduceLeDiff, ite_true, ite_false, if_true, if_false, Bool.true_eq_false, Bool.false_eq_true, reduceIte, reduceCtorEq, Bool.not_true, Bool.not_false, Bool.and_true, Bool.and_self, Bool.true_and, Bool.false_and, Bool.and_false, Bool.or_true, Bool.true_or, Bool.or_false, Bool.false_or, and_self, and_true, true_and, true_or, or_true, Int.reduceLT, Int.reduceLE, Int.reducePow, Int.reduceNeg, Int.reduceMul, Int.reduceAdd, Int.reduceSub, Int.reduceToNat, fusF, D.items, List.all_cons, List.all_nil, id, Nat.reduceLT, Nat.reducePow, decide_true, decide_false, decide_eq_true_eq, beqI, beqS, beqB, bne, natc0, natc1, Int.cast_ofNat_Int, sg_turn, sg_mirror, sg_up, sg_down, sg_a, sg_b, sg_c, ne_mt, ne_tm, ne_ud, ne_du, Bool.not_eq_eq_eq_not, Bool.not_true, decide_eq_false_iff_not, Decidable.not_not, BEq.rfl, not_true_eq_false, not_false_eq_true, b3, b4]
  refine ⟨_, rfl, ?_⟩
  have h := PyProof.Rows.bitAnd_range (c / 2 ^ (31 * (s + 128 * (i / m))).toNat + y % 2147483647 * (y % 2147483647) % 2147483629) (y := 2147483647) (by decide)
  omega
theorem wheel_c (k : Nat) (ns : List Int) (hl : ns.length ≤ 63) {m : Int} (hm : 3 ≤ m) : ∃ n : Int, callF Pt (k + 3) 5 [.scr ns, .int m] = some (.fro (.int n)) ∧ 3 ≤ n ∧ n ≤ m := by
  obtain ⟨c, hc, h1, h2⟩ := mixed_c k ns hl (i := 0) (s := 1) (by decide) (by decide) (by decide) (by decide)
  have h3 := Int.emod_nonneg c (b := m - 2) (by omega)
  have h4 := Int.emod_lt_of_pos c (b := m - 2) (by omega)
  have h5 : 0 < m - 2 := by omega
  refine ⟨3 + c % (m - 2), ?_, by omega, by omega⟩
  rw [callF, Pt_law_wheel]
  simp -dsimp -implicitDefEqProofs only [evBody, argS, endF, els_some, orI_some, orI_none, frzAll, Sv.frz, Rv.imm, Sv.imm, D.imm, D.imms, cond_true, cond_false, Bool.cond_self, D.lt, D.lts, D.alike, D.alikes, ordOk, MulOk, LINE, ixN, startE, evSs, evS, evE, evEs, evB, evO, evC, frzs, frz, conts, cont, look, slotOf, Sv.rv, bnd_some, bnd_none, mpd_some, mpd_none, binop, cmpop, idxop, sliop, asI, asB, primF, kill, ML.bind, bindT, D.isTy, D.okd, D.okds, D.eqv, D.eqvs, D.flat, D.ints, D.bls, DEEP, itF, itSeq, itR1, itR2, itEn, itZ, itRev, mutF, ownL, augF, whC, whB, cmpB, forB, List.map_cons, List.map_nil, List.cons_append, List.nil_append, List.append_nil, List.length_cons, List.length_nil, List.replicate, List.getElem?_cons_zero, List.getElem?_cons_succ, List.set_cons_zero, List.set_cons_succ, Nat.zero_add, Nat.reduceAdd, Nat.reduceSub, Nat.reduceLeDiff, ite_true, ite_false, if_true, if_false, Bool.true_eq_false, Bool.false_eq_true, reduceIte, reduceCtorEq, Bool.not_true, Bool.not_false, Bool.and_true, Bool.and_self, Bool.true_and, Bool.false_and, Bool.and_false, Bool.or_true, Bool.true_or, Bool.or_false, Bool.false_or, and_self, and_true, true_and, true_or, or_true, Int.reduceLT, Int.reduceLE, Int.reducePow, Int.reduceNeg, Int.reduceMul, Int.reduceAdd, Int.reduceSub, Int.reduceToNat, fusF, D.items, List.all_cons, List.all_nil, id, Nat.reduceLT, Nat.reducePow, decide_true, decide_false, decide_eq_true_eq, beqI, beqS, beqB, bne, natc0, natc1, Int.cast_ofNat_Int, sg_turn, sg_mirror, sg_up, sg_down, sg_a, sg_b, sg_c, ne_mt, ne_tm, ne_ud, ne_du, Bool.not_eq_eq_eq_not, Bool.not_true, decide_eq_false_iff_not, Decidable.not_not, BEq.rfl, not_true_eq_false, not_false_eq_true, Fn.law_wheel, hc, h5]
theorem mem_rangeD {a : Int} {n : Nat} {x : D} (h : x ∈ rangeD a n) : ∃ i : Nat, i < n ∧ x = .int (a + (i : Int)) := by
  unfold rangeD at h
  obtain ⟨i, hi, e⟩ := List.mem_map.mp h
  exact ⟨i, List.mem_range.mp hi, e.symm⟩
theorem for_const {kl : List Nat} {body : D → Env → Option Out} {items : List D} {ρ : Env} (h : ∀ x ∈ items, ∃ ρ', body x ρ = some (.nx ρ') ∧ kill ρ' kl = ρ) : evFor kl body items ρ = some (.nx ρ) := by
  induction items with
  | nil => rfl
  | cons x xs ih =>
    obtain ⟨ρ', h1, h2⟩ := h x List.mem_cons_self
    rw [evFor, h1, bnd_some]
    dsimp only
    rw [h2]
    exact ih fun y hy => h y (List.mem_cons_of_mem _ hy)
theorem comp_map {body : D → Env → Option (Option D × Env)} {items : List D} {ρ : Env} (g : D → D) (h : ∀ x ∈ items, body x ρ = some (some (g x), ρ)) : evComp body items ρ = some (items.map g, ρ) := by
  induction items with
  | nil => rfl
  | cons x xs ih =>
    rw [evComp, h x List.mem_cons_self, bnd_some]
    dsimp only
    rw [ih fun y hy => h y (List.mem_cons_of_mem _ hy), bnd_some]
    rfl
theorem comp_filter {body : D → Env → Option (Option D × Env)} {items : List D} {ρ : Env} (p : D → Bool) (g : D → D) (h : ∀ x ∈ items, body x ρ = some (if p x then some (g x) else none, ρ)) : evComp body items ρ = some ((items.filter p).map g, ρ) := by
  induction items with
  | nil => rfl
  | cons x xs ih =>
    rw [evComp, h x List.mem_cons_self, bnd_some]
    dsimp only
    rw [ih fun y hy => h y (List.mem_cons_of_mem _ hy), bnd_some, List.filter_cons]
    cases p x <;> rfl
/-- a change -/
def chg (m : Bool) (t : Int) : D := .tup [.str (if m then "mirror" else "turn"), .int t]
def chgDo (n : Int) (m : Bool) (t x : Int) : Int := if m then (t - x) % n else (x + t) % n
theorem done_c (k : Nat) {n : Int} (hn : 0 < n) (m : Bool) (t x : Int) : callF Pt (k + 1) 9 [.int n, chg m t, .int x] = some (.fro (.int (chgDo n m t x))) := by
  rw [callF, Pt_done]
  cases m <;> simp -dsimp -implicitDefEqProofs only [evBody, argS, endF, els_some, orI_some, orI_none, frzAll, Sv.frz, Rv.imm, Sv.imm, D.imm, D.imms, cond_true, cond_false, Bool.cond_self, D.lt, D.lts, D.alike, D.alikes, ordOk, MulOk, LINE, ixN, startE, evSs, evS, evE, evEs, evB, evO, evC, frzs, frz, conts, cont, look, slotOf, Sv.rv, bnd_some, bnd_none, mpd_some, mpd_none, binop, cmpop, idxop, sliop, asI, asB, primF, kill, ML.bind, bindT, D.isTy, D.okd, D.okds, D.eqv, D.eqvs, D.flat, D.ints, D.bls, DEEP, itF, itSeq, itR1, itR2, itEn, itZ, itRev, mutF, ownL, augF, whC, whB, cmpB, forB, List.map_cons, List.map_nil, List.cons_append, List.nil_append, List.append_nil, List.length_cons, List.length_nil, List.replicate, List.getElem?_cons_zero, List.getElem?_cons_succ, List.set_cons_zero, List.set_cons_succ, Nat.zero_add, Nat.reduceAdd, Nat.reduceSub, Nat.reduceLeDiff, ite_true, ite_false, if_true, if_false, Bool.true_eq_false, Bool.false_eq_true, reduceIte, reduceCtorEq, Bool.not_true, Bool.not_false, Bool.and_true, Bool.and_self, Bool.true_and, Bool.false_and, Bool.and_false, Bool.or_true, Bool.true_or, Bool.or_false, Bool.false_or, and_self, and_true, true_and, true_or, or_true, Int.reduceLT, Int.reduceLE, Int.reducePow, Int.reduceNeg, Int.reduceMul, Int.reduceAdd, Int.reduceSub, Int.reduceToNat, fusF, D.items, List.all_cons, List.all_nil, id, Nat.reduceLT, Nat.reducePow, decide_true, decide_false, decide_eq_true_eq, beqI, beqS, beqB, bne, natc0, natc1, Int.cast_ofNat_Int, sg_turn, sg_mirror, sg_up, sg_down, sg_a, sg_b, sg_c, ne_mt, ne_tm, ne_ud, ne_du, Bool.not_eq_eq_eq_not, Bool.not_true, decide_eq_false_iff_not, Decidable.not_not, BEq.rfl, not_true_eq_false, not_false_eq_true, Fn.done, chg, chgDo, ixN, hn]
theorem change_c (k : Nat) (ns : List Int) (hl : ns.length ≤ 63) {i s n : Int} (hn : 0 < n) (hi : 0 ≤ i) (hi' : i < 4294967296) (hs : 0 ≤ s) (hs' : s < 4294967296) : ∃ (m : Bool) (t : Int), callF Pt (k + 3) 11 [.scr ns, .int i, .int s, .int n] = some (.fro (chg m t)) ∧ 0 ≤ t ∧ t < n := by
  obtain ⟨c, hc, h1, h2⟩ := mixed_c k ns hl hi hi' hs hs'
  have h3 := Int.emod_nonneg (c / 2) (b := n) (by omega)
  have h4 := Int.emod_lt_of_pos (c / 2) hn
  rw [callF, Pt_law_change]
  have h : c % 2 = 0 ∨ c % 2 = 1 := by omega
  rcases h with h | h
  · refine ⟨false, c / 2 % n, ?_, h3, h4⟩
    simp -dsimp -implicitDefEqProofs only [evBody, argS, endF, els_some, orI_some, orI_none, frzAll, Sv.frz, Rv.imm, Sv.imm, D.imm, D.imms, cond_true, cond_false, Bool.cond_self, D.lt, D.lts, D.alike, D.alikes, ordOk, MulOk, LINE, ixN, startE, evSs, evS, evE, evEs, evB, evO, evC, frzs, frz, conts, cont, look, slotOf, Sv.rv, bnd_some, bnd_none, mpd_some, mpd_none, binop, cmpop, idxop, sliop, asI, asB, primF, kill, ML.bind, bindT, D.isTy, D.okd, D.okds, D.eqv, D.eqvs, D.flat, D.ints, D.bls, DEEP, itF, itSeq, itR1, itR2, itEn, itZ, itRev, mutF, ownL, augF, whC, whB, cmpB, forB, List.map_cons, List.map_nil, List.cons_append, List.nil_append, List.append_nil, List.length_cons, List.length_nil, List.replicate, List.getElem?_cons_zero, List.getElem?_cons_succ, List.set_cons_zero, List.set_cons_succ, Nat.zero_add, Nat.reduceAdd, Nat.reduceSub, Nat.reduceLeDiff, ite_true, ite_false, if_true, if_false, Bool.true_eq_false, Bool.false_eq_true, reduceIte, reduceCtorEq, Bool.not_true, Bool.not_false, Bool.and_true, Bool.and_self, Bool.true_and, Bool.false_and, Bool.and_false, Bool.or_true, Bool.true_or, Bool.or_false, Bool.false_or, and_self, and_true, true_and, true_or, or_true, Int.reduceLT, Int.reduceLE, Int.reducePow, Int.reduceNeg, Int.reduceMul, Int.reduceAdd, Int.reduceSub, Int.reduceToNat, fusF, D.items, List.all_cons, List.all_nil, id, Nat.reduceLT, Nat.reducePow, decide_true, decide_false, decide_eq_true_eq, beqI, beqS, beqB, bne, natc0, natc1, Int.cast_ofNat_Int, sg_turn, sg_mirror, sg_up, sg_down, sg_a, sg_b, sg_c, ne_mt, ne_tm, ne_ud, ne_du, Bool.not_eq_eq_eq_not, Bool.not_true, decide_eq_false_iff_not, Decidable.not_not, BEq.rfl, not_true_eq_false, not_false_eq_true, Fn.law_change, hc, chg, ixN, h, hn]
  · refine ⟨true, c / 2 % n, ?_, h3, h4⟩
    simp -dsimp -implicitDefEqProofs only [evBody, argS, endF, els_some, orI_some, orI_none, frzAll, Sv.frz, Rv.imm, Sv.imm, D.imm, D.imms, cond_true, cond_false, Bool.cond_self, D.lt, D.lts, D.alike, D.alikes, ordOk, MulOk, LINE, ixN, startE, evSs, evS, evE, evEs, evB, evO, evC, frzs, frz, conts, cont, look, slotOf, Sv.rv, bnd_some, bnd_none, mpd_some, mpd_none, binop, cmpop, idxop, sliop, asI, asB, primF, kill, ML.bind, bindT, D.isTy, D.okd, D.okds, D.eqv, D.eqvs, D.flat, D.ints, D.bls, DEEP, itF, itSeq, itR1, itR2, itEn, itZ, itRev, mutF, ownL, augF, whC, whB, cmpB, forB, List.map_cons, List.map_nil, List.cons_append, List.nil_append, List.append_nil, List.length_cons, List.length_nil, List.replicate, List.getElem?_cons_zero, List.getElem?_cons_succ, List.set_cons_zero, List.set_cons_succ, Nat.zero_add, Nat.reduceAdd, Nat.reduceSub, Nat.reduceLeDiff, ite_true, ite_false, if_true, if_false, Bool.true_eq_false, Bool.false_eq_true, reduceIte, reduceCtorEq, Bool.not_true, Bool.not_false, Bool.and_true, Bool.and_self, Bool.true_and, Bool.false_and, Bool.and_false, Bool.or_true, Bool.true_or, Bool.or_false, Bool.false_or, and_self, and_true, true_and, true_or, or_true, Int.reduceLT, Int.reduceLE, Int.reducePow, Int.reduceNeg, Int.reduceMul, Int.reduceAdd, Int.reduceSub, Int.reduceToNat, fusF, D.items, List.all_cons, List.all_nil, id, Nat.reduceLT, Nat.reducePow, decide_true, decide_false, decide_eq_true_eq, beqI, beqS, beqB, bne, natc0, natc1, Int.cast_ofNat_Int, sg_turn, sg_mirror, sg_up, sg_down, sg_a, sg_b, sg_c, ne_mt, ne_tm, ne_ud, ne_du, Bool.not_eq_eq_eq_not, Bool.not_true, decide_eq_false_iff_not, Decidable.not_not, BEq.rfl, not_true_eq_false, not_false_eq_true, Fn.law_change, hc, chg, ixN, h, hn]
def chgs (n : Nat) : List D := (List.range n).map (fun i => chg false (i : Nat)) ++ (List.range n).map (fun i => chg true (i : Nat))
theorem changes_c (k : Nat) {n : Int} (h0 : 0 ≤ n) (h1 : n ≤ 1000) : callF Pt (k + 1) 10 [.int n] = some (.own (.lst (chgs n.toNat))) := by
  have h2 : -4611686018427387904 ≤ n ∧ n ≤ 16777216 := by omega
  rw [callF, Pt_changes]
  have h3 : n.toNat + n.toNat ≤ 16777216 := by omega
  simp -dsimp -implicitDefEqProofs only [evBody, argS, endF, els_some, orI_some, orI_none, frzAll, Sv.frz, Rv.imm, Sv.imm, D.imm, D.imms, cond_true, cond_false, Bool.cond_self, D.lt, D.lts, D.alike, D.alikes, ordOk, MulOk, LINE, ixN, startE, evSs, evS, evE, evEs, evB, evO, evC, frzs, frz, conts, cont, look, slotOf, Sv.rv, bnd_some, bnd_none, mpd_some, mpd_none, binop, cmpop, idxop, sliop, asI, asB, primF, kill, ML.bind, bindT, D.isTy, D.okd, D.okds, D.eqv, D.eqvs, D.flat, D.ints, D.bls, DEEP, itF, itSeq, itR1, itR2, itEn, itZ, itRev, mutF, ownL, augF, whC, whB, cmpB, forB, List.map_cons, List.map_nil, List.cons_append, List.nil_append, List.append_nil, List.length_cons, List.length_nil, List.replicate, List.getElem?_cons_zero, List.getElem?_cons_succ, List.set_cons_zero, List.set_cons_succ, Nat.zero_add, Nat.reduceAdd, Nat.reduceSub, Nat.reduceLeDiff, ite_true, ite_false, if_true, if_false, Bool.true_eq_false, Bool.false_eq_true, reduceIte, reduceCtorEq, Bool.not_true, Bool.not_false, Bool.and_true, Bool.and_self, Bool.true_and, Bool.false_and, Bool.and_false, Bool.or_true, Bool.true_or, Bool.or_false, Bool.false_or, and_self, and_true, true_and, true_or, or_true, Int.reduceLT, Int.reduceLE, Int.reducePow, Int.reduceNeg, Int.reduceMul, Int.reduceAdd, Int.reduceSub, Int.reduceToNat, fusF, D.items, List.all_cons, List.all_nil, id, Nat.reduceLT, Nat.reducePow, decide_true, decide_false, decide_eq_true_eq, beqI, beqS, beqB, bne, natc0, natc1, Int.cast_ofNat_Int, sg_turn, sg_mirror, sg_up, sg_down, sg_a, sg_b, sg_c, ne_mt, ne_tm, ne_ud, ne_du, Bool.not_eq_eq_eq_not, Bool.not_true, decide_eq_false_iff_not, Decidable.not_not, BEq.rfl, not_true_eq_false, not_false_eq_true, Fn.changes, h2]
  rw [comp_map (fun x => .tup [.str "turn", x]) (fun x hx => by simp -dsimp -implicitDefEqProofs only [evBody, argS, endF, els_some, orI_some, orI_none, frzAll, Sv.frz, Rv.imm, Sv.imm, D.imm, D.imms, cond_true, cond_false, Bool.cond_self, D.lt, D.lts, D.alike, D.alikes, ordOk, MulOk, LINE, ixN, startE, evSs, evS, evE, evEs, evB, evO, evC, frzs, frz, conts, cont, look, slotOf, Sv.rv, bnd_some, bnd_none, mpd_some, mpd_none, binop, cmpop, idxop, sliop, asI, asB, primF, kill, ML.bind, bindT, D.isTy, D.okd, D.okds, D.eqv, D.eqvs, D.flat, D.ints, D.bls, DEEP, itF, itSeq, itR1, itR2, itEn, itZ, itRev, mutF, ownL, augF, whC, whB, cmpB, forB, List.map_cons, List.map_nil, List.cons_append, List.nil_append, List.append_nil, List.length_cons, List.length_nil, List.replicate, List.getElem?_cons_zero, List.getElem?_cons_succ, List.set_cons_zero, List.set_cons_succ, Nat.zero_add, Nat.reduceAdd, Nat.reduceSub, Nat.reduceLeDiff, ite_true, ite_false, if_true, if_false, Bool.true_eq_false, Bool.false_eq_true, reduceIte, reduceCtorEq, Bool.not_true, Bool.not_false, Bool.and_true, Bool.and_self, Bool.true_and, Bool.false_and, Bool.and_false, Bool.or_true, Bool.true_or, Bool.or_false, Bool.false_or, and_self, and_true, true_and, true_or, or_true, Int.reduceLT, Int.reduceLE, Int.reducePow, Int.reduceNeg, Int.reduceMul, Int.reduceAdd, Int.reduceSub, Int.reduceToNat, fusF, D.items, List.all_cons, List.all_nil, id, Nat.reduceLT, Nat.reducePow, decide_true, decide_false, decide_eq_true_eq, beqI, beqS, beqB, bne, natc0, natc1, Int.cast_ofNat_Int, sg_turn, sg_mirror, sg_up, sg_down, sg_a, sg_b, sg_c, ne_mt, ne_tm, ne_ud, ne_du, Bool.not_eq_eq_eq_not, Bool.not_true, decide_eq_false_iff_not, Decidable.not_not, BEq.rfl, not_true_eq_false, not_false_eq_true])]
  simp -dsimp -implicitDefEqProofs only [evBody, argS, endF, els_some, orI_some, orI_none, frzAll, Sv.frz, Rv.imm, Sv.imm, D.imm, D.imms, cond_true, cond_false, Bool.cond_self, D.lt, D.lts, D.alike, D.alikes, ordOk, MulOk, LINE, ixN, startE, evSs, evS, evE, evEs, evB, evO, evC, frzs, frz, conts, cont, look, slotOf, Sv.rv, bnd_some, bnd_none, mpd_some, mpd_none, binop, cmpop, idxop, sliop, asI, asB, primF, kill, ML.bind, bindT, D.isTy, D.okd, D.okds, D.eqv, D.eqvs, D.flat, D.ints, D.bls, DEEP, itF, itSeq, itR1, itR2, itEn, itZ, itRev, mutF, ownL, augF, whC, whB, cmpB, forB, List.map_cons, List.map_nil, List.cons_append, List.nil_append, List.append_nil, List.length_cons, List.length_nil, List.replicate, List.getElem?_cons_zero, List.getElem?_cons_succ, List.set_cons_zero, List.set_cons_succ, Nat.zero_add, Nat.reduceAdd, Nat.reduceSub, Nat.reduceLeDiff, ite_true, ite_false, if_true, if_false, Bool.true_eq_false, Bool.false_eq_true, reduceIte, reduceCtorEq, Bool.not_true, Bool.not_false, Bool.and_true, Bool.and_self, Bool.true_and, Bool.false_and, Bool.and_false, Bool.or_true, Bool.true_or, Bool.or_false, Bool.false_or, and_self, and_true, true_and, true_or, or_true, Int.reduceLT, Int.reduceLE, Int.reducePow, Int.reduceNeg, Int.reduceMul, Int.reduceAdd, Int.reduceSub, Int.reduceToNat, fusF, D.items, List.all_cons, List.all_nil, id, Nat.reduceLT, Nat.reducePow, decide_true, decide_false, decide_eq_true_eq, beqI, beqS, beqB, bne, natc0, natc1, Int.cast_ofNat_Int, sg_turn, sg_mirror, sg_up, sg_down, sg_a, sg_b, sg_c, ne_mt, ne_tm, ne_ud, ne_du, Bool.not_eq_eq_eq_not, Bool.not_true, decide_eq_false_iff_not, Decidable.not_not, BEq.rfl, not_true_eq_false, not_false_eq_true, h2]
  rw [comp_map (fun x => .tup [.str "mirror", x]) (fun x hx => by simp -dsimp -implicitDefEqProofs only [evBody, argS, endF, els_some, orI_some, orI_none, frzAll, Sv.frz, Rv.imm, Sv.imm, D.imm, D.imms, cond_true, cond_false, Bool.cond_self, D.lt, D.lts, D.alike, D.alikes, ordOk, MulOk, LINE, ixN, startE, evSs, evS, evE, evEs, evB, evO, evC, frzs, frz, conts, cont, look, slotOf, Sv.rv, bnd_some, bnd_none, mpd_some, mpd_none, binop, cmpop, idxop, sliop, asI, asB, primF, kill, ML.bind, bindT, D.isTy, D.okd, D.okds, D.eqv, D.eqvs, D.flat, D.ints, D.bls, DEEP, itF, itSeq, itR1, itR2, itEn, itZ, itRev, mutF, ownL, augF, whC, whB, cmpB, forB, List.map_cons, List.map_nil, List.cons_append, List.nil_append, List.append_nil, List.length_cons, List.length_nil, List.replicate, List.getElem?_cons_zero, List.getElem?_cons_succ, List.set_cons_zero, List.set_cons_succ, Nat.zero_add, Nat.reduceAdd, Nat.reduceSub, Nat.reduceLeDiff, ite_true, ite_false, if_true, if_false, Bool.true_eq_false, Bool.false_eq_true, reduceIte, reduceCtorEq, Bool.not_true, Bool.not_false, Bool.and_true, Bool.and_self, Bool.true_and, Bool.false_and, Bool.and_false, Bool.or_true, Bool.true_or, Bool.or_false, Bool.false_or, and_self, and_true, true_and, true_or, or_true, Int.reduceLT, Int.reduceLE, Int.reducePow, Int.reduceNeg, Int.reduceMul, Int.reduceAdd, Int.reduceSub, Int.reduceToNat, fusF, D.items, List.all_cons, List.all_nil, id, Nat.reduceLT, Nat.reducePow, decide_true, decide_false, decide_eq_true_eq, beqI, beqS, beqB, bne, natc0, natc1, Int.cast_ofNat_Int, sg_turn, sg_mirror, sg_up, sg_down, sg_a, sg_b, sg_c, ne_mt, ne_tm, ne_ud, ne_du, Bool.not_eq_eq_eq_not, Bool.not_true, decide_eq_false_iff_not, Decidable.not_not, BEq.rfl, not_true_eq_false, not_false_eq_true])]
  simp -dsimp -implicitDefEqProofs only [evBody, argS, endF, els_some, orI_some, orI_none, frzAll, Sv.frz, Rv.imm, Sv.imm, D.imm, D.imms, cond_true, cond_false, Bool.cond_self, D.lt, D.lts, D.alike, D.alikes, ordOk, MulOk, LINE, ixN, startE, evSs, evS, evE, evEs, evB, evO, evC, frzs, frz, conts, cont, look, slotOf, Sv.rv, bnd_some, bnd_none, mpd_some, mpd_none, binop, cmpop, idxop, sliop, asI, asB, primF, kill, ML.bind, bindT, D.isTy, D.okd, D.okds, D.eqv, D.eqvs, D.flat, D.ints, D.bls, DEEP, itF, itSeq, itR1, itR2, itEn, itZ, itRev, mutF, ownL, augF, whC, whB, cmpB, forB, List.map_cons, List.map_nil, List.cons_append, List.nil_append, List.append_nil, List.length_cons, List.length_nil, List.replicate, List.getElem?_cons_zero, List.getElem?_cons_succ, List.set_cons_zero, List.set_cons_succ, Nat.zero_add, Nat.reduceAdd, Nat.reduceSub, Nat.reduceLeDiff, ite_true, ite_false, if_true, if_false, Bool.true_eq_false, Bool.false_eq_true, reduceIte, reduceCtorEq, Bool.not_true, Bool.not_false, Bool.and_true, Bool.and_self, Bool.true_and, Bool.false_and, Bool.and_false, Bool.or_true, Bool.true_or, Bool.or_false, Bool.false_or, and_self, and_true, true_and, true_or, or_true, Int.reduceLT, Int.reduceLE, Int.reducePow, Int.reduceNeg, Int.reduceMul, Int.reduceAdd, Int.reduceSub, Int.reduceToNat, fusF, D.items, List.all_cons, List.all_nil, id, Nat.reduceLT, Nat.reducePow, decide_true, decide_false, decide_eq_true_eq, beqI, beqS, beqB, bne, natc0, natc1, Int.cast_ofNat_Int, sg_turn, sg_mirror, sg_up, sg_down, sg_a, sg_b, sg_c, ne_mt, ne_tm, ne_ud, ne_du, Bool.not_eq_eq_eq_not, Bool.not_true, decide_eq_false_iff_not, Decidable.not_not, BEq.rfl, not_true_eq_false, not_false_eq_true, h3, List.length_map, rangeD, List.length_range]
  rw [chgs, List.map_map, List.map_map]
  simp only [Int.zero_add]
  rfl
theorem mem_rangeD0 {n : Nat} {x : D} (h : x ∈ rangeD 0 n) : ∃ i : Nat, i < n ∧ x = .int (i : Int) := by
  obtain ⟨i, h1, h2⟩ := mem_rangeD h
  refine ⟨i, h1, ?_⟩
  rw [h2, Int.zero_add]
theorem idx_lst {xs : List D} {i : Nat} {d : D} (h : xs[i]? = some d) : idxop (.lst xs) (.int (i : Int)) = some d := by
  have h1 := (List.getElem?_eq_some_iff.mp h).1
  have h2 : (0 : Int) ≤ (i : Int) := by omega
  have h3 : (i : Int) < (xs.length : Int) := by omega
  rw [idxop, ixN, if_pos h2, if_pos h3, bnd_some, Int.toNat_natCast, h]
theorem idx_tup {xs : List D} {i : Nat} {d : D} (h : xs[i]? = some d) : idxop (.tup xs) (.int (i : Int)) = some d := by
  have h1 := (List.getElem?_eq_some_iff.mp h).1
  have h2 : (0 : Int) ≤ (i : Int) := by omega
  have h3 : (i : Int) < (xs.length : Int) := by omega
  rw [idxop, ixN, if_pos h2, if_pos h3, bnd_some, Int.toNat_natCast, h]
theorem chgs_len (n : Nat) : (chgs n).length = n + n := by
  rw [chgs, List.length_append, List.length_map, List.length_map, List.length_range]
theorem chgs_lo {n i : Nat} (h : i < n) : (chgs n)[i]? = some (chg false i) := by
  rw [chgs, List.getElem?_append_left (by rw [List.length_map, List.length_range]; exact h), List.getElem?_map, List.getElem?_range h]
  rfl
theorem chgs_hi {n i : Nat} (h : i < n) : (chgs n)[n + i]? = some (chg true i) := by
  rw [chgs, List.getElem?_append_right (by rw [List.length_map, List.length_range]; omega), List.length_map, List.length_range, Nat.add_sub_cancel_left, List.getElem?_map, List.getElem?_range h]
  rfl
theorem is_c (k : Nat) (m : Bool) (t : Int) : callF Pt (k + 1) 12 [chg m t, chg m t] = some (.fro (.bl true)) := by
  rw [callF, Pt_law_is]
  cases m <;> simp -dsimp -implicitDefEqProofs only [evBody, argS, endF, els_some, orI_some, orI_none, frzAll, Sv.frz, Rv.imm, Sv.imm, D.imm, D.imms, cond_true, cond_false, Bool.cond_self, D.lt, D.lts, D.alike, D.alikes, ordOk, MulOk, LINE, ixN, startE, evSs, evS, evE, evEs, evB, evO, evC, frzs, frz, conts, cont, look, slotOf, Sv.rv, bnd_some, bnd_none, mpd_some, mpd_none, binop, cmpop, idxop, sliop, asI, asB, primF, kill, ML.bind, bindT, D.isTy, D.okd, D.okds, D.eqv, D.eqvs, D.flat, D.ints, D.bls, DEEP, itF, itSeq, itR1, itR2, itEn, itZ, itRev, mutF, ownL, augF, whC, whB, cmpB, forB, List.map_cons, List.map_nil, List.cons_append, List.nil_append, List.append_nil, List.length_cons, List.length_nil, List.replicate, List.getElem?_cons_zero, List.getElem?_cons_succ, List.set_cons_zero, List.set_cons_succ, Nat.zero_add, Nat.reduceAdd, Nat.reduceSub, Nat.reduceLeDiff, ite_true, ite_false, if_true, if_false, Bool.true_eq_false, Bool.false_eq_true, reduceIte, reduceCtorEq, Bool.not_true, Bool.not_false, Bool.and_true, Bool.and_self, Bool.true_and, Bool.false_and, Bool.and_false, Bool.or_true, Bool.true_or, Bool.or_false, Bool.false_or, and_self, and_true, true_and, true_or, or_true, Int.reduceLT, Int.reduceLE, Int.reducePow, Int.reduceNeg, Int.reduceMul, Int.reduceAdd, Int.reduceSub, Int.reduceToNat, fusF, D.items, List.all_cons, List.all_nil, id, Nat.reduceLT, Nat.reducePow, decide_true, decide_false, decide_eq_true_eq, beqI, beqS, beqB, bne, natc0, natc1, Int.cast_ofNat_Int, sg_turn, sg_mirror, sg_up, sg_down, sg_a, sg_b, sg_c, ne_mt, ne_tm, ne_ud, ne_du, Bool.not_eq_eq_eq_not, Bool.not_true, decide_eq_false_iff_not, Decidable.not_not, BEq.rfl, not_true_eq_false, not_false_eq_true, Fn.law_is, chg]
/-- a for over xs, read as D by f, that carries a state s, held in the slots by enc -/
theorem for_map {T S : Type} {kl : List Nat} {body : D → Env → Option Out} (f : T → D) (enc : S → Env) (step : T → S → S) (I : S → Prop) : ∀ (xs : List T), (∀ x ∈ xs, ∀ s, I s → I (step x s) ∧ ∃ ρ', body (f x) (enc s) = some (.nx ρ') ∧ kill ρ' kl = enc (step x s)) →
    ∀ s, I s → evFor kl body (xs.map f) (enc s) = some (.nx (enc (xs.foldl (fun s x => step x s) s))) ∧ I (xs.foldl (fun s x => step x s) s)
  | [], _, s, hs => ⟨rfl, hs⟩
  | x :: xs, h, s, hs => by
    obtain ⟨h0, ρ', h1, h2⟩ := h x List.mem_cons_self s hs
    rw [List.map_cons, evFor, h1, bnd_some]
    dsimp only
    rw [h2]
    exact for_map f enc step I xs (fun y hy => h y (List.mem_cons_of_mem _ hy)) _ h0
/-- a for that carries a state s, held in the slots by enc -/
theorem for_fold {S : Type} {kl : List Nat} {body : D → Env → Option Out} {items : List D} (enc : S → Env) (step : D → S → S) (I : S → Prop) (h : ∀ x ∈ items, ∀ s, I s → I (step x s) ∧ ∃ ρ', body x (enc s) = some (.nx ρ') ∧ kill ρ' kl = enc (step x s)) :
    ∀ s, I s → evFor kl body items (enc s) = some (.nx (enc (items.foldl (fun s x => step x s) s))) ∧ I (items.foldl (fun s x => step x s) s) := by
  induction items with
  | nil => exact fun s hs => ⟨rfl, hs⟩
  | cons x xs ih =>
    intro s hs
    obtain ⟨h0, ρ', h1, h2⟩ := h x List.mem_cons_self s hs
    rw [evFor, h1, bnd_some]
    dsimp only
    rw [h2]
    exact ih (fun y hy => h y (List.mem_cons_of_mem _ hy)) _ h0
end ML
set_option Elab.async false
set_option linter.all false
set_option autoImplicit false
set_option maxRecDepth 100000
set_option maxHeartbeats 4000000
/-! MLcrowd: the defs of crowds. -/
namespace ML
open PySem
/-- a list of ints as data -/
def ids (ts : List Int) : List D := ts.map D.int
def tupI (ts : List Int) : D := .tup (ids ts)
/-- 0 .. n - 1 -/
def upto (n : Nat) : List Int := (List.range n).map fun (i : Nat) => (i : Int)
theorem rangeD_upto (n : Nat) : rangeD 0 n = ids (upto n) := by
  unfold rangeD ids upto
  rw [List.map_map]
  apply List.map_congr_left
  intro i _
  show D.int (0 + (i : Int)) = D.int (i : Int)
  rw [Int.zero_add]
theorem upto_rises (n : Nat) : (upto n).Pairwise (· < ·) := by
  unfold upto
  rw [List.pairwise_map]
  exact List.pairwise_lt_range.imp fun {a b} h => by omega
theorem mem_upto {n : Nat} {t : Int} : t ∈ upto n ↔ 0 ≤ t ∧ t < n := by
  unfold upto
  rw [List.mem_map]
  constructor
  · rintro ⟨i, hi, rfl⟩
    have := List.mem_range.mp hi
    omega
  · rintro ⟨h0, h1⟩
    exact ⟨t.toNat, List.mem_range.mpr (by omega), by omega⟩
theorem upto_len (n : Nat) : (upto n).length = n := by
  unfold upto
  rw [List.length_map, List.length_range]
theorem ids_len (ts : List Int) : (ids ts).length = ts.length := List.length_map ..
theorem ints_ids : ∀ ts : List Int, D.ints (ids ts) = some ts
  | [] => rfl
  | t :: ts => by
    show D.ints (D.int t :: ids ts) = _
    rw [D.ints, ints_ids ts]
    rfl
theorem ids_get (ts : List Int) (i : Nat) : (ids ts)[i]? = ts[i]?.map D.int := List.getElem?_map ..
theorem flat_ids (ts : List Int) : (ids ts).all D.flat = true := by
  unfold ids
  rw [List.all_map, List.all_eq_true]
  intro x _
  rfl
theorem inb_ids (t : Int) (ts : List Int) : D.inb (.int t) (ids ts) = decide (t ∈ ts) := by
  unfold D.inb ids
  rw [List.any_map]
  by_cases h : t ∈ ts
  · rw [decide_eq_true h, List.any_eq_true]
    exact ⟨t, h, beq_self_eq_true t⟩
  · rw [decide_eq_false h, List.any_eq_false]
    intro x hx e
    have e : (x == t) = true := e
    rw [beq_iff_eq] at e
    exact h (e ▸ hx)
/-- a comprehension over xs, read as D by f -/
theorem comp_of {T : Type} {body : D → Env → Option (Option D × Env)} {ρ : Env} (f : T → D) (p : T → Bool) (g : T → D) (xs : List T) (h : ∀ x ∈ xs, body (f x) ρ = some (if p x then some (g x) else none, ρ)) : evComp body (xs.map f) ρ = some ((xs.filter p).map g, ρ) := by
  induction xs with
  | nil => rfl
  | cons x xs ih =>
    rw [List.map_cons, evComp, h x List.mem_cons_self, bnd_some]
    dsimp only
    rw [ih fun y hy => h y (List.mem_cons_of_mem _ hy), bnd_some, List.filter_cons]
    cases p x <;> rfl
theorem comp_all {T : Type} {body : D → Env → Option (Option D × Env)} {ρ : Env} (f : T → D) (g : T → D) (xs : List T) (h : ∀ x ∈ xs, body (f x) ρ = some (some (g x), ρ)) : evComp body (xs.map f) ρ = some (xs.map g, ρ) := by
  rw [comp_of f (fun _ => true) g xs (fun x hx => by rw [h x hx]; rfl), List.filter_eq_self.mpr fun _ _ => rfl]
theorem comp_ids {body : D → Env → Option (Option D × Env)} {ρ : Env} (p : Int → Bool) (xs : List Int) (h : ∀ x ∈ xs, body (.int x) ρ = some (if p x then some (.int x) else none, ρ)) : evComp body (ids xs) ρ = some (ids (xs.filter p), ρ) := comp_of D.int p D.int xs h
theorem comp_ints {body : D → Env → Option (Option D × Env)} {ρ : Env} (f : Int → Int) (xs : List Int) (h : ∀ x ∈ xs, body (.int x) ρ = some (some (.int (f x)), ρ)) : evComp body (ids xs) ρ = some (ids (xs.map f), ρ) := by
  unfold ids
  rw [comp_all D.int (fun x => .int (f x)) xs h, List.map_map]
  rfl
/-- a crowd of a wheel of n tones -/
def Crowd (n : Int) (ts : List Int) : Prop := ts.Pairwise (· < ·) ∧ ∀ t ∈ ts, 0 ≤ t ∧ t < n
theorem rises_le {n : Int} : ∀ {ts : List Int} {a : Int}, ts.Pairwise (· < ·) → (∀ t ∈ ts, a ≤ t ∧ t < n) → (ts.length : Int) ≤ max 0 (n - a)
  | [], a, _, _ => by simp; omega
  | t :: ts, a, p, h => by
    obtain ⟨p1, p2⟩ := List.pairwise_cons.mp p
    have h0 := h t List.mem_cons_self
    have ih := rises_le (a := t + 1) p2 fun s hs => ⟨by have := p1 s hs; omega, (h s (List.mem_cons_of_mem _ hs)).2⟩
    rw [List.length_cons]
    omega
theorem Crowd.len {n : Int} {ts : List Int} (hn : 0 ≤ n) (h : Crowd n ts) : (ts.length : Int) ≤ n := by
  have := rises_le h.1 h.2
  omega
theorem Crowd.filter {n : Int} {ts : List Int} (h : Crowd n ts) (p : Int → Bool) : Crowd n (ts.filter p) := ⟨h.1.filter p, fun t ht => h.2 t (List.mem_filter.mp ht).1⟩
theorem crowd_upto (n : Nat) : Crowd n (upto n) := ⟨upto_rises n, fun t ht => mem_upto.mp ht⟩
theorem crowd_upto' {n : Int} (hn : 0 ≤ n) : Crowd n (upto n.toNat) := ⟨upto_rises _, fun t ht => by have := mem_upto.mp ht; omega⟩
theorem crowd_nil (n : Int) : Crowd n [] := ⟨List.Pairwise.nil, fun _ h => nomatch h⟩
theorem Crowd.ext {n m : Int} {a b : List Int} (h : Crowd n a) (h' : Crowd m b) (e : ∀ t, t ∈ a ↔ t ∈ b) : a = b := rises_eq h.1 h'.1 e
theorem crowd_drawn_c (k : Nat) (ns : List Int) (hl : ns.length ≤ 63) {i s n : Int} (hn : 0 ≤ n) (hn' : n ≤ 1000) (hi : 0 ≤ i) (hi' : i < 4294967296) (hs : 0 ≤ s) (hs' : s < 4294967296) :
    ∃ ts, callF Pt (k + 3) 27 [.scr ns, .int i, .int s, .int n] = some (.fro (tupI ts)) ∧ Crowd n ts := by
  obtain ⟨c, hc, c1, c2⟩ := mixed_c k ns hl hi hi' hs hs'
  have e3 : -4611686018427387904 ≤ n ∧ n ≤ 16777216 := by omega
  refine ⟨(upto n.toNat).filter fun t => decide (Builtin.bitAnd (c / 2 ^ t.toNat) 1 = 1), ?_, (crowd_upto' hn).filter _⟩
  rw [callF, Pt_law_crowd]
  simp -dsimp -implicitDefEqProofs only [evBody, argS, endF, els_some, orI_some, orI_none, frzAll, Sv.frz, Rv.imm, Sv.imm, D.imm, D.imms, cond_true, cond_false, Bool.cond_self, D.lt, D.lts, D.alike, D.alikes, ordOk, MulOk, LINE, ixN, startE, evSs, evS, evE, evEs, evB, evO, evC, frzs, frz, conts, cont, look, slotOf, Sv.rv, bnd_some, bnd_none, mpd_some, mpd_none, binop, cmpop, idxop, sliop, asI, asB, primF, kill, ML.bind, bindT, D.isTy, D.okd, D.okds, D.eqv, D.eqvs, D.flat, D.ints, D.bls, DEEP, itF, itSeq, itR1, itR2, itEn, itZ, itRev, mutF, ownL, augF, whC, whB, cmpB, forB, List.map_cons, List.map_nil, List.cons_append, List.nil_append, List.append_nil, List.length_cons, List.length_nil, List.replicate, List.getElem?_cons_zero, List.getElem?_cons_succ, List.set_cons_zero, List.set_cons_succ, Nat.zero_add, Nat.reduceAdd, Nat.reduceSub, Nat.reduceLeDiff, ite_true, ite_false, if_true, if_false, Bool.true_eq_false, Bool.false_eq_true, reduceIte, reduceCtorEq, Bool.not_true, Bool.not_false, Bool.and_true, Bool.and_self, Bool.true_and, Bool.false_and, Bool.and_false, Bool.or_true, Bool.true_or, Bool.or_false, Bool.false_or, and_self, and_true, true_and, true_or, or_true, Int.reduceLT, Int.reduceLE, Int.reducePow, Int.reduceNeg, Int.reduceMul, Int.reduceAdd, Int.reduceSub, Int.reduceToNat, fusF, D.items, List.all_cons, List.all_nil, id, Nat.reduceLT, Nat.reducePow, decide_true, decide_false, decide_eq_true_eq, beqI, beqS, beqB, bne, natc0, natc1, Int.cast_ofNat_Int, sg_turn, sg_mirror, sg_up, sg_down, sg_a, sg_b, sg_c, ne_mt, ne_tm, ne_ud, ne_du, Bool.not_eq_eq_eq_not, Bool.not_true, decide_eq_false_iff_not, Decidable.not_not, BEq.rfl, not_true_eq_false, not_false_eq_true, Fn.law_crowd, hc, e3, rangeD_upto, ids]
  rw [comp_of D.int (fun t => decide (Builtin.bitAnd (c / 2 ^ t.toNat) 1 = 1)) D.int]
  · simp -dsimp -implicitDefEqProofs only [evBody, argS, endF, els_some, orI_some, orI_none, frzAll, Sv.frz, Rv.imm, Sv.imm, D.imm, D.imms, cond_true, cond_false, Bool.cond_self, D.lt, D.lts, D.alike, D.alikes, ordOk, MulOk, LINE, ixN, startE, evSs, evS, evE, evEs, evB, evO, evC, frzs, frz, conts, cont, look, slotOf, Sv.rv, bnd_some, bnd_none, mpd_some, mpd_none, binop, cmpop, idxop, sliop, asI, asB, primF, kill, ML.bind, bindT, D.isTy, D.okd, D.okds, D.eqv, D.eqvs, D.flat, D.ints, D.bls, DEEP, itF, itSeq, itR1, itR2, itEn, itZ, itRev, mutF, ownL, augF, whC, whB, cmpB, forB, List.map_cons, List.map_nil, List.cons_append, List.nil_append, List.append_nil, List.length_cons, List.length_nil, List.replicate, List.getElem?_cons_zero, List.getElem?_cons_succ, List.set_cons_zero, List.set_cons_succ, Nat.zero_add, Nat.reduceAdd, Nat.reduceSub, Nat.reduceLeDiff, ite_true, ite_false, if_true, if_false, Bool.true_eq_false, Bool.false_eq_true, reduceIte, reduceCtorEq, Bool.not_true, Bool.not_false, Bool.and_true, Bool.and_self, Bool.true_and, Bool.false_and, Bool.and_false, Bool.or_true, Bool.true_or, Bool.or_false, Bool.false_or, and_self, and_true, true_and, true_or, or_true, Int.reduceLT, Int.reduceLE, Int.reducePow, Int.reduceNeg, Int.reduceMul, Int.reduceAdd, Int.reduceSub, Int.reduceToNat, fusF, D.items, List.all_cons, List.all_nil, id, Nat.reduceLT, Nat.reducePow, decide_true, decide_false, decide_eq_true_eq, beqI, beqS, beqB, bne, natc0, natc1, Int.cast_ofNat_Int, sg_turn, sg_mirror, sg_up, sg_down, sg_a, sg_b, sg_c, ne_mt, ne_tm, ne_ud, ne_du, Bool.not_eq_eq_eq_not, Bool.not_true, decide_eq_false_iff_not, Decidable.not_not, BEq.rfl, not_true_eq_false, not_false_eq_true]
    rfl
  · intro t ht
    have h0 := (mem_upto.mp ht).1
    by_cases h : Builtin.bitAnd (c / 2 ^ t.toNat) 1 = 1
    · simp -dsimp -implicitDefEqProofs only [evBody, argS, endF, els_some, orI_some, orI_none, frzAll, Sv.frz, Rv.imm, Sv.imm, D.imm, D.imms, cond_true, cond_false, Bool.cond_self, D.lt, D.lts, D.alike, D.alikes, ordOk, MulOk, LINE, ixN, startE, evSs, evS, evE, evEs, evB, evO, evC, frzs, frz, conts, cont, look, slotOf, Sv.rv, bnd_some, bnd_none, mpd_some, mpd_none, binop, cmpop, idxop, sliop, asI, asB, primF, kill, ML.bind, bindT, D.isTy, D.okd, D.okds, D.eqv, D.eqvs, D.flat, D.ints, D.bls, DEEP, itF, itSeq, itR1, itR2, itEn, itZ, itRev, mutF, ownL, augF, whC, whB, cmpB, forB, List.map_cons, List.map_nil, List.cons_append, List.nil_append, List.append_nil, List.length_cons, List.length_nil, List.replicate, List.getElem?_cons_zero, List.getElem?_cons_succ, List.set_cons_zero, List.set_cons_succ, Nat.zero_add, Nat.reduceAdd, Nat.reduceSub, Nat.reduceLeDiff, ite_true, ite_false, if_true, if_false, Bool.true_eq_false, Bool.false_eq_true, reduceIte, reduceCtorEq, Bool.not_true, Bool.not_false, Bool.and_true, Bool.and_self, Bool.true_and, Bool.false_and, Bool.and_false, Bool.or_true, Bool.true_or, Bool.or_false, Bool.false_or, and_self, and_true, true_and, true_or, or_true, Int.reduceLT, Int.reduceLE, Int.reducePow, Int.reduceNeg, Int.reduceMul, Int.reduceAdd, Int.reduceSub, Int.reduceToNat, fusF, D.items, List.all_cons, List.all_nil, id, Nat.reduceLT, Nat.reducePow, decide_true, decide_false, decide_eq_true_eq, beqI, beqS, beqB, bne, natc0, natc1, Int.cast_ofNat_Int, sg_turn, sg_mirror, sg_up, sg_down, sg_a, sg_b, sg_c, ne_mt, ne_tm, ne_ud, ne_du, Bool.not_eq_eq_eq_not, Bool.not_true, decide_eq_false_iff_not, Decidable.not_not, BEq.rfl, not_true_eq_false, not_false_eq_true, h0, h]
    · simp -dsimp -implicitDefEqProofs only [evBody, argS, endF, els_some, orI_some, orI_none, frzAll, Sv.frz, Rv.imm, Sv.imm, D.imm, D.imms, cond_true, cond_false, Bool.cond_self, D.lt, D.lts, D.alike, D.alikes, ordOk, MulOk, LINE, ixN, startE, evSs, evS, evE, evEs, evB, evO, evC, frzs, frz, conts, cont, look, slotOf, Sv.rv, bnd_some, bnd_none, mpd_some, mpd_none, binop, cmpop, idxop, sliop, asI, asB, primF, kill, ML.bind, bindT, D.isTy, D.okd, D.okds, D.eqv, D.eqvs, D.flat, D.ints, D.bls, DEEP, itF, itSeq, itR1, itR2, itEn, itZ, itRev, mutF, ownL, augF, whC, whB, cmpB, forB, List.map_cons, List.map_nil, List.cons_append, List.nil_append, List.append_nil, List.length_cons, List.length_nil, List.replicate, List.getElem?_cons_zero, List.getElem?_cons_succ, List.set_cons_zero, List.set_cons_succ, Nat.zero_add, Nat.reduceAdd, Nat.reduceSub, Nat.reduceLeDiff, ite_true, ite_false, if_true, if_false, Bool.true_eq_false, Bool.false_eq_true, reduceIte, reduceCtorEq, Bool.not_true, Bool.not_false, Bool.and_true, Bool.and_self, Bool.true_and, Bool.false_and, Bool.and_false, Bool.or_true, Bool.true_or, Bool.or_false, Bool.false_or, and_self, and_true, true_and, true_or, or_true, Int.reduceLT, Int.reduceLE, Int.reducePow, Int.reduceNeg, Int.reduceMul, Int.reduceAdd, Int.reduceSub, Int.reduceToNat, fusF, D.items, List.all_cons, List.all_nil, id, Nat.reduceLT, Nat.reducePow, decide_true, decide_false, decide_eq_true_eq, beqI, beqS, beqB, bne, natc0, natc1, Int.cast_ofNat_Int, sg_turn, sg_mirror, sg_up, sg_down, sg_a, sg_b, sg_c, ne_mt, ne_tm, ne_ud, ne_du, Bool.not_eq_eq_eq_not, Bool.not_true, decide_eq_false_iff_not, Decidable.not_not, BEq.rfl, not_true_eq_false, not_false_eq_true, h0, h]
theorem some_c (k : Nat) (ns : List Int) (hl : ns.length ≤ 63) {i s n : Int} (hn : 0 ≤ n) (hn' : n ≤ 1000) (hi : 0 ≤ i) (hi' : i < 4294967296) (hs : 0 ≤ s) (hs' : s < 4294967295) :
    ∃ ts, callF Pt (k + 4) 28 [.scr ns, .int i, .int s, .int n] = some (.fro (tupI ts)) ∧ Crowd n ts := by
  obtain ⟨c, hc, c1, c2⟩ := mixed_c (k + 1) ns hl (i := i) (s := s + 1) hi hi' (by omega) (by omega)
  obtain ⟨ts, ht, h⟩ := crowd_drawn_c k ns hl (i := i) (s := s) hn hn' hi hi' hs (by omega)
  have e3 : 0 ≤ n ∧ n ≤ 16777216 := by omega
  rw [callF, Pt_law_some]
  by_cases h0 : c % 6 = 0
  · refine ⟨[], ?_, crowd_nil n⟩
    simp -dsimp -implicitDefEqProofs only [evBody, argS, endF, els_some, orI_some, orI_none, frzAll, Sv.frz, Rv.imm, Sv.imm, D.imm, D.imms, cond_true, cond_false, Bool.cond_self, D.lt, D.lts, D.alike, D.alikes, ordOk, MulOk, LINE, ixN, startE, evSs, evS, evE, evEs, evB, evO, evC, frzs, frz, conts, cont, look, slotOf, Sv.rv, bnd_some, bnd_none, mpd_some, mpd_none, binop, cmpop, idxop, sliop, asI, asB, primF, kill, ML.bind, bindT, D.isTy, D.okd, D.okds, D.eqv, D.eqvs, D.flat, D.ints, D.bls, DEEP, itF, itSeq, itR1, itR2, itEn, itZ, itRev, mutF, ownL, augF, whC, whB, cmpB, forB, List.map_cons, List.map_nil, List.cons_append, List.nil_append, List.append_nil, List.length_cons, List.length_nil, List.replicate, List.getElem?_cons_zero, List.getElem?_cons_succ, List.set_cons_zero, List.set_cons_succ, Nat.zero_add, Nat.reduceAdd, Nat.reduceSub, Nat.reduceLeDiff, ite_true, ite_false, if_true, if_false, Bool.true_eq_false, Bool.false_eq_true, reduceIte, reduceCtorEq, Bool.not_true, Bool.not_false, Bool.and_true, Bool.and_self, Bool.true_and, Bool.false_and, Bool.and_false, Bool.or_true, Bool.true_or, Bool.or_false, Bool.false_or, and_self, and_true, true_and, true_or, or_true, Int.reduceLT, Int.reduceLE, Int.reducePow, Int.reduceNeg, Int.reduceMul, Int.reduceAdd, Int.reduceSub, Int.reduceToNat, fusF, D.items, List.all_cons, List.all_nil, id, Nat.reduceLT, Nat.reducePow, decide_true, decide_false, decide_eq_true_eq, beqI, beqS, beqB, bne, natc0, natc1, Int.cast_ofNat_Int, sg_turn, sg_mirror, sg_up, sg_down, sg_a, sg_b, sg_c, ne_mt, ne_tm, ne_ud, ne_du, Bool.not_eq_eq_eq_not, Bool.not_true, decide_eq_false_iff_not, Decidable.not_not, BEq.rfl, not_true_eq_false, not_false_eq_true, Fn.law_some, hc, h0]
    rfl
  · by_cases h1 : c % 6 = 1
    · refine ⟨upto n.toNat, ?_, crowd_upto' hn⟩
      simp -dsimp -implicitDefEqProofs only [evBody, argS, endF, els_some, orI_some, orI_none, frzAll, Sv.frz, Rv.imm, Sv.imm, D.imm, D.imms, cond_true, cond_false, Bool.cond_self, D.lt, D.lts, D.alike, D.alikes, ordOk, MulOk, LINE, ixN, startE, evSs, evS, evE, evEs, evB, evO, evC, frzs, frz, conts, cont, look, slotOf, Sv.rv, bnd_some, bnd_none, mpd_some, mpd_none, binop, cmpop, idxop, sliop, asI, asB, primF, kill, ML.bind, bindT, D.isTy, D.okd, D.okds, D.eqv, D.eqvs, D.flat, D.ints, D.bls, DEEP, itF, itSeq, itR1, itR2, itEn, itZ, itRev, mutF, ownL, augF, whC, whB, cmpB, forB, List.map_cons, List.map_nil, List.cons_append, List.nil_append, List.append_nil, List.length_cons, List.length_nil, List.replicate, List.getElem?_cons_zero, List.getElem?_cons_succ, List.set_cons_zero, List.set_cons_succ, Nat.zero_add, Nat.reduceAdd, Nat.reduceSub, Nat.reduceLeDiff, ite_true, ite_false, if_true, if_false, Bool.true_eq_false, Bool.false_eq_true, reduceIte, reduceCtorEq, Bool.not_true, Bool.not_false, Bool.and_true, Bool.and_self, Bool.true_and, Bool.false_and, Bool.and_false, Bool.or_true, Bool.true_or, Bool.or_false, Bool.false_or, and_self, and_true, true_and, true_or, or_true, Int.reduceLT, Int.reduceLE, Int.reducePow, Int.reduceNeg, Int.reduceMul, Int.reduceAdd, Int.reduceSub, Int.reduceToNat, fusF, D.items, List.all_cons, List.all_nil, id, Nat.reduceLT, Nat.reducePow, decide_true, decide_false, decide_eq_true_eq, beqI, beqS, beqB, bne, natc0, natc1, Int.cast_ofNat_Int, sg_turn, sg_mirror, sg_up, sg_down, sg_a, sg_b, sg_c, ne_mt, ne_tm, ne_ud, ne_du, Bool.not_eq_eq_eq_not, Bool.not_true, decide_eq_false_iff_not, Decidable.not_not, BEq.rfl, not_true_eq_false, not_false_eq_true, Fn.law_some, hc, h0, h1, e3, rangeD_upto, Int.reduceEq]
      rfl
    · refine ⟨ts, ?_, h⟩
      simp -dsimp -implicitDefEqProofs only [evBody, argS, endF, els_some, orI_some, orI_none, frzAll, Sv.frz, Rv.imm, Sv.imm, D.imm, D.imms, cond_true, cond_false, Bool.cond_self, D.lt, D.lts, D.alike, D.alikes, ordOk, MulOk, LINE, ixN, startE, evSs, evS, evE, evEs, evB, evO, evC, frzs, frz, conts, cont, look, slotOf, Sv.rv, bnd_some, bnd_none, mpd_some, mpd_none, binop, cmpop, idxop, sliop, asI, asB, primF, kill, ML.bind, bindT, D.isTy, D.okd, D.okds, D.eqv, D.eqvs, D.flat, D.ints, D.bls, DEEP, itF, itSeq, itR1, itR2, itEn, itZ, itRev, mutF, ownL, augF, whC, whB, cmpB, forB, List.map_cons, List.map_nil, List.cons_append, List.nil_append, List.append_nil, List.length_cons, List.length_nil, List.replicate, List.getElem?_cons_zero, List.getElem?_cons_succ, List.set_cons_zero, List.set_cons_succ, Nat.zero_add, Nat.reduceAdd, Nat.reduceSub, Nat.reduceLeDiff, ite_true, ite_false, if_true, if_false, Bool.true_eq_false, Bool.false_eq_true, reduceIte, reduceCtorEq, Bool.not_true, Bool.not_false, Bool.and_true, Bool.and_self, Bool.true_and, Bool.false_and, Bool.and_false, Bool.or_true, Bool.true_or, Bool.or_false, Bool.false_or, and_self, and_true, true_and, true_or, or_true, Int.reduceLT, Int.reduceLE, Int.reducePow, Int.reduceNeg, Int.reduceMul, Int.reduceAdd, Int.reduceSub, Int.reduceToNat, fusF, D.items, List.all_cons, List.all_nil, id, Nat.reduceLT, Nat.reducePow, decide_true, decide_false, decide_eq_true_eq, beqI, beqS, beqB, bne, natc0, natc1, Int.cast_ofNat_Int, sg_turn, sg_mirror, sg_up, sg_down, sg_a, sg_b, sg_c, ne_mt, ne_tm, ne_ud, ne_du, Bool.not_eq_eq_eq_not, Bool.not_true, decide_eq_false_iff_not, Decidable.not_not, BEq.rfl, not_true_eq_false, not_false_eq_true, Fn.law_some, hc, h0, h1, ht]
theorem okd_ids (j : Nat) (ts : List Int) : D.okds j (ids ts) = true := by
  induction ts with
  | nil => cases j <;> rfl
  | cons t ts ih =>
    show D.okds j (D.int t :: ids ts) = true
    rw [D.okds, ih]
    cases j <;> rfl
theorem eqv_ids : ∀ (a b : List Int), D.eqvs (ids a) (ids b) = decide (a = b)
  | [], [] => rfl
  | [], b :: bs => rfl
  | a :: as, [] => rfl
  | a :: as, b :: bs => by
    show D.eqvs (D.int a :: ids as) (D.int b :: ids bs) = _
    rw [D.eqvs, eqv_ids as bs, D.eqv, beqI]
    by_cases h : a = b
    · by_cases h' : as = bs
      · simp [h, h']
      · simp [h, h']
    · simp [h]
theorem eqv_tupI (a b : List Int) : D.eqv (tupI a) (tupI b) = decide (a = b) := by
  unfold tupI
  rw [D.eqv, eqv_ids]
theorem okd_tupI (j : Nat) (a : List Int) : D.okd (j + 1) (tupI a) = true := by
  unfold tupI
  rw [D.okd, okd_ids]
/-- the law's look at a tuple: it is the one that is due -/
theorem tuple_c (k : Nat) (a : List Int) (hl : a.length ≤ 1000) (d : D) (hd : d = .lst (ids a) ∨ d = .tup (ids a)) : callF Pt (k + 1) 22 [tupI a, d] = some (.fro (.bl true)) := by
  have e3 : -4611686018427387904 ≤ (a.length : Int) ∧ (a.length : Int) ≤ 16777216 := by omega
  have key : ∀ d : D, (∀ i : Nat, ∀ v : Int, a[i]? = some v → idxop d (.int (i : Int)) = some (.int v)) → evFor [2] (forB (.one 2) (evSs (callF Pt k) Fn.law_tuple_b0) (.it _)) (rangeD 0 a.length) [Sv.fro (.tup (ids a)), Sv.fro d, Sv.no] = some (.nx [Sv.fro (.tup (ids a)), Sv.fro d, Sv.no]) := by
    intro d hd
    rw [for_const]
    intro x hx
    obtain ⟨i, hi, rfl⟩ := mem_rangeD0 hx
    have g := List.getElem?_eq_getElem hi
    have i1 : idxop (.tup (ids a)) (.int (i : Int)) = some (.int a[i]) := idx_tup (by rw [ids_get, g]; rfl)
    have i2 := hd i _ g
    simp -dsimp -implicitDefEqProofs only [evBody, argS, endF, els_some, orI_some, orI_none, frzAll, Sv.frz, Rv.imm, Sv.imm, D.imm, D.imms, cond_true, cond_false, Bool.cond_self, D.lt, D.lts, D.alike, D.alikes, ordOk, MulOk, LINE, ixN, startE, evSs, evS, evE, evEs, evB, evO, evC, frzs, frz, conts, cont, look, slotOf, Sv.rv, bnd_some, bnd_none, mpd_some, mpd_none, binop, cmpop, idxop, sliop, asI, asB, primF, kill, ML.bind, bindT, D.isTy, D.okd, D.okds, D.eqv, D.eqvs, D.flat, D.ints, D.bls, DEEP, itF, itSeq, itR1, itR2, itEn, itZ, itRev, mutF, ownL, augF, whC, whB, cmpB, forB, List.map_cons, List.map_nil, List.cons_append, List.nil_append, List.append_nil, List.length_cons, List.length_nil, List.replicate, List.getElem?_cons_zero, List.getElem?_cons_succ, List.set_cons_zero, List.set_cons_succ, Nat.zero_add, Nat.reduceAdd, Nat.reduceSub, Nat.reduceLeDiff, ite_true, ite_false, if_true, if_false, Bool.true_eq_false, Bool.false_eq_true, reduceIte, reduceCtorEq, Bool.not_true, Bool.not_false, Bool.and_true, Bool.and_self, Bool.true_and, Bool.false_and, Bool.and_false, Bool.or_true, Bool.true_or, Bool.or_false, Bool.false_or, and_self, and_true, true_and, true_or, or_true, Int.reduceLT, Int.reduceLE, Int.reducePow, Int.reduceNeg, Int.reduceMul, Int.reduceAdd, Int.reduceSub, Int.reduceToNat, fusF, D.items, List.all_cons, List.all_nil, id, Nat.reduceLT, Nat.reducePow, decide_true, decide_false, decide_eq_true_eq, beqI, beqS, beqB, bne, natc0, natc1, Int.cast_ofNat_Int, sg_turn, sg_mirror, sg_up, sg_down, sg_a, sg_b, sg_c, ne_mt, ne_tm, ne_ud, ne_du, Bool.not_eq_eq_eq_not, Bool.not_true, decide_eq_false_iff_not, Decidable.not_not, BEq.rfl, not_true_eq_false, not_false_eq_true, Fn.law_tuple_b0, ↓i1, ↓i2]
    exact ⟨_, rfl, rfl⟩
  rw [callF, Pt_law_tuple]
  rcases hd with rfl | rfl
  · have kk := key (.lst (ids a)) fun i v hv => idx_lst (by rw [ids_get, hv]; rfl)
    simp -dsimp -implicitDefEqProofs only [evBody, argS, endF, els_some, orI_some, orI_none, frzAll, Sv.frz, Rv.imm, Sv.imm, D.imm, D.imms, cond_true, cond_false, Bool.cond_self, D.lt, D.lts, D.alike, D.alikes, ordOk, MulOk, LINE, ixN, startE, evSs, evS, evE, evEs, evB, evO, evC, frzs, frz, conts, cont, look, slotOf, Sv.rv, bnd_some, bnd_none, mpd_some, mpd_none, binop, cmpop, idxop, sliop, asI, asB, primF, kill, ML.bind, bindT, D.isTy, D.okd, D.okds, D.eqv, D.eqvs, D.flat, D.ints, D.bls, DEEP, itF, itSeq, itR1, itR2, itEn, itZ, itRev, mutF, ownL, augF, whC, whB, cmpB, forB, List.map_cons, List.map_nil, List.cons_append, List.nil_append, List.append_nil, List.length_cons, List.length_nil, List.replicate, List.getElem?_cons_zero, List.getElem?_cons_succ, List.set_cons_zero, List.set_cons_succ, Nat.zero_add, Nat.reduceAdd, Nat.reduceSub, Nat.reduceLeDiff, ite_true, ite_false, if_true, if_false, Bool.true_eq_false, Bool.false_eq_true, reduceIte, reduceCtorEq, Bool.not_true, Bool.not_false, Bool.and_true, Bool.and_self, Bool.true_and, Bool.false_and, Bool.and_false, Bool.or_true, Bool.true_or, Bool.or_false, Bool.false_or, and_self, and_true, true_and, true_or, or_true, Int.reduceLT, Int.reduceLE, Int.reducePow, Int.reduceNeg, Int.reduceMul, Int.reduceAdd, Int.reduceSub, Int.reduceToNat, fusF, D.items, List.all_cons, List.all_nil, id, Nat.reduceLT, Nat.reducePow, decide_true, decide_false, decide_eq_true_eq, beqI, beqS, beqB, bne, natc0, natc1, Int.cast_ofNat_Int, sg_turn, sg_mirror, sg_up, sg_down, sg_a, sg_b, sg_c, ne_mt, ne_tm, ne_ud, ne_du, Bool.not_eq_eq_eq_not, Bool.not_true, decide_eq_false_iff_not, Decidable.not_not, BEq.rfl, not_true_eq_false, not_false_eq_true, Fn.law_tuple, tupI, ids_len, e3, Int.toNat_natCast, kk]
  · have kk := key (.tup (ids a)) fun i v hv => idx_tup (by rw [ids_get, hv]; rfl)
    simp -dsimp -implicitDefEqProofs only [evBody, argS, endF, els_some, orI_some, orI_none, frzAll, Sv.frz, Rv.imm, Sv.imm, D.imm, D.imms, cond_true, cond_false, Bool.cond_self, D.lt, D.lts, D.alike, D.alikes, ordOk, MulOk, LINE, ixN, startE, evSs, evS, evE, evEs, evB, evO, evC, frzs, frz, conts, cont, look, slotOf, Sv.rv, bnd_some, bnd_none, mpd_some, mpd_none, binop, cmpop, idxop, sliop, asI, asB, primF, kill, ML.bind, bindT, D.isTy, D.okd, D.okds, D.eqv, D.eqvs, D.flat, D.ints, D.bls, DEEP, itF, itSeq, itR1, itR2, itEn, itZ, itRev, mutF, ownL, augF, whC, whB, cmpB, forB, List.map_cons, List.map_nil, List.cons_append, List.nil_append, List.append_nil, List.length_cons, List.length_nil, List.replicate, List.getElem?_cons_zero, List.getElem?_cons_succ, List.set_cons_zero, List.set_cons_succ, Nat.zero_add, Nat.reduceAdd, Nat.reduceSub, Nat.reduceLeDiff, ite_true, ite_false, if_true, if_false, Bool.true_eq_false, Bool.false_eq_true, reduceIte, reduceCtorEq, Bool.not_true, Bool.not_false, Bool.and_true, Bool.and_self, Bool.true_and, Bool.false_and, Bool.and_false, Bool.or_true, Bool.true_or, Bool.or_false, Bool.false_or, and_self, and_true, true_and, true_or, or_true, Int.reduceLT, Int.reduceLE, Int.reducePow, Int.reduceNeg, Int.reduceMul, Int.reduceAdd, Int.reduceSub, Int.reduceToNat, fusF, D.items, List.all_cons, List.all_nil, id, Nat.reduceLT, Nat.reducePow, decide_true, decide_false, decide_eq_true_eq, beqI, beqS, beqB, bne, natc0, natc1, Int.cast_ofNat_Int, sg_turn, sg_mirror, sg_up, sg_down, sg_a, sg_b, sg_c, ne_mt, ne_tm, ne_ud, ne_du, Bool.not_eq_eq_eq_not, Bool.not_true, decide_eq_false_iff_not, Decidable.not_not, BEq.rfl, not_true_eq_false, not_false_eq_true, Fn.law_tuple, tupI, ids_len, e3, Int.toNat_natCast, kk]
/-- few different numbers -/
theorem sortU_few {n : Int} (hn : 0 ≤ n) {l : List Int} (h : ∀ t ∈ l, 0 ≤ t ∧ t < n) : Crowd n (sortU l) := ⟨sortU_rises l, fun t ht => h t (mem_sortU.mp ht)⟩
theorem crowd_of_c (k : Nat) {n : Int} (hn : 0 < n) (hn' : n ≤ 60) (xs : List Int) (hl : xs.length ≤ 1000) (d : D) (hd : d = .lst (ids xs) ∨ d = .tup (ids xs)) : callF Pt (k + 1) 21 [.int n, d] = some (.fro (tupI (sortU (xs.map (· % n))))) := by
  have hc : Crowd n (sortU (xs.map (· % n))) := sortU_few (by omega) fun t ht => by
    obtain ⟨x, _, rfl⟩ := List.mem_map.mp ht
    exact ⟨Int.emod_nonneg _ (by omega), Int.emod_lt_of_pos _ hn⟩
  have h1 := hc.len (by omega)
  have h2 : (sortU (xs.map (· % n))).length < 64 := by omega
  have hl' : (xs.map (· % n)).length ≤ 1000 := by rw [List.length_map]; exact hl
  have key : ∀ d : D, evComp (cmpB (.one 2) [2] (evC (callF Pt k) []) (evE (callF Pt k) (.bin .mod (.var 2) (.var 0))) (.it _) (.it _)) (ids xs) [Sv.fro (.int n), Sv.fro d, Sv.no] = some (ids (xs.map (· % n)), [Sv.fro (.int n), Sv.fro d, Sv.no]) := by
    intro d
    unfold ids
    rw [comp_all D.int (fun x => .int (x % n))]
    · rw [List.map_map]
      rfl
    · intro x hx
      simp -dsimp -implicitDefEqProofs only [evBody, argS, endF, els_some, orI_some, orI_none, frzAll, Sv.frz, Rv.imm, Sv.imm, D.imm, D.imms, cond_true, cond_false, Bool.cond_self, D.lt, D.lts, D.alike, D.alikes, ordOk, MulOk, LINE, ixN, startE, evSs, evS, evE, evEs, evB, evO, evC, frzs, frz, conts, cont, look, slotOf, Sv.rv, bnd_some, bnd_none, mpd_some, mpd_none, binop, cmpop, idxop, sliop, asI, asB, primF, kill, ML.bind, bindT, D.isTy, D.okd, D.okds, D.eqv, D.eqvs, D.flat, D.ints, D.bls, DEEP, itF, itSeq, itR1, itR2, itEn, itZ, itRev, mutF, ownL, augF, whC, whB, cmpB, forB, List.map_cons, List.map_nil, List.cons_append, List.nil_append, List.append_nil, List.length_cons, List.length_nil, List.replicate, List.getElem?_cons_zero, List.getElem?_cons_succ, List.set_cons_zero, List.set_cons_succ, Nat.zero_add, Nat.reduceAdd, Nat.reduceSub, Nat.reduceLeDiff, ite_true, ite_false, if_true, if_false, Bool.true_eq_false, Bool.false_eq_true, reduceIte, reduceCtorEq, Bool.not_true, Bool.not_false, Bool.and_true, Bool.and_self, Bool.true_and, Bool.false_and, Bool.and_false, Bool.or_true, Bool.true_or, Bool.or_false, Bool.false_or, and_self, and_true, true_and, true_or, or_true, Int.reduceLT, Int.reduceLE, Int.reducePow, Int.reduceNeg, Int.reduceMul, Int.reduceAdd, Int.reduceSub, Int.reduceToNat, fusF, D.items, List.all_cons, List.all_nil, id, Nat.reduceLT, Nat.reducePow, decide_true, decide_false, decide_eq_true_eq, beqI, beqS, beqB, bne, natc0, natc1, Int.cast_ofNat_Int, sg_turn, sg_mirror, sg_up, sg_down, sg_a, sg_b, sg_c, ne_mt, ne_tm, ne_ud, ne_du, Bool.not_eq_eq_eq_not, Bool.not_true, decide_eq_false_iff_not, Decidable.not_not, BEq.rfl, not_true_eq_false, not_false_eq_true, hn]
  rw [callF, Pt_crowd_of]
  rcases hd with rfl | rfl
  · simp -dsimp -implicitDefEqProofs only [evBody, argS, endF, els_some, orI_some, orI_none, frzAll, Sv.frz, Rv.imm, Sv.imm, D.imm, D.imms, cond_true, cond_false, Bool.cond_self, D.lt, D.lts, D.alike, D.alikes, ordOk, MulOk, LINE, ixN, startE, evSs, evS, evE, evEs, evB, evO, evC, frzs, frz, conts, cont, look, slotOf, Sv.rv, bnd_some, bnd_none, mpd_some, mpd_none, binop, cmpop, idxop, sliop, asI, asB, primF, kill, ML.bind, bindT, D.isTy, D.okd, D.okds, D.eqv, D.eqvs, D.flat, D.ints, D.bls, DEEP, itF, itSeq, itR1, itR2, itEn, itZ, itRev, mutF, ownL, augF, whC, whB, cmpB, forB, List.map_cons, List.map_nil, List.cons_append, List.nil_append, List.append_nil, List.length_cons, List.length_nil, List.replicate, List.getElem?_cons_zero, List.getElem?_cons_succ, List.set_cons_zero, List.set_cons_succ, Nat.zero_add, Nat.reduceAdd, Nat.reduceSub, Nat.reduceLeDiff, ite_true, ite_false, if_true, if_false, Bool.true_eq_false, Bool.false_eq_true, reduceIte, reduceCtorEq, Bool.not_true, Bool.not_false, Bool.and_true, Bool.and_self, Bool.true_and, Bool.false_and, Bool.and_false, Bool.or_true, Bool.true_or, Bool.or_false, Bool.false_or, and_self, and_true, true_and, true_or, or_true, Int.reduceLT, Int.reduceLE, Int.reducePow, Int.reduceNeg, Int.reduceMul, Int.reduceAdd, Int.reduceSub, Int.reduceToNat, fusF, D.items, List.all_cons, List.all_nil, id, Nat.reduceLT, Nat.reducePow, decide_true, decide_false, decide_eq_true_eq, beqI, beqS, beqB, bne, natc0, natc1, Int.cast_ofNat_Int, sg_turn, sg_mirror, sg_up, sg_down, sg_a, sg_b, sg_c, ne_mt, ne_tm, ne_ud, ne_du, Bool.not_eq_eq_eq_not, Bool.not_true, decide_eq_false_iff_not, Decidable.not_not, BEq.rfl, not_true_eq_false, not_false_eq_true, Fn.crowd_of, key, ints_ids, h2, hl']
    rfl
  · simp -dsimp -implicitDefEqProofs only [evBody, argS, endF, els_some, orI_some, orI_none, frzAll, Sv.frz, Rv.imm, Sv.imm, D.imm, D.imms, cond_true, cond_false, Bool.cond_self, D.lt, D.lts, D.alike, D.alikes, ordOk, MulOk, LINE, ixN, startE, evSs, evS, evE, evEs, evB, evO, evC, frzs, frz, conts, cont, look, slotOf, Sv.rv, bnd_some, bnd_none, mpd_some, mpd_none, binop, cmpop, idxop, sliop, asI, asB, primF, kill, ML.bind, bindT, D.isTy, D.okd, D.okds, D.eqv, D.eqvs, D.flat, D.ints, D.bls, DEEP, itF, itSeq, itR1, itR2, itEn, itZ, itRev, mutF, ownL, augF, whC, whB, cmpB, forB, List.map_cons, List.map_nil, List.cons_append, List.nil_append, List.append_nil, List.length_cons, List.length_nil, List.replicate, List.getElem?_cons_zero, List.getElem?_cons_succ, List.set_cons_zero, List.set_cons_succ, Nat.zero_add, Nat.reduceAdd, Nat.reduceSub, Nat.reduceLeDiff, ite_true, ite_false, if_true, if_false, Bool.true_eq_false, Bool.false_eq_true, reduceIte, reduceCtorEq, Bool.not_true, Bool.not_false, Bool.and_true, Bool.and_self, Bool.true_and, Bool.false_and, Bool.and_false, Bool.or_true, Bool.true_or, Bool.or_false, Bool.false_or, and_self, and_true, true_and, true_or, or_true, Int.reduceLT, Int.reduceLE, Int.reducePow, Int.reduceNeg, Int.reduceMul, Int.reduceAdd, Int.reduceSub, Int.reduceToNat, fusF, D.items, List.all_cons, List.all_nil, id, Nat.reduceLT, Nat.reducePow, decide_true, decide_false, decide_eq_true_eq, beqI, beqS, beqB, bne, natc0, natc1, Int.cast_ofNat_Int, sg_turn, sg_mirror, sg_up, sg_down, sg_a, sg_b, sg_c, ne_mt, ne_tm, ne_ud, ne_du, Bool.not_eq_eq_eq_not, Bool.not_true, decide_eq_false_iff_not, Decidable.not_not, BEq.rfl, not_true_eq_false, not_false_eq_true, Fn.crowd_of, key, ints_ids, h2, hl']
    rfl
/-- a crowd changed -/
def chgCrowd (n : Int) (m : Bool) (t : Int) (ts : List Int) : List Int := sortU (ts.map (chgDo n m t))
theorem chgDo_range {n : Int} (hn : 0 < n) (m : Bool) (t x : Int) : 0 ≤ chgDo n m t x ∧ chgDo n m t x < n := by
  cases m <;> exact ⟨Int.emod_nonneg _ (by omega), Int.emod_lt_of_pos _ hn⟩
theorem crowd_chg {n : Int} (hn : 0 < n) (m : Bool) (t : Int) (ts : List Int) : Crowd n (chgCrowd n m t ts) := sortU_few (by omega) fun x hx => by
  obtain ⟨y, _, rfl⟩ := List.mem_map.mp hx
  exact chgDo_range hn m t y
theorem changed_c (k : Nat) {n : Int} (hn : 0 < n) (hn' : n ≤ 60) (m : Bool) (t : Int) (ts : List Int) (hl : ts.length ≤ 1000) : callF Pt (k + 2) 24 [.int n, tupI ts, chg m t] = some (.fro (tupI (chgCrowd n m t ts))) := by
  have e : (ts.map (chgDo n m t)).map (· % n) = ts.map (chgDo n m t) := by
    rw [List.map_map]
    apply List.map_congr_left
    intro x _
    exact Int.emod_eq_of_lt (chgDo_range hn m t x).1 (chgDo_range hn m t x).2
  have key : ∀ d : D, evComp (cmpB (.one 3) [3] (evC (callF Pt (k + 1)) []) (evE (callF Pt (k + 1)) (.call 9 [(.var 0), (.var 2), (.var 3)])) (.it _) (.it _)) (ids ts) [Sv.fro (.int n), Sv.fro d, Sv.fro (chg m t), Sv.no] = some (ids (ts.map (chgDo n m t)), [Sv.fro (.int n), Sv.fro d, Sv.fro (chg m t), Sv.no]) := by
    intro d
    unfold ids
    rw [comp_all D.int (fun x => .int (chgDo n m t x))]
    · rw [List.map_map]
      rfl
    · intro x hx
      simp -dsimp -implicitDefEqProofs only [evBody, argS, endF, els_some, orI_some, orI_none, frzAll, Sv.frz, Rv.imm, Sv.imm, D.imm, D.imms, cond_true, cond_false, Bool.cond_self, D.lt, D.lts, D.alike, D.alikes, ordOk, MulOk, LINE, ixN, startE, evSs, evS, evE, evEs, evB, evO, evC, frzs, frz, conts, cont, look, slotOf, Sv.rv, bnd_some, bnd_none, mpd_some, mpd_none, binop, cmpop, idxop, sliop, asI, asB, primF, kill, ML.bind, bindT, D.isTy, D.okd, D.okds, D.eqv, D.eqvs, D.flat, D.ints, D.bls, DEEP, itF, itSeq, itR1, itR2, itEn, itZ, itRev, mutF, ownL, augF, whC, whB, cmpB, forB, List.map_cons, List.map_nil, List.cons_append, List.nil_append, List.append_nil, List.length_cons, List.length_nil, List.replicate, List.getElem?_cons_zero, List.getElem?_cons_succ, List.set_cons_zero, List.set_cons_succ, Nat.zero_add, Nat.reduceAdd, Nat.reduceSub, Nat.reduceLeDiff, ite_true, ite_false, if_true, if_false, Bool.true_eq_false, Bool.false_eq_true, reduceIte, reduceCtorEq, Bool.not_true, Bool.not_false, Bool.and_true, Bool.and_self, Bool.true_and, Bool.false_and, Bool.and_false, Bool.or_true, Bool.true_or, Bool.or_false, Bool.false_or, and_self, and_true, true_and, true_or, or_true, Int.reduceLT, Int.reduceLE, Int.reducePow, Int.reduceNeg, Int.reduceMul, Int.reduceAdd, Int.reduceSub, Int.reduceToNat, fusF, D.items, List.all_cons, List.all_nil, id, Nat.reduceLT, Nat.reducePow, decide_true, decide_false, decide_eq_true_eq, beqI, beqS, beqB, bne, natc0, natc1, Int.cast_ofNat_Int, sg_turn, sg_mirror, sg_up, sg_down, sg_a, sg_b, sg_c, ne_mt, ne_tm, ne_ud, ne_du, Bool.not_eq_eq_eq_not, Bool.not_true, decide_eq_false_iff_not, Decidable.not_not, BEq.rfl, not_true_eq_false, not_false_eq_true, done_c _ hn]
  have co := crowd_of_c k hn hn' (ts.map (chgDo n m t)) (by rw [List.length_map]; exact hl) _ (.inl rfl)
  rw [e] at co
  rw [callF, Pt_changed]
  simp -dsimp -implicitDefEqProofs only [evBody, argS, endF, els_some, orI_some, orI_none, frzAll, Sv.frz, Rv.imm, Sv.imm, D.imm, D.imms, cond_true, cond_false, Bool.cond_self, D.lt, D.lts, D.alike, D.alikes, ordOk, MulOk, LINE, ixN, startE, evSs, evS, evE, evEs, evB, evO, evC, frzs, frz, conts, cont, look, slotOf, Sv.rv, bnd_some, bnd_none, mpd_some, mpd_none, binop, cmpop, idxop, sliop, asI, asB, primF, kill, ML.bind, bindT, D.isTy, D.okd, D.okds, D.eqv, D.eqvs, D.flat, D.ints, D.bls, DEEP, itF, itSeq, itR1, itR2, itEn, itZ, itRev, mutF, ownL, augF, whC, whB, cmpB, forB, List.map_cons, List.map_nil, List.cons_append, List.nil_append, List.append_nil, List.length_cons, List.length_nil, List.replicate, List.getElem?_cons_zero, List.getElem?_cons_succ, List.set_cons_zero, List.set_cons_succ, Nat.zero_add, Nat.reduceAdd, Nat.reduceSub, Nat.reduceLeDiff, ite_true, ite_false, if_true, if_false, Bool.true_eq_false, Bool.false_eq_true, reduceIte, reduceCtorEq, Bool.not_true, Bool.not_false, Bool.and_true, Bool.and_self, Bool.true_and, Bool.false_and, Bool.and_false, Bool.or_true, Bool.true_or, Bool.or_false, Bool.false_or, and_self, and_true, true_and, true_or, or_true, Int.reduceLT, Int.reduceLE, Int.reducePow, Int.reduceNeg, Int.reduceMul, Int.reduceAdd, Int.reduceSub, Int.reduceToNat, fusF, D.items, List.all_cons, List.all_nil, id, Nat.reduceLT, Nat.reducePow, decide_true, decide_false, decide_eq_true_eq, beqI, beqS, beqB, bne, natc0, natc1, Int.cast_ofNat_Int, sg_turn, sg_mirror, sg_up, sg_down, sg_a, sg_b, sg_c, ne_mt, ne_tm, ne_ud, ne_du, Bool.not_eq_eq_eq_not, Bool.not_true, decide_eq_false_iff_not, Decidable.not_not, BEq.rfl, not_true_eq_false, not_false_eq_true, Fn.changed, tupI, key, co]
  rfl
theorem others_c (k : Nat) {n : Int} (hn : 0 ≤ n) (hn' : n ≤ 1000) (ts : List Int) : callF Pt (k + 1) 25 [.int n, tupI ts] = some (.fro (tupI ((upto n.toNat).filter fun t => !decide (t ∈ ts)))) := by
  have e3 : -4611686018427387904 ≤ n ∧ n ≤ 16777216 := by omega
  rw [callF, Pt_others]
  simp -dsimp -implicitDefEqProofs only [evBody, argS, endF, els_some, orI_some, orI_none, frzAll, Sv.frz, Rv.imm, Sv.imm, D.imm, D.imms, cond_true, cond_false, Bool.cond_self, D.lt, D.lts, D.alike, D.alikes, ordOk, MulOk, LINE, ixN, startE, evSs, evS, evE, evEs, evB, evO, evC, frzs, frz, conts, cont, look, slotOf, Sv.rv, bnd_some, bnd_none, mpd_some, mpd_none, binop, cmpop, idxop, sliop, asI, asB, primF, kill, ML.bind, bindT, D.isTy, D.okd, D.okds, D.eqv, D.eqvs, D.flat, D.ints, D.bls, DEEP, itF, itSeq, itR1, itR2, itEn, itZ, itRev, mutF, ownL, augF, whC, whB, cmpB, forB, List.map_cons, List.map_nil, List.cons_append, List.nil_append, List.append_nil, List.length_cons, List.length_nil, List.replicate, List.getElem?_cons_zero, List.getElem?_cons_succ, List.set_cons_zero, List.set_cons_succ, Nat.zero_add, Nat.reduceAdd, Nat.reduceSub, Nat.reduceLeDiff, ite_true, ite_false, if_true, if_false, Bool.true_eq_false, Bool.false_eq_true, reduceIte, reduceCtorEq, Bool.not_true, Bool.not_false, Bool.and_true, Bool.and_self, Bool.true_and, Bool.false_and, Bool.and_false, Bool.or_true, Bool.true_or, Bool.or_false, Bool.false_or, and_self, and_true, true_and, true_or, or_true, Int.reduceLT, Int.reduceLE, Int.reducePow, Int.reduceNeg, Int.reduceMul, Int.reduceAdd, Int.reduceSub, Int.reduceToNat, fusF, D.items, List.all_cons, List.all_nil, id, Nat.reduceLT, Nat.reducePow, decide_true, decide_false, decide_eq_true_eq, beqI, beqS, beqB, bne, natc0, natc1, Int.cast_ofNat_Int, sg_turn, sg_mirror, sg_up, sg_down, sg_a, sg_b, sg_c, ne_mt, ne_tm, ne_ud, ne_du, Bool.not_eq_eq_eq_not, Bool.not_true, decide_eq_false_iff_not, Decidable.not_not, BEq.rfl, not_true_eq_false, not_false_eq_true, Fn.others, e3, rangeD_upto, tupI]
  rw [show ids (upto n.toNat) = (upto n.toNat).map D.int from rfl, comp_of D.int (fun t => !decide (t ∈ ts)) D.int]
  · simp -dsimp -implicitDefEqProofs only [evBody, argS, endF, els_some, orI_some, orI_none, frzAll, Sv.frz, Rv.imm, Sv.imm, D.imm, D.imms, cond_true, cond_false, Bool.cond_self, D.lt, D.lts, D.alike, D.alikes, ordOk, MulOk, LINE, ixN, startE, evSs, evS, evE, evEs, evB, evO, evC, frzs, frz, conts, cont, look, slotOf, Sv.rv, bnd_some, bnd_none, mpd_some, mpd_none, binop, cmpop, idxop, sliop, asI, asB, primF, kill, ML.bind, bindT, D.isTy, D.okd, D.okds, D.eqv, D.eqvs, D.flat, D.ints, D.bls, DEEP, itF, itSeq, itR1, itR2, itEn, itZ, itRev, mutF, ownL, augF, whC, whB, cmpB, forB, List.map_cons, List.map_nil, List.cons_append, List.nil_append, List.append_nil, List.length_cons, List.length_nil, List.replicate, List.getElem?_cons_zero, List.getElem?_cons_succ, List.set_cons_zero, List.set_cons_succ, Nat.zero_add, Nat.reduceAdd, Nat.reduceSub, Nat.reduceLeDiff, ite_true, ite_false, if_true, if_false, Bool.true_eq_false, Bool.false_eq_true, reduceIte, reduceCtorEq, Bool.not_true, Bool.not_false, Bool.and_true, Bool.and_self, Bool.true_and, Bool.false_and, Bool.and_false, Bool.or_true, Bool.true_or, Bool.or_false, Bool.false_or, and_self, and_true, true_and, true_or, or_true, Int.reduceLT, Int.reduceLE, Int.reducePow, Int.reduceNeg, Int.reduceMul, Int.reduceAdd, Int.reduceSub, Int.reduceToNat, fusF, D.items, List.all_cons, List.all_nil, id, Nat.reduceLT, Nat.reducePow, decide_true, decide_false, decide_eq_true_eq, beqI, beqS, beqB, bne, natc0, natc1, Int.cast_ofNat_Int, sg_turn, sg_mirror, sg_up, sg_down, sg_a, sg_b, sg_c, ne_mt, ne_tm, ne_ud, ne_du, Bool.not_eq_eq_eq_not, Bool.not_true, decide_eq_false_iff_not, Decidable.not_not, BEq.rfl, not_true_eq_false, not_false_eq_true]
    rfl
  · intro t _
    by_cases h : t ∈ ts
    · simp -dsimp -implicitDefEqProofs only [evBody, argS, endF, els_some, orI_some, orI_none, frzAll, Sv.frz, Rv.imm, Sv.imm, D.imm, D.imms, cond_true, cond_false, Bool.cond_self, D.lt, D.lts, D.alike, D.alikes, ordOk, MulOk, LINE, ixN, startE, evSs, evS, evE, evEs, evB, evO, evC, frzs, frz, conts, cont, look, slotOf, Sv.rv, bnd_some, bnd_none, mpd_some, mpd_none, binop, cmpop, idxop, sliop, asI, asB, primF, kill, ML.bind, bindT, D.isTy, D.okd, D.okds, D.eqv, D.eqvs, D.flat, D.ints, D.bls, DEEP, itF, itSeq, itR1, itR2, itEn, itZ, itRev, mutF, ownL, augF, whC, whB, cmpB, forB, List.map_cons, List.map_nil, List.cons_append, List.nil_append, List.append_nil, List.length_cons, List.length_nil, List.replicate, List.getElem?_cons_zero, List.getElem?_cons_succ, List.set_cons_zero, List.set_cons_succ, Nat.zero_add, Nat.reduceAdd, Nat.reduceSub, Nat.reduceLeDiff, ite_true, ite_false, if_true, if_false, Bool.true_eq_false, Bool.false_eq_true, reduceIte, reduceCtorEq, Bool.not_true, Bool.not_false, Bool.and_true, Bool.and_self, Bool.true_and, Bool.false_and, Bool.and_false, Bool.or_true, Bool.true_or, Bool.or_false, Bool.false_or, and_self, and_true, true_and, true_or, or_true, Int.reduceLT, Int.reduceLE, Int.reducePow, Int.reduceNeg, Int.reduceMul, Int.reduceAdd, Int.reduceSub, Int.reduceToNat, fusF, D.items, List.all_cons, List.all_nil, id, Nat.reduceLT, Nat.reducePow, decide_true, decide_false, decide_eq_true_eq, beqI, beqS, beqB, bne, natc0, natc1, Int.cast_ofNat_Int, sg_turn, sg_mirror, sg_up, sg_down, sg_a, sg_b, sg_c, ne_mt, ne_tm, ne_ud, ne_du, Bool.not_eq_eq_eq_not, Bool.not_true, decide_eq_false_iff_not, Decidable.not_not, BEq.rfl, not_true_eq_false, not_false_eq_true, flat_ids, inb_ids, h]
    · simp -dsimp -implicitDefEqProofs only [evBody, argS, endF, els_some, orI_some, orI_none, frzAll, Sv.frz, Rv.imm, Sv.imm, D.imm, D.imms, cond_true, cond_false, Bool.cond_self, D.lt, D.lts, D.alike, D.alikes, ordOk, MulOk, LINE, ixN, startE, evSs, evS, evE, evEs, evB, evO, evC, frzs, frz, conts, cont, look, slotOf, Sv.rv, bnd_some, bnd_none, mpd_some, mpd_none, binop, cmpop, idxop, sliop, asI, asB, primF, kill, ML.bind, bindT, D.isTy, D.okd, D.okds, D.eqv, D.eqvs, D.flat, D.ints, D.bls, DEEP, itF, itSeq, itR1, itR2, itEn, itZ, itRev, mutF, ownL, augF, whC, whB, cmpB, forB, List.map_cons, List.map_nil, List.cons_append, List.nil_append, List.append_nil, List.length_cons, List.length_nil, List.replicate, List.getElem?_cons_zero, List.getElem?_cons_succ, List.set_cons_zero, List.set_cons_succ, Nat.zero_add, Nat.reduceAdd, Nat.reduceSub, Nat.reduceLeDiff, ite_true, ite_false, if_true, if_false, Bool.true_eq_false, Bool.false_eq_true, reduceIte, reduceCtorEq, Bool.not_true, Bool.not_false, Bool.and_true, Bool.and_self, Bool.true_and, Bool.false_and, Bool.and_false, Bool.or_true, Bool.true_or, Bool.or_false, Bool.false_or, and_self, and_true, true_and, true_or, or_true, Int.reduceLT, Int.reduceLE, Int.reducePow, Int.reduceNeg, Int.reduceMul, Int.reduceAdd, Int.reduceSub, Int.reduceToNat, fusF, D.items, List.all_cons, List.all_nil, id, Nat.reduceLT, Nat.reducePow, decide_true, decide_false, decide_eq_true_eq, beqI, beqS, beqB, bne, natc0, natc1, Int.cast_ofNat_Int, sg_turn, sg_mirror, sg_up, sg_down, sg_a, sg_b, sg_c, ne_mt, ne_tm, ne_ud, ne_du, Bool.not_eq_eq_eq_not, Bool.not_true, decide_eq_false_iff_not, Decidable.not_not, BEq.rfl, not_true_eq_false, not_false_eq_true, flat_ids, inb_ids, h]
theorem common_c (k : Nat) (as bs : List Int) : callF Pt (k + 1) 26 [tupI as, tupI bs] = some (.fro (tupI (as.filter fun t => decide (t ∈ bs)))) := by
  rw [callF, Pt_common]
  simp -dsimp -implicitDefEqProofs only [evBody, argS, endF, els_some, orI_some, orI_none, frzAll, Sv.frz, Rv.imm, Sv.imm, D.imm, D.imms, cond_true, cond_false, Bool.cond_self, D.lt, D.lts, D.alike, D.alikes, ordOk, MulOk, LINE, ixN, startE, evSs, evS, evE, evEs, evB, evO, evC, frzs, frz, conts, cont, look, slotOf, Sv.rv, bnd_some, bnd_none, mpd_some, mpd_none, binop, cmpop, idxop, sliop, asI, asB, primF, kill, ML.bind, bindT, D.isTy, D.okd, D.okds, D.eqv, D.eqvs, D.flat, D.ints, D.bls, DEEP, itF, itSeq, itR1, itR2, itEn, itZ, itRev, mutF, ownL, augF, whC, whB, cmpB, forB, List.map_cons, List.map_nil, List.cons_append, List.nil_append, List.append_nil, List.length_cons, List.length_nil, List.replicate, List.getElem?_cons_zero, List.getElem?_cons_succ, List.set_cons_zero, List.set_cons_succ, Nat.zero_add, Nat.reduceAdd, Nat.reduceSub, Nat.reduceLeDiff, ite_true, ite_false, if_true, if_false, Bool.true_eq_false, Bool.false_eq_true, reduceIte, reduceCtorEq, Bool.not_true, Bool.not_false, Bool.and_true, Bool.and_self, Bool.true_and, Bool.false_and, Bool.and_false, Bool.or_true, Bool.true_or, Bool.or_false, Bool.false_or, and_self, and_true, true_and, true_or, or_true, Int.reduceLT, Int.reduceLE, Int.reducePow, Int.reduceNeg, Int.reduceMul, Int.reduceAdd, Int.reduceSub, Int.reduceToNat, fusF, D.items, List.all_cons, List.all_nil, id, Nat.reduceLT, Nat.reducePow, decide_true, decide_false, decide_eq_true_eq, beqI, beqS, beqB, bne, natc0, natc1, Int.cast_ofNat_Int, sg_turn, sg_mirror, sg_up, sg_down, sg_a, sg_b, sg_c, ne_mt, ne_tm, ne_ud, ne_du, Bool.not_eq_eq_eq_not, Bool.not_true, decide_eq_false_iff_not, Decidable.not_not, BEq.rfl, not_true_eq_false, not_false_eq_true, Fn.common, tupI]
  rw [show evComp _ (ids as) _ = evComp _ (as.map D.int) _ from rfl, comp_of D.int (fun t => decide (t ∈ bs)) D.int]
  · simp -dsimp -implicitDefEqProofs only [evBody, argS, endF, els_some, orI_some, orI_none, frzAll, Sv.frz, Rv.imm, Sv.imm, D.imm, D.imms, cond_true, cond_false, Bool.cond_self, D.lt, D.lts, D.alike, D.alikes, ordOk, MulOk, LINE, ixN, startE, evSs, evS, evE, evEs, evB, evO, evC, frzs, frz, conts, cont, look, slotOf, Sv.rv, bnd_some, bnd_none, mpd_some, mpd_none, binop, cmpop, idxop, sliop, asI, asB, primF, kill, ML.bind, bindT, D.isTy, D.okd, D.okds, D.eqv, D.eqvs, D.flat, D.ints, D.bls, DEEP, itF, itSeq, itR1, itR2, itEn, itZ, itRev, mutF, ownL, augF, whC, whB, cmpB, forB, List.map_cons, List.map_nil, List.cons_append, List.nil_append, List.append_nil, List.length_cons, List.length_nil, List.replicate, List.getElem?_cons_zero, List.getElem?_cons_succ, List.set_cons_zero, List.set_cons_succ, Nat.zero_add, Nat.reduceAdd, Nat.reduceSub, Nat.reduceLeDiff, ite_true, ite_false, if_true, if_false, Bool.true_eq_false, Bool.false_eq_true, reduceIte, reduceCtorEq, Bool.not_true, Bool.not_false, Bool.and_true, Bool.and_self, Bool.true_and, Bool.false_and, Bool.and_false, Bool.or_true, Bool.true_or, Bool.or_false, Bool.false_or, and_self, and_true, true_and, true_or, or_true, Int.reduceLT, Int.reduceLE, Int.reducePow, Int.reduceNeg, Int.reduceMul, Int.reduceAdd, Int.reduceSub, Int.reduceToNat, fusF, D.items, List.all_cons, List.all_nil, id, Nat.reduceLT, Nat.reducePow, decide_true, decide_false, decide_eq_true_eq, beqI, beqS, beqB, bne, natc0, natc1, Int.cast_ofNat_Int, sg_turn, sg_mirror, sg_up, sg_down, sg_a, sg_b, sg_c, ne_mt, ne_tm, ne_ud, ne_du, Bool.not_eq_eq_eq_not, Bool.not_true, decide_eq_false_iff_not, Decidable.not_not, BEq.rfl, not_true_eq_false, not_false_eq_true]
    rfl
  · intro t _
    by_cases h : t ∈ bs
    · simp -dsimp -implicitDefEqProofs only [evBody, argS, endF, els_some, orI_some, orI_none, frzAll, Sv.frz, Rv.imm, Sv.imm, D.imm, D.imms, cond_true, cond_false, Bool.cond_self, D.lt, D.lts, D.alike, D.alikes, ordOk, MulOk, LINE, ixN, startE, evSs, evS, evE, evEs, evB, evO, evC, frzs, frz, conts, cont, look, slotOf, Sv.rv, bnd_some, bnd_none, mpd_some, mpd_none, binop, cmpop, idxop, sliop, asI, asB, primF, kill, ML.bind, bindT, D.isTy, D.okd, D.okds, D.eqv, D.eqvs, D.flat, D.ints, D.bls, DEEP, itF, itSeq, itR1, itR2, itEn, itZ, itRev, mutF, ownL, augF, whC, whB, cmpB, forB, List.map_cons, List.map_nil, List.cons_append, List.nil_append, List.append_nil, List.length_cons, List.length_nil, List.replicate, List.getElem?_cons_zero, List.getElem?_cons_succ, List.set_cons_zero, List.set_cons_succ, Nat.zero_add, Nat.reduceAdd, Nat.reduceSub, Nat.reduceLeDiff, ite_true, ite_false, if_true, if_false, Bool.true_eq_false, Bool.false_eq_true, reduceIte, reduceCtorEq, Bool.not_true, Bool.not_false, Bool.and_true, Bool.and_self, Bool.true_and, Bool.false_and, Bool.and_false, Bool.or_true, Bool.true_or, Bool.or_false, Bool.false_or, and_self, and_true, true_and, true_or, or_true, Int.reduceLT, Int.reduceLE, Int.reducePow, Int.reduceNeg, Int.reduceMul, Int.reduceAdd, Int.reduceSub, Int.reduceToNat, fusF, D.items, List.all_cons, List.all_nil, id, Nat.reduceLT, Nat.reducePow, decide_true, decide_false, decide_eq_true_eq, beqI, beqS, beqB, bne, natc0, natc1, Int.cast_ofNat_Int, sg_turn, sg_mirror, sg_up, sg_down, sg_a, sg_b, sg_c, ne_mt, ne_tm, ne_ud, ne_du, Bool.not_eq_eq_eq_not, Bool.not_true, decide_eq_false_iff_not, Decidable.not_not, BEq.rfl, not_true_eq_false, not_false_eq_true, flat_ids, inb_ids, h]
    · simp -dsimp -implicitDefEqProofs only [evBody, argS, endF, els_some, orI_some, orI_none, frzAll, Sv.frz, Rv.imm, Sv.imm, D.imm, D.imms, cond_true, cond_false, Bool.cond_self, D.lt, D.lts, D.alike, D.alikes, ordOk, MulOk, LINE, ixN, startE, evSs, evS, evE, evEs, evB, evO, evC, frzs, frz, conts, cont, look, slotOf, Sv.rv, bnd_some, bnd_none, mpd_some, mpd_none, binop, cmpop, idxop, sliop, asI, asB, primF, kill, ML.bind, bindT, D.isTy, D.okd, D.okds, D.eqv, D.eqvs, D.flat, D.ints, D.bls, DEEP, itF, itSeq, itR1, itR2, itEn, itZ, itRev, mutF, ownL, augF, whC, whB, cmpB, forB, List.map_cons, List.map_nil, List.cons_append, List.nil_append, List.append_nil, List.length_cons, List.length_nil, List.replicate, List.getElem?_cons_zero, List.getElem?_cons_succ, List.set_cons_zero, List.set_cons_succ, Nat.zero_add, Nat.reduceAdd, Nat.reduceSub, Nat.reduceLeDiff, ite_true, ite_false, if_true, if_false, Bool.true_eq_false, Bool.false_eq_true, reduceIte, reduceCtorEq, Bool.not_true, Bool.not_false, Bool.and_true, Bool.and_self, Bool.true_and, Bool.false_and, Bool.and_false, Bool.or_true, Bool.true_or, Bool.or_false, Bool.false_or, and_self, and_true, true_and, true_or, or_true, Int.reduceLT, Int.reduceLE, Int.reducePow, Int.reduceNeg, Int.reduceMul, Int.reduceAdd, Int.reduceSub, Int.reduceToNat, fusF, D.items, List.all_cons, List.all_nil, id, Nat.reduceLT, Nat.reducePow, decide_true, decide_false, decide_eq_true_eq, beqI, beqS, beqB, bne, natc0, natc1, Int.cast_ofNat_Int, sg_turn, sg_mirror, sg_up, sg_down, sg_a, sg_b, sg_c, ne_mt, ne_tm, ne_ud, ne_du, Bool.not_eq_eq_eq_not, Bool.not_true, decide_eq_false_iff_not, Decidable.not_not, BEq.rfl, not_true_eq_false, not_false_eq_true, flat_ids, inb_ids, h]
end ML
set_option Elab.async false
set_option linter.all false
set_option autoImplicit false
set_option maxRecDepth 100000
set_option maxHeartbeats 4000000
/-! MLloop: more rules for loops. -/
namespace ML
open PySem
/-- a for by an invariant of the turn -/
theorem for_inv {kl : List Nat} {body : D → Env → Option Out} (I : Nat → Env → Prop) : ∀ (items : List D) (j : Nat) (ρ : Env), I j ρ →
    (∀ (i : Nat) (h : i < items.length) (ρ : Env), I (j + i) ρ → ∃ ρ', body items[i] ρ = some (.nx ρ') ∧ I (j + i + 1) (kill ρ' kl)) →
    ∃ ρ', evFor kl body items ρ = some (.nx ρ') ∧ I (j + items.length) ρ'
  | [], j, ρ, h0, _ => ⟨ρ, rfl, h0⟩
  | x :: xs, j, ρ, h0, hs => by
    obtain ⟨ρ1, h1, h2⟩ := hs 0 (Nat.zero_lt_succ _) ρ h0
    rw [List.getElem_cons_zero] at h1
    obtain ⟨ρ2, h3, h4⟩ := for_inv (kl := kl) (body := body) I xs (j + 1) (kill ρ1 kl) h2 (fun i hi ρ hI => by
      have e : j + (i + 1) = j + 1 + i := by omega
      obtain ⟨ρ', q1, q2⟩ := hs (i + 1) (Nat.succ_lt_succ hi) ρ (by rw [e]; exact hI)
      rw [List.getElem_cons_succ] at q1
      rw [e] at q2
      exact ⟨ρ', q1, q2⟩)
    refine ⟨ρ2, ?_, by rw [List.length_cons]; rw [show j + (xs.length + 1) = j + 1 + xs.length by omega]; exact h4⟩
    rw [evFor, h1, bnd_some]
    exact h3
/-- .. over a range from 0 on -/
theorem for_rng {kl : List Nat} {body : D → Env → Option Out} (I : Nat → Env → Prop) (n : Nat) (ρ : Env) (h0 : I 0 ρ)
    (hs : ∀ (i : Nat), i < n → ∀ ρ, I i ρ → ∃ ρ', body (.int (i : Int)) ρ = some (.nx ρ') ∧ I (i + 1) (kill ρ' kl)) :
    ∃ ρ', evFor kl body (rangeD 0 n) ρ = some (.nx ρ') ∧ I n ρ' := by
  have hl : (rangeD 0 n).length = n := by unfold rangeD; rw [List.length_map, List.length_range]
  obtain ⟨ρ', h1, h2⟩ := for_inv (kl := kl) (body := body) I (rangeD 0 n) 0 ρ h0 (fun i hi ρ hI => by
    have e : (rangeD 0 n)[i] = .int (i : Int) := by
      have q : (rangeD 0 n)[i]? = some (.int (i : Int)) := by
        unfold rangeD
        rw [List.getElem?_map, List.getElem?_range (by omega)]
        show some (D.int (0 + (i : Int))) = _
        rw [Int.zero_add]
      exact Option.some.inj ((List.getElem?_eq_getElem hi).symm.trans q)
    rw [e]
    rw [Nat.zero_add] at hI ⊢
    exact hs i (by omega) ρ hI)
  rw [Nat.zero_add, hl] at h2
  exact ⟨ρ', h1, h2⟩
/-- steps that may end early -/
def goes {T S R : Type} (step : T → S → S ⊕ R) : List T → S → S ⊕ R
  | [], s => .inl s
  | x :: xs, s => match step x s with
    | .inl s' => goes step xs s'
    | .inr r => .inr r
/-- a for over xs, read as D by f, that carries a state and may return -/
theorem for_goes {T S : Type} {kl : List Nat} {body : D → Env → Option Out} (f : T → D) (enc : S → Env) (step : T → S → S ⊕ Sv) (I : S → Prop) : ∀ (xs : List T), (∀ x ∈ xs, ∀ s, I s →
      (∀ s', step x s = .inl s' → I s' ∧ ∃ ρ', body (f x) (enc s) = some (.nx ρ') ∧ kill ρ' kl = enc s') ∧ (∀ r, step x s = .inr r → body (f x) (enc s) = some (.ret r))) →
    ∀ s, I s → (∀ s', goes step xs s = .inl s' → evFor kl body (xs.map f) (enc s) = some (.nx (enc s')) ∧ I s') ∧ (∀ r, goes step xs s = .inr r → evFor kl body (xs.map f) (enc s) = some (.ret r))
  | [], _, s, hs => ⟨fun s' e => by cases e; exact ⟨rfl, hs⟩, fun r e => by cases e⟩
  | x :: xs, h, s, hs => by
    obtain ⟨h1, h2⟩ := h x List.mem_cons_self s hs
    cases e : step x s with
    | inl s1 =>
      obtain ⟨h3, ρ', h4, h5⟩ := h1 s1 e
      obtain ⟨q1, q2⟩ := for_goes f enc step I xs (fun y hy => h y (List.mem_cons_of_mem _ hy)) s1 h3
      have ev : evFor kl body ((x :: xs).map f) (enc s) = evFor kl body (xs.map f) (enc s1) := by
        rw [List.map_cons, evFor, h4, bnd_some]
        dsimp only
        rw [h5]
      constructor
      · intro s' hg
        rw [goes, e] at hg
        rw [ev]
        exact q1 s' hg
      · intro r hg
        rw [goes, e] at hg
        rw [ev]
        exact q2 r hg
    | inr r1 =>
      constructor
      · intro s' hg
        rw [goes, e] at hg
        cases hg
      · intro r hg
        rw [goes, e] at hg
        cases hg
        rw [List.map_cons, evFor, h2 r1 e, bnd_some]
/-- a loop that appends -/
theorem for_app {T : Type} {kl : List Nat} {body : D → Env → Option Out} (f : T → D) (enc : List D → Env) (g : T → List D) : ∀ (xs : List T),
    (∀ x ∈ xs, ∀ l : List D, l.length + (g x).length ≤ 1000000 → ∃ ρ', body (f x) (enc l) = some (.nx ρ') ∧ kill ρ' kl = enc (l ++ g x)) →
    ∀ l : List D, l.length + (xs.flatMap g).length ≤ 1000000 → evFor kl body (xs.map f) (enc l) = some (.nx (enc (l ++ xs.flatMap g)))
  | [], _, l, _ => by rw [List.flatMap_nil, List.append_nil]; rfl
  | x :: xs, h, l, hl => by
    rw [List.flatMap_cons, List.length_append] at hl
    obtain ⟨ρ', h1, h2⟩ := h x List.mem_cons_self l (by omega)
    rw [List.map_cons, evFor, h1, bnd_some]
    dsimp only
    rw [h2, List.flatMap_cons, ← List.append_assoc]
    exact for_app f enc g xs (fun y hy => h y (List.mem_cons_of_mem _ hy)) _ (by rw [List.length_append]; omega)
theorem flat_len {T α : Type} (g : T → List α) (m : Nat) : ∀ xs : List T, (∀ x ∈ xs, (g x).length ≤ m) → (xs.flatMap g).length ≤ xs.length * m
  | [], _ => by simp
  | x :: xs, h => by
    rw [List.flatMap_cons, List.length_append, List.length_cons, Nat.add_mul]
    have := flat_len g m xs fun y hy => h y (List.mem_cons_of_mem _ hy)
    have := h x List.mem_cons_self
    omega
theorem flat_one {T α : Type} (g : T → α) (xs : List T) : (xs.flatMap fun x => [g x]) = xs.map g := by
  induction xs with
  | nil => rfl
  | cons x xs ih => rw [List.flatMap_cons, ih]; rfl
theorem flat_filter {T α : Type} (p : T → Bool) (g : T → α) (xs : List T) : (xs.flatMap fun x => if p x then [g x] else []) = (xs.filter p).map g := by
  induction xs with
  | nil => rfl
  | cons x xs ih =>
    rw [List.flatMap_cons, ih, List.filter_cons]
    cases p x <;> rfl
theorem rangeD_nat (n : Nat) : rangeD 0 n = (List.range n).map fun (i : Nat) => D.int (i : Int) := by
  unfold rangeD
  apply List.map_congr_left
  intro i _
  rw [Int.zero_add]
end ML
set_option Elab.async false
set_option linter.all false
set_option autoImplicit false
set_option maxRecDepth 100000
set_option maxHeartbeats 4000000
/-! MLrow: drawn rows and crowds of a size. -/
namespace ML
open PySem
/-- a row of all tones -/
def Row (n : Int) (r : List Int) : Prop := r.Nodup ∧ (∀ t, t ∈ r ↔ 0 ≤ t ∧ t < n) ∧ r.length = n.toNat
theorem ids_at' {l : List Int} {j : Nat} (h : j < l.length) : (ids l)[j]? = some (.int (l.getD j 0)) := by
  rw [ids_get, List.getD_eq_getElem?_getD, List.getElem?_eq_getElem h]
  rfl
theorem ids_erase : ∀ (l : List Int) (j : Nat), (ids l).eraseIdx j = ids (l.eraseIdx j)
  | [], _ => rfl
  | _ :: _, 0 => rfl
  | x :: l, j + 1 => by
    show D.int x :: (ids l).eraseIdx j = D.int x :: ids (l.eraseIdx j)
    rw [ids_erase l j]
theorem erase_perm : ∀ {l : List Int} {j : Nat}, j < l.length → (l.eraseIdx j ++ [l.getD j 0]).Perm l
  | x :: l, 0, _ => by
    show (l ++ [x]).Perm (x :: l)
    exact List.perm_append_singleton x l
  | x :: l, j + 1, h => by
    show (x :: (l.eraseIdx j ++ [l.getD j 0])).Perm (x :: l)
    exact List.Perm.cons x (erase_perm (Nat.lt_of_succ_lt_succ h))
theorem ids_snoc (l : List Int) (x : Int) : ids l ++ [.int x] = ids (l ++ [x]) := by
  unfold ids
  rw [List.map_append]
  rfl
theorem row_c (k : Nat) (ns : List Int) (hl : ns.length ≤ 63) {i s n : Int} (hn : 0 ≤ n) (hn' : n ≤ 1000) (hi : 0 ≤ i) (hi' : i < 4294960000) (hs : 0 ≤ s) (hs' : s < 4294967296) :
    ∃ r, callF Pt (k + 3) 38 [.scr ns, .int i, .int s, .int n] = some (.fro (tupI r)) ∧ Row n r := by
  have e3 : 0 ≤ n ∧ n ≤ 16777216 := by omega
  have e4 : -4611686018427387904 ≤ n ∧ n ≤ 16777216 := by omega
  obtain ⟨ρ', h1, left, r, q1, q2, q3, q4⟩ := for_rng (kl := [3, 6]) (body := forB (.one 6) (evSs (callF Pt (k + 2)) Fn.law_row_b0) (.it _))
    (fun j ρ => ∃ left r : List Int, (left ++ r).Perm (upto n.toNat) ∧ left.length + j = n.toNat ∧ r.length = j ∧ ρ = [Sv.fro (.scr ns), Sv.fro (.int i), Sv.fro (.int s), Sv.no, Sv.own (.lst (ids left)), Sv.own (.lst (ids r)), Sv.no])
    n.toNat [Sv.fro (.scr ns), Sv.fro (.int i), Sv.fro (.int s), Sv.no, Sv.own (.lst (ids (upto n.toNat))), Sv.own (.lst []), Sv.no] (by
      refine ⟨upto n.toNat, [], ?_, ?_, rfl, rfl⟩
      · rw [List.append_nil]
      · rw [upto_len]; rfl) (fun j hj ρ hI => by
      obtain ⟨left, r, q1, q2, q3, rfl⟩ := hI
      obtain ⟨c, hc, c1, c2⟩ := mixed_c k ns hl (i := i + (j : Int)) (s := s) (by omega) (by omega) hs hs'
      have p0 : 0 < (left.length : Int) := by omega
      have m0 := Int.emod_nonneg c (b := (left.length : Int)) (by omega)
      have m1 := Int.emod_lt_of_pos c p0
      have m2 : -9223372036854775808 ≤ c % (left.length : Int) ∧ c % (left.length : Int) < 9223372036854775808 := by omega
      have m3 := ids_at' (l := left) (j := (c % (left.length : Int)).toNat) (by omega)
      have m4 : r.length < 16777216 := by omega
      simp -dsimp -implicitDefEqProofs only [evBody, argS, endF, els_some, orI_some, orI_none, frzAll, Sv.frz, Rv.imm, Sv.imm, D.imm, D.imms, cond_true, cond_false, Bool.cond_self, D.lt, D.lts, D.alike, D.alikes, ordOk, MulOk, LINE, ixN, startE, evSs, evS, evE, evEs, evB, evO, evC, frzs, frz, conts, cont, look, slotOf, Sv.rv, bnd_some, bnd_none, mpd_some, mpd_none, binop, cmpop, idxop, sliop, asI, asB, primF, kill, ML.bind, bindT, D.isTy, D.okd, D.okds, D.eqv, D.eqvs, D.flat, D.ints, D.bls, DEEP, itF, itSeq, itR1, itR2, itEn, itZ, itRev, mutF, ownL, augF, whC, whB, cmpB, forB, List.map_cons, List.map_nil, List.cons_append, List.nil_append, List.append_nil, List.length_cons, List.length_nil, List.replicate, List.getElem?_cons_zero, List.getElem?_cons_succ, List.set_cons_zero, List.set_cons_succ, Nat.zero_add, Nat.reduceAdd, Nat.reduceSub, Nat.reduceLeDiff, ite_true, ite_false, if_true, if_false, Bool.true_eq_false, Bool.false_eq_true, reduceIte, reduceCtorEq, Bool.not_true, Bool.not_false, Bool.and_true, Bool.and_self, Bool.true_and, Bool.false_and, Bool.and_false, Bool.or_true, Bool.true_or, Bool.or_false, Bool.false_or, and_self, and_true, true_and, true_or, or_true, Int.reduceLT, Int.reduceLE, Int.reducePow, Int.reduceNeg, Int.reduceMul, Int.reduceAdd, Int.reduceSub, Int.reduceToNat, fusF, D.items, List.all_cons, List.all_nil, id, Nat.reduceLT, Nat.reducePow, decide_true, decide_false, decide_eq_true_eq, beqI, beqS, beqB, bne, natc0, natc1, Int.cast_ofNat_Int, sg_turn, sg_mirror, sg_up, sg_down, sg_a, sg_b, sg_c, ne_mt, ne_tm, ne_ud, ne_du, Bool.not_eq_eq_eq_not, Bool.not_true, decide_eq_false_iff_not, Decidable.not_not, BEq.rfl, not_true_eq_false, not_false_eq_true, Fn.law_row_b0, hc, ids_len, p0, m0, m1, m2, m3, m4, ids_erase, ids_snoc]
      refine ⟨_, rfl, left.eraseIdx (c % (left.length : Int)).toNat, r ++ [left.getD (c % (left.length : Int)).toNat 0], ?_, ?_, ?_, rfl⟩
      · refine List.Perm.trans ?_ q1
        have e := erase_perm (l := left) (j := (c % (left.length : Int)).toNat) (by omega)
        have e2 := e.append_right r
        refine List.Perm.trans ?_ e2
        rw [List.append_assoc]
        exact (List.perm_append_comm (l₁ := r)).append_left _
      · rw [List.length_eraseIdx, if_pos (by omega)]
        omega
      · rw [List.length_append, q3]; rfl)
  subst q4
  have lz : left = [] := List.eq_nil_of_length_eq_zero (by omega)
  subst lz
  rw [List.nil_append] at q1
  refine ⟨r, ?_, ?_, fun t => ?_, by rw [q3]⟩
  · rw [callF, Pt_law_row]
    simp only [rangeD_upto] at h1
    simp -dsimp -implicitDefEqProofs only [evBody, argS, endF, els_some, orI_some, orI_none, frzAll, Sv.frz, Rv.imm, Sv.imm, D.imm, D.imms, cond_true, cond_false, Bool.cond_self, D.lt, D.lts, D.alike, D.alikes, ordOk, MulOk, LINE, ixN, startE, evSs, evS, evE, evEs, evB, evO, evC, frzs, frz, conts, cont, look, slotOf, Sv.rv, bnd_some, bnd_none, mpd_some, mpd_none, binop, cmpop, idxop, sliop, asI, asB, primF, kill, ML.bind, bindT, D.isTy, D.okd, D.okds, D.eqv, D.eqvs, D.flat, D.ints, D.bls, DEEP, itF, itSeq, itR1, itR2, itEn, itZ, itRev, mutF, ownL, augF, whC, whB, cmpB, forB, List.map_cons, List.map_nil, List.cons_append, List.nil_append, List.append_nil, List.length_cons, List.length_nil, List.replicate, List.getElem?_cons_zero, List.getElem?_cons_succ, List.set_cons_zero, List.set_cons_succ, Nat.zero_add, Nat.reduceAdd, Nat.reduceSub, Nat.reduceLeDiff, ite_true, ite_false, if_true, if_false, Bool.true_eq_false, Bool.false_eq_true, reduceIte, reduceCtorEq, Bool.not_true, Bool.not_false, Bool.and_true, Bool.and_self, Bool.true_and, Bool.false_and, Bool.and_false, Bool.or_true, Bool.true_or, Bool.or_false, Bool.false_or, and_self, and_true, true_and, true_or, or_true, Int.reduceLT, Int.reduceLE, Int.reducePow, Int.reduceNeg, Int.reduceMul, Int.reduceAdd, Int.reduceSub, Int.reduceToNat, fusF, D.items, List.all_cons, List.all_nil, id, Nat.reduceLT, Nat.reducePow, decide_true, decide_false, decide_eq_true_eq, beqI, beqS, beqB, bne, natc0, natc1, Int.cast_ofNat_Int, sg_turn, sg_mirror, sg_up, sg_down, sg_a, sg_b, sg_c, ne_mt, ne_tm, ne_ud, ne_du, Bool.not_eq_eq_eq_not, Bool.not_true, decide_eq_false_iff_not, Decidable.not_not, BEq.rfl, not_true_eq_false, not_false_eq_true, Fn.law_row, e3, e4, rangeD_upto, h1]
    rfl
  · exact q1.nodup_iff.mpr ((upto_rises n.toNat).imp fun {a b} h e => by omega)
  · rw [q1.mem_iff, mem_upto]
    omega
theorem sort_crowd {n : Int} {l : List Int} (h1 : l.Nodup) (h2 : ∀ t ∈ l, 0 ≤ t ∧ t < n) : Crowd n (sortI l) := by
  refine ⟨?_, fun t ht => h2 t ((sortI_perm l).mem_iff.mp ht)⟩
  have a := sortI_sorted l
  have b : (sortI l).Pairwise (· ≠ ·) := (sortI_perm l).nodup_iff.mpr h1
  exact (a.and b).imp fun {x y} h => by omega
theorem cut_any {α : Type} (xs : List α) {i : Int} (h0 : 0 ≤ i) : cut xs none (some i) = xs.take i.toNat := by
  have s1 : sIx xs.length xs.length (some i) = min i.toNat xs.length := by rw [sIx, if_neg (by omega)]
  have s2 : sIx xs.length 0 none = 0 := rfl
  rw [cut, s1, s2, Nat.sub_zero, List.drop_zero]
  by_cases h : i.toNat ≤ xs.length
  · rw [Nat.min_eq_left h]
  · rw [Nat.min_eq_right (by omega), List.take_of_length_le (Nat.le_refl _), List.take_of_length_le (by omega)]
theorem cut_off {α : Type} (xs : List α) {i : Int} (h0 : 0 ≤ i) : cut xs (some i) none = xs.drop i.toNat := by
  have s1 : sIx xs.length 0 (some i) = min i.toNat xs.length := by rw [sIx, if_neg (by omega)]
  have s2 : sIx xs.length xs.length none = xs.length := rfl
  rw [cut, s1, s2]
  by_cases h : i.toNat ≤ xs.length
  · rw [Nat.min_eq_left h, List.take_of_length_le]
    rw [List.length_drop]
    exact Nat.le_refl _
  · rw [Nat.min_eq_right (by omega), List.drop_of_length_le (Nat.le_refl _), List.drop_of_length_le (by omega), List.take_nil]
theorem take_ids (l : List Int) (j : Nat) : (ids l).take j = ids (l.take j) := List.map_take.symm
theorem dropI (l : List Int) (j : Nat) : (ids l).drop j = ids (l.drop j) := List.map_drop.symm
theorem sized_c (k : Nat) (ns : List Int) (hl : ns.length ≤ 63) {i s n z : Int} (hn : 0 ≤ n) (hn' : n ≤ 1000) (hi : 0 ≤ i) (hi' : i < 4294960000) (hs : 0 ≤ s) (hs' : s < 4294967296) (hz : 0 ≤ z) :
    ∃ ts, callF Pt (k + 4) 39 [.scr ns, .int i, .int s, .int n, .int z] = some (.fro (tupI ts)) ∧ Crowd n ts ∧ (z ≤ n → (ts.length : Int) = z) := by
  obtain ⟨r, hr, r1, r2, r3⟩ := row_c k ns hl hn hn' hi hi' hs hs'
  refine ⟨sortI (r.take z.toNat), ?_, sort_crowd (r1.sublist (List.take_sublist _ _)) fun t ht => (r2 t).mp (List.mem_of_mem_take ht), fun h => ?_⟩
  · rw [callF, Pt_law_sized]
    simp only [tupI] at hr
    simp -dsimp -implicitDefEqProofs only [evBody, argS, endF, els_some, orI_some, orI_none, frzAll, Sv.frz, Rv.imm, Sv.imm, D.imm, D.imms, cond_true, cond_false, Bool.cond_self, D.lt, D.lts, D.alike, D.alikes, ordOk, MulOk, LINE, ixN, startE, evSs, evS, evE, evEs, evB, evO, evC, frzs, frz, conts, cont, look, slotOf, Sv.rv, bnd_some, bnd_none, mpd_some, mpd_none, binop, cmpop, idxop, sliop, asI, asB, primF, kill, ML.bind, bindT, D.isTy, D.okd, D.okds, D.eqv, D.eqvs, D.flat, D.ints, D.bls, DEEP, itF, itSeq, itR1, itR2, itEn, itZ, itRev, mutF, ownL, augF, whC, whB, cmpB, forB, List.map_cons, List.map_nil, List.cons_append, List.nil_append, List.append_nil, List.length_cons, List.length_nil, List.replicate, List.getElem?_cons_zero, List.getElem?_cons_succ, List.set_cons_zero, List.set_cons_succ, Nat.zero_add, Nat.reduceAdd, Nat.reduceSub, Nat.reduceLeDiff, ite_true, ite_false, if_true, if_false, Bool.true_eq_false, Bool.false_eq_true, reduceIte, reduceCtorEq, Bool.not_true, Bool.not_false, Bool.and_true, Bool.and_self, Bool.true_and, Bool.false_and, Bool.and_false, Bool.or_true, Bool.true_or, Bool.or_false, Bool.false_or, and_self, and_true, true_and, true_or, or_true, Int.reduceLT, Int.reduceLE, Int.reducePow, Int.reduceNeg, Int.reduceMul, Int.reduceAdd, Int.reduceSub, Int.reduceToNat, fusF, D.items, List.all_cons, List.all_nil, id, Nat.reduceLT, Nat.reducePow, decide_true, decide_false, decide_eq_true_eq, beqI, beqS, beqB, bne, natc0, natc1, Int.cast_ofNat_Int, sg_turn, sg_mirror, sg_up, sg_down, sg_a, sg_b, sg_c, ne_mt, ne_tm, ne_ud, ne_du, Bool.not_eq_eq_eq_not, Bool.not_true, decide_eq_false_iff_not, Decidable.not_not, BEq.rfl, not_true_eq_false, not_false_eq_true, Fn.law_sized, hr, cut_any _ hz, take_ids, ints_ids]
    rfl
  · rw [(sortI_perm _).length_eq, List.length_take, r3]
    omega
end ML
set_option Elab.async false
set_option linter.all false
set_option autoImplicit false
set_option maxRecDepth 100000
set_option maxHeartbeats 4000000
namespace ML
open PySem
/-- all changes -/
def cl (n : Nat) : List (Bool × Int) := (upto n).map (fun t => (false, t)) ++ (upto n).map (fun t => (true, t))
def cg (p : Bool × Int) : D := chg p.1 p.2
theorem chgs_cl (n : Nat) : chgs n = (cl n).map cg := by
  unfold chgs cl upto
  rw [List.map_append, List.map_map, List.map_map, List.map_map, List.map_map]
  rfl
theorem mem_cl {n : Nat} {p : Bool × Int} : p ∈ cl n ↔ 0 ≤ p.2 ∧ p.2 < n := by
  unfold cl
  rw [List.mem_append, List.mem_map, List.mem_map]
  constructor
  · rintro (⟨t, ht, rfl⟩ | ⟨t, ht, rfl⟩) <;> exact mem_upto.mp ht
  · intro h
    obtain ⟨b, t⟩ := p
    cases b
    · exact .inl ⟨t, mem_upto.mpr h, rfl⟩
    · exact .inr ⟨t, mem_upto.mpr h, rfl⟩
theorem cl_len (n : Nat) : (cl n).length = n + n := by
  unfold cl
  rw [List.length_append, List.length_map, List.length_map, upto_len]
/-- the ways from a crowd to another one -/
def waysL (n : Int) (a b : List Int) : List (Bool × Int) := (cl n.toNat).filter fun p => decide (chgCrowd n p.1 p.2 a = b)
theorem changes_c' (k : Nat) {n : Int} (h0 : 0 ≤ n) (h1 : n ≤ 1000) : callF Pt (k + 1) 10 [.int n] = some (.own (.lst ((cl n.toNat).map cg))) := by
  rw [← chgs_cl]
  exact changes_c k h0 h1
theorem ways_c (k : Nat) {n : Int} (hn : 0 < n) (hn' : n ≤ 60) (a b : List Int) (hl : a.length ≤ 1000) : callF Pt (k + 3) 43 [.int n, .tup (ids a), .tup (ids b)] = some (.own (.lst ((waysL n a b).map cg))) := by
  have ch := changes_c' (k + 1) (n := n) (by omega) (by omega)
  have comp := comp_of (body := cmpB (.one 3) [3] (evC (callF Pt (k + 2)) [.cmp .eq (.call 24 [(.var 0), (.var 1), (.var 3)]) (.var 2)]) (evE (callF Pt (k + 2)) (.var 3)) (.it _) (.it _)) (ρ := [Sv.fro (.int n), Sv.fro (.tup (ids a)), Sv.fro (.tup (ids b)), Sv.no]) cg (fun p => decide (chgCrowd n p.1 p.2 a = b)) cg (cl n.toNat) (fun p _ => by
    have c1 := changed_c k hn hn' p.1 p.2 a hl
    simp only [tupI] at c1
    by_cases h : chgCrowd n p.1 p.2 a = b
    · simp -dsimp -implicitDefEqProofs only [evBody, argS, endF, els_some, orI_some, orI_none, frzAll, Sv.frz, Rv.imm, Sv.imm, D.imm, D.imms, cond_true, cond_false, Bool.cond_self, D.lt, D.lts, D.alike, D.alikes, ordOk, MulOk, LINE, ixN, startE, evSs, evS, evE, evEs, evB, evO, evC, frzs, frz, conts, cont, look, slotOf, Sv.rv, bnd_some, bnd_none, mpd_some, mpd_none, binop, cmpop, idxop, sliop, asI, asB, primF, kill, ML.bind, bindT, D.isTy, D.okd, D.okds, D.eqv, D.eqvs, D.flat, D.ints, D.bls, DEEP, itF, itSeq, itR1, itR2, itEn, itZ, itRev, mutF, ownL, augF, whC, whB, cmpB, forB, List.map_cons, List.map_nil, List.cons_append, List.nil_append, List.append_nil, List.length_cons, List.length_nil, List.replicate, List.getElem?_cons_zero, List.getElem?_cons_succ, List.set_cons_zero, List.set_cons_succ, Nat.zero_add, Nat.reduceAdd, Nat.reduceSub, Nat.reduceLeDiff, ite_true, ite_false, if_true, if_false, Bool.true_eq_false, Bool.false_eq_true, reduceIte, reduceCtorEq, Bool.not_true, Bool.not_false, Bool.and_true, Bool.and_self, Bool.true_and, Bool.false_and, Bool.and_false, Bool.or_true, Bool.true_or, Bool.or_false, Bool.false_or, and_self, and_true, true_and, true_or, or_true, Int.reduceLT, Int.reduceLE, Int.reducePow, Int.reduceNeg, Int.reduceMul, Int.reduceAdd, Int.reduceSub, Int.reduceToNat, fusF, D.items, List.all_cons, List.all_nil, id, Nat.reduceLT, Nat.reducePow, decide_true, decide_false, decide_eq_true_eq, beqI, beqS, beqB, bne, natc0, natc1, Int.cast_ofNat_Int, sg_turn, sg_mirror, sg_up, sg_down, sg_a, sg_b, sg_c, ne_mt, ne_tm, ne_ud, ne_du, Bool.not_eq_eq_eq_not, Bool.not_true, decide_eq_false_iff_not, Decidable.not_not, BEq.rfl, not_true_eq_false, not_false_eq_true, cg, c1, okd_ids, eqv_ids, h]
    · simp -dsimp -implicitDefEqProofs only [evBody, argS, endF, els_some, orI_some, orI_none, frzAll, Sv.frz, Rv.imm, Sv.imm, D.imm, D.imms, cond_true, cond_false, Bool.cond_self, D.lt, D.lts, D.alike, D.alikes, ordOk, MulOk, LINE, ixN, startE, evSs, evS, evE, evEs, evB, evO, evC, frzs, frz, conts, cont, look, slotOf, Sv.rv, bnd_some, bnd_none, mpd_some, mpd_none, binop, cmpop, idxop, sliop, asI, asB, primF, kill, ML.bind, bindT, D.isTy, D.okd, D.okds, D.eqv, D.eqvs, D.flat, D.ints, D.bls, DEEP, itF, itSeq, itR1, itR2, itEn, itZ, itRev, mutF, ownL, augF, whC, whB, cmpB, forB, List.map_cons, List.map_nil, List.cons_append, List.nil_append, List.append_nil, List.length_cons, List.length_nil, List.replicate, List.getElem?_cons_zero, List.getElem?_cons_succ, List.set_cons_zero, List.set_cons_succ, Nat.zero_add, Nat.reduceAdd, Nat.reduceSub, Nat.reduceLeDiff, ite_true, ite_false, if_true, if_false, Bool.true_eq_false, Bool.false_eq_true, reduceIte, reduceCtorEq, Bool.not_true, Bool.not_false, Bool.and_true, Bool.and_self, Bool.true_and, Bool.false_and, Bool.and_false, Bool.or_true, Bool.true_or, Bool.or_false, Bool.false_or, and_self, and_true, true_and, true_or, or_true, Int.reduceLT, Int.reduceLE, Int.reducePow, Int.reduceNeg, Int.reduceMul, Int.reduceAdd, Int.reduceSub, Int.reduceToNat, fusF, D.items, List.all_cons, List.all_nil, id, Nat.reduceLT, Nat.reducePow, decide_true, decide_false, decide_eq_true_eq, beqI, beqS, beqB, bne, natc0, natc1, Int.cast_ofNat_Int, sg_turn, sg_mirror, sg_up, sg_down, sg_a, sg_b, sg_c, ne_mt, ne_tm, ne_ud, ne_du, Bool.not_eq_eq_eq_not, Bool.not_true, decide_eq_false_iff_not, Decidable.not_not, BEq.rfl, not_true_eq_false, not_false_eq_true, cg, c1, okd_ids, eqv_ids, h])
  rw [callF, Pt_ways]
  simp -dsimp -implicitDefEqProofs only [evBody, argS, endF, els_some, orI_some, orI_none, frzAll, Sv.frz, Rv.imm, Sv.imm, D.imm, D.imms, cond_true, cond_false, Bool.cond_self, D.lt, D.lts, D.alike, D.alikes, ordOk, MulOk, LINE, ixN, startE, evSs, evS, evE, evEs, evB, evO, evC, frzs, frz, conts, cont, look, slotOf, Sv.rv, bnd_some, bnd_none, mpd_some, mpd_none, binop, cmpop, idxop, sliop, asI, asB, primF, kill, ML.bind, bindT, D.isTy, D.okd, D.okds, D.eqv, D.eqvs, D.flat, D.ints, D.bls, DEEP, itF, itSeq, itR1, itR2, itEn, itZ, itRev, mutF, ownL, augF, whC, whB, cmpB, forB, List.map_cons, List.map_nil, List.cons_append, List.nil_append, List.append_nil, List.length_cons, List.length_nil, List.replicate, List.getElem?_cons_zero, List.getElem?_cons_succ, List.set_cons_zero, List.set_cons_succ, Nat.zero_add, Nat.reduceAdd, Nat.reduceSub, Nat.reduceLeDiff, ite_true, ite_false, if_true, if_false, Bool.true_eq_false, Bool.false_eq_true, reduceIte, reduceCtorEq, Bool.not_true, Bool.not_false, Bool.and_true, Bool.and_self, Bool.true_and, Bool.false_and, Bool.and_false, Bool.or_true, Bool.true_or, Bool.or_false, Bool.false_or, and_self, and_true, true_and, true_or, or_true, Int.reduceLT, Int.reduceLE, Int.reducePow, Int.reduceNeg, Int.reduceMul, Int.reduceAdd, Int.reduceSub, Int.reduceToNat, fusF, D.items, List.all_cons, List.all_nil, id, Nat.reduceLT, Nat.reducePow, decide_true, decide_false, decide_eq_true_eq, beqI, beqS, beqB, bne, natc0, natc1, Int.cast_ofNat_Int, sg_turn, sg_mirror, sg_up, sg_down, sg_a, sg_b, sg_c, ne_mt, ne_tm, ne_ud, ne_du, Bool.not_eq_eq_eq_not, Bool.not_true, decide_eq_false_iff_not, Decidable.not_not, BEq.rfl, not_true_eq_false, not_false_eq_true, Fn.ways, ch, comp]
  rfl
/-- the law's own change of a crowd -/
theorem law_changed_c (k : Nat) {n : Int} (hn : 0 < n) (m : Bool) (t : Int) (ts : List Int) : callF Pt (k + 2) 44 [.int n, .tup (ids ts), chg m t] = some (.fro (.tup (ids (sortI (ts.map (chgDo n m t)))))) := by
  have comp := comp_ints (body := cmpB (.one 3) [3] (evC (callF Pt (k + 1)) []) (evE (callF Pt (k + 1)) (.call 9 [(.var 0), (.var 2), (.var 3)])) (.it _) (.it _)) (ρ := [Sv.fro (.int n), Sv.fro (.tup (ids ts)), Sv.fro (chg m t), Sv.no]) (chgDo n m t) ts (fun x _ => by
    simp -dsimp -implicitDefEqProofs only [evBody, argS, endF, els_some, orI_some, orI_none, frzAll, Sv.frz, Rv.imm, Sv.imm, D.imm, D.imms, cond_true, cond_false, Bool.cond_self, D.lt, D.lts, D.alike, D.alikes, ordOk, MulOk, LINE, ixN, startE, evSs, evS, evE, evEs, evB, evO, evC, frzs, frz, conts, cont, look, slotOf, Sv.rv, bnd_some, bnd_none, mpd_some, mpd_none, binop, cmpop, idxop, sliop, asI, asB, primF, kill, ML.bind, bindT, D.isTy, D.okd, D.okds, D.eqv, D.eqvs, D.flat, D.ints, D.bls, DEEP, itF, itSeq, itR1, itR2, itEn, itZ, itRev, mutF, ownL, augF, whC, whB, cmpB, forB, List.map_cons, List.map_nil, List.cons_append, List.nil_append, List.append_nil, List.length_cons, List.length_nil, List.replicate, List.getElem?_cons_zero, List.getElem?_cons_succ, List.set_cons_zero, List.set_cons_succ, Nat.zero_add, Nat.reduceAdd, Nat.reduceSub, Nat.reduceLeDiff, ite_true, ite_false, if_true, if_false, Bool.true_eq_false, Bool.false_eq_true, reduceIte, reduceCtorEq, Bool.not_true, Bool.not_false, Bool.and_true, Bool.and_self, Bool.true_and, Bool.false_and, Bool.and_false, Bool.or_true, Bool.true_or, Bool.or_false, Bool.false_or, and_self, and_true, true_and, true_or, or_true, Int.reduceLT, Int.reduceLE, Int.reducePow, Int.reduceNeg, Int.reduceMul, Int.reduceAdd, Int.reduceSub, Int.reduceToNat, fusF, D.items, List.all_cons, List.all_nil, id, Nat.reduceLT, Nat.reducePow, decide_true, decide_false, decide_eq_true_eq, beqI, beqS, beqB, bne, natc0, natc1, Int.cast_ofNat_Int, sg_turn, sg_mirror, sg_up, sg_down, sg_a, sg_b, sg_c, ne_mt, ne_tm, ne_ud, ne_du, Bool.not_eq_eq_eq_not, Bool.not_true, decide_eq_false_iff_not, Decidable.not_not, BEq.rfl, not_true_eq_false, not_false_eq_true, done_c _ hn])
  rw [callF, Pt_law_changed]
  simp -dsimp -implicitDefEqProofs only [evBody, argS, endF, els_some, orI_some, orI_none, frzAll, Sv.frz, Rv.imm, Sv.imm, D.imm, D.imms, cond_true, cond_false, Bool.cond_self, D.lt, D.lts, D.alike, D.alikes, ordOk, MulOk, LINE, ixN, startE, evSs, evS, evE, evEs, evB, evO, evC, frzs, frz, conts, cont, look, slotOf, Sv.rv, bnd_some, bnd_none, mpd_some, mpd_none, binop, cmpop, idxop, sliop, asI, asB, primF, kill, ML.bind, bindT, D.isTy, D.okd, D.okds, D.eqv, D.eqvs, D.flat, D.ints, D.bls, DEEP, itF, itSeq, itR1, itR2, itEn, itZ, itRev, mutF, ownL, augF, whC, whB, cmpB, forB, List.map_cons, List.map_nil, List.cons_append, List.nil_append, List.append_nil, List.length_cons, List.length_nil, List.replicate, List.getElem?_cons_zero, List.getElem?_cons_succ, List.set_cons_zero, List.set_cons_succ, Nat.zero_add, Nat.reduceAdd, Nat.reduceSub, Nat.reduceLeDiff, ite_true, ite_false, if_true, if_false, Bool.true_eq_false, Bool.false_eq_true, reduceIte, reduceCtorEq, Bool.not_true, Bool.not_false, Bool.and_true, Bool.and_self, Bool.true_and, Bool.false_and, Bool.and_false, Bool.or_true, Bool.true_or, Bool.or_false, Bool.false_or, and_self, and_true, true_and, true_or, or_true, Int.reduceLT, Int.reduceLE, Int.reducePow, Int.reduceNeg, Int.reduceMul, Int.reduceAdd, Int.reduceSub, Int.reduceToNat, fusF, D.items, List.all_cons, List.all_nil, id, Nat.reduceLT, Nat.reducePow, decide_true, decide_false, decide_eq_true_eq, beqI, beqS, beqB, bne, natc0, natc1, Int.cast_ofNat_Int, sg_turn, sg_mirror, sg_up, sg_down, sg_a, sg_b, sg_c, ne_mt, ne_tm, ne_ud, ne_du, Bool.not_eq_eq_eq_not, Bool.not_true, decide_eq_false_iff_not, Decidable.not_not, BEq.rfl, not_true_eq_false, not_false_eq_true, Fn.law_changed, comp, ints_ids]
  rfl
theorem mod_sub' {n a b : Int} (ha : 0 ≤ a ∧ a < n) (hb : 0 ≤ b ∧ b < n) : (b - a) % n = if a ≤ b then b - a else b - a + n := by
  split
  · exact Int.emod_eq_of_lt (by omega) (by omega)
  · rw [← Int.add_emod_right, Int.emod_eq_of_lt (by omega) (by omega)]
theorem chg_inj {n : Int} (hn : 0 < n) (m : Bool) (t : Int) {x y : Int} (hx : 0 ≤ x ∧ x < n) (hy : 0 ≤ y ∧ y < n) (e : chgDo n m t x = chgDo n m t y) : x = y := by
  have key : (x - y) % n = 0 := by
    cases m
    · have e : (x + t) % n = (y + t) % n := e
      rw [show x - y = (x + t) - (y + t) by omega, Int.sub_emod, e, Int.sub_self, Int.zero_emod]
    · have e : (t - x) % n = (t - y) % n := e
      rw [show x - y = (t - y) - (t - x) by omega, Int.sub_emod, e, Int.sub_self, Int.zero_emod]
  rw [mod_sub' hy hx] at key
  split at key <;> omega
theorem rises_ne {l : List Int} (h : l.Pairwise (· < ·)) : l.Nodup := h.imp fun {a b} c e => by omega
theorem sortI_chg {n : Int} (hn : 0 < n) (m : Bool) (t : Int) {ts : List Int} (hc : Crowd n ts) : sortI (ts.map (chgDo n m t)) = chgCrowd n m t ts := by
  have nd : (ts.map (chgDo n m t)).Nodup := by
    refine List.pairwise_map.mpr ?_
    refine List.Pairwise.imp_of_mem ?_ (rises_ne hc.1)
    intro a b ha hb hne e
    exact hne (chg_inj hn m t (hc.2 a ha) (hc.2 b hb) e)
  refine (sort_crowd (n := n) nd fun x hx => ?_).ext (crowd_chg hn m t ts) fun x => ?_
  · obtain ⟨y, _, rfl⟩ := List.mem_map.mp hx
    exact chgDo_range hn m t y
  · unfold chgCrowd
    rw [(sortI_perm _).mem_iff, mem_sortU]
theorem law_chg_c (k : Nat) {n : Int} (hn : 0 < n) (m : Bool) (t : Int) {ts : List Int} (hc : Crowd n ts) : callF Pt (k + 2) 44 [.int n, .tup (ids ts), chg m t] = some (.fro (.tup (ids (chgCrowd n m t ts)))) := by
  rw [law_changed_c k hn m t ts, sortI_chg hn m t hc]
theorem first_c (k : Nat) (ns : List Int) (hl : ns.length ≤ 63) {i n : Int} (hn : 0 < n) (hn' : n ≤ 60) (hi : 0 ≤ i) (hi' : i < 4294960000) : ∃ ts, callF Pt (k + 5) 45 [.scr ns, .int i, .int n] = some (.fro (.tup (ids ts))) ∧ Crowd n ts := by
  obtain ⟨ts, ht, t1⟩ := some_c k ns hl (i := i) (s := 2) (n := n) (by omega) (by omega) hi (by omega) (by decide) (by decide)
  obtain ⟨c, hc, c1, c2⟩ := mixed_c (k + 2) ns hl (i := i) (s := 4) hi (by omega) (by decide) (by decide)
  obtain ⟨m, t, hg, g1, g2⟩ := change_c (k + 1) ns hl (i := i) (s := 5) hn hi (by omega) (by decide) (by decide)
  have lc := law_chg_c (k + 2) hn m t t1
  simp only [tupI] at ht
  have l1 := t1.len (by omega)
  have l2 := (crowd_chg hn m t ts).len (by omega)
  rw [callF, Pt_law_first]
  by_cases h : c % 4 = 0
  · have cw : Crowd n (sortU (ts ++ chgCrowd n m t ts)) := sortU_few (by omega) fun x hx => by
      rcases List.mem_append.mp hx with q | q
      · exact t1.2 x q
      · exact (crowd_chg hn m t ts).2 x q
    have l3 := cw.len (by omega)
    have e1 : (ts ++ chgCrowd n m t ts).length ≤ 1000 ∧ (sortU (ts ++ chgCrowd n m t ts)).length < 64 := by
      rw [List.length_append]
      omega
    have e2 : ts.length + (chgCrowd n m t ts).length ≤ 16777216 := by omega
    refine ⟨sortU (ts ++ chgCrowd n m t ts), ?_, cw⟩
    have ia : ids ts ++ ids (chgCrowd n m t ts) = ids (ts ++ chgCrowd n m t ts) := (List.map_append ..).symm
    simp -dsimp -implicitDefEqProofs only [evBody, argS, endF, els_some, orI_some, orI_none, frzAll, Sv.frz, Rv.imm, Sv.imm, D.imm, D.imms, cond_true, cond_false, Bool.cond_self, D.lt, D.lts, D.alike, D.alikes, ordOk, MulOk, LINE, ixN, startE, evSs, evS, evE, evEs, evB, evO, evC, frzs, frz, conts, cont, look, slotOf, Sv.rv, bnd_some, bnd_none, mpd_some, mpd_none, binop, cmpop, idxop, sliop, asI, asB, primF, kill, ML.bind, bindT, D.isTy, D.okd, D.okds, D.eqv, D.eqvs, D.flat, D.ints, D.bls, DEEP, itF, itSeq, itR1, itR2, itEn, itZ, itRev, mutF, ownL, augF, whC, whB, cmpB, forB, List.map_cons, List.map_nil, List.cons_append, List.nil_append, List.append_nil, List.length_cons, List.length_nil, List.replicate, List.getElem?_cons_zero, List.getElem?_cons_succ, List.set_cons_zero, List.set_cons_succ, Nat.zero_add, Nat.reduceAdd, Nat.reduceSub, Nat.reduceLeDiff, ite_true, ite_false, if_true, if_false, Bool.true_eq_false, Bool.false_eq_true, reduceIte, reduceCtorEq, Bool.not_true, Bool.not_false, Bool.and_true, Bool.and_self, Bool.true_and, Bool.false_and, Bool.and_false, Bool.or_true, Bool.true_or, Bool.or_false, Bool.false_or, and_self, and_true, true_and, true_or, or_true, Int.reduceLT, Int.reduceLE, Int.reducePow, Int.reduceNeg, Int.reduceMul, Int.reduceAdd, Int.reduceSub, Int.reduceToNat, fusF, D.items, List.all_cons, List.all_nil, id, Nat.reduceLT, Nat.reducePow, decide_true, decide_false, decide_eq_true_eq, beqI, beqS, beqB, bne, natc0, natc1, Int.cast_ofNat_Int, sg_turn, sg_mirror, sg_up, sg_down, sg_a, sg_b, sg_c, ne_mt, ne_tm, ne_ud, ne_du, Bool.not_eq_eq_eq_not, Bool.not_true, decide_eq_false_iff_not, Decidable.not_not, BEq.rfl, not_true_eq_false, not_false_eq_true, Fn.law_first, ht, hc, h, hg, lc, ids_len, e2, ia, ints_ids, e1]
    rfl
  · exact ⟨ts, by simp -dsimp -implicitDefEqProofs only [evBody, argS, endF, els_some, orI_some, orI_none, frzAll, Sv.frz, Rv.imm, Sv.imm, D.imm, D.imms, cond_true, cond_false, Bool.cond_self, D.lt, D.lts, D.alike, D.alikes, ordOk, MulOk, LINE, ixN, startE, evSs, evS, evE, evEs, evB, evO, evC, frzs, frz, conts, cont, look, slotOf, Sv.rv, bnd_some, bnd_none, mpd_some, mpd_none, binop, cmpop, idxop, sliop, asI, asB, primF, kill, ML.bind, bindT, D.isTy, D.okd, D.okds, D.eqv, D.eqvs, D.flat, D.ints, D.bls, DEEP, itF, itSeq, itR1, itR2, itEn, itZ, itRev, mutF, ownL, augF, whC, whB, cmpB, forB, List.map_cons, List.map_nil, List.cons_append, List.nil_append, List.append_nil, List.length_cons, List.length_nil, List.replicate, List.getElem?_cons_zero, List.getElem?_cons_succ, List.set_cons_zero, List.set_cons_succ, Nat.zero_add, Nat.reduceAdd, Nat.reduceSub, Nat.reduceLeDiff, ite_true, ite_false, if_true, if_false, Bool.true_eq_false, Bool.false_eq_true, reduceIte, reduceCtorEq, Bool.not_true, Bool.not_false, Bool.and_true, Bool.and_self, Bool.true_and, Bool.false_and, Bool.and_false, Bool.or_true, Bool.true_or, Bool.or_false, Bool.false_or, and_self, and_true, true_and, true_or, or_true, Int.reduceLT, Int.reduceLE, Int.reducePow, Int.reduceNeg, Int.reduceMul, Int.reduceAdd, Int.reduceSub, Int.reduceToNat, fusF, D.items, List.all_cons, List.all_nil, id, Nat.reduceLT, Nat.reducePow, decide_true, decide_false, decide_eq_true_eq, beqI, beqS, beqB, bne, natc0, natc1, Int.cast_ofNat_Int, sg_turn, sg_mirror, sg_up, sg_down, sg_a, sg_b, sg_c, ne_mt, ne_tm, ne_ud, ne_du, Bool.not_eq_eq_eq_not, Bool.not_true, decide_eq_false_iff_not, Decidable.not_not, BEq.rfl, not_true_eq_false, not_false_eq_true, Fn.law_first, ht, hc, h], t1⟩
theorem cg_ok (p : Bool × Int) (j : Nat) : D.okd (j + 1) (cg p) = true := by
  obtain ⟨m, t⟩ := p
  cases m <;> cases j <;> simp -dsimp -implicitDefEqProofs only [evBody, argS, endF, els_some, orI_some, orI_none, frzAll, Sv.frz, Rv.imm, Sv.imm, D.imm, D.imms, cond_true, cond_false, Bool.cond_self, D.lt, D.lts, D.alike, D.alikes, ordOk, MulOk, LINE, ixN, startE, evSs, evS, evE, evEs, evB, evO, evC, frzs, frz, conts, cont, look, slotOf, Sv.rv, bnd_some, bnd_none, mpd_some, mpd_none, binop, cmpop, idxop, sliop, asI, asB, primF, kill, ML.bind, bindT, D.isTy, D.okd, D.okds, D.eqv, D.eqvs, D.flat, D.ints, D.bls, DEEP, itF, itSeq, itR1, itR2, itEn, itZ, itRev, mutF, ownL, augF, whC, whB, cmpB, forB, List.map_cons, List.map_nil, List.cons_append, List.nil_append, List.append_nil, List.length_cons, List.length_nil, List.replicate, List.getElem?_cons_zero, List.getElem?_cons_succ, List.set_cons_zero, List.set_cons_succ, Nat.zero_add, Nat.reduceAdd, Nat.reduceSub, Nat.reduceLeDiff, ite_true, ite_false, if_true, if_false, Bool.true_eq_false, Bool.false_eq_true, reduceIte, reduceCtorEq, Bool.not_true, Bool.not_false, Bool.and_true, Bool.and_self, Bool.true_and, Bool.false_and, Bool.and_false, Bool.or_true, Bool.true_or, Bool.or_false, Bool.false_or, and_self, and_true, true_and, true_or, or_true, Int.reduceLT, Int.reduceLE, Int.reducePow, Int.reduceNeg, Int.reduceMul, Int.reduceAdd, Int.reduceSub, Int.reduceToNat, fusF, D.items, List.all_cons, List.all_nil, id, Nat.reduceLT, Nat.reducePow, decide_true, decide_false, decide_eq_true_eq, beqI, beqS, beqB, bne, natc0, natc1, Int.cast_ofNat_Int, sg_turn, sg_mirror, sg_up, sg_down, sg_a, sg_b, sg_c, ne_mt, ne_tm, ne_ud, ne_du, Bool.not_eq_eq_eq_not, Bool.not_true, decide_eq_false_iff_not, Decidable.not_not, BEq.rfl, not_true_eq_false, not_false_eq_true, cg, chg]
theorem cgs_ok (l : List (Bool × Int)) (j : Nat) : D.okds (j + 1) (l.map cg) = true := by
  induction l with
  | nil => rfl
  | cons p l ih =>
    show (D.okd (j + 1) (cg p) && D.okds (j + 1) (l.map cg)) = true
    rw [ih, cg_ok]
    rfl
theorem cg_eqv (p : Bool × Int) : D.eqv (cg p) (cg p) = true := by
  obtain ⟨m, t⟩ := p
  cases m <;> simp -dsimp -implicitDefEqProofs only [evBody, argS, endF, els_some, orI_some, orI_none, frzAll, Sv.frz, Rv.imm, Sv.imm, D.imm, D.imms, cond_true, cond_false, Bool.cond_self, D.lt, D.lts, D.alike, D.alikes, ordOk, MulOk, LINE, ixN, startE, evSs, evS, evE, evEs, evB, evO, evC, frzs, frz, conts, cont, look, slotOf, Sv.rv, bnd_some, bnd_none, mpd_some, mpd_none, binop, cmpop, idxop, sliop, asI, asB, primF, kill, ML.bind, bindT, D.isTy, D.okd, D.okds, D.eqv, D.eqvs, D.flat, D.ints, D.bls, DEEP, itF, itSeq, itR1, itR2, itEn, itZ, itRev, mutF, ownL, augF, whC, whB, cmpB, forB, List.map_cons, List.map_nil, List.cons_append, List.nil_append, List.append_nil, List.length_cons, List.length_nil, List.replicate, List.getElem?_cons_zero, List.getElem?_cons_succ, List.set_cons_zero, List.set_cons_succ, Nat.zero_add, Nat.reduceAdd, Nat.reduceSub, Nat.reduceLeDiff, ite_true, ite_false, if_true, if_false, Bool.true_eq_false, Bool.false_eq_true, reduceIte, reduceCtorEq, Bool.not_true, Bool.not_false, Bool.and_true, Bool.and_self, Bool.true_and, Bool.false_and, Bool.and_false, Bool.or_true, Bool.true_or, Bool.or_false, Bool.false_or, and_self, and_true, true_and, true_or, or_true, Int.reduceLT, Int.reduceLE, Int.reducePow, Int.reduceNeg, Int.reduceMul, Int.reduceAdd, Int.reduceSub, Int.reduceToNat, fusF, D.items, List.all_cons, List.all_nil, id, Nat.reduceLT, Nat.reducePow, decide_true, decide_false, decide_eq_true_eq, beqI, beqS, beqB, bne, natc0, natc1, Int.cast_ofNat_Int, sg_turn, sg_mirror, sg_up, sg_down, sg_a, sg_b, sg_c, ne_mt, ne_tm, ne_ud, ne_du, Bool.not_eq_eq_eq_not, Bool.not_true, decide_eq_false_iff_not, Decidable.not_not, BEq.rfl, not_true_eq_false, not_false_eq_true, cg, chg]
theorem cgs_eqv (l : List (Bool × Int)) : D.eqvs (l.map cg) (l.map cg) = true := by
  induction l with
  | nil => rfl
  | cons p l ih =>
    show (D.eqv (cg p) (cg p) && D.eqvs (l.map cg) (l.map cg)) = true
    rw [ih, cg_eqv]
    rfl
theorem cgs_imm (l : List (Bool × Int)) : D.imms (l.map cg) = true := by
  induction l with
  | nil => rfl
  | cons p l ih =>
    show (D.imm (cg p) && D.imms (l.map cg)) = true
    rw [ih]
    rfl
theorem right_k10 (k : Nat) {n : Int} (hn : 0 < n) (hn' : n ≤ 60) {a : List Int} (ha : Crowd n a) (b : List Int) : callF Pt (k + 4) 46 [.int n, .tup (ids a), .tup (ids b)] = some (.fro (.bl true)) := by
  have hl := ha.len (by omega)
  have ch := changes_c' (k + 2) (n := n) (by omega) (by omega)
  have comp := comp_of (body := cmpB (.one 7) [7] (evC (callF Pt (k + 3)) [.cmp .eq (.call 44 [(.var 0), (.var 1), (.var 7)]) (.var 2)]) (evE (callF Pt (k + 3)) (.var 7)) (.it _) (.it _)) (ρ := [Sv.fro (.int n), Sv.fro (.tup (ids a)), Sv.fro (.tup (ids b)), Sv.no, Sv.no, Sv.no, Sv.no, Sv.no]) cg (fun p => decide (chgCrowd n p.1 p.2 a = b)) cg (cl n.toNat) (fun p _ => by
    have c1 := law_chg_c (k + 1) hn p.1 p.2 ha
    by_cases h : chgCrowd n p.1 p.2 a = b
    · simp -dsimp -implicitDefEqProofs only [evBody, argS, endF, els_some, orI_some, orI_none, frzAll, Sv.frz, Rv.imm, Sv.imm, D.imm, D.imms, cond_true, cond_false, Bool.cond_self, D.lt, D.lts, D.alike, D.alikes, ordOk, MulOk, LINE, ixN, startE, evSs, evS, evE, evEs, evB, evO, evC, frzs, frz, conts, cont, look, slotOf, Sv.rv, bnd_some, bnd_none, mpd_some, mpd_none, binop, cmpop, idxop, sliop, asI, asB, primF, kill, ML.bind, bindT, D.isTy, D.okd, D.okds, D.eqv, D.eqvs, D.flat, D.ints, D.bls, DEEP, itF, itSeq, itR1, itR2, itEn, itZ, itRev, mutF, ownL, augF, whC, whB, cmpB, forB, List.map_cons, List.map_nil, List.cons_append, List.nil_append, List.append_nil, List.length_cons, List.length_nil, List.replicate, List.getElem?_cons_zero, List.getElem?_cons_succ, List.set_cons_zero, List.set_cons_succ, Nat.zero_add, Nat.reduceAdd, Nat.reduceSub, Nat.reduceLeDiff, ite_true, ite_false, if_true, if_false, Bool.true_eq_false, Bool.false_eq_true, reduceIte, reduceCtorEq, Bool.not_true, Bool.not_false, Bool.and_true, Bool.and_self, Bool.true_and, Bool.false_and, Bool.and_false, Bool.or_true, Bool.true_or, Bool.or_false, Bool.false_or, and_self, and_true, true_and, true_or, or_true, Int.reduceLT, Int.reduceLE, Int.reducePow, Int.reduceNeg, Int.reduceMul, Int.reduceAdd, Int.reduceSub, Int.reduceToNat, fusF, D.items, List.all_cons, List.all_nil, id, Nat.reduceLT, Nat.reducePow, decide_true, decide_false, decide_eq_true_eq, beqI, beqS, beqB, bne, natc0, natc1, Int.cast_ofNat_Int, sg_turn, sg_mirror, sg_up, sg_down, sg_a, sg_b, sg_c, ne_mt, ne_tm, ne_ud, ne_du, Bool.not_eq_eq_eq_not, Bool.not_true, decide_eq_false_iff_not, Decidable.not_not, BEq.rfl, not_true_eq_false, not_false_eq_true, cg, c1, okd_ids, eqv_ids, h]
    · simp -dsimp -implicitDefEqProofs only [evBody, argS, endF, els_some, orI_some, orI_none, frzAll, Sv.frz, Rv.imm, Sv.imm, D.imm, D.imms, cond_true, cond_false, Bool.cond_self, D.lt, D.lts, D.alike, D.alikes, ordOk, MulOk, LINE, ixN, startE, evSs, evS, evE, evEs, evB, evO, evC, frzs, frz, conts, cont, look, slotOf, Sv.rv, bnd_some, bnd_none, mpd_some, mpd_none, binop, cmpop, idxop, sliop, asI, asB, primF, kill, ML.bind, bindT, D.isTy, D.okd, D.okds, D.eqv, D.eqvs, D.flat, D.ints, D.bls, DEEP, itF, itSeq, itR1, itR2, itEn, itZ, itRev, mutF, ownL, augF, whC, whB, cmpB, forB, List.map_cons, List.map_nil, List.cons_append, List.nil_append, List.append_nil, List.length_cons, List.length_nil, List.replicate, List.getElem?_cons_zero, List.getElem?_cons_succ, List.set_cons_zero, List.set_cons_succ, Nat.zero_add, Nat.reduceAdd, Nat.reduceSub, Nat.reduceLeDiff, ite_true, ite_false, if_true, if_false, Bool.true_eq_false, Bool.false_eq_true, reduceIte, reduceCtorEq, Bool.not_true, Bool.not_false, Bool.and_true, Bool.and_self, Bool.true_and, Bool.false_and, Bool.and_false, Bool.or_true, Bool.true_or, Bool.or_false, Bool.false_or, and_self, and_true, true_and, true_or, or_true, Int.reduceLT, Int.reduceLE, Int.reducePow, Int.reduceNeg, Int.reduceMul, Int.reduceAdd, Int.reduceSub, Int.reduceToNat, fusF, D.items, List.all_cons, List.all_nil, id, Nat.reduceLT, Nat.reducePow, decide_true, decide_false, decide_eq_true_eq, beqI, beqS, beqB, bne, natc0, natc1, Int.cast_ofNat_Int, sg_turn, sg_mirror, sg_up, sg_down, sg_a, sg_b, sg_c, ne_mt, ne_tm, ne_ud, ne_du, Bool.not_eq_eq_eq_not, Bool.not_true, decide_eq_false_iff_not, Decidable.not_not, BEq.rfl, not_true_eq_false, not_false_eq_true, cg, c1, okd_ids, eqv_ids, h])
  rw [show (cl n.toNat).filter (fun p => decide (chgCrowd n p.1 p.2 a = b)) = waysL n a b from rfl] at comp
  have wy := ways_c k hn hn' a b (by omega)
  have wl : (waysL n a b).length ≤ 1000 := by
    have := List.length_filter_le (fun p => decide (chgCrowd n p.1 p.2 a = b)) (cl n.toNat)
    rw [cl_len] at this
    unfold waysL
    omega
  generalize waysL n a b = W at *
  have e3 : -4611686018427387904 ≤ (W.length : Int) ∧ (W.length : Int) ≤ 16777216 := by omega
  have b3 : W.length < 16777216 := by omega
  rw [callF, Pt_law_right_k10]
  simp -dsimp -implicitDefEqProofs only [evBody, argS, endF, els_some, orI_some, orI_none, frzAll, Sv.frz, Rv.imm, Sv.imm, D.imm, D.imms, cond_true, cond_false, Bool.cond_self, D.lt, D.lts, D.alike, D.alikes, ordOk, MulOk, LINE, ixN, startE, evSs, evS, evE, evEs, evB, evO, evC, frzs, frz, conts, cont, look, slotOf, Sv.rv, bnd_some, bnd_none, mpd_some, mpd_none, binop, cmpop, idxop, sliop, asI, asB, primF, kill, ML.bind, bindT, D.isTy, D.okd, D.okds, D.eqv, D.eqvs, D.flat, D.ints, D.bls, DEEP, itF, itSeq, itR1, itR2, itEn, itZ, itRev, mutF, ownL, augF, whC, whB, cmpB, forB, List.map_cons, List.map_nil, List.cons_append, List.nil_append, List.append_nil, List.length_cons, List.length_nil, List.replicate, List.getElem?_cons_zero, List.getElem?_cons_succ, List.set_cons_zero, List.set_cons_succ, Nat.zero_add, Nat.reduceAdd, Nat.reduceSub, Nat.reduceLeDiff, ite_true, ite_false, if_true, if_false, Bool.true_eq_false, Bool.false_eq_true, reduceIte, reduceCtorEq, Bool.not_true, Bool.not_false, Bool.and_true, Bool.and_self, Bool.true_and, Bool.false_and, Bool.and_false, Bool.or_true, Bool.true_or, Bool.or_false, Bool.false_or, and_self, and_true, true_and, true_or, or_true, Int.reduceLT, Int.reduceLE, Int.reducePow, Int.reduceNeg, Int.reduceMul, Int.reduceAdd, Int.reduceSub, Int.reduceToNat, fusF, D.items, List.all_cons, List.all_nil, id, Nat.reduceLT, Nat.reducePow, decide_true, decide_false, decide_eq_true_eq, beqI, beqS, beqB, bne, natc0, natc1, Int.cast_ofNat_Int, sg_turn, sg_mirror, sg_up, sg_down, sg_a, sg_b, sg_c, ne_mt, ne_tm, ne_ud, ne_du, Bool.not_eq_eq_eq_not, Bool.not_true, decide_eq_false_iff_not, Decidable.not_not, BEq.rfl, not_true_eq_false, not_false_eq_true, Fn.law_right_k10, ch, comp]
  rw [for_const]
  · simp -dsimp -implicitDefEqProofs only [evBody, argS, endF, els_some, orI_some, orI_none, frzAll, Sv.frz, Rv.imm, Sv.imm, D.imm, D.imms, cond_true, cond_false, Bool.cond_self, D.lt, D.lts, D.alike, D.alikes, ordOk, MulOk, LINE, ixN, startE, evSs, evS, evE, evEs, evB, evO, evC, frzs, frz, conts, cont, look, slotOf, Sv.rv, bnd_some, bnd_none, mpd_some, mpd_none, binop, cmpop, idxop, sliop, asI, asB, primF, kill, ML.bind, bindT, D.isTy, D.okd, D.okds, D.eqv, D.eqvs, D.flat, D.ints, D.bls, DEEP, itF, itSeq, itR1, itR2, itEn, itZ, itRev, mutF, ownL, augF, whC, whB, cmpB, forB, List.map_cons, List.map_nil, List.cons_append, List.nil_append, List.append_nil, List.length_cons, List.length_nil, List.replicate, List.getElem?_cons_zero, List.getElem?_cons_succ, List.set_cons_zero, List.set_cons_succ, Nat.zero_add, Nat.reduceAdd, Nat.reduceSub, Nat.reduceLeDiff, ite_true, ite_false, if_true, if_false, Bool.true_eq_false, Bool.false_eq_true, reduceIte, reduceCtorEq, Bool.not_true, Bool.not_false, Bool.and_true, Bool.and_self, Bool.true_and, Bool.false_and, Bool.and_false, Bool.or_true, Bool.true_or, Bool.or_false, Bool.false_or, and_self, and_true, true_and, true_or, or_true, Int.reduceLT, Int.reduceLE, Int.reducePow, Int.reduceNeg, Int.reduceMul, Int.reduceAdd, Int.reduceSub, Int.reduceToNat, fusF, D.items, List.all_cons, List.all_nil, id, Nat.reduceLT, Nat.reducePow, decide_true, decide_false, decide_eq_true_eq, beqI, beqS, beqB, bne, natc0, natc1, Int.cast_ofNat_Int, sg_turn, sg_mirror, sg_up, sg_down, sg_a, sg_b, sg_c, ne_mt, ne_tm, ne_ud, ne_du, Bool.not_eq_eq_eq_not, Bool.not_true, decide_eq_false_iff_not, Decidable.not_not, BEq.rfl, not_true_eq_false, not_false_eq_true]
  · intro x _
    have inner : evFor [4, 6] (forB (.one 6) (evSs (callF Pt (k + 3)) Fn.law_right_k10_b0) (.it _)) (rangeD 0 W.length) [Sv.fro (.int n), Sv.fro (.tup (ids a)), Sv.fro (.tup (ids b)), Sv.own (.lst (W.map cg)), .no, Sv.own (.lst (W.map cg)), .no, .no] =
        some (.nx [Sv.fro (.int n), Sv.fro (.tup (ids a)), Sv.fro (.tup (ids b)), Sv.own (.lst (W.map cg)), .no, Sv.own (.lst (W.map cg)), .no, .no]) := by
      rw [for_const]
      intro z hz
      obtain ⟨j, hj, rfl⟩ := mem_rangeD0 hz
      have ix : idxop (.lst (W.map cg)) (.int (j : Int)) = some (.tup [.str (if W[j].1 then "mirror" else "turn"), .int W[j].2]) := idx_lst (by rw [List.getElem?_map, List.getElem?_eq_getElem hj]; rfl)
      generalize W[j] = p at ix
      obtain ⟨m, t⟩ := p
      cases m
      · simp -dsimp -implicitDefEqProofs only [evBody, argS, endF, els_some, orI_some, orI_none, frzAll, Sv.frz, Rv.imm, Sv.imm, D.imm, D.imms, cond_true, cond_false, Bool.cond_self, D.lt, D.lts, D.alike, D.alikes, ordOk, MulOk, LINE, ixN, startE, evSs, evS, evE, evEs, evB, evO, evC, frzs, frz, conts, cont, look, slotOf, Sv.rv, bnd_some, bnd_none, mpd_some, mpd_none, binop, cmpop, idxop, sliop, asI, asB, primF, kill, ML.bind, bindT, D.isTy, D.okd, D.okds, D.eqv, D.eqvs, D.flat, D.ints, D.bls, DEEP, itF, itSeq, itR1, itR2, itEn, itZ, itRev, mutF, ownL, augF, whC, whB, cmpB, forB, List.map_cons, List.map_nil, List.cons_append, List.nil_append, List.append_nil, List.length_cons, List.length_nil, List.replicate, List.getElem?_cons_zero, List.getElem?_cons_succ, List.set_cons_zero, List.set_cons_succ, Nat.zero_add, Nat.reduceAdd, Nat.reduceSub, Nat.reduceLeDiff, ite_true, ite_false, if_true, if_false, Bool.true_eq_false, Bool.false_eq_true, reduceIte, reduceCtorEq, Bool.not_true, Bool.not_false, Bool.and_true, Bool.and_self, Bool.true_and, Bool.false_and, Bool.and_false, Bool.or_true, Bool.true_or, Bool.or_false, Bool.false_or, and_self, and_true, true_and, true_or, or_true, Int.reduceLT, Int.reduceLE, Int.reducePow, Int.reduceNeg, Int.reduceMul, Int.reduceAdd, Int.reduceSub, Int.reduceToNat, fusF, D.items, List.all_cons, List.all_nil, id, Nat.reduceLT, Nat.reducePow, decide_true, decide_false, decide_eq_true_eq, beqI, beqS, beqB, bne, natc0, natc1, Int.cast_ofNat_Int, sg_turn, sg_mirror, sg_up, sg_down, sg_a, sg_b, sg_c, ne_mt, ne_tm, ne_ud, ne_du, Bool.not_eq_eq_eq_not, Bool.not_true, decide_eq_false_iff_not, Decidable.not_not, BEq.rfl, not_true_eq_false, not_false_eq_true] at ix
        simp -dsimp -implicitDefEqProofs only [evBody, argS, endF, els_some, orI_some, orI_none, frzAll, Sv.frz, Rv.imm, Sv.imm, D.imm, D.imms, cond_true, cond_false, Bool.cond_self, D.lt, D.lts, D.alike, D.alikes, ordOk, MulOk, LINE, ixN, startE, evSs, evS, evE, evEs, evB, evO, evC, frzs, frz, conts, cont, look, slotOf, Sv.rv, bnd_some, bnd_none, mpd_some, mpd_none, binop, cmpop, idxop, sliop, asI, asB, primF, kill, ML.bind, bindT, D.isTy, D.okd, D.okds, D.eqv, D.eqvs, D.flat, D.ints, D.bls, DEEP, itF, itSeq, itR1, itR2, itEn, itZ, itRev, mutF, ownL, augF, whC, whB, cmpB, forB, List.map_cons, List.map_nil, List.cons_append, List.nil_append, List.append_nil, List.length_cons, List.length_nil, List.replicate, List.getElem?_cons_zero, List.getElem?_cons_succ, List.set_cons_zero, List.set_cons_succ, Nat.zero_add, Nat.reduceAdd, Nat.reduceSub, Nat.reduceLeDiff, ite_true, ite_false, if_true, if_false, Bool.true_eq_false, Bool.false_eq_true, reduceIte, reduceCtorEq, Bool.not_true, Bool.not_false, Bool.and_true, Bool.and_self, Bool.true_and, Bool.false_and, Bool.and_false, Bool.or_true, Bool.true_or, Bool.or_false, Bool.false_or, and_self, and_true, true_and, true_or, or_true, Int.reduceLT, Int.reduceLE, Int.reducePow, Int.reduceNeg, Int.reduceMul, Int.reduceAdd, Int.reduceSub, Int.reduceToNat, fusF, D.items, List.all_cons, List.all_nil, id, Nat.reduceLT, Nat.reducePow, decide_true, decide_false, decide_eq_true_eq, beqI, beqS, beqB, bne, natc0, natc1, Int.cast_ofNat_Int, sg_turn, sg_mirror, sg_up, sg_down, sg_a, sg_b, sg_c, ne_mt, ne_tm, ne_ud, ne_du, Bool.not_eq_eq_eq_not, Bool.not_true, decide_eq_false_iff_not, Decidable.not_not, BEq.rfl, not_true_eq_false, not_false_eq_true, Fn.law_right_k10_b0, ↓ix]
        exact ⟨_, rfl, rfl⟩
      · simp -dsimp -implicitDefEqProofs only [evBody, argS, endF, els_some, orI_some, orI_none, frzAll, Sv.frz, Rv.imm, Sv.imm, D.imm, D.imms, cond_true, cond_false, Bool.cond_self, D.lt, D.lts, D.alike, D.alikes, ordOk, MulOk, LINE, ixN, startE, evSs, evS, evE, evEs, evB, evO, evC, frzs, frz, conts, cont, look, slotOf, Sv.rv, bnd_some, bnd_none, mpd_some, mpd_none, binop, cmpop, idxop, sliop, asI, asB, primF, kill, ML.bind, bindT, D.isTy, D.okd, D.okds, D.eqv, D.eqvs, D.flat, D.ints, D.bls, DEEP, itF, itSeq, itR1, itR2, itEn, itZ, itRev, mutF, ownL, augF, whC, whB, cmpB, forB, List.map_cons, List.map_nil, List.cons_append, List.nil_append, List.append_nil, List.length_cons, List.length_nil, List.replicate, List.getElem?_cons_zero, List.getElem?_cons_succ, List.set_cons_zero, List.set_cons_succ, Nat.zero_add, Nat.reduceAdd, Nat.reduceSub, Nat.reduceLeDiff, ite_true, ite_false, if_true, if_false, Bool.true_eq_false, Bool.false_eq_true, reduceIte, reduceCtorEq, Bool.not_true, Bool.not_false, Bool.and_true, Bool.and_self, Bool.true_and, Bool.false_and, Bool.and_false, Bool.or_true, Bool.true_or, Bool.or_false, Bool.false_or, and_self, and_true, true_and, true_or, or_true, Int.reduceLT, Int.reduceLE, Int.reducePow, Int.reduceNeg, Int.reduceMul, Int.reduceAdd, Int.reduceSub, Int.reduceToNat, fusF, D.items, List.all_cons, List.all_nil, id, Nat.reduceLT, Nat.reducePow, decide_true, decide_false, decide_eq_true_eq, beqI, beqS, beqB, bne, natc0, natc1, Int.cast_ofNat_Int, sg_turn, sg_mirror, sg_up, sg_down, sg_a, sg_b, sg_c, ne_mt, ne_tm, ne_ud, ne_du, Bool.not_eq_eq_eq_not, Bool.not_true, decide_eq_false_iff_not, Decidable.not_not, BEq.rfl, not_true_eq_false, not_false_eq_true] at ix
        simp -dsimp -implicitDefEqProofs only [evBody, argS, endF, els_some, orI_some, orI_none, frzAll, Sv.frz, Rv.imm, Sv.imm, D.imm, D.imms, cond_true, cond_false, Bool.cond_self, D.lt, D.lts, D.alike, D.alikes, ordOk, MulOk, LINE, ixN, startE, evSs, evS, evE, evEs, evB, evO, evC, frzs, frz, conts, cont, look, slotOf, Sv.rv, bnd_some, bnd_none, mpd_some, mpd_none, binop, cmpop, idxop, sliop, asI, asB, primF, kill, ML.bind, bindT, D.isTy, D.okd, D.okds, D.eqv, D.eqvs, D.flat, D.ints, D.bls, DEEP, itF, itSeq, itR1, itR2, itEn, itZ, itRev, mutF, ownL, augF, whC, whB, cmpB, forB, List.map_cons, List.map_nil, List.cons_append, List.nil_append, List.append_nil, List.length_cons, List.length_nil, List.replicate, List.getElem?_cons_zero, List.getElem?_cons_succ, List.set_cons_zero, List.set_cons_succ, Nat.zero_add, Nat.reduceAdd, Nat.reduceSub, Nat.reduceLeDiff, ite_true, ite_false, if_true, if_false, Bool.true_eq_false, Bool.false_eq_true, reduceIte, reduceCtorEq, Bool.not_true, Bool.not_false, Bool.and_true, Bool.and_self, Bool.true_and, Bool.false_and, Bool.and_false, Bool.or_true, Bool.true_or, Bool.or_false, Bool.false_or, and_self, and_true, true_and, true_or, or_true, Int.reduceLT, Int.reduceLE, Int.reducePow, Int.reduceNeg, Int.reduceMul, Int.reduceAdd, Int.reduceSub, Int.reduceToNat, fusF, D.items, List.all_cons, List.all_nil, id, Nat.reduceLT, Nat.reducePow, decide_true, decide_false, decide_eq_true_eq, beqI, beqS, beqB, bne, natc0, natc1, Int.cast_ofNat_Int, sg_turn, sg_mirror, sg_up, sg_down, sg_a, sg_b, sg_c, ne_mt, ne_tm, ne_ud, ne_du, Bool.not_eq_eq_eq_not, Bool.not_true, decide_eq_false_iff_not, Decidable.not_not, BEq.rfl, not_true_eq_false, not_false_eq_true, Fn.law_right_k10_b0, ↓ix]
        exact ⟨_, rfl, rfl⟩
    simp -dsimp -implicitDefEqProofs only [evBody, argS, endF, els_some, orI_some, orI_none, frzAll, Sv.frz, Rv.imm, Sv.imm, D.imm, D.imms, cond_true, cond_false, Bool.cond_self, D.lt, D.lts, D.alike, D.alikes, ordOk, MulOk, LINE, ixN, startE, evSs, evS, evE, evEs, evB, evO, evC, frzs, frz, conts, cont, look, slotOf, Sv.rv, bnd_some, bnd_none, mpd_some, mpd_none, binop, cmpop, idxop, sliop, asI, asB, primF, kill, ML.bind, bindT, D.isTy, D.okd, D.okds, D.eqv, D.eqvs, D.flat, D.ints, D.bls, DEEP, itF, itSeq, itR1, itR2, itEn, itZ, itRev, mutF, ownL, augF, whC, whB, cmpB, forB, List.map_cons, List.map_nil, List.cons_append, List.nil_append, List.append_nil, List.length_cons, List.length_nil, List.replicate, List.getElem?_cons_zero, List.getElem?_cons_succ, List.set_cons_zero, List.set_cons_succ, Nat.zero_add, Nat.reduceAdd, Nat.reduceSub, Nat.reduceLeDiff, ite_true, ite_false, if_true, if_false, Bool.true_eq_false, Bool.false_eq_true, reduceIte, reduceCtorEq, Bool.not_true, Bool.not_false, Bool.and_true, Bool.and_self, Bool.true_and, Bool.false_and, Bool.and_false, Bool.or_true, Bool.true_or, Bool.or_false, Bool.false_or, and_self, and_true, true_and, true_or, or_true, Int.reduceLT, Int.reduceLE, Int.reducePow, Int.reduceNeg, Int.reduceMul, Int.reduceAdd, Int.reduceSub, Int.reduceToNat, fusF, D.items, List.all_cons, List.all_nil, id, Nat.reduceLT, Nat.reducePow, decide_true, decide_false, decide_eq_true_eq, beqI, beqS, beqB, bne, natc0, natc1, Int.cast_ofNat_Int, sg_turn, sg_mirror, sg_up, sg_down, sg_a, sg_b, sg_c, ne_mt, ne_tm, ne_ud, ne_du, Bool.not_eq_eq_eq_not, Bool.not_true, decide_eq_false_iff_not, Decidable.not_not, BEq.rfl, not_true_eq_false, not_false_eq_true, Fn.law_right_k10_b1, wy, List.length_map, e3, Int.toNat_natCast, inner, b3]
    exact ⟨_, rfl, rfl⟩
theorem k10_main (ns : List Int) (hl : ns.length ≤ 63) : callF Pt 6 47 [.scr ns] = some (.fro (.bl true)) := by
  obtain ⟨n, hn, n1, n2⟩ := wheel_c 2 ns hl (m := 24) (by decide)
  have n3 : 0 < n := by omega
  rw [callF, Pt_law_k10]
  simp -dsimp -implicitDefEqProofs only [evBody, argS, endF, els_some, orI_some, orI_none, frzAll, Sv.frz, Rv.imm, Sv.imm, D.imm, D.imms, cond_true, cond_false, Bool.cond_self, D.lt, D.lts, D.alike, D.alikes, ordOk, MulOk, LINE, ixN, startE, evSs, evS, evE, evEs, evB, evO, evC, frzs, frz, conts, cont, look, slotOf, Sv.rv, bnd_some, bnd_none, mpd_some, mpd_none, binop, cmpop, idxop, sliop, asI, asB, primF, kill, ML.bind, bindT, D.isTy, D.okd, D.okds, D.eqv, D.eqvs, D.flat, D.ints, D.bls, DEEP, itF, itSeq, itR1, itR2, itEn, itZ, itRev, mutF, ownL, augF, whC, whB, cmpB, forB, List.map_cons, List.map_nil, List.cons_append, List.nil_append, List.append_nil, List.length_cons, List.length_nil, List.replicate, List.getElem?_cons_zero, List.getElem?_cons_succ, List.set_cons_zero, List.set_cons_succ, Nat.zero_add, Nat.reduceAdd, Nat.reduceSub, Nat.reduceLeDiff, ite_true, ite_false, if_true, if_false, Bool.true_eq_false, Bool.false_eq_true, reduceIte, reduceCtorEq, Bool.not_true, Bool.not_false, Bool.and_true, Bool.and_self, Bool.true_and, Bool.false_and, Bool.and_false, Bool.or_true, Bool.true_or, Bool.or_false, Bool.false_or, and_self, and_true, true_and, true_or, or_true, Int.reduceLT, Int.reduceLE, Int.reducePow, Int.reduceNeg, Int.reduceMul, Int.reduceAdd, Int.reduceSub, Int.reduceToNat, fusF, D.items, List.all_cons, List.all_nil, id, Nat.reduceLT, Nat.reducePow, decide_true, decide_false, decide_eq_true_eq, beqI, beqS, beqB, bne, natc0, natc1, Int.cast_ofNat_Int, sg_turn, sg_mirror, sg_up, sg_down, sg_a, sg_b, sg_c, ne_mt, ne_tm, ne_ud, ne_du, Bool.not_eq_eq_eq_not, Bool.not_true, decide_eq_false_iff_not, Decidable.not_not, BEq.rfl, not_true_eq_false, not_false_eq_true, Fn.law_k10, hn]
  generalize hm : (if (8 : Int) < (ns.length : Int) + 2 then (8 : Int) else (ns.length : Int) + 2) = m
  have hm1 : m ≤ 16777216 ∧ -4611686018427387904 ≤ m ∧ m ≤ 40 := by rw [← hm]; split <;> omega
  simp -dsimp -implicitDefEqProofs only [evBody, argS, endF, els_some, orI_some, orI_none, frzAll, Sv.frz, Rv.imm, Sv.imm, D.imm, D.imms, cond_true, cond_false, Bool.cond_self, D.lt, D.lts, D.alike, D.alikes, ordOk, MulOk, LINE, ixN, startE, evSs, evS, evE, evEs, evB, evO, evC, frzs, frz, conts, cont, look, slotOf, Sv.rv, bnd_some, bnd_none, mpd_some, mpd_none, binop, cmpop, idxop, sliop, asI, asB, primF, kill, ML.bind, bindT, D.isTy, D.okd, D.okds, D.eqv, D.eqvs, D.flat, D.ints, D.bls, DEEP, itF, itSeq, itR1, itR2, itEn, itZ, itRev, mutF, ownL, augF, whC, whB, cmpB, forB, List.map_cons, List.map_nil, List.cons_append, List.nil_append, List.append_nil, List.length_cons, List.length_nil, List.replicate, List.getElem?_cons_zero, List.getElem?_cons_succ, List.set_cons_zero, List.set_cons_succ, Nat.zero_add, Nat.reduceAdd, Nat.reduceSub, Nat.reduceLeDiff, ite_true, ite_false, if_true, if_false, Bool.true_eq_false, Bool.false_eq_true, reduceIte, reduceCtorEq, Bool.not_true, Bool.not_false, Bool.and_true, Bool.and_self, Bool.true_and, Bool.false_and, Bool.and_false, Bool.or_true, Bool.true_or, Bool.or_false, Bool.false_or, and_self, and_true, true_and, true_or, or_true, Int.reduceLT, Int.reduceLE, Int.reducePow, Int.reduceNeg, Int.reduceMul, Int.reduceAdd, Int.reduceSub, Int.reduceToNat, fusF, D.items, List.all_cons, List.all_nil, id, Nat.reduceLT, Nat.reducePow, decide_true, decide_false, decide_eq_true_eq, beqI, beqS, beqB, bne, natc0, natc1, Int.cast_ofNat_Int, sg_turn, sg_mirror, sg_up, sg_down, sg_a, sg_b, sg_c, ne_mt, ne_tm, ne_ud, ne_du, Bool.not_eq_eq_eq_not, Bool.not_true, decide_eq_false_iff_not, Decidable.not_not, BEq.rfl, not_true_eq_false, not_false_eq_true, hm1]
  rw [for_const]
  · simp -dsimp -implicitDefEqProofs only [evBody, argS, endF, els_some, orI_some, orI_none, frzAll, Sv.frz, Rv.imm, Sv.imm, D.imm, D.imms, cond_true, cond_false, Bool.cond_self, D.lt, D.lts, D.alike, D.alikes, ordOk, MulOk, LINE, ixN, startE, evSs, evS, evE, evEs, evB, evO, evC, frzs, frz, conts, cont, look, slotOf, Sv.rv, bnd_some, bnd_none, mpd_some, mpd_none, binop, cmpop, idxop, sliop, asI, asB, primF, kill, ML.bind, bindT, D.isTy, D.okd, D.okds, D.eqv, D.eqvs, D.flat, D.ints, D.bls, DEEP, itF, itSeq, itR1, itR2, itEn, itZ, itRev, mutF, ownL, augF, whC, whB, cmpB, forB, List.map_cons, List.map_nil, List.cons_append, List.nil_append, List.append_nil, List.length_cons, List.length_nil, List.replicate, List.getElem?_cons_zero, List.getElem?_cons_succ, List.set_cons_zero, List.set_cons_succ, Nat.zero_add, Nat.reduceAdd, Nat.reduceSub, Nat.reduceLeDiff, ite_true, ite_false, if_true, if_false, Bool.true_eq_false, Bool.false_eq_true, reduceIte, reduceCtorEq, Bool.not_true, Bool.not_false, Bool.and_true, Bool.and_self, Bool.true_and, Bool.false_and, Bool.and_false, Bool.or_true, Bool.true_or, Bool.or_false, Bool.false_or, and_self, and_true, true_and, true_or, or_true, Int.reduceLT, Int.reduceLE, Int.reducePow, Int.reduceNeg, Int.reduceMul, Int.reduceAdd, Int.reduceSub, Int.reduceToNat, fusF, D.items, List.all_cons, List.all_nil, id, Nat.reduceLT, Nat.reducePow, decide_true, decide_false, decide_eq_true_eq, beqI, beqS, beqB, bne, natc0, natc1, Int.cast_ofNat_Int, sg_turn, sg_mirror, sg_up, sg_down, sg_a, sg_b, sg_c, ne_mt, ne_tm, ne_ud, ne_du, Bool.not_eq_eq_eq_not, Bool.not_true, decide_eq_false_iff_not, Decidable.not_not, BEq.rfl, not_true_eq_false, not_false_eq_true]
  · intro x hx
    obtain ⟨i, hi, rfl⟩ := mem_rangeD0 hx
    obtain ⟨a, ha, a1⟩ := first_c 0 ns hl (i := (i : Int)) (n := n) (by omega) (by omega) (by omega) (by omega)
    have la := a1.len (by omega)
    obtain ⟨b, hb, b1, _⟩ := sized_c 1 ns hl (i := (i : Int)) (s := 6) (n := n) (z := (a.length : Int)) (by omega) (by omega) (by omega) (by omega) (by decide) (by decide) (by omega)
    obtain ⟨c, hc, c1, c2⟩ := mixed_c 3 ns hl (i := (i : Int)) (s := 7) (by omega) (by omega) (by decide) (by decide)
    obtain ⟨m, t, hg, g1, g2⟩ := change_c 2 ns hl (i := (i : Int)) (s := 8) n3 (by omega) (by omega) (by decide) (by decide)
    have lc := law_chg_c 3 n3 m t a1
    have r1 := right_k10 1 n3 (by omega) a1 b
    have r2 := right_k10 1 n3 (by omega) a1 (chgCrowd n m t a)
    have r3 := right_k10 1 n3 (by omega) a1 a
    simp only [tupI] at hb
    by_cases h : c % 2 = 0
    · simp -dsimp -implicitDefEqProofs only [evBody, argS, endF, els_some, orI_some, orI_none, frzAll, Sv.frz, Rv.imm, Sv.imm, D.imm, D.imms, cond_true, cond_false, Bool.cond_self, D.lt, D.lts, D.alike, D.alikes, ordOk, MulOk, LINE, ixN, startE, evSs, evS, evE, evEs, evB, evO, evC, frzs, frz, conts, cont, look, slotOf, Sv.rv, bnd_some, bnd_none, mpd_some, mpd_none, binop, cmpop, idxop, sliop, asI, asB, primF, kill, ML.bind, bindT, D.isTy, D.okd, D.okds, D.eqv, D.eqvs, D.flat, D.ints, D.bls, DEEP, itF, itSeq, itR1, itR2, itEn, itZ, itRev, mutF, ownL, augF, whC, whB, cmpB, forB, List.map_cons, List.map_nil, List.cons_append, List.nil_append, List.append_nil, List.length_cons, List.length_nil, List.replicate, List.getElem?_cons_zero, List.getElem?_cons_succ, List.set_cons_zero, List.set_cons_succ, Nat.zero_add, Nat.reduceAdd, Nat.reduceSub, Nat.reduceLeDiff, ite_true, ite_false, if_true, if_false, Bool.true_eq_false, Bool.false_eq_true, reduceIte, reduceCtorEq, Bool.not_true, Bool.not_false, Bool.and_true, Bool.and_self, Bool.true_and, Bool.false_and, Bool.and_false, Bool.or_true, Bool.true_or, Bool.or_false, Bool.false_or, and_self, and_true, true_and, true_or, or_true, Int.reduceLT, Int.reduceLE, Int.reducePow, Int.reduceNeg, Int.reduceMul, Int.reduceAdd, Int.reduceSub, Int.reduceToNat, fusF, D.items, List.all_cons, List.all_nil, id, Nat.reduceLT, Nat.reducePow, decide_true, decide_false, decide_eq_true_eq, beqI, beqS, beqB, bne, natc0, natc1, Int.cast_ofNat_Int, sg_turn, sg_mirror, sg_up, sg_down, sg_a, sg_b, sg_c, ne_mt, ne_tm, ne_ud, ne_du, Bool.not_eq_eq_eq_not, Bool.not_true, decide_eq_false_iff_not, Decidable.not_not, BEq.rfl, not_true_eq_false, not_false_eq_true, Fn.law_k10_b0, ha, hb, ids_len, hc, h, hg, lc, r2, r3]
      exact ⟨_, rfl, rfl⟩
    · simp -dsimp -implicitDefEqProofs only [evBody, argS, endF, els_some, orI_some, orI_none, frzAll, Sv.frz, Rv.imm, Sv.imm, D.imm, D.imms, cond_true, cond_false, Bool.cond_self, D.lt, D.lts, D.alike, D.alikes, ordOk, MulOk, LINE, ixN, startE, evSs, evS, evE, evEs, evB, evO, evC, frzs, frz, conts, cont, look, slotOf, Sv.rv, bnd_some, bnd_none, mpd_some, mpd_none, binop, cmpop, idxop, sliop, asI, asB, primF, kill, ML.bind, bindT, D.isTy, D.okd, D.okds, D.eqv, D.eqvs, D.flat, D.ints, D.bls, DEEP, itF, itSeq, itR1, itR2, itEn, itZ, itRev, mutF, ownL, augF, whC, whB, cmpB, forB, List.map_cons, List.map_nil, List.cons_append, List.nil_append, List.append_nil, List.length_cons, List.length_nil, List.replicate, List.getElem?_cons_zero, List.getElem?_cons_succ, List.set_cons_zero, List.set_cons_succ, Nat.zero_add, Nat.reduceAdd, Nat.reduceSub, Nat.reduceLeDiff, ite_true, ite_false, if_true, if_false, Bool.true_eq_false, Bool.false_eq_true, reduceIte, reduceCtorEq, Bool.not_true, Bool.not_false, Bool.and_true, Bool.and_self, Bool.true_and, Bool.false_and, Bool.and_false, Bool.or_true, Bool.true_or, Bool.or_false, Bool.false_or, and_self, and_true, true_and, true_or, or_true, Int.reduceLT, Int.reduceLE, Int.reducePow, Int.reduceNeg, Int.reduceMul, Int.reduceAdd, Int.reduceSub, Int.reduceToNat, fusF, D.items, List.all_cons, List.all_nil, id, Nat.reduceLT, Nat.reducePow, decide_true, decide_false, decide_eq_true_eq, beqI, beqS, beqB, bne, natc0, natc1, Int.cast_ofNat_Int, sg_turn, sg_mirror, sg_up, sg_down, sg_a, sg_b, sg_c, ne_mt, ne_tm, ne_ud, ne_du, Bool.not_eq_eq_eq_not, Bool.not_true, decide_eq_false_iff_not, Decidable.not_not, BEq.rfl, not_true_eq_false, not_false_eq_true, Fn.law_k10_b0, ha, hb, ids_len, hc, h, r1, r3]
      exact ⟨_, rfl, rfl⟩
end ML
set_option Elab.async false
set_option linter.all false
set_option autoImplicit false
set_option maxRecDepth 100000
set_option maxHeartbeats 4000000
namespace ML
open PySem
theorem sg_on : signsOk "on" = true := by decide +kernel
theorem sg_back : signsOk "back" = true := by decide +kernel
theorem ne_on_back : (("on" : Str) = "back") = False := by
  apply eq_false
  decide +kernel
def wy (b : Bool) : Str := if b then "back" else "on"
/-- a form: mirror?, number, back? -/
def fm (p : Bool × Int × Bool) : D := .tup [chg p.1 p.2.1, .str (wy p.2.2)]
def fRow (n : Int) (p : Bool × Int × Bool) (r : List Int) : List Int := if p.2.2 then (r.map (chgDo n p.1 p.2.1)).reverse else r.map (chgDo n p.1 p.2.1)
theorem ids_rev (l : List Int) : (ids l).reverse = ids l.reverse := (List.map_reverse ..).symm
theorem formed_c (k : Nat) {n : Int} (hn : 0 < n) (p : Bool × Int × Bool) (r : List Int) : callF Pt (k + 2) 159 [.int n, .tup (ids r), fm p] = some (.fro (.tup (ids (fRow n p r)))) := by
  obtain ⟨m, t, b⟩ := p
  have comp := comp_ints (body := cmpB (.one 6) [6] (evC (callF Pt (k + 1)) []) (evE (callF Pt (k + 1)) (.call 9 [(.var 0), (.var 3), (.var 6)])) (.it _) (.it _)) (ρ := [Sv.fro (.int n), Sv.fro (.tup (ids r)), Sv.fro (.tup [chg m t, .str (wy b)]), Sv.fro (chg m t), Sv.fro (.str (wy b)), Sv.no, Sv.no]) (chgDo n m t) r (fun x _ => by
    simp -dsimp -implicitDefEqProofs only [evBody, argS, endF, els_some, orI_some, orI_none, frzAll, Sv.frz, Rv.imm, Sv.imm, D.imm, D.imms, cond_true, cond_false, Bool.cond_self, D.lt, D.lts, D.alike, D.alikes, ordOk, MulOk, LINE, ixN, startE, evSs, evS, evE, evEs, evB, evO, evC, frzs, frz, conts, cont, look, slotOf, Sv.rv, bnd_some, bnd_none, mpd_some, mpd_none, binop, cmpop, idxop, sliop, asI, asB, primF, kill, ML.bind, bindT, D.isTy, D.okd, D.okds, D.eqv, D.eqvs, D.flat, D.ints, D.bls, DEEP, itF, itSeq, itR1, itR2, itEn, itZ, itRev, mutF, ownL, augF, whC, whB, cmpB, forB, List.map_cons, List.map_nil, List.cons_append, List.nil_append, List.append_nil, List.length_cons, List.length_nil, List.replicate, List.getElem?_cons_zero, List.getElem?_cons_succ, List.set_cons_zero, List.set_cons_succ, Nat.zero_add, Nat.reduceAdd, Nat.reduceSub, Nat.reduceLeDiff, ite_true, ite_false, if_true, if_false, Bool.true_eq_false, Bool.false_eq_true, reduceIte, reduceCtorEq, Bool.not_true, Bool.not_false, Bool.and_true, Bool.and_self, Bool.true_and, Bool.false_and, Bool.and_false, Bool.or_true, Bool.true_or, Bool.or_false, Bool.false_or, and_self, and_true, true_and, true_or, or_true, Int.reduceLT, Int.reduceLE, Int.reducePow, Int.reduceNeg, Int.reduceMul, Int.reduceAdd, Int.reduceSub, Int.reduceToNat, fusF, D.items, List.all_cons, List.all_nil, id, Nat.reduceLT, Nat.reducePow, decide_true, decide_false, decide_eq_true_eq, beqI, beqS, beqB, bne, natc0, natc1, Int.cast_ofNat_Int, sg_turn, sg_mirror, sg_up, sg_down, sg_a, sg_b, sg_c, ne_mt, ne_tm, ne_ud, ne_du, Bool.not_eq_eq_eq_not, Bool.not_true, decide_eq_false_iff_not, Decidable.not_not, BEq.rfl, not_true_eq_false, not_false_eq_true, done_c _ hn])
  rw [callF, Pt_formed]
  cases b
  · simp only [wy, Bool.false_eq_true, if_false] at comp
    simp -dsimp -implicitDefEqProofs only [evBody, argS, endF, els_some, orI_some, orI_none, frzAll, Sv.frz, Rv.imm, Sv.imm, D.imm, D.imms, cond_true, cond_false, Bool.cond_self, D.lt, D.lts, D.alike, D.alikes, ordOk, MulOk, LINE, ixN, startE, evSs, evS, evE, evEs, evB, evO, evC, frzs, frz, conts, cont, look, slotOf, Sv.rv, bnd_some, bnd_none, mpd_some, mpd_none, binop, cmpop, idxop, sliop, asI, asB, primF, kill, ML.bind, bindT, D.isTy, D.okd, D.okds, D.eqv, D.eqvs, D.flat, D.ints, D.bls, DEEP, itF, itSeq, itR1, itR2, itEn, itZ, itRev, mutF, ownL, augF, whC, whB, cmpB, forB, List.map_cons, List.map_nil, List.cons_append, List.nil_append, List.append_nil, List.length_cons, List.length_nil, List.replicate, List.getElem?_cons_zero, List.getElem?_cons_succ, List.set_cons_zero, List.set_cons_succ, Nat.zero_add, Nat.reduceAdd, Nat.reduceSub, Nat.reduceLeDiff, ite_true, ite_false, if_true, if_false, Bool.true_eq_false, Bool.false_eq_true, reduceIte, reduceCtorEq, Bool.not_true, Bool.not_false, Bool.and_true, Bool.and_self, Bool.true_and, Bool.false_and, Bool.and_false, Bool.or_true, Bool.true_or, Bool.or_false, Bool.false_or, and_self, and_true, true_and, true_or, or_true, Int.reduceLT, Int.reduceLE, Int.reducePow, Int.reduceNeg, Int.reduceMul, Int.reduceAdd, Int.reduceSub, Int.reduceToNat, fusF, D.items, List.all_cons, List.all_nil, id, Nat.reduceLT, Nat.reducePow, decide_true, decide_false, decide_eq_true_eq, beqI, beqS, beqB, bne, natc0, natc1, Int.cast_ofNat_Int, sg_turn, sg_mirror, sg_up, sg_down, sg_a, sg_b, sg_c, ne_mt, ne_tm, ne_ud, ne_du, Bool.not_eq_eq_eq_not, Bool.not_true, decide_eq_false_iff_not, Decidable.not_not, BEq.rfl, not_true_eq_false, not_false_eq_true, Fn.formed, fm, fRow, wy, comp, sg_on, sg_back, ne_on_back]
  · simp only [wy, if_true] at comp
    simp -dsimp -implicitDefEqProofs only [evBody, argS, endF, els_some, orI_some, orI_none, frzAll, Sv.frz, Rv.imm, Sv.imm, D.imm, D.imms, cond_true, cond_false, Bool.cond_self, D.lt, D.lts, D.alike, D.alikes, ordOk, MulOk, LINE, ixN, startE, evSs, evS, evE, evEs, evB, evO, evC, frzs, frz, conts, cont, look, slotOf, Sv.rv, bnd_some, bnd_none, mpd_some, mpd_none, binop, cmpop, idxop, sliop, asI, asB, primF, kill, ML.bind, bindT, D.isTy, D.okd, D.okds, D.eqv, D.eqvs, D.flat, D.ints, D.bls, DEEP, itF, itSeq, itR1, itR2, itEn, itZ, itRev, mutF, ownL, augF, whC, whB, cmpB, forB, List.map_cons, List.map_nil, List.cons_append, List.nil_append, List.append_nil, List.length_cons, List.length_nil, List.replicate, List.getElem?_cons_zero, List.getElem?_cons_succ, List.set_cons_zero, List.set_cons_succ, Nat.zero_add, Nat.reduceAdd, Nat.reduceSub, Nat.reduceLeDiff, ite_true, ite_false, if_true, if_false, Bool.true_eq_false, Bool.false_eq_true, reduceIte, reduceCtorEq, Bool.not_true, Bool.not_false, Bool.and_true, Bool.and_self, Bool.true_and, Bool.false_and, Bool.and_false, Bool.or_true, Bool.true_or, Bool.or_false, Bool.false_or, and_self, and_true, true_and, true_or, or_true, Int.reduceLT, Int.reduceLE, Int.reducePow, Int.reduceNeg, Int.reduceMul, Int.reduceAdd, Int.reduceSub, Int.reduceToNat, fusF, D.items, List.all_cons, List.all_nil, id, Nat.reduceLT, Nat.reducePow, decide_true, decide_false, decide_eq_true_eq, beqI, beqS, beqB, bne, natc0, natc1, Int.cast_ofNat_Int, sg_turn, sg_mirror, sg_up, sg_down, sg_a, sg_b, sg_c, ne_mt, ne_tm, ne_ud, ne_du, Bool.not_eq_eq_eq_not, Bool.not_true, decide_eq_false_iff_not, Decidable.not_not, BEq.rfl, not_true_eq_false, not_false_eq_true, Fn.formed, fm, fRow, wy, comp, sg_on, sg_back, ids_rev]
theorem law_formed_c (k : Nat) {n : Int} (hn : 0 < n) (p : Bool × Int × Bool) (r : List Int) : callF Pt (k + 2) 162 [.int n, .tup (ids r), fm p] = some (.fro (.tup (ids (fRow n p r)))) := by
  obtain ⟨m, t, b⟩ := p
  have i0 : idxop (.tup [chg m t, .str (wy b)]) (.int 0) = some (chg m t) := idx_tup (i := 0) rfl
  have i1 : idxop (.tup [chg m t, .str (wy b)]) (.int 1) = some (.str (wy b)) := idx_tup (i := 1) rfl
  have comp := comp_ints (body := cmpB (.one 4) [4] (evC (callF Pt (k + 1)) []) (evE (callF Pt (k + 1)) (.call 9 [(.var 0), (.idx (.var 2) (.cst (.int 0))), (.var 4)])) (.it _) (.it _)) (ρ := [Sv.fro (.int n), Sv.fro (.tup (ids r)), Sv.fro (.tup [chg m t, .str (wy b)]), Sv.no, Sv.no]) (chgDo n m t) r (fun x _ => by
    simp -dsimp -implicitDefEqProofs only [evBody, argS, endF, els_some, orI_some, orI_none, frzAll, Sv.frz, Rv.imm, Sv.imm, D.imm, D.imms, cond_true, cond_false, Bool.cond_self, D.lt, D.lts, D.alike, D.alikes, ordOk, MulOk, LINE, ixN, startE, evSs, evS, evE, evEs, evB, evO, evC, frzs, frz, conts, cont, look, slotOf, Sv.rv, bnd_some, bnd_none, mpd_some, mpd_none, binop, cmpop, idxop, sliop, asI, asB, primF, kill, ML.bind, bindT, D.isTy, D.okd, D.okds, D.eqv, D.eqvs, D.flat, D.ints, D.bls, DEEP, itF, itSeq, itR1, itR2, itEn, itZ, itRev, mutF, ownL, augF, whC, whB, cmpB, forB, List.map_cons, List.map_nil, List.cons_append, List.nil_append, List.append_nil, List.length_cons, List.length_nil, List.replicate, List.getElem?_cons_zero, List.getElem?_cons_succ, List.set_cons_zero, List.set_cons_succ, Nat.zero_add, Nat.reduceAdd, Nat.reduceSub, Nat.reduceLeDiff, ite_true, ite_false, if_true, if_false, Bool.true_eq_false, Bool.false_eq_true, reduceIte, reduceCtorEq, Bool.not_true, Bool.not_false, Bool.and_true, Bool.and_self, Bool.true_and, Bool.false_and, Bool.and_false, Bool.or_true, Bool.true_or, Bool.or_false, Bool.false_or, and_self, and_true, true_and, true_or, or_true, Int.reduceLT, Int.reduceLE, Int.reducePow, Int.reduceNeg, Int.reduceMul, Int.reduceAdd, Int.reduceSub, Int.reduceToNat, fusF, D.items, List.all_cons, List.all_nil, id, Nat.reduceLT, Nat.reducePow, decide_true, decide_false, decide_eq_true_eq, beqI, beqS, beqB, bne, natc0, natc1, Int.cast_ofNat_Int, sg_turn, sg_mirror, sg_up, sg_down, sg_a, sg_b, sg_c, ne_mt, ne_tm, ne_ud, ne_du, Bool.not_eq_eq_eq_not, Bool.not_true, decide_eq_false_iff_not, Decidable.not_not, BEq.rfl, not_true_eq_false, not_false_eq_true, ↓i0, done_c _ hn])
  rw [callF, Pt_law_formed]
  cases b
  · simp only [wy, Bool.false_eq_true, if_false] at comp i1
    simp -dsimp -implicitDefEqProofs only [evBody, argS, endF, els_some, orI_some, orI_none, frzAll, Sv.frz, Rv.imm, Sv.imm, D.imm, D.imms, cond_true, cond_false, Bool.cond_self, D.lt, D.lts, D.alike, D.alikes, ordOk, MulOk, LINE, ixN, startE, evSs, evS, evE, evEs, evB, evO, evC, frzs, frz, conts, cont, look, slotOf, Sv.rv, bnd_some, bnd_none, mpd_some, mpd_none, binop, cmpop, idxop, sliop, asI, asB, primF, kill, ML.bind, bindT, D.isTy, D.okd, D.okds, D.eqv, D.eqvs, D.flat, D.ints, D.bls, DEEP, itF, itSeq, itR1, itR2, itEn, itZ, itRev, mutF, ownL, augF, whC, whB, cmpB, forB, List.map_cons, List.map_nil, List.cons_append, List.nil_append, List.append_nil, List.length_cons, List.length_nil, List.replicate, List.getElem?_cons_zero, List.getElem?_cons_succ, List.set_cons_zero, List.set_cons_succ, Nat.zero_add, Nat.reduceAdd, Nat.reduceSub, Nat.reduceLeDiff, ite_true, ite_false, if_true, if_false, Bool.true_eq_false, Bool.false_eq_true, reduceIte, reduceCtorEq, Bool.not_true, Bool.not_false, Bool.and_true, Bool.and_self, Bool.true_and, Bool.false_and, Bool.and_false, Bool.or_true, Bool.true_or, Bool.or_false, Bool.false_or, and_self, and_true, true_and, true_or, or_true, Int.reduceLT, Int.reduceLE, Int.reducePow, Int.reduceNeg, Int.reduceMul, Int.reduceAdd, Int.reduceSub, Int.reduceToNat, fusF, D.items, List.all_cons, List.all_nil, id, Nat.reduceLT, Nat.reducePow, decide_true, decide_false, decide_eq_true_eq, beqI, beqS, beqB, bne, natc0, natc1, Int.cast_ofNat_Int, sg_turn, sg_mirror, sg_up, sg_down, sg_a, sg_b, sg_c, ne_mt, ne_tm, ne_ud, ne_du, Bool.not_eq_eq_eq_not, Bool.not_true, decide_eq_false_iff_not, Decidable.not_not, BEq.rfl, not_true_eq_false, not_false_eq_true, Fn.law_formed, fm, fRow, wy, comp, sg_on, sg_back, ne_on_back, ↓i1]
  · simp only [wy, if_true] at comp i1
    simp -dsimp -implicitDefEqProofs only [evBody, argS, endF, els_some, orI_some, orI_none, frzAll, Sv.frz, Rv.imm, Sv.imm, D.imm, D.imms, cond_true, cond_false, Bool.cond_self, D.lt, D.lts, D.alike, D.alikes, ordOk, MulOk, LINE, ixN, startE, evSs, evS, evE, evEs, evB, evO, evC, frzs, frz, conts, cont, look, slotOf, Sv.rv, bnd_some, bnd_none, mpd_some, mpd_none, binop, cmpop, idxop, sliop, asI, asB, primF, kill, ML.bind, bindT, D.isTy, D.okd, D.okds, D.eqv, D.eqvs, D.flat, D.ints, D.bls, DEEP, itF, itSeq, itR1, itR2, itEn, itZ, itRev, mutF, ownL, augF, whC, whB, cmpB, forB, List.map_cons, List.map_nil, List.cons_append, List.nil_append, List.append_nil, List.length_cons, List.length_nil, List.replicate, List.getElem?_cons_zero, List.getElem?_cons_succ, List.set_cons_zero, List.set_cons_succ, Nat.zero_add, Nat.reduceAdd, Nat.reduceSub, Nat.reduceLeDiff, ite_true, ite_false, if_true, if_false, Bool.true_eq_false, Bool.false_eq_true, reduceIte, reduceCtorEq, Bool.not_true, Bool.not_false, Bool.and_true, Bool.and_self, Bool.true_and, Bool.false_and, Bool.and_false, Bool.or_true, Bool.true_or, Bool.or_false, Bool.false_or, and_self, and_true, true_and, true_or, or_true, Int.reduceLT, Int.reduceLE, Int.reducePow, Int.reduceNeg, Int.reduceMul, Int.reduceAdd, Int.reduceSub, Int.reduceToNat, fusF, D.items, List.all_cons, List.all_nil, id, Nat.reduceLT, Nat.reducePow, decide_true, decide_false, decide_eq_true_eq, beqI, beqS, beqB, bne, natc0, natc1, Int.cast_ofNat_Int, sg_turn, sg_mirror, sg_up, sg_down, sg_a, sg_b, sg_c, ne_mt, ne_tm, ne_ud, ne_du, Bool.not_eq_eq_eq_not, Bool.not_true, decide_eq_false_iff_not, Decidable.not_not, BEq.rfl, not_true_eq_false, not_false_eq_true, Fn.law_formed, fm, fRow, wy, comp, sg_on, sg_back, ids_rev, ↓i1, backop]
def fl (n : Nat) : List (Bool × Int × Bool) := (cl n).map (fun p => (p.1, p.2, false)) ++ (cl n).map (fun p => (p.1, p.2, true))
theorem fl_len (n : Nat) : (fl n).length = 4 * n := by
  unfold fl
  rw [List.length_append, List.length_map, List.length_map, cl_len]
  omega
theorem forms_c (k : Nat) {n : Int} (h0 : 0 ≤ n) (h1 : n ≤ 1000) : callF Pt (k + 2) 160 [.int n] = some (.own (.lst ((fl n.toNat).map fm))) := by
  have ch := changes_c' k (n := n) h0 h1
  have c1 := comp_all (body := cmpB (.one 1) [1] (evC (callF Pt (k + 1)) []) (evE (callF Pt (k + 1)) (.tup [(.var 1), (.cst (.str "on"))])) (.it _) (.it _)) (ρ := [Sv.fro (.int n), Sv.no]) cg (fun p => fm (p.1, p.2, false)) (cl n.toNat) (fun p _ => by
    simp -dsimp -implicitDefEqProofs only [evBody, argS, endF, els_some, orI_some, orI_none, frzAll, Sv.frz, Rv.imm, Sv.imm, D.imm, D.imms, cond_true, cond_false, Bool.cond_self, D.lt, D.lts, D.alike, D.alikes, ordOk, MulOk, LINE, ixN, startE, evSs, evS, evE, evEs, evB, evO, evC, frzs, frz, conts, cont, look, slotOf, Sv.rv, bnd_some, bnd_none, mpd_some, mpd_none, binop, cmpop, idxop, sliop, asI, asB, primF, kill, ML.bind, bindT, D.isTy, D.okd, D.okds, D.eqv, D.eqvs, D.flat, D.ints, D.bls, DEEP, itF, itSeq, itR1, itR2, itEn, itZ, itRev, mutF, ownL, augF, whC, whB, cmpB, forB, List.map_cons, List.map_nil, List.cons_append, List.nil_append, List.append_nil, List.length_cons, List.length_nil, List.replicate, List.getElem?_cons_zero, List.getElem?_cons_succ, List.set_cons_zero, List.set_cons_succ, Nat.zero_add, Nat.reduceAdd, Nat.reduceSub, Nat.reduceLeDiff, ite_true, ite_false, if_true, if_false, Bool.true_eq_false, Bool.false_eq_true, reduceIte, reduceCtorEq, Bool.not_true, Bool.not_false, Bool.and_true, Bool.and_self, Bool.true_and, Bool.false_and, Bool.and_false, Bool.or_true, Bool.true_or, Bool.or_false, Bool.false_or, and_self, and_true, true_and, true_or, or_true, Int.reduceLT, Int.reduceLE, Int.reducePow, Int.reduceNeg, Int.reduceMul, Int.reduceAdd, Int.reduceSub, Int.reduceToNat, fusF, D.items, List.all_cons, List.all_nil, id, Nat.reduceLT, Nat.reducePow, decide_true, decide_false, decide_eq_true_eq, beqI, beqS, beqB, bne, natc0, natc1, Int.cast_ofNat_Int, sg_turn, sg_mirror, sg_up, sg_down, sg_a, sg_b, sg_c, ne_mt, ne_tm, ne_ud, ne_du, Bool.not_eq_eq_eq_not, Bool.not_true, decide_eq_false_iff_not, Decidable.not_not, BEq.rfl, not_true_eq_false, not_false_eq_true, fm, wy, cg])
  have c2 := comp_all (body := cmpB (.one 1) [1] (evC (callF Pt (k + 1)) []) (evE (callF Pt (k + 1)) (.tup [(.var 1), (.cst (.str "back"))])) (.it _) (.it _)) (ρ := [Sv.fro (.int n), Sv.no]) cg (fun p => fm (p.1, p.2, true)) (cl n.toNat) (fun p _ => by
    simp -dsimp -implicitDefEqProofs only [evBody, argS, endF, els_some, orI_some, orI_none, frzAll, Sv.frz, Rv.imm, Sv.imm, D.imm, D.imms, cond_true, cond_false, Bool.cond_self, D.lt, D.lts, D.alike, D.alikes, ordOk, MulOk, LINE, ixN, startE, evSs, evS, evE, evEs, evB, evO, evC, frzs, frz, conts, cont, look, slotOf, Sv.rv, bnd_some, bnd_none, mpd_some, mpd_none, binop, cmpop, idxop, sliop, asI, asB, primF, kill, ML.bind, bindT, D.isTy, D.okd, D.okds, D.eqv, D.eqvs, D.flat, D.ints, D.bls, DEEP, itF, itSeq, itR1, itR2, itEn, itZ, itRev, mutF, ownL, augF, whC, whB, cmpB, forB, List.map_cons, List.map_nil, List.cons_append, List.nil_append, List.append_nil, List.length_cons, List.length_nil, List.replicate, List.getElem?_cons_zero, List.getElem?_cons_succ, List.set_cons_zero, List.set_cons_succ, Nat.zero_add, Nat.reduceAdd, Nat.reduceSub, Nat.reduceLeDiff, ite_true, ite_false, if_true, if_false, Bool.true_eq_false, Bool.false_eq_true, reduceIte, reduceCtorEq, Bool.not_true, Bool.not_false, Bool.and_true, Bool.and_self, Bool.true_and, Bool.false_and, Bool.and_false, Bool.or_true, Bool.true_or, Bool.or_false, Bool.false_or, and_self, and_true, true_and, true_or, or_true, Int.reduceLT, Int.reduceLE, Int.reducePow, Int.reduceNeg, Int.reduceMul, Int.reduceAdd, Int.reduceSub, Int.reduceToNat, fusF, D.items, List.all_cons, List.all_nil, id, Nat.reduceLT, Nat.reducePow, decide_true, decide_false, decide_eq_true_eq, beqI, beqS, beqB, bne, natc0, natc1, Int.cast_ofNat_Int, sg_turn, sg_mirror, sg_up, sg_down, sg_a, sg_b, sg_c, ne_mt, ne_tm, ne_ud, ne_du, Bool.not_eq_eq_eq_not, Bool.not_true, decide_eq_false_iff_not, Decidable.not_not, BEq.rfl, not_true_eq_false, not_false_eq_true, fm, wy, cg])
  have ln : (cl n.toNat).length + (cl n.toNat).length ≤ 16777216 := by rw [cl_len]; omega
  rw [callF, Pt_forms]
  simp -dsimp -implicitDefEqProofs only [evBody, argS, endF, els_some, orI_some, orI_none, frzAll, Sv.frz, Rv.imm, Sv.imm, D.imm, D.imms, cond_true, cond_false, Bool.cond_self, D.lt, D.lts, D.alike, D.alikes, ordOk, MulOk, LINE, ixN, startE, evSs, evS, evE, evEs, evB, evO, evC, frzs, frz, conts, cont, look, slotOf, Sv.rv, bnd_some, bnd_none, mpd_some, mpd_none, binop, cmpop, idxop, sliop, asI, asB, primF, kill, ML.bind, bindT, D.isTy, D.okd, D.okds, D.eqv, D.eqvs, D.flat, D.ints, D.bls, DEEP, itF, itSeq, itR1, itR2, itEn, itZ, itRev, mutF, ownL, augF, whC, whB, cmpB, forB, List.map_cons, List.map_nil, List.cons_append, List.nil_append, List.append_nil, List.length_cons, List.length_nil, List.replicate, List.getElem?_cons_zero, List.getElem?_cons_succ, List.set_cons_zero, List.set_cons_succ, Nat.zero_add, Nat.reduceAdd, Nat.reduceSub, Nat.reduceLeDiff, ite_true, ite_false, if_true, if_false, Bool.true_eq_false, Bool.false_eq_true, reduceIte, reduceCtorEq, Bool.not_true, Bool.not_false, Bool.and_true, Bool.and_self, Bool.true_and, Bool.false_and, Bool.and_false, Bool.or_true, Bool.true_or, Bool.or_false, Bool.false_or, and_self, and_true, true_and, true_or, or_true, Int.reduceLT, Int.reduceLE, Int.reducePow, Int.reduceNeg, Int.reduceMul, Int.reduceAdd, Int.reduceSub, Int.reduceToNat, fusF, D.items, List.all_cons, List.all_nil, id, Nat.reduceLT, Nat.reducePow, decide_true, decide_false, decide_eq_true_eq, beqI, beqS, beqB, bne, natc0, natc1, Int.cast_ofNat_Int, sg_turn, sg_mirror, sg_up, sg_down, sg_a, sg_b, sg_c, ne_mt, ne_tm, ne_ud, ne_du, Bool.not_eq_eq_eq_not, Bool.not_true, decide_eq_false_iff_not, Decidable.not_not, BEq.rfl, not_true_eq_false, not_false_eq_true, Fn.forms, ch, c1, c2, List.length_map, ln]
  rw [fl, List.map_append, List.map_map, List.map_map]
  rfl
theorem form_c (k : Nat) (ns : List Int) (hl : ns.length ≤ 63) {i s n : Int} (hn : 0 < n) (hi : 0 ≤ i) (hi' : i < 4294967296) (hs : 0 ≤ s) (hs' : s < 4294967295) : ∃ p : Bool × Int × Bool, callF Pt (k + 4) 161 [.scr ns, .int i, .int s, .int n] = some (.fro (fm p)) ∧ 0 ≤ p.2.1 ∧ p.2.1 < n := by
  obtain ⟨m, t, hg, g1, g2⟩ := change_c k ns hl (i := i) (s := s) hn hi hi' hs (by omega)
  obtain ⟨c, hc, c1, c2⟩ := mixed_c (k + 1) ns hl (i := i) (s := s + 1) hi hi' (by omega) (by omega)
  rw [callF, Pt_law_form]
  have h : c % 2 = 0 ∨ c % 2 = 1 := by omega
  rcases h with h | h
  · refine ⟨(m, t, false), ?_, g1, g2⟩
    simp -dsimp -implicitDefEqProofs only [evBody, argS, endF, els_some, orI_some, orI_none, frzAll, Sv.frz, Rv.imm, Sv.imm, D.imm, D.imms, cond_true, cond_false, Bool.cond_self, D.lt, D.lts, D.alike, D.alikes, ordOk, MulOk, LINE, ixN, startE, evSs, evS, evE, evEs, evB, evO, evC, frzs, frz, conts, cont, look, slotOf, Sv.rv, bnd_some, bnd_none, mpd_some, mpd_none, binop, cmpop, idxop, sliop, asI, asB, primF, kill, ML.bind, bindT, D.isTy, D.okd, D.okds, D.eqv, D.eqvs, D.flat, D.ints, D.bls, DEEP, itF, itSeq, itR1, itR2, itEn, itZ, itRev, mutF, ownL, augF, whC, whB, cmpB, forB, List.map_cons, List.map_nil, List.cons_append, List.nil_append, List.append_nil, List.length_cons, List.length_nil, List.replicate, List.getElem?_cons_zero, List.getElem?_cons_succ, List.set_cons_zero, List.set_cons_succ, Nat.zero_add, Nat.reduceAdd, Nat.reduceSub, Nat.reduceLeDiff, ite_true, ite_false, if_true, if_false, Bool.true_eq_false, Bool.false_eq_true, reduceIte, reduceCtorEq, Bool.not_true, Bool.not_false, Bool.and_true, Bool.and_self, Bool.true_and, Bool.false_and, Bool.and_false, Bool.or_true, Bool.true_or, Bool.or_false, Bool.false_or, and_self, and_true, true_and, true_or, or_true, Int.reduceLT, Int.reduceLE, Int.reducePow, Int.reduceNeg, Int.reduceMul, Int.reduceAdd, Int.reduceSub, Int.reduceToNat, fusF, D.items, List.all_cons, List.all_nil, id, Nat.reduceLT, Nat.reducePow, decide_true, decide_false, decide_eq_true_eq, beqI, beqS, beqB, bne, natc0, natc1, Int.cast_ofNat_Int, sg_turn, sg_mirror, sg_up, sg_down, sg_a, sg_b, sg_c, ne_mt, ne_tm, ne_ud, ne_du, Bool.not_eq_eq_eq_not, Bool.not_true, decide_eq_false_iff_not, Decidable.not_not, BEq.rfl, not_true_eq_false, not_false_eq_true, Fn.law_form, hg, hc, h, ixN, fm, wy]
  · refine ⟨(m, t, true), ?_, g1, g2⟩
    simp -dsimp -implicitDefEqProofs only [evBody, argS, endF, els_some, orI_some, orI_none, frzAll, Sv.frz, Rv.imm, Sv.imm, D.imm, D.imms, cond_true, cond_false, Bool.cond_self, D.lt, D.lts, D.alike, D.alikes, ordOk, MulOk, LINE, ixN, startE, evSs, evS, evE, evEs, evB, evO, evC, frzs, frz, conts, cont, look, slotOf, Sv.rv, bnd_some, bnd_none, mpd_some, mpd_none, binop, cmpop, idxop, sliop, asI, asB, primF, kill, ML.bind, bindT, D.isTy, D.okd, D.okds, D.eqv, D.eqvs, D.flat, D.ints, D.bls, DEEP, itF, itSeq, itR1, itR2, itEn, itZ, itRev, mutF, ownL, augF, whC, whB, cmpB, forB, List.map_cons, List.map_nil, List.cons_append, List.nil_append, List.append_nil, List.length_cons, List.length_nil, List.replicate, List.getElem?_cons_zero, List.getElem?_cons_succ, List.set_cons_zero, List.set_cons_succ, Nat.zero_add, Nat.reduceAdd, Nat.reduceSub, Nat.reduceLeDiff, ite_true, ite_false, if_true, if_false, Bool.true_eq_false, Bool.false_eq_true, reduceIte, reduceCtorEq, Bool.not_true, Bool.not_false, Bool.and_true, Bool.and_self, Bool.true_and, Bool.false_and, Bool.and_false, Bool.or_true, Bool.true_or, Bool.or_false, Bool.false_or, and_self, and_true, true_and, true_or, or_true, Int.reduceLT, Int.reduceLE, Int.reducePow, Int.reduceNeg, Int.reduceMul, Int.reduceAdd, Int.reduceSub, Int.reduceToNat, fusF, D.items, List.all_cons, List.all_nil, id, Nat.reduceLT, Nat.reducePow, decide_true, decide_false, decide_eq_true_eq, beqI, beqS, beqB, bne, natc0, natc1, Int.cast_ofNat_Int, sg_turn, sg_mirror, sg_up, sg_down, sg_a, sg_b, sg_c, ne_mt, ne_tm, ne_ud, ne_du, Bool.not_eq_eq_eq_not, Bool.not_true, decide_eq_false_iff_not, Decidable.not_not, BEq.rfl, not_true_eq_false, not_false_eq_true, Fn.law_form, hg, hc, h, ixN, fm, wy]
theorem fm_ok (p : Bool × Int × Bool) (j : Nat) : D.okd (j + 2) (fm p) = true := by
  obtain ⟨m, t, b⟩ := p
  have := cg_ok (m, t) j
  unfold cg at this
  dsimp only at this
  cases b <;> simp -dsimp -implicitDefEqProofs only [evBody, argS, endF, els_some, orI_some, orI_none, frzAll, Sv.frz, Rv.imm, Sv.imm, D.imm, D.imms, cond_true, cond_false, Bool.cond_self, D.lt, D.lts, D.alike, D.alikes, ordOk, MulOk, LINE, ixN, startE, evSs, evS, evE, evEs, evB, evO, evC, frzs, frz, conts, cont, look, slotOf, Sv.rv, bnd_some, bnd_none, mpd_some, mpd_none, binop, cmpop, idxop, sliop, asI, asB, primF, kill, ML.bind, bindT, D.isTy, D.okd, D.okds, D.eqv, D.eqvs, D.flat, D.ints, D.bls, DEEP, itF, itSeq, itR1, itR2, itEn, itZ, itRev, mutF, ownL, augF, whC, whB, cmpB, forB, List.map_cons, List.map_nil, List.cons_append, List.nil_append, List.append_nil, List.length_cons, List.length_nil, List.replicate, List.getElem?_cons_zero, List.getElem?_cons_succ, List.set_cons_zero, List.set_cons_succ, Nat.zero_add, Nat.reduceAdd, Nat.reduceSub, Nat.reduceLeDiff, ite_true, ite_false, if_true, if_false, Bool.true_eq_false, Bool.false_eq_true, reduceIte, reduceCtorEq, Bool.not_true, Bool.not_false, Bool.and_true, Bool.and_self, Bool.true_and, Bool.false_and, Bool.and_false, Bool.or_true, Bool.true_or, Bool.or_false, Bool.false_or, and_self, and_true, true_and, true_or, or_true, Int.reduceLT, Int.reduceLE, Int.reducePow, Int.reduceNeg, Int.reduceMul, Int.reduceAdd, Int.reduceSub, Int.reduceToNat, fusF, D.items, List.all_cons, List.all_nil, id, Nat.reduceLT, Nat.reducePow, decide_true, decide_false, decide_eq_true_eq, beqI, beqS, beqB, bne, natc0, natc1, Int.cast_ofNat_Int, sg_turn, sg_mirror, sg_up, sg_down, sg_a, sg_b, sg_c, ne_mt, ne_tm, ne_ud, ne_du, Bool.not_eq_eq_eq_not, Bool.not_true, decide_eq_false_iff_not, Decidable.not_not, BEq.rfl, not_true_eq_false, not_false_eq_true, fm, wy, sg_on, sg_back, this]
theorem fms_ok (l : List (Bool × Int × Bool)) (j : Nat) : D.okds (j + 2) (l.map fm) = true := by
  induction l with
  | nil => rfl
  | cons p l ih =>
    show (D.okd (j + 2) (fm p) && D.okds (j + 2) (l.map fm)) = true
    rw [ih, fm_ok]
    rfl
theorem fm_eqv (p : Bool × Int × Bool) : D.eqv (fm p) (fm p) = true := by
  obtain ⟨m, t, b⟩ := p
  have := cg_eqv (m, t)
  unfold cg at this
  dsimp only at this
  cases b <;> simp -dsimp -implicitDefEqProofs only [evBody, argS, endF, els_some, orI_some, orI_none, frzAll, Sv.frz, Rv.imm, Sv.imm, D.imm, D.imms, cond_true, cond_false, Bool.cond_self, D.lt, D.lts, D.alike, D.alikes, ordOk, MulOk, LINE, ixN, startE, evSs, evS, evE, evEs, evB, evO, evC, frzs, frz, conts, cont, look, slotOf, Sv.rv, bnd_some, bnd_none, mpd_some, mpd_none, binop, cmpop, idxop, sliop, asI, asB, primF, kill, ML.bind, bindT, D.isTy, D.okd, D.okds, D.eqv, D.eqvs, D.flat, D.ints, D.bls, DEEP, itF, itSeq, itR1, itR2, itEn, itZ, itRev, mutF, ownL, augF, whC, whB, cmpB, forB, List.map_cons, List.map_nil, List.cons_append, List.nil_append, List.append_nil, List.length_cons, List.length_nil, List.replicate, List.getElem?_cons_zero, List.getElem?_cons_succ, List.set_cons_zero, List.set_cons_succ, Nat.zero_add, Nat.reduceAdd, Nat.reduceSub, Nat.reduceLeDiff, ite_true, ite_false, if_true, if_false, Bool.true_eq_false, Bool.false_eq_true, reduceIte, reduceCtorEq, Bool.not_true, Bool.not_false, Bool.and_true, Bool.and_self, Bool.true_and, Bool.false_and, Bool.and_false, Bool.or_true, Bool.true_or, Bool.or_false, Bool.false_or, and_self, and_true, true_and, true_or, or_true, Int.reduceLT, Int.reduceLE, Int.reducePow, Int.reduceNeg, Int.reduceMul, Int.reduceAdd, Int.reduceSub, Int.reduceToNat, fusF, D.items, List.all_cons, List.all_nil, id, Nat.reduceLT, Nat.reducePow, decide_true, decide_false, decide_eq_true_eq, beqI, beqS, beqB, bne, natc0, natc1, Int.cast_ofNat_Int, sg_turn, sg_mirror, sg_up, sg_down, sg_a, sg_b, sg_c, ne_mt, ne_tm, ne_ud, ne_du, Bool.not_eq_eq_eq_not, Bool.not_true, decide_eq_false_iff_not, Decidable.not_not, BEq.rfl, not_true_eq_false, not_false_eq_true, fm, wy, this]
theorem fms_eqv (l : List (Bool × Int × Bool)) : D.eqvs (l.map fm) (l.map fm) = true := by
  induction l with
  | nil => rfl
  | cons p l ih =>
    show (D.eqv (fm p) (fm p) && D.eqvs (l.map fm) (l.map fm)) = true
    rw [ih, fm_eqv]
    rfl
theorem fRow_len (n : Int) (p : Bool × Int × Bool) (r : List Int) : (fRow n p r).length = r.length := by
  unfold fRow
  split
  · rw [List.length_reverse, List.length_map]
  · rw [List.length_map]
theorem k37_main (ns : List Int) (hl : ns.length ≤ 63) : callF Pt 5 163 [.scr ns] = some (.fro (.bl true)) := by
  obtain ⟨n, hn, n1, n2⟩ := wheel_c 1 ns hl (m := 24) (by decide)
  have n3 : 0 < n := by omega
  obtain ⟨r, hr, r1, r2, r3⟩ := row_c 1 ns hl (i := 1) (s := 2) (n := n) (by omega) (by omega) (by decide) (by decide) (by decide) (by decide)
  have fc := forms_c 2 (n := n) (by omega) (by omega)
  simp only [tupI] at hr
  rw [callF, Pt_law_k37]
  simp -dsimp -implicitDefEqProofs only [evBody, argS, endF, els_some, orI_some, orI_none, frzAll, Sv.frz, Rv.imm, Sv.imm, D.imm, D.imms, cond_true, cond_false, Bool.cond_self, D.lt, D.lts, D.alike, D.alikes, ordOk, MulOk, LINE, ixN, startE, evSs, evS, evE, evEs, evB, evO, evC, frzs, frz, conts, cont, look, slotOf, Sv.rv, bnd_some, bnd_none, mpd_some, mpd_none, binop, cmpop, idxop, sliop, asI, asB, primF, kill, ML.bind, bindT, D.isTy, D.okd, D.okds, D.eqv, D.eqvs, D.flat, D.ints, D.bls, DEEP, itF, itSeq, itR1, itR2, itEn, itZ, itRev, mutF, ownL, augF, whC, whB, cmpB, forB, List.map_cons, List.map_nil, List.cons_append, List.nil_append, List.append_nil, List.length_cons, List.length_nil, List.replicate, List.getElem?_cons_zero, List.getElem?_cons_succ, List.set_cons_zero, List.set_cons_succ, Nat.zero_add, Nat.reduceAdd, Nat.reduceSub, Nat.reduceLeDiff, ite_true, ite_false, if_true, if_false, Bool.true_eq_false, Bool.false_eq_true, reduceIte, reduceCtorEq, Bool.not_true, Bool.not_false, Bool.and_true, Bool.and_self, Bool.true_and, Bool.false_and, Bool.and_false, Bool.or_true, Bool.true_or, Bool.or_false, Bool.false_or, and_self, and_true, true_and, true_or, or_true, Int.reduceLT, Int.reduceLE, Int.reducePow, Int.reduceNeg, Int.reduceMul, Int.reduceAdd, Int.reduceSub, Int.reduceToNat, fusF, D.items, List.all_cons, List.all_nil, id, Nat.reduceLT, Nat.reducePow, decide_true, decide_false, decide_eq_true_eq, beqI, beqS, beqB, bne, natc0, natc1, Int.cast_ofNat_Int, sg_turn, sg_mirror, sg_up, sg_down, sg_a, sg_b, sg_c, ne_mt, ne_tm, ne_ud, ne_du, Bool.not_eq_eq_eq_not, Bool.not_true, decide_eq_false_iff_not, Decidable.not_not, BEq.rfl, not_true_eq_false, not_false_eq_true, Fn.law_k37, hn, hr]
  rw [for_const]
  · simp -dsimp -implicitDefEqProofs only [evBody, argS, endF, els_some, orI_some, orI_none, frzAll, Sv.frz, Rv.imm, Sv.imm, D.imm, D.imms, cond_true, cond_false, Bool.cond_self, D.lt, D.lts, D.alike, D.alikes, ordOk, MulOk, LINE, ixN, startE, evSs, evS, evE, evEs, evB, evO, evC, frzs, frz, conts, cont, look, slotOf, Sv.rv, bnd_some, bnd_none, mpd_some, mpd_none, binop, cmpop, idxop, sliop, asI, asB, primF, kill, ML.bind, bindT, D.isTy, D.okd, D.okds, D.eqv, D.eqvs, D.flat, D.ints, D.bls, DEEP, itF, itSeq, itR1, itR2, itEn, itZ, itRev, mutF, ownL, augF, whC, whB, cmpB, forB, List.map_cons, List.map_nil, List.cons_append, List.nil_append, List.append_nil, List.length_cons, List.length_nil, List.replicate, List.getElem?_cons_zero, List.getElem?_cons_succ, List.set_cons_zero, List.set_cons_succ, Nat.zero_add, Nat.reduceAdd, Nat.reduceSub, Nat.reduceLeDiff, ite_true, ite_false, if_true, if_false, Bool.true_eq_false, Bool.false_eq_true, reduceIte, reduceCtorEq, Bool.not_true, Bool.not_false, Bool.and_true, Bool.and_self, Bool.true_and, Bool.false_and, Bool.and_false, Bool.or_true, Bool.true_or, Bool.or_false, Bool.false_or, and_self, and_true, true_and, true_or, or_true, Int.reduceLT, Int.reduceLE, Int.reducePow, Int.reduceNeg, Int.reduceMul, Int.reduceAdd, Int.reduceSub, Int.reduceToNat, fusF, D.items, List.all_cons, List.all_nil, id, Nat.reduceLT, Nat.reducePow, decide_true, decide_false, decide_eq_true_eq, beqI, beqS, beqB, bne, natc0, natc1, Int.cast_ofNat_Int, sg_turn, sg_mirror, sg_up, sg_down, sg_a, sg_b, sg_c, ne_mt, ne_tm, ne_ud, ne_du, Bool.not_eq_eq_eq_not, Bool.not_true, decide_eq_false_iff_not, Decidable.not_not, BEq.rfl, not_true_eq_false, not_false_eq_true, fc, fms_ok, fms_eqv]
  · intro x hx
    obtain ⟨i, hi, rfl⟩ := mem_rangeD0 hx
    have hi : i < 8 := hi
    obtain ⟨p, hp, p1, p2⟩ := form_c 0 ns hl (i := (i : Int) + 1) (s := 3) n3 (by omega) (by omega) (by decide) (by decide)
    have f1 := formed_c 2 n3 p r
    have f2 := law_formed_c 2 n3 p r
    have t1 := tuple_c 3 (fRow n p r) (by rw [fRow_len, r3]; omega) _ (.inr rfl)
    simp only [tupI] at t1
    simp -dsimp -implicitDefEqProofs only [evBody, argS, endF, els_some, orI_some, orI_none, frzAll, Sv.frz, Rv.imm, Sv.imm, D.imm, D.imms, cond_true, cond_false, Bool.cond_self, D.lt, D.lts, D.alike, D.alikes, ordOk, MulOk, LINE, ixN, startE, evSs, evS, evE, evEs, evB, evO, evC, frzs, frz, conts, cont, look, slotOf, Sv.rv, bnd_some, bnd_none, mpd_some, mpd_none, binop, cmpop, idxop, sliop, asI, asB, primF, kill, ML.bind, bindT, D.isTy, D.okd, D.okds, D.eqv, D.eqvs, D.flat, D.ints, D.bls, DEEP, itF, itSeq, itR1, itR2, itEn, itZ, itRev, mutF, ownL, augF, whC, whB, cmpB, forB, List.map_cons, List.map_nil, List.cons_append, List.nil_append, List.append_nil, List.length_cons, List.length_nil, List.replicate, List.getElem?_cons_zero, List.getElem?_cons_succ, List.set_cons_zero, List.set_cons_succ, Nat.zero_add, Nat.reduceAdd, Nat.reduceSub, Nat.reduceLeDiff, ite_true, ite_false, if_true, if_false, Bool.true_eq_false, Bool.false_eq_true, reduceIte, reduceCtorEq, Bool.not_true, Bool.not_false, Bool.and_true, Bool.and_self, Bool.true_and, Bool.false_and, Bool.and_false, Bool.or_true, Bool.true_or, Bool.or_false, Bool.false_or, and_self, and_true, true_and, true_or, or_true, Int.reduceLT, Int.reduceLE, Int.reducePow, Int.reduceNeg, Int.reduceMul, Int.reduceAdd, Int.reduceSub, Int.reduceToNat, fusF, D.items, List.all_cons, List.all_nil, id, Nat.reduceLT, Nat.reducePow, decide_true, decide_false, decide_eq_true_eq, beqI, beqS, beqB, bne, natc0, natc1, Int.cast_ofNat_Int, sg_turn, sg_mirror, sg_up, sg_down, sg_a, sg_b, sg_c, ne_mt, ne_tm, ne_ud, ne_du, Bool.not_eq_eq_eq_not, Bool.not_true, decide_eq_false_iff_not, Decidable.not_not, BEq.rfl, not_true_eq_false, not_false_eq_true, Fn.law_k37_b0, hp, f1, f2, t1]
    exact ⟨_, rfl, rfl⟩
end ML
set_option Elab.async false
set_option linter.all false
set_option autoImplicit false
set_option maxRecDepth 100000
set_option maxHeartbeats 4000000
/-! the end of law_k37_formed, printed by gen.py -/
namespace ML.k37
open PySem L2 ML
def top (i : Nat) : Stmt := PySem.Challenge.pw_tonemirror_k37_formed.main.body.getD i (.Pass ⟨0, 0, 0, 0⟩)
def e0 : Ent := { x := "done", f := 9, N := ["n", "change", "tone"], ps := ["n", "change", "tone"], st := top 1, mf := Fn.done }
def e1 : Ent := { x := "changes", f := 10, N := ["n", "k"], ps := ["n"], st := top 2, mf := Fn.changes }
def e2 : Ent := { x := "formed", f := 159, N := ["n", "row", "form", "change", "way", "tones", "tone"], ps := ["n", "row", "form"], st := top 4, mf := Fn.formed }
def e3 : Ent := { x := "forms", f := 160, N := ["n", "change"], ps := ["n"], st := top 5, mf := Fn.forms }
def e4 : Ent := { x := "_law_cell_at", f := 3, N := ["_law_script", "_law_k"], ps := ["_law_script", "_law_k"], st := top 7, mf := Fn.law_cell_at }
def e5 : Ent := { x := "_law_mixed", f := 4, N := ["_law_script", "_law_k", "_law_salt", "_law_cell", "_law_lap", "_law_near"], ps := ["_law_script", "_law_k", "_law_salt"], st := top 8, mf := Fn.law_mixed }
def e6 : Ent := { x := "_law_wheel", f := 5, N := ["_law_script", "_law_most"], ps := ["_law_script", "_law_most"], st := top 9, mf := Fn.law_wheel }
def e7 : Ent := { x := "_law_row", f := 38, N := ["_law_script", "_law_k", "_law_salt", "_law_n", "_law_left", "_law_row_here", "_law_j"], ps := ["_law_script", "_law_k", "_law_salt", "_law_n"], st := top 10, mf := Fn.law_row }
def e8 : Ent := { x := "_law_change", f := 11, N := ["_law_script", "_law_k", "_law_salt", "_law_n", "_law_number"], ps := ["_law_script", "_law_k", "_law_salt", "_law_n"], st := top 11, mf := Fn.law_change }
def e9 : Ent := { x := "_law_done", f := 9, N := ["_law_n", "_law_change_here", "_law_tone"], ps := ["_law_n", "_law_change_here", "_law_tone"], st := top 12, mf := Fn.done }
def e10 : Ent := { x := "_law_changes", f := 10, N := ["_law_n", "_law_k"], ps := ["_law_n"], st := top 13, mf := Fn.changes }
def e11 : Ent := { x := "_law_form", f := 161, N := ["_law_script", "_law_k", "_law_salt", "_law_n"], ps := ["_law_script", "_law_k", "_law_salt", "_law_n"], st := top 14, mf := Fn.law_form }
def e12 : Ent := { x := "_law_formed", f := 162, N := ["_law_n", "_law_row_here", "_law_form_here", "_law_made", "_law_tone"], ps := ["_law_n", "_law_row_here", "_law_form_here"], st := top 15, mf := Fn.law_formed }
def e13 : Ent := { x := "_law_forms", f := 160, N := ["_law_n", "_law_change_here"], ps := ["_law_n"], st := top 16, mf := Fn.forms }
def e14 : Ent := { x := "_law_same", f := 22, N := ["_law_found", "_law_due", "_law_k"], ps := ["_law_found", "_law_due"], st := top 17, mf := Fn.law_tuple }
def e15 : Ent := { x := "law", f := 163, N := ["_law_script", "_law_n", "_law_row_here", "_law_k", "_law_form_here", "_law_found"], ps := ["_law_script"], st := top 18, mf := Fn.law_k37 }
def tab : List Ent := [e0, e1, e2, e3, e4, e5, e6, e7, e8, e9, e10, e11, e12, e13, e14, e15]
def fl : List Str := []
def er : List Str := []
def cs : List (Str × Str × Nat) := []
def Gc : List (Str × ML.D) := []
def Gd : List (Str × List (Str × ML.D)) := []
def FF : List (Str × Nat) := tabFx tab fl er cs
def GG : List (Str × ML.D) := Gc ++ Gd.map fun p => (dotN "#" p.1, encD p.2)
theorem chk0 : e0.chk FF GG = true := by decide +kernel
theorem chk1 : e1.chk FF GG = true := by decide +kernel
theorem chk2 : e2.chk FF GG = true := by decide +kernel
theorem chk3 : e3.chk FF GG = true := by decide +kernel
theorem chk4 : e4.chk FF GG = true := by decide +kernel
theorem chk5 : e5.chk FF GG = true := by decide +kernel
theorem chk6 : e6.chk FF GG = true := by decide +kernel
theorem chk7 : e7.chk FF GG = true := by decide +kernel
theorem chk8 : e8.chk FF GG = true := by decide +kernel
theorem chk9 : e9.chk FF GG = true := by decide +kernel
theorem chk10 : e10.chk FF GG = true := by decide +kernel
theorem chk11 : e11.chk FF GG = true := by decide +kernel
theorem chk12 : e12.chk FF GG = true := by decide +kernel
theorem chk13 : e13.chk FF GG = true := by decide +kernel
theorem chk14 : e14.chk FF GG = true := by decide +kernel
theorem chk15 : e15.chk FF GG = true := by decide +kernel
theorem chk : tab.all (fun e => e.chk (tabFx tab fl er cs) (Gc ++ Gd.map fun p => (dotN "#" p.1, encD p.2))) = true := by
  show tab.all (fun e => e.chk FF GG) = true
  unfold tab
  simp only [List.all_cons, List.all_nil, Bool.and_true]
  exact Bool.and_eq_true_iff.mpr ⟨chk0, Bool.and_eq_true_iff.mpr ⟨chk1, Bool.and_eq_true_iff.mpr ⟨chk2, Bool.and_eq_true_iff.mpr ⟨chk3, Bool.and_eq_true_iff.mpr ⟨chk4, Bool.and_eq_true_iff.mpr ⟨chk5, Bool.and_eq_true_iff.mpr ⟨chk6, Bool.and_eq_true_iff.mpr ⟨chk7, Bool.and_eq_true_iff.mpr ⟨chk8, Bool.and_eq_true_iff.mpr ⟨chk9, Bool.and_eq_true_iff.mpr ⟨chk10, Bool.and_eq_true_iff.mpr ⟨chk11, Bool.and_eq_true_iff.mpr ⟨chk12, Bool.and_eq_true_iff.mpr ⟨chk13, Bool.and_eq_true_iff.mpr ⟨chk14, chk15⟩⟩⟩⟩⟩⟩⟩⟩⟩⟩⟩⟩⟩⟩⟩
theorem ptab : ∀ e ∈ tab, Pt e.f = some e.mf := by
  unfold tab
  simp only [List.forall_mem_cons]
  exact ⟨rfl, rfl, rfl, rfl, rfl, rfl, rfl, rfl, rfl, rfl, rfl, rfl, rfl, rfl, rfl, rfl, fun _ h => nomatch h⟩
theorem all_mk {l : PySem.W.OpenLaw} {w : World} {K : PySem.W.Frag} {h : Heap} {mg : Str → Option Value} {fa : Addr} (X : K.In h) (G : h.Ns mainGlobals mg) (hfa : mg "law" = some (.ref fa))
    {f0 : Addr} {od0 an0 : Option Addr} {sl0 : Array (Option Value)} {oc0 kV0 dc0 pm0 cd0 ct0 : Value}
    {f1 : Addr} {od1 an1 : Option Addr} {sl1 : Array (Option Value)} {oc1 kV1 dc1 pm1 cd1 ct1 : Value}
    {f2 : Addr} {od2 an2 : Option Addr} {sl2 : Array (Option Value)} {oc2 kV2 dc2 pm2 cd2 ct2 : Value}
    {f3 : Addr} {od3 an3 : Option Addr} {sl3 : Array (Option Value)} {oc3 kV3 dc3 pm3 cd3 ct3 : Value}
    {f4 : Addr} {od4 an4 : Option Addr} {sl4 : Array (Option Value)} {oc4 kV4 dc4 pm4 cd4 ct4 : Value}
    {f5 : Addr} {od5 an5 : Option Addr} {sl5 : Array (Option Value)} {oc5 kV5 dc5 pm5 cd5 ct5 : Value}
    {f6 : Addr} {od6 an6 : Option Addr} {sl6 : Array (Option Value)} {oc6 kV6 dc6 pm6 cd6 ct6 : Value}
    {f7 : Addr} {od7 an7 : Option Addr} {sl7 : Array (Option Value)} {oc7 kV7 dc7 pm7 cd7 ct7 : Value}
    {f8 : Addr} {od8 an8 : Option Addr} {sl8 : Array (Option Value)} {oc8 kV8 dc8 pm8 cd8 ct8 : Value}
    {f9 : Addr} {od9 an9 : Option Addr} {sl9 : Array (Option Value)} {oc9 kV9 dc9 pm9 cd9 ct9 : Value}
    {f10 : Addr} {od10 an10 : Option Addr} {sl10 : Array (Option Value)} {oc10 kV10 dc10 pm10 cd10 ct10 : Value}
    {f11 : Addr} {od11 an11 : Option Addr} {sl11 : Array (Option Value)} {oc11 kV11 dc11 pm11 cd11 ct11 : Value}
    {f12 : Addr} {od12 an12 : Option Addr} {sl12 : Array (Option Value)} {oc12 kV12 dc12 pm12 cd12 ct12 : Value}
    {f13 : Addr} {od13 an13 : Option Addr} {sl13 : Array (Option Value)} {oc13 kV13 dc13 pm13 cd13 ct13 : Value}
    {f14 : Addr} {od14 an14 : Option Addr} {sl14 : Array (Option Value)} {oc14 kV14 dc14 pm14 cd14 ct14 : Value}
    {f15 : Addr} {od15 an15 : Option Addr} {sl15 : Array (Option Value)} {oc15 kV15 dc15 pm15 cd15 ct15 : Value}
    (a0 : PySem.W.nsIn K mainGlobals "done" = some (some (.ref f0)))
    (l0 : K.lookup f0 = some ⟨oc0, od0, .func (PySem.W.fnOf "done" "done" (defArgs (top 1)) (defBody (top 1)) (defScope (top 1)) .none kV0 dc0 pm0 an0 cd0 ct0), sl0⟩)
    (c0 : PySem.W.codeIn K cd0 "done" = true)
    (k0 : PySem.W.keepIn K (.ref f0) = true)
    (a1 : PySem.W.nsIn K mainGlobals "changes" = some (some (.ref f1)))
    (l1 : K.lookup f1 = some ⟨oc1, od1, .func (PySem.W.fnOf "changes" "changes" (defArgs (top 2)) (defBody (top 2)) (defScope (top 2)) .none kV1 dc1 pm1 an1 cd1 ct1), sl1⟩)
    (c1 : PySem.W.codeIn K cd1 "changes" = true)
    (k1 : PySem.W.keepIn K (.ref f1) = true)
    (a2 : PySem.W.nsIn K mainGlobals "formed" = some (some (.ref f2)))
    (l2 : K.lookup f2 = some ⟨oc2, od2, .func (PySem.W.fnOf "formed" "formed" (defArgs (top 4)) (defBody (top 4)) (defScope (top 4)) .none kV2 dc2 pm2 an2 cd2 ct2), sl2⟩)
    (c2 : PySem.W.codeIn K cd2 "formed" = true)
    (k2 : PySem.W.keepIn K (.ref f2) = true)
    (a3 : PySem.W.nsIn K mainGlobals "forms" = some (some (.ref f3)))
    (l3 : K.lookup f3 = some ⟨oc3, od3, .func (PySem.W.fnOf "forms" "forms" (defArgs (top 5)) (defBody (top 5)) (defScope (top 5)) .none kV3 dc3 pm3 an3 cd3 ct3), sl3⟩)
    (c3 : PySem.W.codeIn K cd3 "forms" = true)
    (k3 : PySem.W.keepIn K (.ref f3) = true)
    (a4 : PySem.W.nsIn K mainGlobals "_law_cell_at" = some (some (.ref f4)))
    (l4 : K.lookup f4 = some ⟨oc4, od4, .func (PySem.W.fnOf "_law_cell_at" "_law_cell_at" (defArgs (top 7)) (defBody (top 7)) (defScope (top 7)) .none kV4 dc4 pm4 an4 cd4 ct4), sl4⟩)
    (c4 : PySem.W.codeIn K cd4 "_law_cell_at" = true)
    (k4 : PySem.W.keepIn K (.ref f4) = true)
    (a5 : PySem.W.nsIn K mainGlobals "_law_mixed" = some (some (.ref f5)))
    (l5 : K.lookup f5 = some ⟨oc5, od5, .func (PySem.W.fnOf "_law_mixed" "_law_mixed" (defArgs (top 8)) (defBody (top 8)) (defScope (top 8)) .none kV5 dc5 pm5 an5 cd5 ct5), sl5⟩)
    (c5 : PySem.W.codeIn K cd5 "_law_mixed" = true)
    (k5 : PySem.W.keepIn K (.ref f5) = true)
    (a6 : PySem.W.nsIn K mainGlobals "_law_wheel" = some (some (.ref f6)))
    (l6 : K.lookup f6 = some ⟨oc6, od6, .func (PySem.W.fnOf "_law_wheel" "_law_wheel" (defArgs (top 9)) (defBody (top 9)) (defScope (top 9)) .none kV6 dc6 pm6 an6 cd6 ct6), sl6⟩)
    (c6 : PySem.W.codeIn K cd6 "_law_wheel" = true)
    (k6 : PySem.W.keepIn K (.ref f6) = true)
    (a7 : PySem.W.nsIn K mainGlobals "_law_row" = some (some (.ref f7)))
    (l7 : K.lookup f7 = some ⟨oc7, od7, .func (PySem.W.fnOf "_law_row" "_law_row" (defArgs (top 10)) (defBody (top 10)) (defScope (top 10)) .none kV7 dc7 pm7 an7 cd7 ct7), sl7⟩)
    (c7 : PySem.W.codeIn K cd7 "_law_row" = true)
    (k7 : PySem.W.keepIn K (.ref f7) = true)
    (a8 : PySem.W.nsIn K mainGlobals "_law_change" = some (some (.ref f8)))
    (l8 : K.lookup f8 = some ⟨oc8, od8, .func (PySem.W.fnOf "_law_change" "_law_change" (defArgs (top 11)) (defBody (top 11)) (defScope (top 11)) .none kV8 dc8 pm8 an8 cd8 ct8), sl8⟩)
    (c8 : PySem.W.codeIn K cd8 "_law_change" = true)
    (k8 : PySem.W.keepIn K (.ref f8) = true)
    (a9 : PySem.W.nsIn K mainGlobals "_law_done" = some (some (.ref f9)))
    (l9 : K.lookup f9 = some ⟨oc9, od9, .func (PySem.W.fnOf "_law_done" "_law_done" (defArgs (top 12)) (defBody (top 12)) (defScope (top 12)) .none kV9 dc9 pm9 an9 cd9 ct9), sl9⟩)
    (c9 : PySem.W.codeIn K cd9 "_law_done" = true)
    (k9 : PySem.W.keepIn K (.ref f9) = true)
    (a10 : PySem.W.nsIn K mainGlobals "_law_changes" = some (some (.ref f10)))
    (l10 : K.lookup f10 = some ⟨oc10, od10, .func (PySem.W.fnOf "_law_changes" "_law_changes" (defArgs (top 13)) (defBody (top 13)) (defScope (top 13)) .none kV10 dc10 pm10 an10 cd10 ct10), sl10⟩)
    (c10 : PySem.W.codeIn K cd10 "_law_changes" = true)
    (k10 : PySem.W.keepIn K (.ref f10) = true)
    (a11 : PySem.W.nsIn K mainGlobals "_law_form" = some (some (.ref f11)))
    (l11 : K.lookup f11 = some ⟨oc11, od11, .func (PySem.W.fnOf "_law_form" "_law_form" (defArgs (top 14)) (defBody (top 14)) (defScope (top 14)) .none kV11 dc11 pm11 an11 cd11 ct11), sl11⟩)
    (c11 : PySem.W.codeIn K cd11 "_law_form" = true)
    (k11 : PySem.W.keepIn K (.ref f11) = true)
    (a12 : PySem.W.nsIn K mainGlobals "_law_formed" = some (some (.ref f12)))
    (l12 : K.lookup f12 = some ⟨oc12, od12, .func (PySem.W.fnOf "_law_formed" "_law_formed" (defArgs (top 15)) (defBody (top 15)) (defScope (top 15)) .none kV12 dc12 pm12 an12 cd12 ct12), sl12⟩)
    (c12 : PySem.W.codeIn K cd12 "_law_formed" = true)
    (k12 : PySem.W.keepIn K (.ref f12) = true)
    (a13 : PySem.W.nsIn K mainGlobals "_law_forms" = some (some (.ref f13)))
    (l13 : K.lookup f13 = some ⟨oc13, od13, .func (PySem.W.fnOf "_law_forms" "_law_forms" (defArgs (top 16)) (defBody (top 16)) (defScope (top 16)) .none kV13 dc13 pm13 an13 cd13 ct13), sl13⟩)
    (c13 : PySem.W.codeIn K cd13 "_law_forms" = true)
    (k13 : PySem.W.keepIn K (.ref f13) = true)
    (a14 : PySem.W.nsIn K mainGlobals "_law_same" = some (some (.ref f14)))
    (l14 : K.lookup f14 = some ⟨oc14, od14, .func (PySem.W.fnOf "_law_same" "_law_same" (defArgs (top 17)) (defBody (top 17)) (defScope (top 17)) .none kV14 dc14 pm14 an14 cd14 ct14), sl14⟩)
    (c14 : PySem.W.codeIn K cd14 "_law_same" = true)
    (k14 : PySem.W.keepIn K (.ref f14) = true)
    (a15 : PySem.W.nsIn K mainGlobals "law" = some (some (.ref f15)))
    (l15 : K.lookup f15 = some ⟨oc15, od15, .func (PySem.W.fnOf "law" "law" (defArgs (top 18)) (defBody (top 18)) (defScope (top 18)) .none kV15 dc15 pm15 an15 cd15 ct15), sl15⟩)
    (c15 : PySem.W.codeIn K cd15 "law" = true)
    (k15 : PySem.W.keepIn K (.ref f15) = true)
    (z0 : PySem.W.nsIn K mainGlobals "len" = some none)
    (z1 : PySem.W.nsIn K mainGlobals "abs" = some none)
    (z2 : PySem.W.nsIn K mainGlobals "max" = some none)
    (z3 : PySem.W.nsIn K mainGlobals "min" = some none)
    (z4 : PySem.W.nsIn K mainGlobals "int" = some none)
    (z5 : PySem.W.nsIn K mainGlobals "bool" = some none)
    (z6 : PySem.W.nsIn K mainGlobals "str" = some none)
    (z7 : PySem.W.nsIn K mainGlobals "list" = some none)
    (z8 : PySem.W.nsIn K mainGlobals "tuple" = some none)
    (z9 : PySem.W.nsIn K mainGlobals "sum" = some none)
    (z10 : PySem.W.nsIn K mainGlobals "all" = some none)
    (z11 : PySem.W.nsIn K mainGlobals "any" = some none)
    (z12 : PySem.W.nsIn K mainGlobals "sorted" = some none)
    (z13 : PySem.W.nsIn K mainGlobals "isinstance" = some none)
    (z14 : PySem.W.nsIn K mainGlobals "range" = some none)
    (z15 : PySem.W.nsIn K mainGlobals "reversed" = some none)
    (z16 : PySem.W.nsIn K mainGlobals "enumerate" = some none)
    (z17 : PySem.W.nsIn K mainGlobals "zip" = some none)
    (z18 : PySem.W.nsIn K mainGlobals "set" = some none)
    (z19 : PySem.W.nsIn K mainGlobals "ValueError" = some none)
    : ∃ fd : FuncData, (∀ (s : Shared) (v : Value), BindsTo s fd ⟨[v], []⟩ [("_law_script", v)]) ∧ ∀ base : Heap, K.In base → base.Ns mainGlobals mg → FnOk l.prog w K mg base (L2.CX l.prog w) 15 fa fd ["_law_script"] (spScript K) := by
  letI : ML.Wd := ⟨l.prog, w, mg, fun c => List.lookup c []⟩
  have ok : ∀ e ∈ tab, EntOk K mg e := by
    unfold tab
    simp only [List.forall_mem_cons]
    refine ⟨?_, ?_, ?_, ?_, ?_, ?_, ?_, ?_, ?_, ?_, ?_, ?_, ?_, ?_, ?_, ?_, fun _ h => nomatch h⟩
    · exact ent_ok X G e0 a0 l0 c0 k0 (fun _ _ _ _ _ _ us hl => match us, hl with | [_, _, _], _ => rfl)
    · exact ent_ok X G e1 a1 l1 c1 k1 (fun _ _ _ _ _ _ us hl => match us, hl with | [_], _ => rfl)
    · exact ent_ok X G e2 a2 l2 c2 k2 (fun _ _ _ _ _ _ us hl => match us, hl with | [_, _, _], _ => rfl)
    · exact ent_ok X G e3 a3 l3 c3 k3 (fun _ _ _ _ _ _ us hl => match us, hl with | [_], _ => rfl)
    · exact ent_ok X G e4 a4 l4 c4 k4 (fun _ _ _ _ _ _ us hl => match us, hl with | [_, _], _ => rfl)
    · exact ent_ok X G e5 a5 l5 c5 k5 (fun _ _ _ _ _ _ us hl => match us, hl with | [_, _, _], _ => rfl)
    · exact ent_ok X G e6 a6 l6 c6 k6 (fun _ _ _ _ _ _ us hl => match us, hl with | [_, _], _ => rfl)
    · exact ent_ok X G e7 a7 l7 c7 k7 (fun _ _ _ _ _ _ us hl => match us, hl with | [_, _, _, _], _ => rfl)
    · exact ent_ok X G e8 a8 l8 c8 k8 (fun _ _ _ _ _ _ us hl => match us, hl with | [_, _, _, _], _ => rfl)
    · exact ent_ok X G e9 a9 l9 c9 k9 (fun _ _ _ _ _ _ us hl => match us, hl with | [_, _, _], _ => rfl)
    · exact ent_ok X G e10 a10 l10 c10 k10 (fun _ _ _ _ _ _ us hl => match us, hl with | [_], _ => rfl)
    · exact ent_ok X G e11 a11 l11 c11 k11 (fun _ _ _ _ _ _ us hl => match us, hl with | [_, _, _, _], _ => rfl)
    · exact ent_ok X G e12 a12 l12 c12 k12 (fun _ _ _ _ _ _ us hl => match us, hl with | [_, _, _], _ => rfl)
    · exact ent_ok X G e13 a13 l13 c13 k13 (fun _ _ _ _ _ _ us hl => match us, hl with | [_], _ => rfl)
    · exact ent_ok X G e14 a14 l14 c14 k14 (fun _ _ _ _ _ _ us hl => match us, hl with | [_, _], _ => rfl)
    · exact ent_ok X G e15 a15 l15 c15 k15 (fun _ _ _ _ _ _ us hl => match us, hl with | [_], _ => rfl)
  have cl : ∀ c C, Wd.cls c = some C → mg c = some (.ref C) ∧ Cls K C ∧ ∀ x ∈ fl, NoAttr K C x := by
    intro c C hc
    cases hc
  have T : TopOk l.prog w K mg tab fl er cs Gc Gd Pt :=
    { hc := chk, hp := ptab, ok := ok, hP := rfl, hw := rfl, hM := rfl, cl := fun c C h => ⟨(cl c C h).1, (cl c C h).2.1⟩, na := fun c C h => (cl c C h).2.2
      bl := by
        unfold bltNames
        simp only [List.forall_mem_cons]
        exact ⟨(fun _ => PySem.W.mg_none_of X G z0), (fun _ => PySem.W.mg_none_of X G z1), (fun _ => PySem.W.mg_none_of X G z2), (fun _ => PySem.W.mg_none_of X G z3), (fun _ => PySem.W.mg_none_of X G z4), (fun _ => PySem.W.mg_none_of X G z5), (fun _ => PySem.W.mg_none_of X G z6), (fun _ => PySem.W.mg_none_of X G z7), (fun _ => PySem.W.mg_none_of X G z8), (fun _ => PySem.W.mg_none_of X G z9), (fun _ => PySem.W.mg_none_of X G z10), (fun _ => PySem.W.mg_none_of X G z11), (fun _ => PySem.W.mg_none_of X G z12), (fun _ => PySem.W.mg_none_of X G z13), (fun _ => PySem.W.mg_none_of X G z14), (fun _ => PySem.W.mg_none_of X G z15), (fun _ => PySem.W.mg_none_of X G z16), (fun _ => PySem.W.mg_none_of X G z17), (fun _ => PySem.W.mg_none_of X G z18), (fun _ => PySem.W.mg_none_of X G z19), fun _ h => nomatch h⟩
      er := by
        unfold er
        try simp only [List.forall_mem_cons]
        exact fun _ h => nomatch h
      xc := by
        unfold er
        try simp only [List.forall_mem_cons]
        exact fun _ h => nomatch h
      cc := by
        unfold cs
        try simp only [List.forall_mem_cons]
        exact fun _ h => nomatch h
      gd := by
        unfold Gd
        try simp only [List.forall_mem_cons]
        exact fun _ h => nomatch h
      gp := by
        intro x d hx
        cases hx
      gl := by
        intro x d hx
        cases hx }
  refine law_fn X G hfa (x := "law") (f := 163) (p := "_law_script") (by decide +kernel) (by decide +kernel) (by decide) ?_ T ML.k37_main
  unfold tab
  simp only [List.forall_mem_cons]
  exact ⟨(fun h => absurd h (by decide +kernel)), (fun h => absurd h (by decide +kernel)), (fun h => absurd h (by decide +kernel)), (fun h => absurd h (by decide +kernel)), (fun h => absurd h (by decide +kernel)), (fun h => absurd h (by decide +kernel)), (fun h => absurd h (by decide +kernel)), (fun h => absurd h (by decide +kernel)), (fun h => absurd h (by decide +kernel)), (fun h => absurd h (by decide +kernel)), (fun h => absurd h (by decide +kernel)), (fun h => absurd h (by decide +kernel)), (fun h => absurd h (by decide +kernel)), (fun h => absurd h (by decide +kernel)), (fun h => absurd h (by decide +kernel)), (fun _ => rfl), fun _ h => nomatch h⟩
end ML.k37
open PySem PySem.W PyProof.Rows in
set_option maxRecDepth 100000 in
set_option maxHeartbeats 0 in
theorem PySem.Challenge.cw_tonemirror_k37_formed_holds : PySem.Challenge.rw_tonemirror_k37_formed.Holds := by
  w_on; o_law; k_head; (case hw => w_witness2)
  k_fill
  refine ML.walk (l := PySem.Challenge.rw_tonemirror_k37_formed) (k := 15) (p := "_law_script") rfl rfl ⟨rfl, by decide, by decide⟩ (fun w h Y => PySem.W.kIn_of Y) ?F
  case F =>
    intro w mg fa h KX G hmg
    refine' ML.k37.all_mk KX G hmg ?a0 ?l0 ?c0 ?k0 ?a1 ?l1 ?c1 ?k1 ?a2 ?l2 ?c2 ?k2 ?a3 ?l3 ?c3 ?k3 ?a4 ?l4 ?c4 ?k4 ?a5 ?l5 ?c5 ?k5 ?a6 ?l6 ?c6 ?k6 ?a7 ?l7 ?c7 ?k7 ?a8 ?l8 ?c8 ?k8 ?a9 ?l9 ?c9 ?k9 ?a10 ?l10 ?c10 ?k10 ?a11 ?l11 ?c11 ?k11 ?a12 ?l12 ?c12 ?k12 ?a13 ?l13 ?c13 ?k13 ?a14 ?l14 ?c14 ?k14 ?a15 ?l15 ?c15 ?k15 ?z0 ?z1 ?z2 ?z3 ?z4 ?z5 ?z6 ?z7 ?z8 ?z9 ?z10 ?z11 ?z12 ?z13 ?z14 ?z15 ?z16 ?z17 ?z18 ?z19
    (case a0 => k_is)
    (case l0 => k_is)
    (case c0 => k_is)
    (case k0 => k_is)
    (case a1 => k_is)
    (case l1 => k_is)
    (case c1 => k_is)
    (case k1 => k_is)
    (case a2 => k_is)
    (case l2 => k_is)
    (case c2 => k_is)
    (case k2 => k_is)
    (case a3 => k_is)
    (case l3 => k_is)
    (case c3 => k_is)
    (case k3 => k_is)
    (case a4 => k_is)
    (case l4 => k_is)
    (case c4 => k_is)
    (case k4 => k_is)
    (case a5 => k_is)
    (case l5 => k_is)
    (case c5 => k_is)
    (case k5 => k_is)
    (case a6 => k_is)
    (case l6 => k_is)
    (case c6 => k_is)
    (case k6 => k_is)
    (case a7 => k_is)
    (case l7 => k_is)
    (case c7 => k_is)
    (case k7 => k_is)
    (case a8 => k_is)
    (case l8 => k_is)
    (case c8 => k_is)
    (case k8 => k_is)
    (case a9 => k_is)
    (case l9 => k_is)
    (case c9 => k_is)
    (case k9 => k_is)
    (case a10 => k_is)
    (case l10 => k_is)
    (case c10 => k_is)
    (case k10 => k_is)
    (case a11 => k_is)
    (case l11 => k_is)
    (case c11 => k_is)
    (case k11 => k_is)
    (case a12 => k_is)
    (case l12 => k_is)
    (case c12 => k_is)
    (case k12 => k_is)
    (case a13 => k_is)
    (case l13 => k_is)
    (case c13 => k_is)
    (case k13 => k_is)
    (case a14 => k_is)
    (case l14 => k_is)
    (case c14 => k_is)
    (case k14 => k_is)
    (case a15 => k_is)
    (case l15 => k_is)
    (case c15 => k_is)
    (case k15 => k_is)
    (case z0 => k_is)
    (case z1 => k_is)
    (case z2 => k_is)
    (case z3 => k_is)
    (case z4 => k_is)
    (case z5 => k_is)
    (case z6 => k_is)
    (case z7 => k_is)
    (case z8 => k_is)
    (case z9 => k_is)
    (case z10 => k_is)
    (case z11 => k_is)
    (case z12 => k_is)
    (case z13 => k_is)
    (case z14 => k_is)
    (case z15 => k_is)
    (case z16 => k_is)
    (case z17 => k_is)
    (case z18 => k_is)
    (case z19 => k_is)
#print axioms PySem.Challenge.cw_tonemirror_k37_formed_holds
